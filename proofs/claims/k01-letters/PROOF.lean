import PyProof.Rows.All
import Wide.All
import OpenK.AllK
import Wide.FinOn
import HandS.ForMost
import HandS.Deep
import HandS.TupSets
import KE.DataCmp
import HandS.Wide
import HandS.WideBits
import HandS.TupMul
import HandS.TupAny
import HandS.Style
import HandS.IsInst
import KE.KIndexOf
import HandS.Comp
import HandS.Flow
import KE.KStateDown
import HandS.Head0
import HandS.Head1
import HandS.Head2
import HandS.HeadEnd
import HandS.HeadHook1
import HandS.HeadHook2
import PySem.Challenge.RW_everynumber_k01_letters_words_and_rows
set_option Elab.async false
set_option linter.all false
set_option maxRecDepth 100000
set_option maxHeartbeats 0
/-! PF1: the small language and its evaluator over plain data. -/
namespace PF
open PySem

inductive D where
  | non | bl (b : Bool) | int (i : Int) | str (s : Str)
  | tup (xs : List D) | lst (xs : List D) | set (xs : List D) | dct (ks : List D) (vs : List D) | fn (f : Str)
deriving Inhabited

/-- what a name holds: nothing, data (never written again), or an object that this name alone owns -/
inductive Slot where
  | un | val (d : D) | own (d : D)
deriving Inhabited
/-- what an expression gives: data, a new object, or the object that a name owns -/
inductive Opd where
  | dat (d : D) | own (d : D) | slot (i : Nat)
deriving Inhabited
abbrev Env := List Slot
abbrev Cl := Str → List Slot → Option (Opd × List Slot)

inductive Op2 where
  | add | sub | mul | fdiv | mod | pow | shl | shr | band | bor | bxor
deriving DecidableEq
inductive Cm where
  | eq | ne | lt | le | gt | ge | isin | notin | is | isnot
deriving DecidableEq
inductive Blt where
  | len | sum | max | min | abs | int | tuple | list | set | sorted | any | all
deriving DecidableEq
inductive Ty where
  | bool | int | str | tuple | list
deriving DecidableEq
inductive Mt where
  | append | pop | reverse | extend | add | insert | index | count | get
deriving DecidableEq
inductive Tg where
  | nm (i : Nat) | tp (is : List Nat)
deriving DecidableEq

inductive E where
  | var (i : Nat)
  | int (i : Int) | bl (b : Bool) | non | str (s : Str)
  | tup (es : List E) | lst (es : List E)
  | bin (op : Op2) (a b : E) | neg (a : E) | not (a : E)
  | cmp (op : Cm) (a b : E) | chain (op op2 : Cm) (a b c : E)
  | and (es : List E) | or (es : List E)
  | ite (c a b : E)
  | idx (a i : E) | slc (a lo hi : E) | rev (a : E)
  | call (f : Str) (es : List E)
  | blt (b : Blt) (es : List E)
  | isi (a : E) (t : Ty)
  | mut (m : Mt) (i : Nat) (es : List E)
  | mth (m : Mt) (a : E) (es : List E)
  | rng (es : List E)
  | lc (own : List Nat) (tg : Tg) (src : E) (cond : List E) (elt : E)
  | lc2 (own : List Nat) (tg : Tg) (src : E) (cond : List E) (vs1 : List Nat) (tg1 : Tg) (src1 : E) (cond1 : List E) (elt : E)
  | sset (a : E)
deriving Inhabited

inductive S where
  | set (i : Nat) (e : E)
  | unp (is : List Nat) (e : E)
  | par (i j : Nat) (a b : E)
  | sub (i : Nat) (ix e : E)
  | aug (op : Op2) (i : Nat) (e : E)
  | expr (e : E)
  | ret (e : E)
  | ite (c : E) (a b : List S)
  | whl (c : E) (b : List S)
  | for (tg : Tg) (src : E) (b : List S)
  | brk | pass | stop
deriving Inhabited

/-! ### data -/
def D.isNon : D → Bool
  | .non => true
  | _ => false
mutual
def D.py : D → PyData
  | .non => .none | .bl b => .bool b | .int i => .int i | .str s => .str s
  | .tup xs => .tuple (D.pys xs) | .lst xs => .list (D.pys xs)
  | .set _ => .dict [] | .dct _ _ => .dict [] | .fn _ => .dict []
def D.pys : List D → List PyData
  | [] => [] | x :: xs => x.py :: D.pys xs
end
/-- == of data -/
def deq (a b : D) : Bool := PyData.eqv a.py b.py
def shp (a : D) : Bool := SeqAt.shaped a.py

def look (env : Env) (i : Nat) : Slot := (env[i]?).getD .un
/-- an operand as it is read -/
def view (env : Env) : Opd → Option D
  | .dat d => some d
  | .own d => some d
  | .slot i => match look env i with | .own d => some d | _ => none
def views (env : Env) : List Opd → Option (List D)
  | [] => some []
  | o :: os => match view env o, views env os with | some d, some ds => some (d :: ds) | _, _ => none
/-- an operand as data: a list is kept as it is from here on -/
def toD (env : Env) : Opd → Option (D × Env)
  | .dat d => some (d, env)
  | .own (.lst xs) => some (.lst xs, env)
  | .own _ => none
  | .slot i => match look env i with | .own (.lst xs) => some (.lst xs, env.set i (.val (.lst xs))) | _ => none

def intsD : List D → Option (List Int)
  | [] => some []
  | .int i :: r => (intsD r).map (i :: ·)
  | _ :: _ => none
def blsD : List D → Option (List Bool)
  | [] => some []
  | .bl b :: r => (blsD r).map (b :: ·)
  | _ :: _ => none

def b2i (b : Bool) : Int := if b then 1 else 0
def small64 (i : Int) : Bool := decide (-(2 ^ 64) < i) && decide (i < 2 ^ 64)
def line : Nat := 16777216

/-- two-place operations -/
def op2 : Op2 → D → D → Option Opd
  | .add, .int i, .int j => some (.dat (.int (i + j)))
  | .add, .int i, .bl b => some (.dat (.int (i + b2i b)))
  | .add, .str x, .str y => if x.length + y.length ≤ line then some (.dat (.str (x ++ y))) else none
  | .add, .tup xs, .tup ys => if xs.length + ys.length ≤ line then some (.dat (.tup (xs ++ ys))) else none
  | .add, .lst xs, .lst ys => if xs.length + ys.length ≤ line then some (.own (.lst (xs ++ ys))) else none
  | .sub, .int i, .int j => some (.dat (.int (i - j)))
  | .mul, .int i, .int j => if small64 i || small64 j || decide (i.natAbs.log2 + j.natAbs.log2 < 1000000) then some (.dat (.int (i * j))) else none
  | .mul, .tup xs, .int k => if xs.length * k.toNat ≤ line ∧ -(2 ^ 63) ≤ k ∧ k < 2 ^ 63 then some (.dat (.tup (List.replicate k.toNat xs).flatten)) else none
  | .mul, .lst xs, .int k => if xs.length * k.toNat ≤ line ∧ -(2 ^ 63) ≤ k ∧ k < 2 ^ 63 then some (.own (.lst (List.replicate k.toNat xs).flatten)) else none
  | .fdiv, .int i, .int j => if 0 < j ∧ (j < 1073741824 ∨ j.natAbs.log2 < 9000) then some (.dat (.int (i / j))) else none
  | .mod, .int i, .int j => if 0 < j then some (.dat (.int (i % j))) else none
  | .pow, .int i, .int j => if 0 ≤ j ∧ j ≤ 1000000 ∧ i.natAbs < 2 ^ 64 then some (.dat (.int (i ^ j.toNat))) else none
  | .shl, .int i, .int j => if 0 ≤ j ∧ (Builtin.Int.intBits i : Int) + j ≤ 2 ^ 27 then some (.dat (.int (i * 2 ^ j.toNat))) else none
  | .shr, .int i, .int j => if 0 ≤ j then some (.dat (.int (i / 2 ^ j.toNat))) else none
  | .band, .int i, .int j => some (.dat (.int (Builtin.bitAnd i j)))
  | .bor, .int i, .int j => some (.dat (.int (Builtin.bitOr i j)))
  | .bxor, .int i, .int j => some (.dat (.int (Builtin.bitXor i j)))
  | _, _, _ => none

/-- order of tuples of numbers (lexicographic) -/
abbrev lexI : List Int → List Int → Bool := HT.lexLt

/-- data of one kind, place by place; their order -/
def alk (a b : D) : Bool := PySem.W.alike a.py b.py && shp a
def ltD (a b : D) : Bool := PySem.W.dataLt a.py b.py
def memD (x : D) (ys : List D) : Bool := ys.any fun y => deq y x
def cm : Cm → D → D → Option Bool
  | .eq, a, b => if shp a && shp b then some (deq a b) else none
  | .ne, a, b => if shp a && shp b then some (!deq a b) else none
  | .lt, .int i, .int j => some (decide (i < j))
  | .le, .int i, .int j => some (decide (i ≤ j))
  | .gt, .int i, .int j => some (decide (j < i))
  | .ge, .int i, .int j => some (decide (j ≤ i))
  | .lt, .tup xs, .tup ys => match intsD xs, intsD ys with | some a, some b => some (lexI a b) | _, _ => if alk (.tup xs) (.tup ys) then some (ltD (.tup xs) (.tup ys)) else none
  | .gt, .tup xs, .tup ys => if alk (.tup xs) (.tup ys) then some (ltD (.tup ys) (.tup xs)) else none
  | .le, .tup xs, .tup ys => if alk (.tup xs) (.tup ys) then some (!ltD (.tup ys) (.tup xs)) else none
  | .ge, .tup xs, .tup ys => if alk (.tup xs) (.tup ys) then some (!ltD (.tup xs) (.tup ys)) else none
  | .isin, x, .tup ys => if shp x && shp (.tup ys) then some (memD x ys) else none
  | .isin, x, .lst ys => if shp x && shp (.lst ys) then some (memD x ys) else none
  | .notin, x, .tup ys => if shp x && shp (.tup ys) then some (!memD x ys) else none
  | .notin, x, .lst ys => if shp x && shp (.lst ys) then some (!memD x ys) else none
  | .is, x, .non => some x.isNon
  | .isnot, x, .non => some (!x.isNon)
  | _, _, _ => none

def truth : D → Option Bool
  | .bl b => some b
  | .non => some false
  | .int i => some (i != 0)
  | .tup xs => some (!xs.isEmpty)
  | .lst xs => some (!xs.isEmpty)
  | _ => none

/-- Python's index: from behind where it is less than 0 -/
abbrev ixn : Nat → Int → Option Nat := L2.ixN
abbrev atD (xs : List D) (i : Int) : Option D := L2.atI xs i
def idxD : D → D → Option D
  | .tup xs, .int i => atD xs i
  | .lst xs, .int i => atD xs i
  | _, _ => none
/-- a place of a slice -/
abbrev sIx : Nat → Nat → Option Int → Nat := HT.sIx
def cut (xs : List D) (lo hi : Option Int) : List D := (xs.drop (sIx xs.length 0 lo)).take (sIx xs.length xs.length hi - sIx xs.length 0 lo)
def part : E → D → Option (Option Int)
  | .non, _ => some none
  | _, .int i => some (some i)
  | _, _ => none
def slcD : D → Option Int → Option Int → Option Opd
  | .tup xs, lo, hi => some (.dat (.tup (cut xs lo hi)))
  | .lst xs, lo, hi => some (.own (.lst (cut xs lo hi)))
  | _, _, _ => none
def revD : D → Option Opd
  | .tup xs => some (.dat (.tup xs.reverse))
  | .lst xs => some (.own (.lst xs.reverse))
  | _ => none

def maxI : Int → List Int → Int
  | m, [] => m
  | m, x :: xs => maxI (if x > m then x else m) xs
def minI : Int → List Int → Int
  | m, [] => m
  | m, x :: xs => minI (if x < m then x else m) xs
def insI (x : Int) : List Int → List Int
  | [] => [x]
  | y :: ys => if x ≤ y then x :: y :: ys else y :: insI x ys
def sortI : List Int → List Int
  | [] => []
  | x :: xs => insI x (sortI xs)
def seqOf : D → Option (List D)
  | .tup xs => some xs
  | .lst xs => some xs
  | _ => none
def dedI : List Int → List Int
  | [] => []
  | x :: xs => x :: (dedI xs).filter (· != x)
def setI (xs : List Int) : D := .set ((dedI xs).map .int)

def bltD : Blt → List D → Option Opd
  | .len, [.tup xs] => some (.dat (.int xs.length))
  | .len, [.lst xs] => some (.dat (.int xs.length))
  | .len, [.str s] => if s.length ≤ line then some (.dat (.int s.length)) else none
  | .sum, [.tup xs] => (intsD xs).map fun ns => .dat (.int ns.sum)
  | .sum, [.lst xs] => (intsD xs).map fun ns => .dat (.int ns.sum)
  | .max, [.lst xs] => match intsD xs with | some (n :: ns) => some (.dat (.int (maxI n ns))) | _ => none
  | .min, [.lst xs] => match intsD xs with | some (n :: ns) => some (.dat (.int (minI n ns))) | _ => none
  | .min, [.tup xs] => match intsD xs with | some (n :: ns) => some (.dat (.int (minI n ns))) | _ => none
  | .max, [.int i, .int j] => some (.dat (.int (if j > i then j else i)))
  | .min, [.int i, .int j] => some (.dat (.int (if j < i then j else i)))
  | .abs, [.int i] => some (.dat (.int (if i < 0 then -i else i)))
  | .int, [.int i] => some (.dat (.int i))
  | .int, [.bl b] => some (.dat (.int (b2i b)))
  | .tuple, [.tup xs] => some (.dat (.tup xs))
  | .tuple, [.lst xs] => some (.dat (.tup xs))
  | .list, [.tup xs] => some (.own (.lst xs))
  | .list, [.lst xs] => some (.own (.lst xs))
  | .set, [.tup xs] => (intsD xs).map fun ns => .own (setI ns)
  | .set, [.lst xs] => (intsD xs).map fun ns => .own (setI ns)
  | .sorted, [.tup xs] => (intsD xs).map fun ns => .own (.lst ((sortI ns).map .int))
  | .sorted, [.lst xs] => (intsD xs).map fun ns => .own (.lst ((sortI ns).map .int))
  | .sorted, [.set xs] => (intsD xs).map fun ns => .own (.lst ((sortI ns).map .int))
  | .any, [.lst xs] => (blsD xs).map fun bs => .dat (.bl (bs.any id))
  | .any, [.tup xs] => (blsD xs).map fun bs => .dat (.bl (bs.any id))
  | .all, [.lst xs] => (blsD xs).map fun bs => .dat (.bl (bs.all id))
  | .all, [.tup xs] => (blsD xs).map fun bs => .dat (.bl (bs.all id))
  | _, _ => none

/-- tuples of numbers -/
def rowsD : List D → Option (List (List Int))
  | [] => some []
  | .tup ys :: r => match intsD ys, rowsD r with | some a, some b => some (a :: b) | _, _ => none
  | _ :: _ => none
def insR (B : Int) (x : List Int) : List (List Int) → List (List Int)
  | [] => [x]
  | y :: ys => if x = y then y :: ys else if TS.code B x ≤ TS.code B y then x :: y :: ys else y :: insR B x ys
def sortR (B : Int) : List (List Int) → List (List Int)
  | [] => []
  | x :: xs => insR B x (sortR B xs)
/-- numbers below 64 (sorted sets of rows) -/
def rowsOk (d : Nat) (rs : List (List Int)) : Bool := rs.all fun r => decide (r.length = d) && r.all fun i => decide (0 ≤ i) && decide (i < 64)
/-- sorted(set(x)) -/
def ssetD (x : D) : Option (List D) := match seqOf x with
  | some xs => match rowsD xs with
    | some (r :: rs) => if (decide (1 ≤ r.length) || rs.isEmpty) && rowsOk r.length (r :: rs) && decide (xs.length < 64) then some ((sortR 64 (r :: rs)).map fun z => .tup (z.map .int)) else none
    | _ => none
  | none => none

/-- a datum's type -/
inductive Kd where
  | non | bl | int | str | tup | lst
deriving DecidableEq
def kd : D → Option Kd
  | .non => some .non | .bl _ => some .bl | .int _ => some .int | .str _ => some .str | .tup _ => some .tup | .lst _ => some .lst
  | _ => none
def isK : Ty → Kd → Bool
  | .bool, .bl => true
  | .int, .bl => true
  | .int, .int => true
  | .str, .str => true
  | .tuple, .tup => true
  | .list, .lst => true
  | _, _ => false
def isiD (t : Ty) (d : D) : Option Bool := match kd d with | some k => some (isK t k) | none => none

/-- methods that change the list (or set) that a name owns: the result, and what is left -/
def mutD : Mt → D → List D → Option (D × D)
  | .append, .lst xs, [y] => if xs.length < line then some (.non, .lst (xs ++ [y])) else none
  | .pop, .lst xs, [] => match xs.getLast? with | some y => some (y, .lst xs.dropLast) | none => none
  | .reverse, .lst xs, [] => some (.non, .lst xs.reverse)
  | _, _, _ => none
/-- the first place of a number -/
def indexD (ys : List D) : D → Option D
  | .int k => match intsD ys with
    | some ns => if k ∈ ns then some (.int (ns.idxOf k : Nat)) else none
    | none => none
  | _ => none
def mthD : Mt → D → List D → Option D
  | .index, .tup ys, [x] => indexD ys x
  | _, _, _ => none

/-- the turns of range -/
def rngL (a b s : Int) : List D :=
  if 0 < s then (List.range ((b - a + s - 1) / s).toNat).map fun (k : Nat) => .int (a + s * (k : Int))
  else if s < 0 then (List.range ((a - b - s - 1) / (-s)).toNat).map fun (k : Nat) => .int (a + s * (k : Int))
  else []
def okR (i : Int) : Bool := decide (-(2 ^ 62) ≤ i) && decide (i < 2 ^ 62)
def rngD : List D → Option (List D)
  | [.int b] => if okR b then some (rngL 0 b 1) else none
  | [.int a, .int b] => if okR a && okR b then some (rngL a b 1) else none
  | [.int a, .int b, .int s] => if okR a && okR b && okR s && s != 0 then some (rngL a b s) else none
  | _ => none

def setAll : Env → List Nat → List D → Option Env
  | env, [], [] => some env
  | env, i :: is, d :: ds => setAll (env.set i (.val d)) is ds
  | _, _, _ => none
def bindT (env : Env) : Tg → D → Option Env
  | .nm i, d => some (env.set i (.val d))
  | .tp is, .tup ds => setAll env is ds
  | .tp _, _ => none
def wipeE (env : Env) : List Nat → Env
  | [] => env
  | i :: is => (wipeE env is).set i .un
/-- the slots at some places as they stood -/
def backE (old : Env) (env : Env) : List Nat → Env
  | [] => env
  | i :: is => (backE old env is).set i (look old i)

/-- the names that are lent to a call -/
def lend : List Opd → Env → Option (List Slot × Env)
  | [], env => some ([], env)
  | .dat d :: r, env => match lend r env with | some (ss, env) => some (.val d :: ss, env) | none => none
  | .own d :: r, env => match lend r env with | some (ss, env) => some (.own d :: ss, env) | none => none
  | .slot i :: r, env => match look env i with
    | .own d => match lend r (env.set i .un) with | some (ss, env) => some (.own d :: ss, env) | none => none
    | _ => none
def giveBack : List Opd → List Slot → Env → Env
  | .slot i :: r, s :: ss, env => giveBack r ss (env.set i s)
  | _ :: r, _ :: ss, env => giveBack r ss env
  | _, _, env => env

def lcLoop (f : D → Env → Option (Option D × Env)) : List D → Env → Option (List D × Env)
  | [], env => some ([], env)
  | x :: xs, env => match f x env with
    | none => none
    | some (none, env) => lcLoop f xs env
    | some (some d, env) => match lcLoop f xs env with
      | some (ds, env) => some (d :: ds, env)
      | none => none

def lcLoop2 (f : D → Env → Option (List D × Env)) : List D → Env → Option (List D × Env)
  | [], env => some ([], env)
  | x :: xs, env => match f x env with
    | none => none
    | some (ds, env) => match lcLoop2 f xs env with
      | some (es, env) => some (ds ++ es, env)
      | none => none

/-- what a loop walks: its items, once for all -/
def itemsOf (env : Env) (o : Opd) : Option (List D × Env) :=
  match toD env o with
  | some (.tup xs, env) => some (xs, env)
  | some (.lst xs, env) => some (xs, env)
  | _ => none

/-- as a value, as a test, as what is walked -/
inductive Md where
  | v | t | i
/-- a value in its use -/
def fin : Md → Option (Opd × Env) → Option (Opd × Env)
  | .v, x => x
  | .t, some (o, env) => match view env o with
    | some d => match truth d with | some b => some (.dat (.bl b), env) | none => none
    | none => none
  | .i, some (o, env) => match itemsOf env o with | some (xs, env) => some (.dat (.tup xs), env) | none => none
  | _, none => none
def Md.tv : Md → Md
  | .t => .t
  | _ => .v

section
variable (c : Cl)
mutual
def ev : E → Md → Env → Option (Opd × Env)
  | .var i, md, env => fin md (match look env i with
    | .un => none
    | .val d => some (.dat d, env)
    | .own _ => some (.slot i, env))
  | .int i, md, env => fin md (some (.dat (.int i), env))
  | .bl b, md, env => fin md (some (.dat (.bl b), env))
  | .non, md, env => fin md (some (.dat .non, env))
  | .str s, md, env => fin md (some (.dat (.str s), env))
  | .tup es, md, env => fin md (match evds es env with
    | some (ds, env) => if ds.length ≤ line then some (.dat (.tup ds), env) else none
    | none => none)
  | .lst es, md, env => fin md (match evds es env with
    | some (ds, env) => if ds.length ≤ line then some (.own (.lst ds), env) else none
    | none => none)
  | .bin op a b, md, env => fin md (match ev a .v env with
    | none => none
    | some (x, env) => match ev b .v env with
      | none => none
      | some (y, env) => match view env x, view env y with
        | some d, some e => match op2 op d e with | some r => some (r, env) | none => none
        | _, _ => none)
  | .neg a, md, env => fin md (match ev a .v env with
    | some (.dat (.int i), env) => some (.dat (.int (-i)), env)
    | _ => none)
  | .not a, md, env => fin md (match (match md with | .t => ev a .t env | _ => fin .t (ev a .v env)) with
    | some (.dat (.bl b), env) => some (.dat (.bl (!b)), env)
    | _ => none)
  | .cmp op a b, md, env => fin md (match ev a .v env with
    | none => none
    | some (x, env) => match ev b .v env with
      | none => none
      | some (y, env) => match view env x, view env y with
        | some d, some e => match cm op d e with | some r => some (.dat (.bl r), env) | none => none
        | _, _ => none)
  | .chain op op2 a b c, md, env => fin md (match ev a .v env with
    | none => none
    | some (x, env) => match ev b .v env with
      | none => none
      | some (y, env) => match view env x, view env y with
        | some d, some e => match cm op d e with
          | none => none
          | some false => some (.dat (.bl false), env)
          | some true => match ev c .v env with
            | none => none
            | some (z, env) => match view env y, view env z with
              | some e, some g => match cm op2 e g with | some r => some (.dat (.bl r), env) | none => none
              | _, _ => none
        | _, _ => none)
  | .and es, md, env => fin md (evAnd es md.tv env)
  | .or es, md, env => fin md (evOr es md.tv env)
  | .ite t a b, md, env => match ev t .t env with
    | some (.dat (.bl true), env) => ev a md env
    | some (.dat (.bl false), env) => ev b md env
    | _ => none
  | .idx a i, md, env => fin md (match ev a .v env with
    | none => none
    | some (x, env) => match ev i .v env with
      | none => none
      | some (y, env) => match view env x, view env y with
        | some d, some e => match idxD d e with | some r => some (.dat r, env) | none => none
        | _, _ => none)
  | .slc a lo hi, md, env => fin md (match ev a .v env with
    | none => none
    | some (x, env) => match ev lo .v env with
      | some (.dat l, env) => match ev hi .v env with
        | some (.dat h, env) => match view env x, part lo l, part hi h with
          | some d, some l, some h => match slcD d l h with | some r => some (r, env) | none => none
          | _, _, _ => none
        | _ => none
      | _ => none)
  | .rev a, md, env => fin md (match ev a .v env with
    | none => none
    | some (x, env) => match view env x with
      | some d => match revD d with | some r => some (r, env) | none => none
      | none => none)
  | .call f es, md, env => fin md (match evs es env with
    | none => none
    | some (os, env) => match lend os env with
      | none => none
      | some (ss, env) => match c f ss with
        | none => none
        | some (r, fs) => some (r, giveBack os fs env))
  | .blt b es, md, env => fin md (match evs es env with
    | none => none
    | some (os, env) => match views env os with
      | none => none
      | some ds => match bltD b ds with | some r => some (r, env) | none => none)
  | .isi a t, md, env => fin md (match ev a .v env with
    | none => none
    | some (x, env) => match view env x with
      | some d => match isiD t d with | some b => some (.dat (.bl b), env) | none => none
      | none => none)
  | .mut m i es, md, env => fin md (match look env i with
    | .own _ => match evds es env with
      | none => none
      | some (ds, env) => match look env i with
        | .own d => match mutD m d ds with
          | some (r, d) => some (.dat r, env.set i (.own d))
          | none => none
        | _ => none
    | _ => none)
  | .mth m a es, md, env => fin md (match ev a .v env with
    | some (.dat d, env) => match evds es env with
      | none => none
      | some (ds, env) => match mthD m d ds with | some r => some (.dat r, env) | none => none
    | _ => none)
  | .rng es, md, env => match md with
    | .i => match evds es env with
      | some (ds, env) => match rngD ds with | some xs => some (.dat (.tup xs), env) | none => none
      | none => none
    | _ => none
  | .lc own tg src cond elt, md, env => fin md (match ev src .i env with
    | some (.dat (.tup xs), env) => match lcLoop (fun x env => match bindT (wipeE env own) tg x with
        | none => none
        | some env => match evAnd cond .t env with
          | some (.dat (.bl true), env) => match ev elt .v env with
            | none => none
            | some (o, env) => match toD env o with
              | some (d, env) => some (some d, env)
              | none => none
          | some (.dat (.bl false), env) => some (none, env)
          | _ => none) xs env with
      | some (ds, env') => if ds.length ≤ line then some (.own (.lst ds), backE env env' own) else none
      | none => none
    | _ => none)
  | .lc2 own tg src cond vs1 tg1 src1 cond1 elt, md, env => fin md (match ev src .i env with
    | some (.dat (.tup xs), env) => match lcLoop2 (fun x env => match bindT (wipeE env own) tg x with
        | none => none
        | some env => match evAnd cond .t env with
          | some (.dat (.bl true), env) => match ev src1 .i env with
            | some (.dat (.tup ys), env) => lcLoop (fun x env => match bindT (wipeE env vs1) tg1 x with
              | none => none
              | some env => match evAnd cond1 .t env with
                | some (.dat (.bl true), env) => match ev elt .v env with
                  | none => none
                  | some (o, env) => match toD env o with
                    | some (d, env) => some (some d, env)
                    | none => none
                | some (.dat (.bl false), env) => some (none, env)
                | _ => none) ys env
            | _ => none
          | some (.dat (.bl false), env) => some ([], env)
          | _ => none) xs env with
      | some (ds, env') => if ds.length ≤ line then some (.own (.lst ds), backE env env' own) else none
      | none => none
    | _ => none)
  | .sset a, md, env => fin md (match ev a .v env with
    | none => none
    | some (x, env) => match view env x with
      | some d => match ssetD d with | some xs => some (.own (.lst xs), env) | none => none
      | none => none)
def evs : List E → Env → Option (List Opd × Env)
  | [], env => some ([], env)
  | e :: es, env => match ev e .v env with
    | none => none
    | some (o, env) => match evs es env with
      | none => none
      | some (os, env) => some (o :: os, env)
/-- .. as data -/
def evds : List E → Env → Option (List D × Env)
  | [], env => some ([], env)
  | e :: es, env => match ev e .v env with
    | none => none
    | some (o, env) => match toD env o with
      | none => none
      | some (d, env) => match evds es env with
        | none => none
        | some (ds, env) => some (d :: ds, env)
def evAnd : List E → Md → Env → Option (Opd × Env)
  | [], _, env => some (.dat (.bl true), env)
  | e :: es, md, env => match ev e md env with
    | some (.dat (.bl false), env) => some (.dat (.bl false), env)
    | some (.dat (.bl true), env) => evAnd es md env
    | _ => none
def evOr : List E → Md → Env → Option (Opd × Env)
  | [], _, env => some (.dat (.bl false), env)
  | e :: es, md, env => match ev e md env with
    | some (.dat (.bl true), env) => some (.dat (.bl true), env)
    | some (.dat (.bl false), env) => evOr es md env
    | _ => none
end
end

/-! ### statements -/
inductive R where
  | nx (env : Env) | ret (o : Opd) (env : Env) | brk (env : Env)
deriving Inhabited
/-- a value that is given out -/
def giveOut (env : Env) : Opd → Option (Opd × Env)
  | .slot i => match look env i with | .own d => some (.own d, env.set i .un) | _ => none
  | .dat d => some (.dat d, env)
  | .own d => some (.own d, env)
/-- a value that a name takes -/
def store (env : Env) (i : Nat) : Opd → Option Env
  | .dat d => some (env.set i (.val d))
  | .own d => some (env.set i (.own d))
  | .slot j => match look env j with | .own (.lst xs) => some ((env.set j (.val (.lst xs))).set i (.val (.lst xs))) | _ => none
def whlLoop (f : Env → Option (Option R × Env)) : Nat → Env → Option R
  | 0, _ => none
  | n + 1, env => match f env with
    | none => none
    | some (some r, _) => some r
    | some (none, env) => whlLoop f n env
def forLoop (f : D → Env → Option R) : List D → Env → Option R
  | [], env => some (.nx env)
  | x :: xs, env => match f x env with
    | some (.nx env) => forLoop f xs env
    | some (.brk env) => some (.nx env)
    | r => r
def setL : D → D → D → Option D
  | .lst xs, .int k, d => (ixn xs.length k).map fun j => .lst (xs.set j d)
  | _, _, _ => none

/-- n op= k, of ints -/
def aug2 : Op2 → D → D → Option D
  | .add, .int i, .int j => some (.int (i + j))
  | .sub, .int i, .int j => some (.int (i - j))
  | _, _, _ => none

section
variable (c : Cl) (W : Nat)
mutual
def ex : S → Env → Option R
  | .set i e, env => match ev c e .v env with
    | none => none
    | some (o, env) => match store env i o with | some env => some (.nx env) | none => none
  | .unp is e, env => match ev c e .v env with
    | none => none
    | some (o, env) => match toD env o with
      | some (.tup ds, env) => match setAll env is ds with | some env => some (.nx env) | none => none
      | _ => none
  | .par i j a b, env => match evds c [a, b] env with
    | some ([d, e], env) => some (.nx ((env.set i (.val d)).set j (.val e)))
    | _ => none
  | .sub i ix e, env => match ev c e .v env with
    | none => none
    | some (o, env) => match toD env o with
      | none => none
      | some (d, env) => match look env i with
        | .own _ => match ev c ix .v env with
          | some (.dat k, env) => match look env i with
            | .own l => match setL l k d with | some l => some (.nx (env.set i (.own l))) | none => none
            | _ => none
          | _ => none
        | _ => none
  | .aug op i e, env => match look env i with
    | .val _ => match ev c e .v env with
      | none => none
      | some (o, env) => match view env o, look env i with
        | some y, .val x => match aug2 op x y with
          | some r => some (.nx (env.set i (.val r)))
          | none => none
        | _, _ => none
    | _ => none
  | .expr e, env => match ev c e .v env with
    | some (_, env) => some (.nx env)
    | none => none
  | .ret e, env => match ev c e .v env with
    | none => none
    | some (o, env) => match giveOut env o with | some (o, env) => some (.ret o env) | none => none
  | .ite t a b, env => match ev c t .t env with
    | some (.dat (.bl true), env) => exs a env
    | some (.dat (.bl false), env) => exs b env
    | _ => none
  | .whl t b, env => whlLoop (fun env => match ev c t .t env with
      | some (.dat (.bl false), env) => some (some (.nx env), env)
      | some (.dat (.bl true), env) => match exs b env with
        | none => none
        | some (.nx env) => some (none, env)
        | some (.brk env) => some (some (.nx env), env)
        | some (.ret o env) => some (some (.ret o env), env)
      | _ => none) W env
  | .for tg src b, env => match ev c src .i env with
    | some (.dat (.tup xs), env) => forLoop (fun x env => match bindT env tg x with
      | none => none
      | some env => exs b env) xs env
    | _ => none
  | .brk, env => some (.brk env)
  | .pass, env => some (.nx env)
  | .stop, _ => none
def exs : List S → Env → Option R
  | [], env => some (.nx env)
  | s :: ss, env => match ex s env with
    | some (.nx env) => exs ss env
    | r => r
end
end

/-- a def: its name, how many parameters, how many names, its body -/
structure Fd where
  name : Str
  ps : Nat
  n : Nat
  /-- the parameters that the body never stores to -/
  keep : List Nat
  body : List S
deriving Inhabited
def finals (fd : Fd) (env : Env) : List Slot := (List.range fd.ps).map fun j => if fd.keep.contains j then look env j else .un
/-- the call of a def, by levels -/
def callL (prog : List Fd) (W : Nat) : Nat → Cl
  | 0, _, _ => none
  | k + 1, f, ss => match prog.find? (fun d => d.name == f) with
    | none => none
    | some fd => if ss.length = fd.ps ∧ fd.ps ≤ fd.n then
        match exs (callL prog W k) W fd.body (ss ++ List.replicate (fd.n - fd.ps) .un) with
        | some (.ret (.dat d) env) => some (.dat d, finals fd env)
        | some (.ret (.own d) env) => some (.own d, finals fd env)
        | some (.nx env) => some (.dat .non, finals fd env)
        | _ => none
      else none
end PF
/-! PF2: how plain data lies in the abstract heap; transitions; the ghost step that keeps a list as it is. -/
namespace PF
open PySem PySem.Spec PyProof.Rows L2
abbrev St := List (Option V)

/-- a tuple that is read -/
def TupAt (K : PySem.W.Frag) (H : Hp) (a : Addr) (xs : List V) : Prop :=
  (∃ o, H a = some (.frz o (.tup xs)) ∧ o.dict = none) ∨
  ∃ (o : Obj) (its : Array Value) (n : Nat), K.lookup a = some o ∧ o.cls = .type "tuple" ∧ o.dict = none ∧ o.data = .seq its n ∧ its.size ≤ sizeLine ∧ Vals xs its.toList
theorem TupAt.sq {K : PySem.W.Frag} {H : Hp} {a : Addr} {xs : List V} (h : TupAt K H a xs) : SqT K H a xs := by
  rcases h with ⟨o, h, _⟩ | ⟨o, its, n, h1, h2, _, h3, h4, h5⟩
  · exact .inl (.inr ⟨o, h⟩)
  · exact .inr ⟨o, its, n, h1, h2, h3, h4, h5⟩

mutual
def Rp (K : PySem.W.Frag) (H : Hp) : D → V → Prop
  | .non, v => v = .non
  | .bl b, v => v = .bl b
  | .int i, v => v = .int i
  | .str s, v => v = .str s
  | .tup ds, v => ∃ a xs, v = .ref a ∧ TupAt K H a xs ∧ Rps K H ds xs
  | .lst ds, v => ∃ a o xs, v = .ref a ∧ H a = some (.frz o (.lst xs)) ∧ Rps K H ds xs
  | .set _, _ => False
  | .dct _ _, _ => False
  | .fn _, _ => False
def Rps (K : PySem.W.Frag) (H : Hp) : List D → List V → Prop
  | [], vs => vs = []
  | d :: ds, vs => ∃ v r, vs = v :: r ∧ Rp K H d v ∧ Rps K H ds r
end

/-- what is kept as it is stays -/
def Kp (H H' : Hp) : Prop := ∀ a o u, H a = some (.frz o u) → H' a = some (.frz o u)
theorem Kp.refl (H : Hp) : Kp H H := fun _ _ _ h => h
theorem Kp.trans {H H1 H2 : Hp} (a : Kp H H1) (b : Kp H1 H2) : Kp H H2 := fun x o u h => b x o u (a x o u h)
theorem kp_same {H H' : Hp} (h : Same H H') : Kp H H' := fun a o u e => h _ _ e
theorem TupAt.mono {K : PySem.W.Frag} {H H' : Hp} (k : Kp H H') {a : Addr} {xs : List V} (h : TupAt K H a xs) : TupAt K H' a xs := by
  rcases h with ⟨o, h, d⟩ | h
  · exact .inl ⟨o, k _ _ _ h, d⟩
  · exact .inr h
mutual
theorem Rp.mono {K : PySem.W.Frag} {H H' : Hp} (k : Kp H H') : ∀ {d : D} {v : V}, Rp K H d v → Rp K H' d v
  | .non, _, h => h | .bl _, _, h => h | .int _, _, h => h | .str _, _, h => h
  | .tup ds, _, h => by
    obtain ⟨a, xs, e, t, r⟩ := h
    exact ⟨a, xs, e, t.mono k, Rps.mono k r⟩
  | .lst ds, _, h => by
    obtain ⟨a, o, xs, e, t, r⟩ := h
    exact ⟨a, o, xs, e, k _ _ _ t, Rps.mono k r⟩
  | .set _, _, h => h.elim | .dct _ _, _, h => h.elim | .fn _, _, h => h.elim
theorem Rps.mono {K : PySem.W.Frag} {H H' : Hp} (k : Kp H H') : ∀ {ds : List D} {vs : List V}, Rps K H ds vs → Rps K H' ds vs
  | [], _, h => h
  | d :: ds, _, h => by
    obtain ⟨v, r, e, h1, h2⟩ := h
    exact ⟨v, r, e, Rp.mono k h1, Rps.mono k h2⟩
end
section
variable {K : PySem.W.Frag} {H H' : Hp}
theorem Rps.nil : Rps K H [] [] := rfl
theorem Rps.cons {d : D} {ds : List D} {v : V} {vs : List V} (h : Rp K H d v) (t : Rps K H ds vs) : Rps K H (d :: ds) (v :: vs) := ⟨v, vs, rfl, h, t⟩
theorem Rps.length : ∀ {ds : List D} {vs : List V}, Rps K H ds vs → vs.length = ds.length
  | [], _, h => by rw [show _ = [] from h]; rfl
  | d :: ds, _, h => by
    obtain ⟨v, r, e, _, h2⟩ := h
    rw [e, List.length_cons, List.length_cons, Rps.length h2]
theorem Rps.get : ∀ {ds : List D} {vs : List V} {i : Nat} {d : D}, Rps K H ds vs → ds[i]? = some d → ∃ v, vs[i]? = some v ∧ Rp K H d v
  | [], _, _, _, _, e => by simp at e
  | d :: ds, _, 0, _, h, e => by
    obtain ⟨v, r, rfl, h1, _⟩ := h
    simp at e; subst e
    exact ⟨v, rfl, h1⟩
  | d :: ds, _, i + 1, _, h, e => by
    obtain ⟨v, r, rfl, _, h2⟩ := h
    obtain ⟨w, e2, q⟩ := Rps.get (i := i) h2 (by simpa using e)
    exact ⟨w, by simpa using e2, q⟩
theorem Rps.of_get : ∀ {ds : List D} {vs : List V}, vs.length = ds.length → (∀ (i : Nat) d v, ds[i]? = some d → vs[i]? = some v → Rp K H d v) → Rps K H ds vs
  | [], vs, hl, _ => List.eq_nil_of_length_eq_zero hl
  | d :: ds, [], hl, _ => by simp at hl
  | d :: ds, v :: vs, hl, h => ⟨v, vs, rfl, h 0 d v rfl rfl, Rps.of_get (by simpa using hl) fun i d' v' e1 e2 => h (i + 1) d' v' (by simpa using e1) (by simpa using e2)⟩
theorem Rps.at {ds : List D} {vs : List V} {i : Nat} {d : D} {v : V} (h : Rps K H ds vs) (e : ds[i]? = some d) (e2 : vs[i]? = some v) : Rp K H d v := by
  obtain ⟨w, e3, q⟩ := h.get e
  rw [e2] at e3; cases e3; exact q
theorem Rps.append {ds es : List D} {vs ws : List V} (h : Rps K H ds vs) (t : Rps K H es ws) : Rps K H (ds ++ es) (vs ++ ws) := by
  refine .of_get (by rw [List.length_append, List.length_append, h.length, t.length]) fun i d v e1 e2 => ?_
  by_cases hi : i < ds.length
  · rw [List.getElem?_append_left hi] at e1
    rw [List.getElem?_append_left (by rw [h.length]; exact hi)] at e2
    exact h.at e1 e2
  · rw [List.getElem?_append_right (by omega)] at e1
    rw [List.getElem?_append_right (by rw [h.length]; omega), h.length] at e2
    exact t.at e1 e2
theorem Rps.take {ds : List D} {vs : List V} (n : Nat) (h : Rps K H ds vs) : Rps K H (ds.take n) (vs.take n) := by
  refine .of_get (by rw [List.length_take, List.length_take, h.length]) fun i d v e1 e2 => ?_
  rw [List.getElem?_take] at e1 e2
  split at e1
  · rename_i hi; rw [if_pos hi] at e2; exact h.at e1 e2
  · cases e1
theorem Rps.drop {ds : List D} {vs : List V} (n : Nat) (h : Rps K H ds vs) : Rps K H (ds.drop n) (vs.drop n) := by
  refine .of_get (by rw [List.length_drop, List.length_drop, h.length]) fun i d v e1 e2 => ?_
  rw [List.getElem?_drop] at e1 e2
  exact h.at e1 e2
theorem Rps.reverse {ds : List D} {vs : List V} (h : Rps K H ds vs) : Rps K H ds.reverse vs.reverse := by
  have hl := h.length
  refine .of_get (by rw [List.length_reverse, List.length_reverse, hl]) fun i d v e1 e2 => ?_
  have hi : i < ds.length := by
    obtain ⟨q, _⟩ := List.getElem?_eq_some_iff.mp e1
    simpa using q
  rw [List.getElem?_reverse hi] at e1
  rw [List.getElem?_reverse (by omega), hl] at e2
  exact h.at e1 e2
theorem Rps.rep {ds : List D} {vs : List V} (h : Rps K H ds vs) : ∀ n : Nat, Rps K H (List.replicate n ds).flatten (List.replicate n vs).flatten
  | 0 => .nil
  | n + 1 => by
    rw [List.replicate_succ, List.replicate_succ, List.flatten_cons, List.flatten_cons]
    exact h.append (Rps.rep h n)
theorem Rps.set {ds : List D} {vs : List V} {d : D} {v : V} (h : Rps K H ds vs) (r : Rp K H d v) (j : Nat) : Rps K H (ds.set j d) (vs.set j v) := by
  refine .of_get (by rw [List.length_set, List.length_set, h.length]) fun i d' v' e1 e2 => ?_
  rw [List.getElem?_set] at e1 e2
  by_cases hj : j = i
  · rw [if_pos hj] at e1 e2
    split at e1
    · cases e1
      split at e2
      · cases e2; exact r
      · cases e2
    · cases e1
  · rw [if_neg hj] at e1 e2; exact h.at e1 e2
theorem Rps.dropLast {ds : List D} {vs : List V} (h : Rps K H ds vs) : Rps K H ds.dropLast vs.dropLast := by
  rw [List.dropLast_eq_take, List.dropLast_eq_take, h.length]
  exact h.take _
theorem Rps.intsD : ∀ {ds : List D} {vs : List V} {ns : List Int}, Rps K H ds vs → intsD ds = some ns → vs = ns.map V.int
  | [], _, ns, h, e => by
    rw [show _ = [] from h]
    have : ns = [] := by simpa [PF.intsD] using e.symm
    rw [this]; rfl
  | d :: ds, _, ns, h, e => by
    obtain ⟨v, r, rfl, h1, h2⟩ := h
    cases d with
    | int i =>
      unfold PF.intsD at e
      obtain ⟨ms, e1, rfl⟩ := Option.map_eq_some_iff.mp e
      rw [Rps.intsD h2 e1, show v = .int i from h1]
      rfl
    | _ => simp [PF.intsD] at e
theorem Rps.of_ints : ∀ (ns : List Int), Rps K H (ns.map D.int) (ns.map V.int)
  | [] => .nil
  | n :: ns => .cons rfl (Rps.of_ints ns)
theorem Rps.blsD : ∀ {ds : List D} {vs : List V} {ns : List Bool}, Rps K H ds vs → blsD ds = some ns → vs = ns.map V.bl
  | [], _, ns, h, e => by
    rw [show _ = [] from h]
    have : ns = [] := by simpa [PF.blsD] using e.symm
    rw [this]; rfl
  | d :: ds, _, ns, h, e => by
    obtain ⟨v, r, rfl, h1, h2⟩ := h
    cases d with
    | bl i =>
      unfold PF.blsD at e
      obtain ⟨ms, e1, rfl⟩ := Option.map_eq_some_iff.mp e
      rw [Rps.blsD h2 e1, show v = .bl i from h1]
      rfl
    | _ => simp [PF.blsD] at e

mutual
theorem Rp.dp : ∀ {d : D} {v : V}, Rp K H d v → Dp K H v d.py
  | .non, v, h => by rw [show v = _ from h]; exact .non
  | .bl b, v, h => by rw [show v = _ from h]; exact .bl b
  | .int b, v, h => by rw [show v = _ from h]; exact .int b
  | .str b, v, h => by rw [show v = _ from h]; exact .str b
  | .tup ds, _, h => by
    obtain ⟨a, xs, rfl, t, r⟩ := h
    exact .tup t.sq (Rps.dp r)
  | .lst ds, _, h => by
    obtain ⟨a, o, xs, rfl, t, r⟩ := h
    exact .lst (.inl (.inr ⟨o, t⟩)) (Rps.dp r)
  | .set _, _, h => h.elim | .dct _ _, _, h => h.elim | .fn _, _, h => h.elim
theorem Rps.dp : ∀ {ds : List D} {vs : List V}, Rps K H ds vs → DpAll K H vs (D.pys ds)
  | [], _, h => by rw [show _ = [] from h]; exact .nil
  | d :: ds, _, h => by
    obtain ⟨v, r, rfl, h1, h2⟩ := h
    exact .cons (Rp.dp h1) (Rps.dp h2)
end

/-- an object that one name owns -/
def OwnAt (K : PySem.W.Frag) (H : Hp) : D → Addr → Prop
  | .lst ds, p => ∃ vs, H p = some (.lst vs) ∧ Rps K H ds vs
  | _, _ => False
theorem OwnAt.keep {d : D} {p : Addr} (h : OwnAt K H d p) (k : Kp H H') (e : ∀ u, H p = some u → H' p = some u) : OwnAt K H' d p := by
  cases d with
  | lst ds =>
    obtain ⟨vs, h1, h2⟩ := h
    exact ⟨vs, e _ h1, h2.mono k⟩
  | _ => exact h.elim
theorem OwnAt.nfrz {d : D} {p : Addr} (h : OwnAt K H d p) : ∃ u, H p = some u ∧ ∀ o w, u ≠ .frz o w := by
  cases d with
  | lst ds =>
    obtain ⟨vs, h1, _⟩ := h
    exact ⟨_, h1, fun _ _ z => nomatch z⟩
  | _ => exact h.elim
/-- as it is read -/
def VwR (K : PySem.W.Frag) (H : Hp) (d : D) (v : V) : Prop := Rp K H d v ∨ ∃ p, v = .ref p ∧ OwnAt K H d p
theorem VwR.lst {ds : List D} {v : V} (h : VwR K H (.lst ds) v) : ∃ p vs, v = .ref p ∧ Rd H p (.lst vs) ∧ Rps K H ds vs := by
  rcases h with ⟨a, o, xs, rfl, t, r⟩ | ⟨p, rfl, vs, h1, h2⟩
  · exact ⟨a, xs, rfl, .inr ⟨o, t⟩, r⟩
  · exact ⟨p, vs, rfl, .inl h1, h2⟩
theorem VwR.tup {ds : List D} {v : V} (h : VwR K H (.tup ds) v) : ∃ p vs, v = .ref p ∧ TupAt K H p vs ∧ Rps K H ds vs := by
  rcases h with ⟨a, xs, rfl, t, r⟩ | ⟨p, rfl, h⟩
  · exact ⟨a, xs, rfl, t, r⟩
  · exact h.elim
theorem VwR.int {i : Int} {v : V} (h : VwR K H (.int i) v) : v = .int i := by
  rcases h with h | ⟨p, _, h⟩
  · exact h
  · exact h.elim
theorem VwR.bl {i : Bool} {v : V} (h : VwR K H (.bl i) v) : v = .bl i := by
  rcases h with h | ⟨p, _, h⟩
  · exact h
  · exact h.elim
theorem VwR.str {i : Str} {v : V} (h : VwR K H (.str i) v) : v = .str i := by
  rcases h with h | ⟨p, _, h⟩
  · exact h
  · exact h.elim
theorem VwR.non {v : V} (h : VwR K H .non v) : v = .non := by
  rcases h with h | ⟨p, _, h⟩
  · exact h
  · exact h.elim
theorem VwR.dp {d : D} {v : V} (h : VwR K H d v) (hs : shp d = true) : Dp K H v d.py := by
  rcases h with h | ⟨p, rfl, h⟩
  · exact h.dp
  · cases d with
    | lst ds =>
      obtain ⟨vs, h1, h2⟩ := h
      exact .lst (.inl (.inl h1)) h2.dp
    | _ => exact h.elim
inductive VwRs (K : PySem.W.Frag) (H : Hp) : List D → List V → Prop
  | nil : VwRs K H [] []
  | cons {d : D} {v : V} {ds : List D} {vs : List V} : VwR K H d v → VwRs K H ds vs → VwRs K H (d :: ds) (v :: vs)
end

/-! ### names -/
/-- the objects that names own -/
def OwnA (env : Env) (σ : St) (p : Addr) : Prop := ∃ (i : Nat) (d : D), env[i]? = some (.own d) ∧ σ[i]? = some (some (.ref p))
def SlotR (K : PySem.W.Frag) (H : Hp) : Slot → Option V → Prop
  | .un, _ => True
  | .val d, s => ∃ v, s = some v ∧ Rp K H d v
  | .own d, s => ∃ p, s = some (.ref p) ∧ OwnAt K H d p
structure EnvR (K : PySem.W.Frag) (H : Hp) (σ : St) (env : Env) : Prop where
  len : env.length = σ.length
  sl : ∀ (i : Nat) (s : Slot), env[i]? = some s → ∃ x, σ[i]? = some x ∧ SlotR K H s x
  dj : ∀ (i j : Nat) (d e : D) (p : Addr), env[i]? = some (.own d) → env[j]? = some (.own e) → σ[i]? = some (some (.ref p)) → σ[j]? = some (some (.ref p)) → i = j
/-- from one state to a later one -/
structure Tr (σ : St) (H : Hp) (env : Env) (σ' : St) (H' : Hp) (env' : Env) : Prop where
  f : ∀ b u, H b = some u → ¬ OwnA env σ b → H' b = some u
  s : ∀ p, OwnA env' σ' p → OwnA env σ p ∨ H p = none
theorem Tr.refl {σ : St} {H : Hp} {env : Env} : Tr σ H env σ H env := ⟨fun _ _ h _ => h, fun _ h => .inl h⟩
theorem Tr.trans {σ σ1 σ2 : St} {H H1 H2 : Hp} {env env1 env2 : Env} (a : Tr σ H env σ1 H1 env1) (b : Tr σ1 H1 env1 σ2 H2 env2) : Tr σ H env σ2 H2 env2 := by
  refine ⟨fun c u h n => b.f c u (a.f c u h n) fun z => ?_, fun p z => ?_⟩
  · rcases a.s c z with z | z
    · exact n z
    · rw [h] at z; cases z
  · rcases b.s p z with z | z
    · exact a.s p z
    · by_cases n : OwnA env σ p
      · exact .inl n
      · refine .inr ?_
        cases e : H p with
        | none => rfl
        | some u => rw [a.f p u e n] at z; cases z
section
variable {K : PySem.W.Frag} {H H' : Hp} {σ σ' : St} {env env' : Env}
theorem look_val {i : Nat} {d : D} (h : look env i = .val d) : env[i]? = some (.val d) := by
  unfold look at h
  cases e : env[i]? with
  | none => rw [e] at h; cases h
  | some s => rw [e] at h; rw [show s = .val d from h]
theorem look_own {i : Nat} {d : D} (h : look env i = .own d) : env[i]? = some (.own d) := by
  unfold look at h
  cases e : env[i]? with
  | none => rw [e] at h; cases h
  | some s => rw [e] at h; rw [show s = .own d from h]
theorem EnvR.val {i : Nat} {d : D} (E : EnvR K H σ env) (h : look env i = .val d) : ∃ v, σ[i]? = some (some v) ∧ Rp K H d v := by
  obtain ⟨x, e, v, rfl, r⟩ := E.sl i _ (look_val h)
  exact ⟨v, e, r⟩
theorem EnvR.own {i : Nat} {d : D} (E : EnvR K H σ env) (h : look env i = .own d) : ∃ p, σ[i]? = some (some (.ref p)) ∧ OwnAt K H d p ∧ OwnA env σ p := by
  obtain ⟨x, e, p, rfl, r⟩ := E.sl i _ (look_own h)
  exact ⟨p, e, r, i, d, look_own h, e⟩
theorem EnvR.ownA {p : Addr} (E : EnvR K H σ env) (h : OwnA env σ p) : ∃ d, OwnAt K H d p := by
  obtain ⟨i, d, e1, e2⟩ := h
  obtain ⟨x, e, q, rfl, r⟩ := E.sl i _ e1
  rw [e2] at e; cases e
  exact ⟨d, r⟩
theorem EnvR.nfrz {p : Addr} (E : EnvR K H σ env) (h : OwnA env σ p) : ∃ u, H p = some u ∧ ∀ o w, u ≠ .frz o w := by
  obtain ⟨d, h⟩ := E.ownA h
  exact h.nfrz
theorem Tr.kp (E : EnvR K H σ env) (t : Tr σ H env σ' H' env') : Kp H H' := fun a o u e => t.f a _ e fun z => by
  obtain ⟨w, e2, n⟩ := E.nfrz z
  rw [e] at e2; cases e2
  exact n o u rfl
theorem Tr.fresh (t : Tr σ H env σ' H' env') {p : Addr} (h : H' p = none) : H p = none ∨ OwnA env σ p := by
  by_cases n : OwnA env σ p
  · exact .inr n
  · refine .inl ?_
    cases e : H p with
    | none => rfl
    | some u => rw [t.f p u e n] at h; cases h
/-- the environment over a heap in which all that it speaks of stands -/
theorem EnvR.same (E : EnvR K H σ env) (h : Same H H') : EnvR K H' σ env := by
  refine ⟨E.len, fun i s e => ?_, E.dj⟩
  obtain ⟨x, e2, r⟩ := E.sl i s e
  refine ⟨x, e2, ?_⟩
  cases s with
  | un => trivial
  | val d => obtain ⟨v, e3, r⟩ := r; exact ⟨v, e3, r.mono (kp_same h)⟩
  | own d => obtain ⟨p, e3, r⟩ := r; exact ⟨p, e3, r.keep (kp_same h) fun u q => h _ _ q⟩
theorem tr_same (h : Same H H') : Tr σ H env σ H' env := ⟨fun b u e _ => h b u e, fun p z => .inl z⟩
end

/-- an operand -/
def OpdR (K : PySem.W.Frag) (H : Hp) (σ : St) (env : Env) : Opd → V → Prop
  | .dat d, v => Rp K H d v
  | .own d, v => ∃ p, v = .ref p ∧ OwnAt K H d p ∧ ¬ OwnA env σ p
  | .slot i, v => σ[i]? = some (some v)
structure Po (K : PySem.W.Frag) (σ : St) (H : Hp) (env : Env) (o : Opd) (env' : Env) (v : V) (H' : Hp) : Prop where
  e : EnvR K H' σ env'
  t : Tr σ H env σ H' env'
  r : OpdR K H' σ env' o v
  n : ∀ d p, o = .own d → v = .ref p → H p = none ∨ OwnA env σ p
section
variable {K : PySem.W.Frag} {H H1 H2 : Hp} {σ : St} {env env1 env2 : Env} {o o' : Opd} {v v' : V}
/-- an operand, behind a further step -/
theorem OpdR.later (E : EnvR K H1 σ env1) (r : OpdR K H1 σ env1 o v) (t : Tr σ H1 env1 σ H2 env2) : OpdR K H2 σ env2 o v := by
  cases o with
  | dat d => exact Rp.mono (t.kp E) r
  | own d =>
    obtain ⟨p, e, h, n⟩ := r
    refine ⟨p, e, h.keep (t.kp E) fun u q => t.f p u q n, fun z => ?_⟩
    rcases t.s p z with z | z
    · exact n z
    · obtain ⟨u, q, _⟩ := h.nfrz
      rw [q] at z; cases z
  | slot i => exact r
theorem OpdR.view (E : EnvR K H1 σ env1) (r : OpdR K H1 σ env1 o v) {d : D} (h : view env1 o = some d) : VwR K H1 d v := by
  cases o with
  | dat d' => cases h; exact .inl r
  | own d' =>
    cases h
    obtain ⟨p, e, h, n⟩ := r
    exact .inr ⟨p, e, h⟩
  | slot i =>
    cases e : look env1 i with
    | own d' =>
      simp only [PF.view, e] at h
      cases h
      obtain ⟨p, e2, h, _⟩ := E.own e
      have e3 : σ[i]? = some (some v) := r
      rw [e3] at e2; cases e2
      exact .inr ⟨p, rfl, h⟩
    | un => simp [PF.view, e] at h
    | val _ => simp [PF.view, e] at h
end

/-! ### the ghost step -/
theorem inv_freeze {X : Cx} {pins : List (Addr × Obj)} {σ : St} {H : Hp} {s : Shared} {p : Addr} {vs : List V} (I : Inv X pins σ H s) (h : H p = some (.lst vs)) : ∃ o, Inv X pins σ (upd H p (.frz o (.lst vs))) s := by
  have x := I.hok p _ h
  obtain ⟨z, its, n, r, e⟩ := x
  refine ⟨{ cls := .type "list", data := .seq its.toArray n }, ?_⟩
  have J := I.write (x := p) (e := p) (o := .frz { cls := .type "list", data := .seq its.toArray n } (.lst vs)) (h' := s.heap) (t' := s.toks) (by rw [h]; trivial) (.inl rfl) (fun b u _ q => q) ⟨_, e⟩ ⟨e, z, its, n, r, e⟩
  exact J
theorem upd_kp {H : Hp} {p : Addr} {o : HO} (h : ∀ ob u, H p ≠ some (.frz ob u)) : Kp H (upd H p o) := fun a ob u e => by
  rw [upd_ne]
  · exact e
  · rintro rfl; exact h ob u e
theorem same_new {H : Hp} {p : Addr} {o : HO} (h : H p = none) : Same H (upd H p o) := fun b x e => by
  rw [upd_ne (ne_of_none e h)]
  exact e
end PF
/-! PF3: the operations, by values. -/
namespace PF
open PySem PySem.Spec PyProof.Rows L2

theorem OpR.imp {X : Cx} {f : Value → Value → Sem Value} {r r' : R2} (h : OpR X f r) (i : ∀ x y H Q, r' x y H Q → r x y H Q) : OpR X f r' :=
  fun pins s σ H x y v u Q I rx ry q => h pins s σ H x y v u Q I rx ry (i _ _ _ _ q)
theorem CallR.imp {X : Cx} {f : Value} {r r' : List V → Hp → VK → Prop} (h : CallR X f r) (i : ∀ xs H Q, r' xs H Q → r xs H Q) : CallR X f r' :=
  fun pins s σ H x u Q I rx q => h pins s σ H x u Q I rx (i _ _ _ q)
theorem PE.imp {X : Cx} {e : Expr} {t t' : TE} (h : PE X e t) (i : ∀ σ H Q, t' σ H Q → t σ H Q) : PE X e t' :=
  ⟨fun pins s σ H Q I q => h.run pins s σ H Q I (i _ _ _ q)⟩
theorem PT.imp {X : Cx} {e : Expr} {t t' : TT} (h : PT X e t) (i : ∀ σ H Q, t' σ H Q → t σ H Q) : PT X e t' :=
  ⟨fun pins s σ H Q I q => h.run pins s σ H Q I (i _ _ _ q)⟩
theorem PA.imp {X : Cx} {e : List Expr} {t t' : TA} (h : PA X e t) (i : ∀ σ H Q, t' σ H Q → t σ H Q) : PA X e t' :=
  ⟨fun pos pins s σ H Q I q => h.run pos pins s σ H Q I (i _ _ _ q)⟩
theorem PS.imp {X : Cx} {e : Stmt} {t t' : TS} (h : PS X e t) (i : ∀ D σ H, t' D σ H → t D σ H) : PS X e t' :=
  ⟨fun pins s σ H D I q => h.run pins s σ H D I (i _ _ _ q)⟩
theorem PSs.imp {X : Cx} {e : List Stmt} {t t' : TS} (h : PSs X e t) (i : ∀ D σ H, t' D σ H → t D σ H) : PSs X e t' :=
  ⟨fun pins s σ H D I q => h.run pins s σ H D I (i _ _ _ q)⟩
theorem PI.imp {X : Cx} {tg e : Expr} {t t' : TI} (h : PI X tg e t) (i : ∀ σ H Q, t' σ H Q → t σ H Q) : PI X tg e t' :=
  ⟨fun pins s σ H Q I q => h.run pins s σ H Q I (i _ _ _ q)⟩
theorem PI.or {X : Cx} {tg e : Expr} {t t' : TI} (h : PI X tg e t) (h' : PI X tg e t') : PI X tg e (fun σ H Q => t σ H Q ∨ t' σ H Q) :=
  ⟨fun pins s σ H Q I q => q.elim (h.run pins s σ H Q I) (h'.run pins s σ H Q I)⟩

theorem line_eq : line = sizeLine := by rw [sizeLine_eq]; rfl

/-- what an operation gives -/
def ResR (K : PySem.W.Frag) (H : Hp) (r : Opd) (v : V) (H' : Hp) : Prop :=
  Same H H' ∧ match r with
    | .dat d => Rp K H' d v
    | .own d => ∃ p, v = .ref p ∧ H p = none ∧ OwnAt K H' d p
    | .slot _ => False
theorem res_here {K : PySem.W.Frag} {H : Hp} {d : D} {v : V} (h : Rp K H d v) : ResR K H (.dat d) v H := ⟨Same.refl H, h⟩
theorem res_tup {K : PySem.W.Frag} {H : Hp} {ds : List D} {vs : List V} {p : Addr} {o : Obj} (h : Rps K H ds vs) (n : H p = none) (d : o.dict = none) : ResR K H (.dat (.tup ds)) (.ref p) (upd H p (.frz o (.tup vs))) :=
  ⟨same_new n, p, vs, rfl, .inl ⟨o, upd_same, d⟩, h.mono (kp_same (same_new n))⟩
theorem res_lst {K : PySem.W.Frag} {H : Hp} {ds : List D} {vs : List V} {p : Addr} (h : Rps K H ds vs) (n : H p = none) : ResR K H (.own (.lst ds)) (.ref p) (upd H p (.lst vs)) :=
  ⟨same_new n, p, rfl, n, vs, upd_same, h.mono (kp_same (same_new n))⟩
theorem res_tup_at {K : PySem.W.Frag} {H : Hp} {ds : List D} {vs : List V} {p : Addr} (t : TupAt K H p vs) (h : Rps K H ds vs) : ResR K H (.dat (.tup ds)) (.ref p) H := ⟨Same.refl H, p, vs, rfl, t, h⟩

section
variable {X : Cx} {pins : List (Addr × Obj)} {σ : St} {H : Hp} {s : Shared}
/-- a new tuple, kept as it is -/
theorem inv_tup {xs : List V} {us : List Value} {n : Nat} {t' : Nat} (I : L2.Inv X pins σ H s) (r : Vals xs us) (z : xs.length ≤ sizeLine) :
    L2.Inv X pins σ (upd H s.heap.objs.size (.frz { cls := .type "tuple", data := .seq us.toArray n } (.tup xs))) { s with heap := s.heap.push { cls := .type "tuple", data := .seq us.toArray n }, toks := t' } :=
  I.laid (fun b u e => Heap.get?_push_of_some _ e) (Nat.le_refl _) ⟨Heap.get?_push_size _ rfl, z, us, r, _, Heap.get?_push_size _ rfl, rfl, n, rfl⟩
theorem inv_fresh (I : L2.Inv X pins σ H s) : H s.heap.objs.size = none := I.hok.fresh (Nat.le_refl _)
/-- the end of an operation that lays a new tuple -/
theorem ep_tup {K : PySem.W.Frag} {ds : List D} {xs : List V} {us : List Value} {n : Nat} {t' : Nat} {Q : VK} (I : L2.Inv X pins σ H s) (r : Vals xs us) (z : xs.length ≤ sizeLine) (h : Rps K H ds xs) (q : ∀ v H', ResR K H (.dat (.tup ds)) v H' → Q v H') :
    EP X pins σ Q (.ref s.heap.objs.size) { s with heap := s.heap.push { cls := .type "tuple", data := .seq us.toArray n }, toks := t' } :=
  ⟨.ref s.heap.objs.size, _, inv_tup I r z, rfl, q _ _ (res_tup h (inv_fresh I) rfl)⟩
end

/-- a tuple of written items -/
def tTupF (t : TA) : TE := fun σ H Q => t σ H fun xs H1 => xs.length ≤ sizeLine ∧ ∀ p o, H1 p = none → o.dict = none → Q (.ref p) (upd H1 p (.frz o (.tup xs)))
theorem pe_tupF {X : Cx} {es : List Expr} {t : TA} {x1 pos} (h : PA X es t) : PE X (.Tuple es x1 pos) (tTupF t) := by
  refine ⟨fun pins s σ H Q I hq => ?_⟩
  refine wpAny_Tuple_spliced (thn (h.run pos pins s σ H _ I hq) fun us s1 ⟨xs, H1, I1, r, z, q⟩ => ⟨by rw [← r.length]; exact z, ?_⟩)
  exact ⟨.ref s1.heap.objs.size, _, inv_tup (t' := s1.toks) I1 r z, rfl, q _ _ (inv_fresh I1) rfl⟩

/-! ### two-place operations -/
def rOp2 (K : PySem.W.Frag) (op : Op2) : R2 := fun x y H Q => ∃ d e r, VwR K H d x ∧ VwR K H e y ∧ op2 op d e = some r ∧ ∀ v H', ResR K H r v H' → Q v H'

/-- t + u -/
def rCatF (K : PySem.W.Frag) : R2 := fun x y H Q => ∃ a b xs ys ds es, x = .ref a ∧ y = .ref b ∧ TupAt K H a xs ∧ TupAt K H b ys ∧ Rps K H ds xs ∧ Rps K H es ys ∧ xs.length + ys.length ≤ sizeLine ∧
  ∀ v H', ResR K H (.dat (.tup (ds ++ es))) v H' → Q v H'
theorem op_catF {X : Cx} : OpR X (binaryOp .Add) (rCatF X.K) := by
  intro pins s σ H x y v u Q I rx ry h
  obtain ⟨a, b, xs, ys, ds, es, rfl, rfl, ha, hb, rd, re, hz, q⟩ := h
  cases rx
  cases ry
  obtain ⟨its, r1, p1, _⟩ := I.tuple ha.sq
  obtain ⟨its2, r2, p2, _⟩ := I.tuple hb.sq
  have ldx := rd.length
  have ley := re.length
  by_cases hx : xs = []
  · subst hx
    cases r1
    have hd : ds = [] := List.eq_nil_of_length_eq_zero (by simpa using ldx.symm)
    subst hd
    exact cat_tup0 p1 p2 ⟨.ref b, H, I, rfl, q _ _ (res_tup_at hb re)⟩
  · refine HT.cat_tup p1 p2 (fun z => hx (r1.nil_iff.mp z)) (fun z => ⟨.ref a, H, I, rfl, ?_⟩) (fun z => ?_) (by rw [← r1.length, ← r2.length]; exact hz)
    · have hy : ys = [] := r2.nil_iff.mp z
      subst hy
      have he : es = [] := List.eq_nil_of_length_eq_zero (by simpa using ley.symm)
      subst he
      refine q _ _ ?_
      rw [List.append_nil]
      exact res_tup_at ha rd
    · exact ep_tup (t' := s.toks) I (r1.append r2) (by rw [List.length_append]; exact hz) (rd.append re) q
/-- two lists -/
def rCatL : R2 := fun x y H Q => ∃ l b xs zs, x = .ref l ∧ y = .ref b ∧ Rd H l (.lst xs) ∧ Rd H b (.lst zs) ∧ xs.length + zs.length ≤ sizeLine ∧ ∀ p, H p = none → Q (.ref p) (upd H p (.lst (xs ++ zs)))
theorem op_catL {X : Cx} : OpR X (binaryOp .Add) rCatL := by
  intro pins s σ H x y v u Q I rx ry h
  obtain ⟨l, b, xs, zs, rfl, rfl, hH, hB, hz, q⟩ := h
  cases rx
  cases ry
  obtain ⟨z, its, n, r, e⟩ := hH.ok I.hok
  obtain ⟨z2, its2, n2, r2, e2⟩ := hB.ok I.hok
  have hl := r.length
  have hl2 := r2.length
  refine PySem.P.add_list e e2 ?_ (by rw [List.size_toArray, List.size_toArray]; omega)
  have ea : its.toArray ++ its2.toArray = (its ++ its2).toArray := by simp
  rw [ea]
  exact ⟨.ref _, _, I.lnew (t' := s.toks) (r.append r2) (by rw [List.length_append]; omega), rfl, q _ I.fresh⟩
/-- a tuple, many times -/
theorem tuple_mul_same (l : Addr) (items : Array Value) (n : Nat) (dd : Option Addr) (sl : Array (Option Value)) (x : Int) (u : Tok) (c0 : (decide (x < -(2 ^ 63)) || decide (x ≥ 2 ^ 63)) = false) (c1 : (items.isEmpty || x == 1) = true) :
    Meets (Builtin.«tuple.__mul__» ⟨[.ref l, .int x u], []⟩) (fun _ R s => s.heap.get? l = some { cls := .type "tuple", dict := dd, data := .seq items n, slots := sl } ∧ R (.ok (.ret (Value.ref l))) s) :=
  .of_wp fun prog w A R s h => by
    obtain ⟨hp, g, d, tk, os⟩ := s
    obtain ⟨hl, h⟩ := h
    have f1 := AutoSeq1.idx_int
    wp_walk using wpAny_loadPart' hl
    repeat (first
      | (refine wpAny_ite_false (decide_eq_false (by rw [c0]; exact Bool.false_ne_true)) ?_; wp_walk using wpAny_loadPart' hl)
      | (refine wpAny_ite_true (decide_eq_true c1) ?_; wp_walk using wpAny_loadPart' hl))
    exact ⟨_, rfl, h⟩
theorem tuple_mul_none (l : Addr) (items : Array Value) (n : Nat) (dd : Option Addr) (sl : Array (Option Value)) (x : Int) (u : Tok) (c0 : (decide (x < -(2 ^ 63)) || decide (x ≥ 2 ^ 63)) = false) (c1 : (items.isEmpty || x == 1) = false) (c2 : (decide (x ≤ 0) || items.isEmpty) = true)
    (hsz : (#[] : Array Value).size ≤ sizeLine) :
    Meets (Builtin.«tuple.__mul__» ⟨[.ref l, .int x u], []⟩) (fun _ R s => s.heap.get? l = some { cls := .type "tuple", dict := dd, data := .seq items n, slots := sl } ∧
      R (.ok (.ret (Value.ref s.heap.objs.size))) { s with heap := s.heap.push { cls := Value.type "tuple", data := Data.seq #[] }, toks := s.toks }) :=
  .of_wp fun prog w A R s h => by
    obtain ⟨hp, g, d, tk, os⟩ := s
    obtain ⟨hl, h⟩ := h
    have f1 := AutoSeq1.idx_int
    wp_walk using wpAny_loadPart' hl
    repeat (first
      | (refine wpAny_ite_false (decide_eq_false (by rw [c0]; exact Bool.false_ne_true)) ?_; wp_walk using wpAny_loadPart' hl)
      | (refine wpAny_ite_false (decide_eq_false (by rw [c1]; exact Bool.false_ne_true)) ?_; wp_walk using wpAny_loadPart' hl)
      | (refine wpAny_ite_true (decide_eq_true c2) ?_; wp_walk using wpAny_loadPart' hl)
      | (refine wpAny_ite_false (decide_eq_false (Nat.not_lt.mpr hsz)) ?_; wp_walk using wpAny_loadPart' hl))
    exact ⟨_, rfl, h⟩
def rRepF (K : PySem.W.Frag) : R2 := fun x y H Q => ∃ l k xs ds, x = .ref l ∧ y = .int k ∧ TupAt K H l xs ∧ Rps K H ds xs ∧ -(2 ^ 63) ≤ k ∧ k < 2 ^ 63 ∧ xs.length * k.toNat ≤ sizeLine ∧
  ∀ v H', ResR K H (.dat (.tup (List.replicate k.toNat ds).flatten)) v H' → Q v H'
theorem op_repF {X : Cx} : OpR X (binaryOp .Mult) (rRepF X.K) := by
  intro pins s σ H x y v u Q I rx ry h
  obtain ⟨l, k, xs, ds, rfl, rfl, hT, rd, h1, h2, hz, q⟩ := h
  cases rx
  obtain ⟨t, rfl⟩ := ry
  obtain ⟨its, r, ⟨⟨cls, dd, data, sl⟩, ho, hc, n, hd⟩, hs⟩ := I.tuple hT.sq
  simp only at hc hd
  subst hc hd
  have hle : its.length = xs.length := r.length.symm
  have hld := rd.length
  have c0 : (decide (k < -(2 ^ 63)) || decide (k ≥ 2 ^ 63)) = false := by
    rw [decide_eq_false (by omega), decide_eq_false (by omega)] <;> rfl
  refine wpAny_binaryOp_repeat_ref (T := "tuple") (U := "int") (by decide) ⟨_, ho, rfl⟩ (fun s' => typeIs_int s' k t) noFill_tuple_mul F.fills_int_mul F.slot_int_rmul repeat_tuple F.slot_int_index.lookup
    (call_meets F.slot_int_rmul (typeIs_int s k t) F.entry_int_rmul (F.args_int_rmul_2 _ _) (int_rmul_tuple k t l its.toArray n dd sl)
      ⟨ho, rfl, ⟨_, ho, rfl⟩, ?_⟩)
  by_cases hsame : (its.toArray.isEmpty || k == 1) = true
  · refine call_meets F.slot_tuple_mul ⟨_, ho, rfl⟩ F.entry_tuple_mul (F.args_tuple_mul_2 _ _) (tuple_mul_same l its.toArray n dd sl k t c0 hsame) ⟨ho, ?_⟩
    refine ⟨.ref l, H, I, rfl, q _ _ ?_⟩
    have e : (List.replicate k.toNat ds).flatten = ds := by
      rcases Bool.or_eq_true _ _ ▸ hsame with e | e
      · have : its = [] := by simpa using e
        have : ds = [] := List.eq_nil_of_length_eq_zero (by rw [← hld, ← hle, this]; rfl)
        rw [this]
        simp
      · have : k = 1 := by simpa using e
        rw [this]
        show (List.replicate 1 ds).flatten = ds
        simp
    rw [e]
    exact res_tup_at hT rd
  · have c1 : (its.toArray.isEmpty || k == 1) = false := by simpa using hsame
    have hne : its.toArray.isEmpty = false := (Bool.or_eq_false_iff.mp c1).1
    by_cases hk : k ≤ 0
    · refine call_meets F.slot_tuple_mul ⟨_, ho, rfl⟩ F.entry_tuple_mul (F.args_tuple_mul_2 _ _) (tuple_mul_none l its.toArray n dd sl k t c0 c1 (by rw [decide_eq_true hk]; rfl) (Nat.zero_le _)) ⟨ho, ?_⟩
      have e : k.toNat = 0 := by omega
      rw [e] at q
      exact ep_tup (us := []) (t' := s.toks) I .nil (Nat.zero_le _) .nil q
    · have c2 : (decide (k ≤ 0) || its.toArray.isEmpty) = false := by rw [hne, Bool.or_false]; exact decide_eq_false hk
      have hsz0 : its.toArray.size = xs.length := by rw [List.size_toArray, hle]
      have hm : ((its.toArray.size : Nat) : Int) * k ≤ 16777216 := by
        rw [hsz0]
        rw [sizeLine_eq] at hz
        have : ((xs.length * k.toNat : Nat) : Int) ≤ 16777216 := by omega
        rw [Int.natCast_mul, Int.toNat_of_nonneg (by omega)] at this
        exact this
      have flen : (List.replicate k.toNat its).flatten.length ≤ sizeLine := by
        rw [PyProof.Rows.lm_len_rep_flat, hle, Nat.mul_comm]
        exact hz
      have c4 : Builtin.Tuple.tupleTooMany (((its.toArray.size : Nat) : Int) * k) = false := by
        unfold Builtin.Tuple.tupleTooMany
        rw [sizeLine_eq]
        exact decide_eq_false (by omega)
      refine call_meets F.slot_tuple_mul ⟨_, ho, rfl⟩ F.entry_tuple_mul (F.args_tuple_mul_2 _ _) (tuple_mulW l its.toArray n dd sl k t c0 c1 c2 (by omega) c4 (by rw [size_rep, List.size_toArray]; exact flen)) ⟨ho, ?_⟩
      rw [size_rep]
      exact ep_tup (t' := s.toks) I (r.rep k.toNat) (by rw [PyProof.Rows.lm_len_rep_flat, Nat.mul_comm]; exact hz) (rd.rep _) q
/-- a list, many times -/
def rRepL : R2 := fun x y H Q => ∃ l k xs, x = .ref l ∧ y = .int k ∧ Rd H l (.lst xs) ∧ -(2 ^ 63) ≤ k ∧ k < 2 ^ 63 ∧ xs.length * k.toNat ≤ sizeLine ∧
  ∀ p, H p = none → Q (.ref p) (upd H p (.lst (List.replicate k.toNat xs).flatten))
theorem op_repL {X : Cx} : OpR X (binaryOp .Mult) rRepL := by
  intro pins s σ H x y v u Q I rx ry h
  obtain ⟨l, k, xs, rfl, rfl, hH, h1, h2, hz, q⟩ := h
  cases rx
  obtain ⟨t, rfl⟩ := ry
  obtain ⟨z, its, n, r, e⟩ := hH.ok I.hok
  have hl := r.length
  have hlen : its.toArray.size * k.toNat ≤ sizeLine := by rw [List.size_toArray, ← hl]; exact hz
  have hcap : ¬ its.toArray.size * k.toNat > (2 ^ 63 - 1) / 8 := by
    have : (sizeLine : Nat) ≤ (2 ^ 63 - 1) / 8 := by decide
    omega
  have hfit : ¬ (!Builtin.List.listFitsIndex k) = true := by
    rw [fitsIndex_both h1 h2]
    exact Bool.false_ne_true
  have hlong : ¬ Builtin.List.listTooLong (its.toArray.size * k.toNat) = true := by
    rw [notLongL hlen]
    exact Bool.false_ne_true
  have hnew : List.foldl (fun x1 x2 => x1 ++ x2) #[] (List.replicate (if its.toArray.isEmpty = true then 0 else k.toNat) its.toArray) = (List.replicate k.toNat its).flatten.toArray := by
    have f0 : ∀ m : Nat, List.foldl (fun x1 x2 => x1 ++ x2) #[] (List.replicate m its.toArray) = (List.replicate m its).flatten.toArray := fun m => by
      have := foldl_rep its m []
      rw [List.nil_append] at this
      exact this
    rw [f0]
    cases its with
    | nil => simp
    | cons a r' => rw [if_neg (by simp)]
  refine wpAny_binaryOp_repeat_ref (T := "list") (U := "int") (by decide) ⟨_, e, rfl⟩ (fun s' => typeIs_int s' k t) noFill_list_mul F.fills_int_mul F.slot_int_rmul repeat_list F.slot_int_index.lookup
    (call_meets F.slot_int_rmul (typeIs_int s k t) F.entry_int_rmul (F.args_int_rmul_2 _ _) (int___rmul___int_list k t l its.toArray n)
      ⟨e, rfl, ⟨_, e, rfl⟩, call_meets F.slot_list_mul ⟨_, e, rfl⟩ F.entry_list_mul (F.args_list_mul_2 _ _) (AutoListH.list___mul___list_int_3 l its.toArray n k t hfit hcap hlong) ⟨e, ?_⟩⟩)
  rw [hnew]
  exact ⟨.ref _, _, I.lnew (t' := s.toks) (r.rep k.toNat) (by rw [PyProof.Rows.lm_len_rep_flat, Nat.mul_comm]; exact hz), rfl, q _ I.fresh⟩
def Op2.py : Op2 → Operator
  | .add => .Add | .sub => .Sub | .mul => .Mult | .fdiv => .FloorDiv | .mod => .Mod | .pow => .Pow | .shl => .LShift | .shr => .RShift | .band => .BitAnd | .bor => .BitOr | .bxor => .BitXor
section
variable {X : Cx}
theorem small_of {i : Int} (h : small64 i = true) : -(2 ^ 64) < i ∧ i < 2 ^ 64 := by
  unfold small64 at h
  simpa using h
theorem op_mulA : OpR X (binaryOp .Mult) (rI (fun i j => (small64 i || small64 j || decide (i.natAbs.log2 + j.natAbs.log2 < 1000000)) = true) fun i j => .int (i * j)) := by
  intro pins s σ H x y v u Q I rx ry h
  obtain ⟨i, j, rfl, rfl, hc, q⟩ := h
  simp only [Bool.or_eq_true, decide_eq_true_eq] at hc
  rcases hc with (hc | hc) | hc
  · exact op_mul pins s σ H _ _ v u Q I rx ry ⟨i, j, rfl, rfl, .inl (small_of hc), q⟩
  · exact op_mul pins s σ H _ _ v u Q I rx ry ⟨i, j, rfl, rfl, .inr (small_of hc), q⟩
  · exact op_mulW pins s σ H _ _ v u Q I rx ry ⟨i, j, rfl, rfl, hc, q⟩
theorem op_fdivA : OpR X (binaryOp .FloorDiv) (rI (fun _ j => 0 < j ∧ (j < 1073741824 ∨ j.natAbs.log2 < 9000)) fun i j => .int (i / j)) := by
  intro pins s σ H x y v u Q I rx ry h
  obtain ⟨i, j, rfl, rfl, ⟨h0, hc⟩, q⟩ := h
  rcases hc with hc | hc
  · exact op_fdiv pins s σ H _ _ v u Q I rx ry ⟨i, j, rfl, rfl, ⟨h0, hc⟩, q⟩
  · exact op_fdivW pins s σ H _ _ v u Q I rx ry ⟨i, j, rfl, rfl, ⟨h0, hc⟩, q⟩
theorem opR2 (op : Op2) : OpR X (binaryOp op.py) (rOp2 X.K op) := by
  cases op with
  | add =>
    refine OpR.imp (((((op_add (X := X)).or op_add_ib).or op_add_str).or op_catF).or op_catL) fun x y H Q h => ?_
    obtain ⟨d, e, r, vd, ve, ho, q⟩ := h
    cases d with
    | int i =>
      cases e with
      | int j => cases ho; exact .inl (.inl (.inl (.inl ⟨i, j, vd.int, ve.int, q _ _ (res_here rfl)⟩)))
      | bl j => cases ho; exact .inl (.inl (.inl (.inr ⟨i, j, vd.int, ve.bl, q _ _ (res_here rfl)⟩)))
      | _ => cases ho
    | str i =>
      cases e with
      | str j =>
        simp only [op2] at ho
        split at ho
        · rename_i hz
          cases ho
          exact .inl (.inl (.inr ⟨i, j, vd.str, ve.str, by rw [← line_eq]; exact hz, q _ _ (res_here rfl)⟩))
        · cases ho
      | _ => cases ho
    | tup ds =>
      cases e with
      | tup es =>
        simp only [op2] at ho
        split at ho
        · rename_i hz
          cases ho
          obtain ⟨p, vs, rfl, t, rd⟩ := vd.tup
          obtain ⟨p2, vs2, rfl, t2, rd2⟩ := ve.tup
          exact .inl (.inr ⟨p, p2, vs, vs2, ds, es, rfl, rfl, t, t2, rd, rd2, by rw [← line_eq, rd.length, rd2.length]; exact hz, q⟩)
        · cases ho
      | _ => cases ho
    | lst ds =>
      cases e with
      | lst es =>
        simp only [op2] at ho
        split at ho
        · rename_i hz
          cases ho
          obtain ⟨p, vs, rfl, t, rd⟩ := vd.lst
          obtain ⟨p2, vs2, rfl, t2, rd2⟩ := ve.lst
          exact .inr ⟨p, p2, vs, vs2, rfl, rfl, t, t2, by rw [← line_eq, rd.length, rd2.length]; exact hz, fun p n => q _ _ (res_lst (rd.append rd2) n)⟩
        · cases ho
      | _ => cases ho
    | _ => cases ho
  | mul =>
    refine OpR.imp (((op_mulA (X := X)).or op_repF).or op_repL) fun x y H Q h => ?_
    obtain ⟨d, e, r, vd, ve, ho, q⟩ := h
    cases d with
    | int i =>
      cases e with
      | int j =>
        simp only [op2] at ho
        split at ho
        · rename_i hz
          cases ho
          exact .inl (.inl ⟨i, j, vd.int, ve.int, hz, q _ _ (res_here rfl)⟩)
        · cases ho
      | _ => cases ho
    | tup ds =>
      cases e with
      | int k =>
        simp only [op2] at ho
        split at ho
        · rename_i hz
          cases ho
          obtain ⟨p, vs, rfl, t, rd⟩ := vd.tup
          exact .inl (.inr ⟨p, k, vs, ds, rfl, ve.int, t, rd, hz.2.1, hz.2.2, by rw [← line_eq, rd.length]; exact hz.1, q⟩)
        · cases ho
      | _ => cases ho
    | lst ds =>
      cases e with
      | int k =>
        simp only [op2] at ho
        split at ho
        · rename_i hz
          cases ho
          obtain ⟨p, vs, rfl, t, rd⟩ := vd.lst
          exact .inr ⟨p, k, vs, rfl, ve.int, t, hz.2.1, hz.2.2, by rw [← line_eq, rd.length]; exact hz.1, fun p n => q _ _ (res_lst (rd.rep _) n)⟩
        · cases ho
      | _ => cases ho
    | _ => cases ho
  | sub =>
    refine OpR.imp (op_sub (X := X)) fun x y H Q h => ?_
    obtain ⟨d, e, r, vd, ve, ho, q⟩ := h
    cases d <;> cases e <;> first | (cases ho; done) | (cases ho; exact ⟨_, _, vd.int, ve.int, q _ _ (res_here rfl)⟩)
  | fdiv =>
    refine OpR.imp (op_fdivA (X := X)) fun x y H Q h => ?_
    obtain ⟨d, e, r, vd, ve, ho, q⟩ := h
    cases d <;> cases e <;> first | (cases ho; done) | (simp only [op2] at ho; split at ho <;> first | (cases ho; done) | (rename_i hz; cases ho; exact ⟨_, _, vd.int, ve.int, hz, q _ _ (res_here rfl)⟩))
  | mod =>
    refine OpR.imp (op_mod (X := X)) fun x y H Q h => ?_
    obtain ⟨d, e, r, vd, ve, ho, q⟩ := h
    cases d <;> cases e <;> first | (cases ho; done) | (simp only [op2] at ho; split at ho <;> first | (cases ho; done) | (rename_i hz; cases ho; exact ⟨_, _, vd.int, ve.int, hz, q _ _ (res_here rfl)⟩))
  | pow =>
    refine OpR.imp (op_pow (X := X)) fun x y H Q h => ?_
    obtain ⟨d, e, r, vd, ve, ho, q⟩ := h
    cases d <;> cases e <;> first | (cases ho; done) | (simp only [op2] at ho; split at ho <;> first | (cases ho; done) | (rename_i hz; cases ho; exact ⟨_, _, vd.int, ve.int, hz, q _ _ (res_here rfl)⟩))
  | shl =>
    refine OpR.imp (op_shlW (X := X)) fun x y H Q h => ?_
    obtain ⟨d, e, r, vd, ve, ho, q⟩ := h
    cases d <;> cases e <;> first | (cases ho; done) | (simp only [op2] at ho; split at ho <;> first | (cases ho; done) | (rename_i hz; cases ho; exact ⟨_, _, vd.int, ve.int, hz, q _ _ (res_here rfl)⟩))
  | shr =>
    refine OpR.imp (op_shr (X := X)) fun x y H Q h => ?_
    obtain ⟨d, e, r, vd, ve, ho, q⟩ := h
    cases d <;> cases e <;> first | (cases ho; done) | (simp only [op2] at ho; split at ho <;> first | (cases ho; done) | (rename_i hz; cases ho; exact ⟨_, _, vd.int, ve.int, hz, q _ _ (res_here rfl)⟩))
  | band =>
    refine OpR.imp (op_and (X := X)) fun x y H Q h => ?_
    obtain ⟨d, e, r, vd, ve, ho, q⟩ := h
    cases d <;> cases e <;> first | (cases ho; done) | (cases ho; exact ⟨_, _, vd.int, ve.int, q _ _ (res_here rfl)⟩)
  | bor =>
    refine OpR.imp (op_or (X := X)) fun x y H Q h => ?_
    obtain ⟨d, e, r, vd, ve, ho, q⟩ := h
    cases d <;> cases e <;> first | (cases ho; done) | (cases ho; exact ⟨_, _, vd.int, ve.int, q _ _ (res_here rfl)⟩)
  | bxor =>
    refine OpR.imp (op_xor (X := X)) fun x y H Q h => ?_
    obtain ⟨d, e, r, vd, ve, ho, q⟩ := h
    cases d <;> cases e <;> first | (cases ho; done) | (cases ho; exact ⟨_, _, vd.int, ve.int, q _ _ (res_here rfl)⟩)
end

/-! ### comparisons -/
def Cm.py : Cm → CmpOp
  | .eq => .Eq | .ne => .NotEq | .lt => .Lt | .le => .LtE | .gt => .Gt | .ge => .GtE | .isin => .In | .notin => .NotIn | .is => .Is | .isnot => .IsNot
def rCm (K : PySem.W.Frag) (op : Cm) : R2 := fun x y H Q => ∃ d e b, VwR K H d x ∧ VwR K H e y ∧ cm op d e = some b ∧ Q (.bl b) H
theorem pys_map : ∀ ds : List D, D.pys ds = ds.map D.py
  | [] => rfl
  | d :: ds => by rw [List.map_cons, ← pys_map ds]; rfl
theorem memD_py (x : D) (ys : List D) : ((D.pys ys).any fun z => PyData.eqv z x.py) = memD x ys := by
  rw [pys_map, List.any_map]
  rfl
section
variable {X : Cx}
/-- in, not in, of a tuple -/
def rInT (K : PySem.W.Frag) (neg : Bool) : R2 := fun x y H Q => ∃ d ds, Dp K H x d ∧ Dp K H y (.tuple ds) ∧ SeqAt.shaped d = true ∧ SeqAt.shaped (.tuple ds) = true ∧ Q (.bl (if neg then !ds.any fun z => PyData.eqv z d else ds.any fun z => PyData.eqv z d)) H
theorem op_inT (hu : X.A.units + 65 < cLine) : OpR X (compareOp .In) (rInT X.K false) := by
  intro pins s σ H x y v u Q I rx ry h
  obtain ⟨d, ds, hd, he, sd, se, q⟩ := h
  obtain ⟨as, r1⟩ := Dp.reads I d x v hd rx
  obtain ⟨bs, r2⟩ := Dp.reads I (.tuple ds) y u he ry
  exact SeqAt.in_tuple_reads r2 r1 (SeqAt.canLay_of_shaped se) (SeqAt.canLay_of_shaped sd) (room_in_shaped sd hu) ⟨.bl _, H, I, rfl, q⟩
theorem op_notInT (hu : X.A.units + 65 < cLine) : OpR X (compareOp .NotIn) (rInT X.K true) := by
  intro pins s σ H x y v u Q I rx ry h
  obtain ⟨d, ds, hd, he, sd, se, q⟩ := h
  obtain ⟨as, r1⟩ := Dp.reads I d x v hd rx
  obtain ⟨bs, r2⟩ := Dp.reads I (.tuple ds) y u he ry
  exact SeqAt.notIn_tuple_reads r2 r1 (SeqAt.canLay_of_shaped se) (SeqAt.canLay_of_shaped sd) (room_in_shaped sd hu) ⟨.bl _, H, I, rfl, q⟩
theorem VwR.dec_non {K : PySem.W.Frag} {H : Hp} {d : D} {v : V} (h : VwR K H d v) : decide (v = .non) = d.isNon := by
  cases d with
  | non => rw [h.non]; rfl
  | bl b => rw [h.bl]; rfl
  | int b => rw [h.int]; rfl
  | str b => rw [h.str]; rfl
  | tup ds => obtain ⟨p, vs, rfl, _⟩ := h.tup; rfl
  | lst ds => obtain ⟨p, vs, rfl, _⟩ := h.lst; rfl
  | set ds => rcases h with h | ⟨p, rfl, h⟩ <;> exact h.elim
  | dct ds es => rcases h with h | ⟨p, rfl, h⟩ <;> exact h.elim
  | fn f => rcases h with h | ⟨p, rfl, h⟩ <;> exact h.elim
/-- <, >, <=, >= of data of one kind -/
def rOrd (K : PySem.W.Frag) (f : PyData → PyData → Bool) : R2 := fun x y H Q => ∃ d e, Dp K H x d ∧ Dp K H y e ∧ PySem.W.alike d e = true ∧ d ≠ .none ∧ SeqAt.shaped d = true ∧ Q (.bl (f d e)) H
theorem op_ord (hu : X.A.units + 64 < cLine) {o : CmpOp} {f : PyData → PyData → Bool} (h : ∀ {s : Shared} {a b : Value} {da db : PyData} {as bs : List Addr} {Q : Value → Shared → Prop}, Reads s.heap a da as → Reads s.heap b db bs → PySem.W.alike da db = true → da ≠ .none →
    X.A.units + min da.depth db.depth < cLine → Q (.bool (f da db)) s → wpAny (model X.prog X.w) X.A (compareOp o a b) Q X.xe s) : OpR X (compareOp o) (rOrd X.K f) := by
  intro pins s σ H x y v u Q I rx ry ⟨d, e, hd, he, al, ne, sh, q⟩
  obtain ⟨as, r1⟩ := Dp.reads I d x v hd rx
  obtain ⟨bs, r2⟩ := Dp.reads I e y u he ry
  exact h r1 r2 al ne (SeqAt.room_of_shaped sh hu) ⟨.bl _, H, I, rfl, q⟩
theorem VwR.alk {K : PySem.W.Frag} {H : Hp} {xs ys : List D} {x y : V} (h : VwR K H (.tup xs) x) (h2 : VwR K H (.tup ys) y) (a : alk (.tup xs) (.tup ys) = true) :
    ∃ d e, d = (D.tup xs).py ∧ e = (D.tup ys).py ∧ Dp K H x d ∧ Dp K H y e ∧ PySem.W.alike d e = true ∧ d ≠ .none ∧ SeqAt.shaped d = true := by
  unfold PF.alk at a
  rw [Bool.and_eq_true] at a
  obtain ⟨p, vs, rfl, t, rd⟩ := h.tup
  obtain ⟨p2, vs2, rfl, t2, rd2⟩ := h2.tup
  exact ⟨_, _, rfl, rfl, .tup t.sq rd.dp, .tup t2.sq rd2.dp, a.1, (fun z => by simp [D.py] at z), a.2⟩
theorem cmR (hu : X.A.units + 65 < cLine) (op : Cm) : OpR X (compareOp op.py) (rCm X.K op) := by
  have hu0 : X.A.units < cLine := by omega
  have hu1 : X.A.units + 64 < cLine := by omega
  cases op with
  | eq =>
    refine OpR.imp (op_eqD hu1) fun x y H Q h => ?_
    obtain ⟨d, e, b, vd, ve, ho, q⟩ := h
    simp only [cm] at ho
    split at ho
    · rename_i hs
      rw [Bool.and_eq_true] at hs
      cases ho
      exact ⟨_, _, vd.dp hs.1, ve.dp hs.2, hs.1, hs.2, q⟩
    · cases ho
  | ne =>
    refine OpR.imp (op_neD hu1) fun x y H Q h => ?_
    obtain ⟨d, e, b, vd, ve, ho, q⟩ := h
    simp only [cm] at ho
    split at ho
    · rename_i hs
      rw [Bool.and_eq_true] at hs
      cases ho
      exact ⟨_, _, vd.dp hs.1, ve.dp hs.2, hs.1, hs.2, q⟩
    · cases ho
  | lt =>
    refine OpR.imp (((op_lt (X := X)).or (op_ltT hu0)).or (op_ord hu1 (o := .Lt) (f := PySem.W.dataLt) PySem.W.lt_data)) fun x y H Q h => ?_
    obtain ⟨d, e, b, vd, ve, ho, q⟩ := h
    cases d with
    | int i =>
      cases e with
      | int j => cases ho; exact .inl (.inl ⟨i, j, vd.int, ve.int, q⟩)
      | _ => cases ho
    | tup ds =>
      cases e with
      | tup es =>
        simp only [cm] at ho
        split at ho
        · rename_i a b e1 e2
          cases ho
          obtain ⟨p, vs, rfl, t, rd⟩ := vd.tup
          obtain ⟨p2, vs2, rfl, t2, rd2⟩ := ve.tup
          have h1 := rd.intsD e1
          have h2 := rd2.intsD e2
          subst h1 h2
          exact .inl (.inr ⟨p, p2, _, _, rfl, rfl, t.sq, t2.sq, q⟩)
        · split at ho
          · rename_i ha
            cases ho
            obtain ⟨d, e, rfl, rfl, r1, r2, r3, r4, r5⟩ := vd.alk ve ha
            exact .inr ⟨_, _, r1, r2, r3, r4, r5, q⟩
          · cases ho
      | _ => cases ho
    | _ => cases ho
  | le =>
    refine OpR.imp ((op_le (X := X)).or (op_ord hu1 (o := .LtE) (f := fun a b => !PySem.W.dataLt b a) PySem.W.le_data)) fun x y H Q h => ?_
    obtain ⟨d, e, b, vd, ve, ho, q⟩ := h
    cases d <;> cases e <;> first | (cases ho; done) | (cases ho; exact .inl ⟨_, _, vd.int, ve.int, q⟩) | skip
    simp only [cm] at ho
    split at ho
    · rename_i ha
      cases ho
      obtain ⟨d, e, rfl, rfl, r1, r2, r3, r4, r5⟩ := vd.alk ve ha
      exact .inr ⟨_, _, r1, r2, r3, r4, r5, q⟩
    · cases ho
  | gt =>
    refine OpR.imp ((op_gt (X := X)).or (op_ord hu1 (o := .Gt) (f := fun a b => PySem.W.dataLt b a) PySem.W.gt_data)) fun x y H Q h => ?_
    obtain ⟨d, e, b, vd, ve, ho, q⟩ := h
    cases d <;> cases e <;> first | (cases ho; done) | (cases ho; exact .inl ⟨_, _, vd.int, ve.int, q⟩) | skip
    simp only [cm] at ho
    split at ho
    · rename_i ha
      cases ho
      obtain ⟨d, e, rfl, rfl, r1, r2, r3, r4, r5⟩ := vd.alk ve ha
      exact .inr ⟨_, _, r1, r2, r3, r4, r5, q⟩
    · cases ho
  | ge =>
    refine OpR.imp ((op_ge (X := X)).or (op_ord hu1 (o := .GtE) (f := fun a b => !PySem.W.dataLt a b) PySem.W.ge_data)) fun x y H Q h => ?_
    obtain ⟨d, e, b, vd, ve, ho, q⟩ := h
    cases d <;> cases e <;> first | (cases ho; done) | (cases ho; exact .inl ⟨_, _, vd.int, ve.int, q⟩) | skip
    simp only [cm] at ho
    split at ho
    · rename_i ha
      cases ho
      obtain ⟨d, e, rfl, rfl, r1, r2, r3, r4, r5⟩ := vd.alk ve ha
      exact .inr ⟨_, _, r1, r2, r3, r4, r5, q⟩
    · cases ho
  | isin =>
    refine OpR.imp ((op_inD hu).or (op_inT hu)) fun x y H Q h => ?_
    obtain ⟨d, e, b, vd, ve, ho, q⟩ := h
    cases e with
    | lst es =>
      simp only [cm] at ho
      split at ho
      · rename_i hs
        rw [Bool.and_eq_true] at hs
        cases ho
        refine .inl ⟨_, _, vd.dp hs.1, ve.dp hs.2, hs.1, hs.2, ?_⟩
        rw [memD_py]; exact q
      · cases ho
    | tup es =>
      simp only [cm] at ho
      split at ho
      · rename_i hs
        rw [Bool.and_eq_true] at hs
        cases ho
        refine .inr ⟨_, _, vd.dp hs.1, ve.dp hs.2, hs.1, hs.2, ?_⟩
        rw [memD_py]; exact q
      · cases ho
    | _ => cases ho
  | notin =>
    refine OpR.imp ((op_notInD hu).or (op_notInT hu)) fun x y H Q h => ?_
    obtain ⟨d, e, b, vd, ve, ho, q⟩ := h
    cases e with
    | lst es =>
      simp only [cm] at ho
      split at ho
      · rename_i hs
        rw [Bool.and_eq_true] at hs
        cases ho
        refine .inl ⟨_, _, vd.dp hs.1, ve.dp hs.2, hs.1, hs.2, ?_⟩
        rw [memD_py]; exact q
      · cases ho
    | tup es =>
      simp only [cm] at ho
      split at ho
      · rename_i hs
        rw [Bool.and_eq_true] at hs
        cases ho
        refine .inr ⟨_, _, vd.dp hs.1, ve.dp hs.2, hs.1, hs.2, ?_⟩
        rw [memD_py]; exact q
      · cases ho
    | _ => cases ho
  | is =>
    refine OpR.imp (op_isN (X := X)) fun x y H Q h => ?_
    obtain ⟨d, e, b, vd, ve, ho, q⟩ := h
    cases e with
    | non =>
      simp only [cm] at ho
      cases ho
      refine ⟨ve.non, ?_⟩
      rw [vd.dec_non]; exact q
    | _ => cases ho
  | isnot =>
    refine OpR.imp (op_notN (X := X)) fun x y H Q h => ?_
    obtain ⟨d, e, b, vd, ve, ho, q⟩ := h
    cases e with
    | non =>
      simp only [cm] at ho
      cases ho
      refine ⟨ve.non, ?_⟩
      rw [vd.dec_non]; exact q
    | _ => cases ho
end

/-! ### subscripts -/
def rIdx (K : PySem.W.Frag) : R2 := fun x y H Q => ∃ d e r, VwR K H d x ∧ VwR K H e y ∧ idxD d e = some r ∧ ∀ v, Rp K H r v → Q v H
theorem atD_rp {K : PySem.W.Frag} {H : Hp} {ds : List D} {vs : List V} {i : Int} {r : D} (h : Rps K H ds vs) (e : atD ds i = some r) : ∃ v, atI vs i = some v ∧ Rp K H r v := by
  unfold atD atI at e
  rw [← h.length] at e
  cases e2 : ixN vs.length i with
  | none => rw [e2] at e; cases e
  | some j =>
    rw [e2] at e
    obtain ⟨v, e3, rv⟩ := h.get (show ds[j]? = some r from e)
    exact ⟨v, by unfold atI; rw [e2]; exact e3, rv⟩
section
variable {X : Cx}
theorem idxR : IxR X (rIdx X.K) := by
  intro value slice pins s σ H x y v u Q I rx ry h hs
  obtain ⟨d, e, r, vd, ve, ho, q⟩ := h
  cases d with
  | tup ds =>
    cases e with
    | int i =>
      obtain ⟨p, vs, rfl, t, rd⟩ := vd.tup
      obtain ⟨z, e1, rz⟩ := atD_rp rd ho
      exact ix_tup value slice pins s σ H _ y v u Q I rx ry ⟨p, vs, i, z, rfl, ve.int, t.sq, e1, q z rz⟩ hs
    | _ => cases ho
  | lst ds =>
    cases e with
    | int i =>
      obtain ⟨p, vs, rfl, t, rd⟩ := vd.lst
      obtain ⟨z, e1, rz⟩ := atD_rp rd ho
      exact ix_list value slice pins s σ H _ y v u Q I rx ry ⟨p, vs, i, z, rfl, ve.int, .inl t, e1, q z rz⟩ hs
    | _ => cases ho
  | _ => cases ho
def rSlc (K : PySem.W.Frag) : V → Option Int → Option Int → Hp → VK → Prop := fun x lo hi H Q => ∃ d r, VwR K H d x ∧ slcD d lo hi = some r ∧ ∀ v H', ResR K H r v H' → Q v H'
theorem cut_rp {K : PySem.W.Frag} {H : Hp} {ds : List D} {vs : List V} (h : Rps K H ds vs) (lo hi : Option Int) : Rps K H (cut ds lo hi) (cutV vs lo hi) := by
  unfold cut cutV
  rw [← h.length]
  exact (h.drop _).take _
theorem slcR : SlR X (rSlc X.K) := by
  intro pins s σ H x v vl vu lo hi sl Q I rx hs pl pu h
  obtain ⟨d, r, vd, ho, q⟩ := h
  cases d with
  | lst ds =>
    cases ho
    obtain ⟨p, vs, rfl, t, rd⟩ := vd.lst
    exact sl_list pins s σ H _ v vl vu lo hi sl Q I rx hs pl pu ⟨p, vs, rfl, .inl t, fun p n => q _ _ (res_lst (cut_rp rd lo hi) n)⟩
  | tup ds =>
    cases ho
    obtain ⟨a, xs, rfl, t, rd⟩ := vd.tup
    cases rx
    obtain ⟨its, r, ht, hz⟩ := I.tuple t.sq
    have hlen : its.toArray.size = xs.length := by rw [List.size_toArray]; exact r.length.symm
    refine ⟨"tuple", _, PyProof.Rows.slot_tuple_getitem.lookup, ht.typeIs, ?_⟩
    by_cases hw : HT.sIx xs.length 0 lo = 0 ∧ HT.sIx xs.length xs.length hi = xs.length
    · refine getItem_tuple_whole ht hs pl pu (by rw [hlen]; exact hw) ⟨.ref a, H, I, rfl, q _ _ ?_⟩
      have e : cut ds lo hi = ds := by
        unfold cut
        show (ds.drop (HT.sIx ds.length 0 lo)).take (HT.sIx ds.length ds.length hi - HT.sIx ds.length 0 lo) = ds
        rw [← rd.length, hw.1, hw.2, rd.length]
        simp
      rw [e]
      exact res_tup_at t rd
    · refine HT.getItem_tuple_cut ht hs pl pu (by rw [hlen]; exact hw) ?_ (by rw [hlen]; exact hz)
      rw [hlen]
      exact ep_tup (t' := s.toks) I ((r.drop (HT.sIx xs.length 0 lo)).take (HT.sIx xs.length xs.length hi - HT.sIx xs.length 0 lo)) (Nat.le_trans (cutV_length xs lo hi) hz) (cut_rp rd lo hi) q
  | _ => cases ho
end
/-! ### t[::-1] -/
theorem fm_congr {α β : Type} {f g : α → Option β} : ∀ {l : List α}, (∀ x ∈ l, f x = g x) → l.filterMap f = l.filterMap g
  | [], _ => rfl
  | x :: xs, h => by
    rw [List.filterMap_cons, List.filterMap_cons, h x List.mem_cons_self, fm_congr fun y hy => h y (List.mem_cons_of_mem _ hy)]
section
variable {prog : Program} {w : World} {A : Around} {E : Value → Shared → Prop} {s : Shared}
theorem getItem_tuple_back {t sl : Addr} {items : Array Value} {vs : Value} {Q : Value → Shared → Prop} (ht : IsTup s.heap t items) (hs : s.heap.IsSliceOf sl .none .none vs) (ps : IsPart vs (some (-1)))
    (h : Q (.ref s.heap.objs.size) { s with heap := s.heap.push { cls := .type "tuple", data := .seq items.toList.reverse.toArray } })
    (hsz : items.size ≤ sizeLine) : wpAny (model prog w) A (getItem (.ref t) (.ref sl)) Q E s := by
  obtain ⟨os, hos, hcs, hds⟩ := id hs
  have hTs : s.TypeIs (.ref sl) "slice" := ⟨os, hos, hcs⟩
  unfold getItem
  try with_reducible refine wpAny_holding ?_
  first | refine wpAny_bind (wpAny_pure ?_) | skip
  refine wpAny_bind (wpAny_sequenceKey ht.typeIs (by decide) ?_)
  refine wpAny_bind (wpAny_callSpecial?_slot (name := Str.ofString "__getitem__") ht.typeIs PyProof.Rows.slot_tuple_getitem
    (wpAny_call_entry PyProof.Rows.slot_tuple_getitem ht.typeIs entry_tuple_getitem ?_ (args_tuple_getitem _ _)))
  show wpAny _ _ (Builtin.Tuple.tupleItemsOf (.ref t) >>= _) _ _ s
  refine wpAny_bind (tupleItemsOf_ ht ?_)
  refine wpAny_bind (wpAny_typeOf hTs ?_)
  rw [if_pos (by decide)]
  have happ : ∀ (A' : Around) (Q' : Int × Int × Nat → Shared → Prop), Q' ((items.size : Int) - 1, -1, items.size) s → wpAny (model prog w) A' (Builtin.Slice.sliceApplied (.ref sl) (pure (items.size : Int))) Q' E s := by
    intro A' Q' hq
    unfold Builtin.Slice.sliceApplied Builtin.Slice.sliceFields
    refine wpAny_bind (wpAny_bind (wpAny_field hos hds (x := .none) rfl (wpAny_bind (wpAny_field hos hds (x := .none) rfl (wpAny_bind (wpAny_field hos hds (x := vs) rfl (wpAny_pure ?_)))))))
    refine wpAny_bind (HT.slicePart_ ps ?_)
    show wpAny _ _ (if ((-1 : Int) == 0) = true then _ else _) _ _ s
    rw [if_neg (by decide)]
    refine wpAny_bind (HT.slicePart_ .none (wpAny_bind (HT.slicePart_ .none (wpAny_bind (wpAny_pure ?_)))))
    show wpAny _ _ (match Builtin.Slice.sliceAdjust none none (-1) (items.size : Int) with | (lo, hi) => pure (lo, (-1 : Int), Builtin.Slice.slicePlaces lo hi (-1))) _ _ s
    have e1 : Builtin.Slice.sliceAdjust none none (-1) (items.size : Int) = ((items.size : Int) - 1, -1) := rfl
    rw [e1]
    show wpAny _ _ (pure ((items.size : Int) - 1, (-1 : Int), Builtin.Slice.slicePlaces ((items.size : Int) - 1) (-1) (-1))) _ _ s
    have e2 : Builtin.Slice.slicePlaces ((items.size : Int) - 1) (-1) (-1) = items.size := by
      unfold Builtin.Slice.slicePlaces
      rw [if_neg (by decide)]
      by_cases h0 : (items.size : Int) - 1 > -1
      · rw [if_pos h0]
        have : ((items.size : Int) - 1 - -1 - 1) / - -1 + 1 = items.size := by
          rw [show (- -1 : Int) = 1 from rfl, Int.ediv_one]; omega
        rw [this, Int.toNat_natCast]
      · rw [if_neg h0]
        have : items.size = 0 := by omega
        rw [this]; rfl
    rw [e2]
    exact wpAny_pure hq
  refine wpAny_bind (happ _ _ ?_)
  have hno : ¬ (((items.size : Int) - 1 == 0 && (-1 : Int) == 1 && items.size == items.size) = true) := by simp
  show wpAny _ _ (if ((items.size : Int) - 1 == 0 && (-1 : Int) == 1 && items.size == items.size) = true then _ else _) _ _ s
  rw [if_neg hno]
  have hpick : ((List.range items.size).filterMap fun (k : Nat) => items[((items.size : Int) - 1 + (k : Int) * -1).toNat]?).toArray = items.toList.reverse.toArray := by
    have e : (List.range items.size).filterMap (fun (k : Nat) => items[((items.size : Int) - 1 + (k : Int) * -1).toNat]?) = ((List.range items.size).map fun k => items.size - 1 - k).filterMap (items[·]?) := by
      rw [List.filterMap_map]
      refine fm_congr fun k hk => ?_
      have hk' := List.mem_range.mp hk
      show items[((items.size : Int) - 1 + (k : Int) * -1).toNat]? = items[items.size - 1 - k]?
      rw [show ((items.size : Int) - 1 + (k : Int) * -1).toNat = items.size - 1 - k by omega]
    rw [e, PySem.W.krv_range, List.filterMap_reverse, PySem.W.krv_all]
  rw [hpick]
  have htake : sizeOk (.seq items.toList.reverse.toArray) := by
    show items.toList.reverse.toArray.size ≤ sizeLine
    rw [List.size_toArray, List.length_reverse, Array.length_toList]
    exact hsz
  first
    | exact wpAny_bind (m := Builtin.Tuple.tupleExact _) (wpAny_newObj_type (wpAny_pure ⟨_, rfl, wpAny_pure h⟩) htake)
    | exact wpAny_bind (m := Builtin.Tuple.tupleExact _) (wpAny_newObj_type (wpAny_bind (wpAny_pure (wpAny_pure ⟨_, rfl, wpAny_pure h⟩))) htake)
    | exact wpAny_bind (wpAny_bind (m := Builtin.Tuple.tupleExact _) (wpAny_newObj_type (wpAny_pure (wpAny_pure ⟨_, rfl, wpAny_pure h⟩)) htake))
    | exact wpAny_bind (wpAny_bind (m := Builtin.Tuple.tupleExact _) (wpAny_newObj_type (wpAny_pure ⟨_, rfl, wpAny_pure h⟩) htake))
end
def rRev (K : PySem.W.Frag) (x : V) (H : Hp) (Q : VK) : Prop := ∃ d r, VwR K H d x ∧ revD d = some r ∧ ∀ v H', ResR K H r v H' → Q v H'
theorem pe_rev {X : Cx} {e : Expr} {te : TE} {k : Nat} {p1 p2 p3 pos : Pos} (he : PE X e te) : PE X (.Subscript e (.Slice none none (some (.UnaryOp .USub (.Constant (.int 1) k p1) p2)) p3) pos) (fun σ H Q => te σ H fun x H1 => rRev X.K x H1 Q) := by
  refine ⟨fun pins s σ H Q I h => ?_⟩
  refine Subscript_ (thn (he.run pins s σ H _ I h) fun v s1 ⟨x, H1, I1, r1, q1⟩ => ?_)
  obtain ⟨d, res, vd, ho, q⟩ := q1
  have hst : PO X (some (.UnaryOp .USub (.Constant (.int 1) k p1) p2)) (tPart (tUn (rU fun i => .int (-i)) (tC (.int 1)))) := po_some (pe_un un_neg pe_int)
  refine wpAny_Slice (thn (po_none.run pins s1 σ H1 (fun o H2 => o = none ∧ H2 = H1) I1 ⟨rfl, rfl⟩) fun vl s2 ⟨l, H2, I2, pl, el, e2⟩ => ?_)
  subst el e2
  refine thn (po_none.run pins s2 σ H2 (fun o H3 => o = none ∧ H3 = H2) I2 ⟨rfl, rfl⟩) fun vu s3 ⟨u, H3, I3, pu, eu, e3⟩ => ?_
  subst eu e3
  refine thn (hst.run pins s3 σ H3 (fun o H4 => o = some (-1) ∧ H4 = H3) I3 ⟨1, rfl, -1, rfl, rfl, rfl⟩) fun vs s4 ⟨o, H4, I4, ps, eo, e4⟩ => ?_
  subst eo e4
  have I5 : L2.Inv X pins σ H4 { s4 with heap := s4.heap.push { cls := .type "slice", data := .fields #[vl, vu, vs] } } := I4.kept (t' := s4.toks) fun b ob q => Heap.get?_push_of_some _ q
  show wpAny (model X.prog X.w) X.A (subscriptTail e (.Slice none none (some (.UnaryOp .USub (.Constant (.int 1) k p1) p2)) p3) v (.ref s4.heap.objs.size)) (EP X pins σ Q) X.xe { s4 with heap := s4.heap.push { cls := .type "slice", data := .fields #[vl, vu, vs] } }
  cases d with
  | lst ds =>
    cases ho
    obtain ⟨a, xs, rfl, t, rd⟩ := vd.lst
    cases r1
    obtain ⟨its, r, ht, hz⟩ := I5.list (.inl t)
    have hlen := r.length
    refine tail_any (ops := [.ref a, .ref s4.heap.objs.size]) ht.isList.typeIs (PySem.slot_list_getitem.lookup) ?_ (by with_unfolding_all rfl)
    refine wpAny_getItem_list_slice ht.isList (Heap.IsSliceOf.new _ vl vu vs) pl pu ps (by decide) ?_ (by rw [List.size_toArray]; omega)
    rw [PySem.W.krv_pick]
    refine ⟨.ref _, _, I5.laid (t' := s4.toks) (o := .lst xs.reverse) (fun b ob q => Heap.get?_push_of_some _ q) (Nat.le_refl _) ?_, rfl, q _ _ (res_lst rd.reverse (I5.hok.fresh (Nat.le_refl _)))⟩
    exact ⟨by rw [List.length_reverse]; exact hz, _, 0, r.reverse, Heap.get?_push_size _ rfl⟩
  | tup ds =>
    cases ho
    obtain ⟨a, xs, rfl, t, rd⟩ := vd.tup
    cases r1
    obtain ⟨its, r, ht, hz⟩ := I5.tuple t.sq
    have hlen := r.length
    cases pl
    cases pu
    refine tail_any (ops := [.ref a, .ref s4.heap.objs.size]) ht.typeIs PyProof.Rows.slot_tuple_getitem.lookup ?_ (by with_unfolding_all rfl)
    refine getItem_tuple_back ht (Heap.IsSliceOf.new _ .none .none vs) ps ?_ (by rw [List.size_toArray]; omega)
    exact ep_tup (t' := s4.toks) I5 r.reverse (by rw [List.length_reverse]; exact hz) rd.reverse q
  | _ => cases ho

end PF
namespace PF
open PySem PySem.Spec PyProof.Rows L2

/-! ### built-in functions -/
def rBlt (K : PySem.W.Frag) (b : Blt) : List V → Hp → VK → Prop := fun vs H Q => ∃ ds r, VwRs K H ds vs ∧ bltD b ds = some r ∧ ∀ v H', ResR K H r v H' → Q v H'
theorem VwRs.one {K : PySem.W.Frag} {H : Hp} {d : D} {vs : List V} (h : VwRs K H [d] vs) : ∃ v, vs = [v] ∧ VwR K H d v := by
  cases h with
  | cons h t => cases t; exact ⟨_, rfl, h⟩
theorem VwRs.two {K : PySem.W.Frag} {H : Hp} {d e : D} {vs : List V} (h : VwRs K H [d, e] vs) : ∃ v u, vs = [v, u] ∧ VwR K H d v ∧ VwR K H e u := by
  cases h with
  | cons h t =>
    cases t with
    | cons h2 t => cases t; exact ⟨_, _, rfl, h, h2⟩
section
variable {X : Cx}
theorem sum_raw_tup {prog : Program} {w : World} {A : Around} {E : Value → Shared → Prop} {s : Shared} {l : Addr} {its : List Value} {ns : List Int} {Q : Value → Shared → Prop} (hh : A.handled = none) (hl : s.heap.IsTuple l its.toArray) (hi : IntsAre its ns)
    (h : ∀ h' tk t', (∀ b o, s.heap.get? b = some o → h'.get? b = some o) → Q (.int ns.sum t') { s with heap := h', toks := tk }) : wpAny (model prog w) A (call (.builtin "sum") [.ref l]) Q E s := by
  obtain ⟨xs, e⟩ := hi.allInts.items
  have hn : numsOf (intItems xs).toList = ns := by rw [← e]; exact hi.numsOf
  rw [nums_intItems] at hn
  rw [e] at hl
  have hlt : l < s.heap.objs.size := by obtain ⟨_, e, _⟩ := hl; exact Heap.lt_size e
  refine call_sum_walkG (wpAny_pyIter_tuple hl ?_)
  refine ⟨_, _, _, _, _, _, numAt xs, rfl, Walks.tuple (A := A.in1) hh _ l (Nat.ne_of_lt hlt) (intItems xs), ⟨⟨_, Heap.get?_push_size _ rfl, rfl, rfl⟩, hl.push _⟩, fun b hb => ?_, (fun _ _ => intItems_at), fun h' tk t' hk => ?_⟩
  · rw [Heap.size_push]
    rcases List.mem_cons.mp hb with rfl | hb
    · exact Nat.lt_succ_self _
    · rw [List.mem_singleton.mp hb]; exact Nat.lt_succ_of_lt hlt
  · have := h h' tk t' (fun b o eo => hk b o (fun hm => by rw [List.mem_singleton.mp hm] at eo; exact absurd (Heap.lt_size eo) (Nat.lt_irrefl _)) (Heap.get?_push_of_some _ eo))
    rw [preSum_eq, List.take_of_length_le (by simp [intItems])]
    rw [hn]; exact this
def rSumT (K : PySem.W.Frag) : List V → Hp → VK → Prop := fun vs H Q => ∃ (a : Addr) (ns : List Int), vs = [V.ref a] ∧ SqT K H a (ns.map V.int) ∧ Q (.int ns.sum) H
theorem cr_sumT (hc : X.calm = true) : CallR X (.builtin "sum") (rSumT X.K) := by
  intro pins s σ H vs us Q I r h
  obtain ⟨a, ns, rfl, hs, q⟩ := h
  obtain ⟨its, rv, hl, _⟩ := I.tuple hs
  rw [Vals.ref1 r]
  exact sum_raw_tup (I.ok.hd hc) hl rv.ints fun h' tk t' hk => ⟨.int _, H, I.kept hk, ⟨_, rfl⟩, q⟩
/-- tuple(x) -/
def rTupOf (K : PySem.W.Frag) : List V → Hp → VK → Prop := fun vs H Q => ∃ p ys ds, vs = [.ref p] ∧ Rps K H ds ys ∧ (SqL K H p ys ∨ TupAt K H p ys) ∧ ∀ v H', ResR K H (.dat (.tup ds)) v H' → Q v H'
theorem call_tupOf : CallR X (.type "tuple") (rTupOf X.K) := by
  intro pins s σ H xs us Q I r h
  obtain ⟨p, ys, ds, rfl, rd, h, q⟩ := h
  obtain ⟨u, rfl, rx⟩ := vals1 r
  cases rx
  rcases h with hq | hq
  · obtain ⟨its, r', pl, hz⟩ := I.list hq
    have hlen := r'.length
    refine call_tuple_list pl.isList (fun h' kp => ?_) (by simp only [List.size_toArray] <;> omega)
    have I1 : L2.Inv X pins σ H { s with heap := h' } := I.kept (t' := s.toks) kp
    exact ep_tup (s := { s with heap := h' }) (t' := s.toks) I1 r' hz rd q
  · obtain ⟨its, r', pl, hz⟩ := I.tuple hq.sq
    exact call_tuple_same pl ⟨.ref p, H, I, rfl, q _ _ (res_tup_at hq rd)⟩
theorem bltR_len : CallR X (.builtin "len") (rBlt X.K .len) := by
  refine CallR.imp ((call_len_seq (X := X)).or call_len_str) fun vs H Q h => ?_
  obtain ⟨ds, r, hv, ho, q⟩ := h
  match ds, hv, ho with
  | [.tup xs], hv, ho =>
    cases ho
    obtain ⟨v, rfl, hw⟩ := hv.one
    obtain ⟨p, vs, rfl, t, rd⟩ := hw.tup
    exact .inl ⟨p, vs, rfl, .inr t.sq, by rw [rd.length]; exact q _ _ (res_here rfl)⟩
  | [.lst xs], hv, ho =>
    cases ho
    obtain ⟨v, rfl, hw⟩ := hv.one
    obtain ⟨p, vs, rfl, t, rd⟩ := hw.lst
    exact .inl ⟨p, vs, rfl, .inl (.inl t), by rw [rd.length]; exact q _ _ (res_here rfl)⟩
  | [.str z], hv, ho =>
    simp only [bltD] at ho
    split at ho
    · rename_i hz
      cases ho
      obtain ⟨v, rfl, hw⟩ := hv.one
      exact .inr ⟨z, by rw [hw.str], by rw [← line_eq]; exact hz, q _ _ (res_here rfl)⟩
    · cases ho
theorem bltR_sum (hc : X.calm = true) : CallR X (.builtin "sum") (rBlt X.K .sum) := by
  refine CallR.imp ((cr_sum hc).or (cr_sumT hc)) fun vs H Q h => ?_
  obtain ⟨ds, r, hv, ho, q⟩ := h
  match ds, hv, ho with
  | [.tup xs], hv, ho =>
    obtain ⟨ns, e, rfl⟩ := Option.map_eq_some_iff.mp ho
    obtain ⟨v, rfl, hw⟩ := hv.one
    obtain ⟨p, vs, rfl, t, rd⟩ := hw.tup
    have e2 := rd.intsD e
    subst e2
    exact .inr ⟨p, ns, rfl, t.sq, q _ _ (res_here rfl)⟩
  | [.lst xs], hv, ho =>
    obtain ⟨ns, e, rfl⟩ := Option.map_eq_some_iff.mp ho
    obtain ⟨v, rfl, hw⟩ := hv.one
    obtain ⟨p, vs, rfl, t, rd⟩ := hw.lst
    have e2 := rd.intsD e
    subst e2
    exact .inl ⟨p, ns, rfl, .inl t, q _ _ (res_here rfl)⟩
theorem bltR_abs : CallR X (.builtin "abs") (rBlt X.K .abs) := by
  refine CallR.imp (call_abs (X := X)) fun vs H Q h => ?_
  obtain ⟨ds, r, hv, ho, q⟩ := h
  match ds, hv, ho with
  | [.int i], hv, ho =>
    cases ho
    obtain ⟨v, rfl, hw⟩ := hv.one
    exact ⟨i, by rw [hw.int], q _ _ (res_here rfl)⟩
theorem bltR_int : CallR X (.type "int") (rBlt X.K .int) := by
  refine CallR.imp (call_int1 (X := X)) fun vs H Q h => ?_
  obtain ⟨ds, r, hv, ho, q⟩ := h
  match ds, hv, ho with
  | [.int i], hv, ho =>
    cases ho
    obtain ⟨v, rfl, hw⟩ := hv.one
    exact .inl ⟨i, by rw [hw.int], q _ _ (res_here rfl)⟩
  | [.bl i], hv, ho =>
    cases ho
    obtain ⟨v, rfl, hw⟩ := hv.one
    exact .inr ⟨i, by rw [hw.bl], q _ _ (res_here rfl)⟩
theorem bltR_tuple : CallR X (.type "tuple") (rBlt X.K .tuple) := by
  refine CallR.imp (call_tupOf (X := X)) fun vs H Q h => ?_
  obtain ⟨ds, r, hv, ho, q⟩ := h
  match ds, hv, ho with
  | [.tup xs], hv, ho =>
    cases ho
    obtain ⟨v, rfl, hw⟩ := hv.one
    obtain ⟨p, vs, rfl, t, rd⟩ := hw.tup
    exact ⟨p, vs, xs, rfl, rd, .inr t, q⟩
  | [.lst xs], hv, ho =>
    cases ho
    obtain ⟨v, rfl, hw⟩ := hv.one
    obtain ⟨p, vs, rfl, t, rd⟩ := hw.lst
    exact ⟨p, vs, xs, rfl, rd, .inl (.inl t), q⟩
theorem bltR_list : CallR X (.type "list") (rBlt X.K .list) := by
  refine CallR.imp (call_list_of (X := X)) fun vs H Q h => ?_
  obtain ⟨ds, r, hv, ho, q⟩ := h
  match ds, hv, ho with
  | [.tup xs], hv, ho =>
    cases ho
    obtain ⟨v, rfl, hw⟩ := hv.one
    obtain ⟨p, vs, rfl, t, rd⟩ := hw.tup
    exact ⟨p, vs, rfl, .inr t.sq, fun l n => q _ _ (res_lst rd n)⟩
  | [.lst xs], hv, ho =>
    cases ho
    obtain ⟨v, rfl, hw⟩ := hv.one
    obtain ⟨p, vs, rfl, t, rd⟩ := hw.lst
    exact ⟨p, vs, rfl, .inl (.inl t), fun l n => q _ _ (res_lst rd n)⟩
theorem maxI_mem : ∀ (ns : List Int) (n : Int), maxI n ns ∈ n :: ns ∧ ∀ y ∈ n :: ns, y ≤ maxI n ns
  | [], n => ⟨by simp [maxI], by simp [maxI]⟩
  | x :: xs, n => by
    have h := maxI_mem xs (if x > n then x else n)
    unfold maxI
    refine ⟨?_, fun y hy => ?_⟩
    · have h1 := h.1
      by_cases hx : x > n
      · rw [if_pos hx] at h1 ⊢; exact List.mem_cons_of_mem _ h1
      · rw [if_neg hx] at h1 ⊢
        rcases List.mem_cons.mp h1 with e | e
        · rw [e]; exact List.mem_cons_self
        · exact List.mem_cons_of_mem _ (List.mem_cons_of_mem _ e)
    · have h2 : (if x > n then x else n) ≤ maxI (if x > n then x else n) xs := h.2 _ List.mem_cons_self
      have h3 : n ≤ (if x > n then x else n) ∧ x ≤ (if x > n then x else n) := by split <;> omega
      rcases List.mem_cons.mp hy with rfl | hy
      · omega
      · rcases List.mem_cons.mp hy with rfl | hy
        · omega
        · exact h.2 y (List.mem_cons_of_mem _ hy)
theorem bltR_max (hc : X.calm = true) : CallR X (.builtin "max") (rBlt X.K .max) := by
  refine CallR.imp ((call_max2 hc).or (cr_max hc)) fun vs H Q h => ?_
  obtain ⟨ds, r, hv, ho, q⟩ := h
  match ds, hv, ho with
  | [.int i, .int j], hv, ho =>
    cases ho
    obtain ⟨v, u, rfl, h1, h2⟩ := hv.two
    exact .inl ⟨i, j, by rw [h1.int, h2.int], q _ _ (res_here rfl)⟩
  | [.lst xs], hv, ho =>
    simp only [bltD] at ho
    split at ho
    · rename_i n ns e
      cases ho
      obtain ⟨v, rfl, hw⟩ := hv.one
      obtain ⟨p, vs, rfl, t, rd⟩ := hw.lst
      have e2 := rd.intsD e
      subst e2
      refine .inr ⟨p, n :: ns, rfl, .inl t, by simp, fun m hm hle => ?_⟩
      obtain ⟨k1, k2⟩ := maxI_mem ns n
      have : m = maxI n ns := Int.le_antisymm (k2 m hm) (hle _ k1)
      rw [this]
      exact q _ _ (res_here rfl)
    · cases ho
def Ty.py : Ty → String
  | .bool => "bool" | .int => "int" | .str => "str" | .tuple => "tuple" | .list => "list"
def kdName : Kd → String
  | .non => "NoneType" | .bl => "bool" | .int => "int" | .str => "str" | .tup => "tuple" | .lst => "list"
theorem kit_kd (t : Ty) (k : Kd) : kitB (kdName k) t.py = some (isK t k) := by
  cases t <;> cases k <;> decide +kernel
theorem isiR {K : PySem.W.Frag} {H : Hp} {d : D} {x : V} (h : VwR K H d x) (t : Ty) {b : Bool} (hb : isiD t d = some b) : ∃ ty, TyX K H x ty ∧ PySem.W.kitOne K ty (.type t.py) = some b := by
  have fin : ∀ k, kd d = some k → TyX K H x (.type (kdName k)) → ∃ ty, TyX K H x ty ∧ PySem.W.kitOne K ty (.type t.py) = some b := by
    intro k hk ht
    unfold isiD at hb
    rw [hk] at hb
    have hb' : isK t k = b := Option.some.inj hb
    exact ⟨_, ht, by rw [← hb']; exact kit_ty (kit_kd t k)⟩
  cases d with
  | non => rw [h.non] at fin ⊢; exact fin .non rfl (.base .non)
  | bl k => rw [h.bl] at fin ⊢; exact fin .bl rfl (.base (.bl k))
  | int k => rw [h.int] at fin ⊢; exact fin .int rfl (.base (.int k))
  | str k => rw [h.str] at fin ⊢; exact fin .str rfl (.base (.str k))
  | tup ds =>
    obtain ⟨p, vs, rfl, t', rd⟩ := h.tup
    refine fin .tup rfl ?_
    rcases t' with ⟨o, e, _⟩ | ⟨o, its, n, e, c, _⟩
    · exact .fTuple e
    · exact .kTuple e c
  | lst ds =>
    obtain ⟨p, vs, rfl, t', rd⟩ := h.lst
    refine fin .lst rfl ?_
    rcases t' with e | ⟨o, e⟩
    · exact .base (.lst e)
    · exact .base (.frz e)
  | _ => unfold isiD at hb; cases hb
def Blt.val : Blt → Value
  | .len => .builtin "len" | .sum => .builtin "sum" | .max => .builtin "max" | .min => .builtin "min" | .abs => .builtin "abs" | .int => .type "int" | .tuple => .type "tuple" | .list => .type "list" | .set => .type "set" | .sorted => .builtin "sorted" | .any => .builtin "any" | .all => .builtin "all"
/-- the built-in functions that are served -/
def Blt.ok : Blt → Bool
  | .len => true | .sum => true | .abs => true | .int => true | .tuple => true | .list => true | .max => true
  | _ => false
theorem bltR (hc : X.calm = true) (b : Blt) (hb : b.ok = true) : CallR X b.val (rBlt X.K b) := by
  cases b with
  | len => exact bltR_len
  | sum => exact bltR_sum hc
  | max => exact bltR_max hc
  | abs => exact bltR_abs
  | int => exact bltR_int
  | tuple => exact bltR_tuple
  | list => exact bltR_list
  | _ => cases hb
end

/-! ### methods -/
def Mt.id : Mt → String
  | .append => "list.append" | .pop => "list.pop" | .reverse => "list.reverse" | .extend => "list.extend" | .add => "set.add" | .insert => "list.insert" | .index => "list.index" | .count => "list.count" | .get => "dict.get"
/-- a method that changes the list that a name owns -/
def rMut (K : PySem.W.Frag) (m : Mt) : V → List V → Hp → VK → Prop := fun x vs H Q => ∃ p d ds r d', x = .ref p ∧ OwnAt K H d p ∧ Rps K H ds vs ∧ mutD m d ds = some (r, d') ∧
  ∀ v H', (∀ b u, b ≠ p → H b = some u → H' b = some u) → (∀ b, b ≠ p → H' b = H b) → OwnAt K H' d' p → Rp K H' r v → Q v H'
theorem upd_own {K : PySem.W.Frag} {H : Hp} {p : Addr} {vs : List V} {ds : List D} {xs : List V} (h : H p = some (.lst xs)) (r : Rps K H ds vs) : Kp H (upd H p (.lst vs)) ∧ OwnAt K (upd H p (.lst vs)) (.lst ds) p := by
  have k : Kp H (upd H p (.lst vs)) := upd_kp fun ob u e => by rw [h] at e; cases e
  exact ⟨k, vs, upd_same, r.mono k⟩
section
variable {X : Cx}
theorem mutR_append : MtM X "list.append" (rMut X.K .append) := by
  intro pins s σ H x vs v us Q I rx rv h
  obtain ⟨p, d, ds, r, d', rfl, ho, rd, hm, q⟩ := h
  match d, ds, ho, rd, hm with
  | .lst xs, [y], ho, rd, hm =>
    simp only [mutD] at hm
    split at hm
    · rename_i hz
      cases hm
      obtain ⟨ws, e, rw'⟩ := ho
      obtain ⟨y', r', rfl, ry, rn⟩ := rd
      have : r' = [] := rn
      subst this
      obtain ⟨k, o2⟩ := upd_own (p := p) e (rw'.append (Rps.cons ry .nil))
      exact mt_append pins s σ H _ _ v us Q I rx rv ⟨p, ws, y', rfl, rfl, e, by rw [← line_eq, rw'.length]; exact hz, q _ _ (fun b u n h => by rw [upd_ne n]; exact h) (fun b n => upd_ne n) o2 rfl⟩
    · cases hm
theorem mutR_pop : MtM X "list.pop" (rMut X.K .pop) := by
  intro pins s σ H x vs v us Q I rx rv h
  obtain ⟨p, d, ds, r, d', rfl, ho, rd, hm, q⟩ := h
  match d, ds, ho, rd, hm with
  | .lst xs, [], ho, rd, hm =>
    simp only [mutD] at hm
    split at hm
    · rename_i y hy
      cases hm
      obtain ⟨ws, e, rw'⟩ := ho
      have : vs = [] := rd
      subst this
      obtain ⟨k, o2⟩ := upd_own (p := p) e rw'.dropLast
      rw [List.getLast?_eq_getElem?] at hy
      obtain ⟨y', hy', ry⟩ := rw'.get hy
      exact mt_pop pins s σ H _ _ v us Q I rx rv ⟨p, ws, y', rfl, rfl, e, by rw [rw'.length]; exact hy', q _ _ (fun b u n h => by rw [upd_ne n]; exact h) (fun b n => upd_ne n) o2 (ry.mono k)⟩
    · cases hm
theorem mutR_reverse : MtM X "list.reverse" (rMut X.K .reverse) := by
  intro pins s σ H x vs v us Q I rx rv h
  obtain ⟨p, d, ds, r, d', rfl, ho, rd, hm, q⟩ := h
  match d, ds, ho, rd, hm with
  | .lst xs, [], ho, rd, hm =>
    cases hm
    obtain ⟨ws, e, rw'⟩ := ho
    have : vs = [] := rd
    subst this
    obtain ⟨k, o2⟩ := upd_own (p := p) e rw'.reverse
    exact mt_reverse pins s σ H _ _ v us Q I rx rv ⟨p, ws, rfl, rfl, e, q _ _ (fun b u n h => by rw [upd_ne n]; exact h) (fun b n => upd_ne n) o2 rfl⟩
/-- index of a tuple or a list of ints -/
def rMth (K : PySem.W.Frag) (m : Mt) : V → List V → Hp → VK → Prop := fun x vs H Q => ∃ d ds r, VwR K H d x ∧ Rps K H ds vs ∧ mthD m d ds = some r ∧ ∀ v, Rp K H r v → Q v H
theorem mthR_index_tup : MtR X "tuple.index" (fun x vs H Q => ∃ ds e r, VwR X.K H (.tup ds) x ∧ Rps X.K H [e] vs ∧ indexD ds e = some r ∧ ∀ v, Rp X.K H r v → Q v H) := by
  intro pins s σ H x xs v us Q I rx rxs h
  obtain ⟨ds, e, r, vd, re, hm, q⟩ := h
  obtain ⟨p, vs, rfl, t, rd⟩ := vd.tup
  obtain ⟨y', r', rfl, ry, rn⟩ := re
  have e1 : r' = [] := rn
  subst e1
  cases e with
  | int k =>
    have e2 : y' = .int k := ry
    subst e2
    unfold indexD at hm
    cases e : intsD ds with
    | none => rw [e] at hm; cases hm
    | some ns =>
      rw [e] at hm
      have hm' : (if k ∈ ns then some (D.int (ns.idxOf k : Nat)) else none) = some r := hm
      by_cases hk : k ∈ ns
      · rw [if_pos hk] at hm'
        cases hm'
        have e3 := rd.intsD e
        subst e3
        cases rx
        obtain ⟨u, rfl, tk, rfl⟩ := vals1 rxs
        obtain ⟨its, r, pl, hz⟩ := I.tuple t.sq
        exact PySem.SeqAt.tuple_index_ints pl (intsAre_of r) hk ⟨.int _, H, I.tok _, ⟨_, rfl⟩, q _ rfl⟩
      · rw [if_neg hk] at hm'; cases hm'
  | _ => cases hm
end
end PF
/-! PF5: readings of the small language's parts, and how they are put together. -/
namespace PF
open PySem PySem.Spec PyProof.Rows L2

abbrev Ev := Env → Option (Opd × Env)
def tE (K : PySem.W.Frag) (f : Ev) : TE := fun σ H Q => ∃ env o env', EnvR K H σ env ∧ f env = some (o, env') ∧ ∀ v H', Po K σ H env o env' v H' → Q v H'
def tD (K : PySem.W.Frag) (f : Env → Option (D × Env)) : TE := fun σ H Q => ∃ env d env', EnvR K H σ env ∧ f env = some (d, env') ∧ ∀ v H', EnvR K H' σ env' → Tr σ H env σ H' env' → Rp K H' d v → Q v H'
def tT (K : PySem.W.Frag) (f : Ev) : TT := fun σ H Q => ∃ env b env', EnvR K H σ env ∧ f env = some (.dat (.bl b), env') ∧ ∀ H', EnvR K H' σ env' → Tr σ H env σ H' env' → Q b H'
/-- what an iterator yields -/
def ItOk (K : PySem.W.Frag) (H : Hp) (J : It) (xs : List D) : Prop := ∀ i H2, Kp H H2 →
  (i < xs.length → J.go i H2 ∧ ∀ x H3, J.yld i H2 x H3 → H3 = H2 ∧ ∃ d, xs[i]? = some d ∧ Rp K H2 d x) ∧ (i = xs.length → J.stop i H2)
def tI (K : PySem.W.Frag) (f : Ev) : TI := fun σ H R => ∃ env xs env', EnvR K H σ env ∧ f env = some (.dat (.tup xs), env') ∧ ∀ J H', EnvR K H' σ env' → Tr σ H env σ H' env' → ItOk K H' J xs → R J H'
def tDs (K : PySem.W.Frag) (f : Env → Option (List D × Env)) : TA := fun σ H Q => ∃ env ds env', EnvR K H σ env ∧ f env = some (ds, env') ∧ ∀ vs H', EnvR K H' σ env' → Tr σ H env σ H' env' → Rps K H' ds vs → Q vs H'
/-- operands, from the left -/
inductive OpdsR (K : PySem.W.Frag) (σ : St) (H0 : Hp) (env0 : Env) (H : Hp) (env : Env) : List Opd → List V → Prop
  | nil : OpdsR K σ H0 env0 H env [] []
  | cons {o : Opd} {v : V} {os : List Opd} {vs : List V} (r : OpdR K H σ env o v) (n : ∀ d p, o = .own d → v = .ref p → H0 p = none ∨ OwnA env0 σ p) (t : OpdsR K σ H0 env0 H env os vs)
      (dj : ∀ (d : D) (p : Addr), o = .own d → v = .ref p → ∀ (k : Nat) (e : D), os[k]? = some (.own e) → vs[k]? ≠ some (.ref p)) : OpdsR K σ H0 env0 H env (o :: os) (v :: vs)
def tAs (K : PySem.W.Frag) (f : Env → Option (List Opd × Env)) : TA := fun σ H Q => ∃ env os env', EnvR K H σ env ∧ f env = some (os, env') ∧ ∀ vs H', EnvR K H' σ env' → Tr σ H env σ H' env' → OpdsR K σ H env H' env' os vs → Q vs H'

section
variable {X : Cx} {K : PySem.W.Frag}
/-- an operation's end -/
theorem po_res {σ : St} {H H1 H' : Hp} {env env1 : Env} {r : Opd} {v : V} (E : EnvR K H1 σ env1) (t : Tr σ H env σ H1 env1) (h : ResR K H1 r v H') : Po K σ H env r env1 v H' := by
  obtain ⟨sm, hr⟩ := h
  have E' := E.same sm
  refine ⟨E', t.trans (tr_same sm), ?_, ?_⟩
  · cases r with
    | dat d => exact hr
    | own d =>
      obtain ⟨p, e, n, o⟩ := hr
      refine ⟨p, e, o, fun z => ?_⟩
      obtain ⟨u, q, _⟩ := E.nfrz z
      rw [n] at q; cases q
    | slot i => exact hr.elim
  · intro d p e1 e2
    subst e1
    obtain ⟨p', e, n, o⟩ := hr
    rw [e2] at e; cases e
    exact t.fresh n
theorem po_dat {σ : St} {H H1 : Hp} {env env1 : Env} {d : D} {v : V} (E : EnvR K H1 σ env1) (t : Tr σ H env σ H1 env1) (h : Rp K H1 d v) : Po K σ H env (.dat d) env1 v H1 :=
  ⟨E, t, h, fun _ _ e => nomatch e⟩

/-! ### data from an expression: a list is kept as it is -/
theorem pe_frz {e : Expr} {f : Ev} (h : PE X e (tE X.K f)) : PE X e (tD X.K fun env => match f env with | none => none | some (o, env) => toD env o) := by
  refine ⟨fun pins s σ H Q I hw => ?_⟩
  obtain ⟨env, d, env', E, hf, q⟩ := hw
  dsimp only at hf
  cases hfe : f env with
  | none => rw [hfe] at hf; cases hf
  | some oe =>
    obtain ⟨o, env1⟩ := oe
    rw [hfe] at hf
    have hf : toD env1 o = some (d, env') := hf
    refine thn (h.run pins s σ H (fun v H1 => Po X.K σ H env o env1 v H1) I ⟨env, o, env1, E, hfe, fun v H1 p => p⟩) fun u s1 ⟨v, H1, I1, r1, po⟩ => ?_
    cases o with
    | dat d0 =>
      cases hf
      exact ⟨v, H1, I1, r1, q v H1 po.e po.t po.r⟩
    | own d0 =>
      cases d0 with
      | lst xs =>
        cases hf
        obtain ⟨p, rfl, ⟨vs, e1, rv⟩, nown⟩ := po.r
        obtain ⟨ob, I2⟩ := inv_freeze I1 e1
        have k : Kp H1 (upd H1 p (.frz ob (.lst vs))) := upd_kp fun ob u e => by rw [e1] at e; cases e
        have oth : ∀ b u, b ≠ p → H1 b = some u → upd H1 p (.frz ob (.lst vs)) b = some u := fun b u n e => by rw [upd_ne n]; exact e
        refine ⟨.ref p, _, I2, r1, q _ _ ⟨po.e.len, fun i sl e => ?_, po.e.dj⟩ ⟨fun b u e n => ?_, po.t.s⟩ ⟨p, ob, vs, rfl, upd_same, rv.mono k⟩⟩
        · obtain ⟨x, e2, r⟩ := po.e.sl i sl e
          refine ⟨x, e2, ?_⟩
          cases sl with
          | un => trivial
          | val d => obtain ⟨v, e3, r⟩ := r; exact ⟨v, e3, r.mono k⟩
          | own d =>
            obtain ⟨p2, e3, r⟩ := r
            subst e3
            refine ⟨p2, rfl, r.keep k fun u qq => oth p2 u ?_ qq⟩
            rintro rfl
            exact nown ⟨i, d, e, e2⟩
        · refine oth b u ?_ (po.t.f b u e n)
          rintro rfl
          rcases po.n _ _ rfl rfl with z | z
          · rw [e] at z; cases z
          · exact n z
      | _ => cases hf
    | slot i =>
      cases hl : look env1 i with
      | own d0 =>
        cases d0 with
        | lst xs =>
          simp only [toD, hl] at hf
          cases hf
          obtain ⟨p, e2, ⟨vs, e1, rv⟩, ow⟩ := po.e.own hl
          have e3 : σ[i]? = some (some v) := po.r
          rw [e2] at e3
          cases e3
          obtain ⟨ob, I2⟩ := inv_freeze I1 e1
          have k : Kp H1 (upd H1 p (.frz ob (.lst vs))) := upd_kp fun ob u e => by rw [e1] at e; cases e
          have oth : ∀ b u, b ≠ p → H1 b = some u → upd H1 p (.frz ob (.lst vs)) b = some u := fun b u n e => by rw [upd_ne n]; exact e
          have rl : Rp X.K (upd H1 p (.frz ob (.lst vs))) (.lst xs) (.ref p) := ⟨p, ob, vs, rfl, upd_same, rv.mono k⟩
          have getS : ∀ {j : Nat} {sl : Slot}, (env1.set i (.val (.lst xs)))[j]? = some sl → (j = i ∧ sl = .val (.lst xs)) ∨ (j ≠ i ∧ env1[j]? = some sl) := fun {j sl} e => by
            by_cases hj : i = j
            · subst hj
              rw [List.getElem?_set_self' ] at e
              cases hh : env1[i]? with
              | none => rw [hh] at e; cases e
              | some w => rw [hh] at e; cases e; exact .inl ⟨rfl, rfl⟩
            · rw [List.getElem?_set_ne hj] at e
              exact .inr ⟨Ne.symm hj, e⟩
          have hio := look_own hl
          have ow' : ∀ b, OwnA (env1.set i (.val (.lst xs))) σ b → OwnA env1 σ b ∧ b ≠ p := fun b ⟨j, d, h1, h2⟩ => by
            rcases getS h1 with ⟨_, z⟩ | ⟨hj, z⟩
            · cases z
            · refine ⟨⟨j, d, z, h2⟩, ?_⟩
              rintro rfl
              exact hj (po.e.dj j i d _ b z hio h2 e2)
          refine ⟨.ref p, _, I2, r1, q _ _ ⟨by rw [List.length_set]; exact po.e.len, fun j sl e => ?_, fun j l a b c h1 h2 h3 h4 => ?_⟩ ⟨fun b u e n => ?_, fun b z => po.t.s b (ow' b z).1⟩ rl⟩
          · rcases getS e with ⟨rfl, rfl⟩ | ⟨hj, e⟩
            · exact ⟨_, e2, .ref p, rfl, rl⟩
            · obtain ⟨x, e4, r⟩ := po.e.sl j sl e
              refine ⟨x, e4, ?_⟩
              cases sl with
              | un => trivial
              | val d => obtain ⟨v, e3, r⟩ := r; exact ⟨v, e3, r.mono k⟩
              | own d =>
                obtain ⟨p2, e3, r⟩ := r
                subst e3
                refine ⟨p2, rfl, r.keep k fun u qq => oth p2 u ?_ qq⟩
                rintro rfl
                exact hj (po.e.dj j i d _ p2 e hio e4 e2)
          · rcases getS h1 with ⟨_, z⟩ | ⟨_, h1⟩
            · cases z
            · rcases getS h2 with ⟨_, z⟩ | ⟨_, h2⟩
              · cases z
              · exact po.e.dj j l a b c h1 h2 h3 h4
          · refine oth b u ?_ (po.t.f b u e n)
            rintro rfl
            rcases po.t.s b ow with z | z
            · exact n z
            · rw [e] at z; cases z
        | _ => simp [toD, hl] at hf
      | un => simp [toD, hl] at hf
      | val d0 => simp [toD, hl] at hf

/-! ### tests and what is walked, from a value -/
theorem VwR.tru {H : Hp} {d : D} {v : V} {b : Bool} (h : VwR K H d v) (ht : truth d = some b) : TruV K v H b := by
  cases d with
  | non => cases ht; rw [h.non]; rfl
  | bl k => cases ht; rw [h.bl]; rfl
  | int k => cases ht; rw [h.int]; rfl
  | tup ds =>
    cases ht
    obtain ⟨p, vs, rfl, t, rd⟩ := h.tup
    refine .inr (.inl ⟨vs, t.sq, ?_⟩)
    have := rd.length
    cases ds <;> cases vs <;> first | rfl | simp at this
  | lst ds =>
    cases ht
    obtain ⟨p, vs, rfl, t, rd⟩ := h.lst
    refine .inl ⟨vs, .inl t, ?_⟩
    have := rd.length
    cases ds <;> cases vs <;> first | rfl | simp at this
  | _ => cases ht
theorem pt_fin {e : Expr} {f : Ev} (h : PE X e (tE X.K f)) (he : ∀ whole, isTrue e X.env whole = (do let v ← whole; standAt e.pos; holding [v] (truthy v))) : PT X e (tT X.K fun env => fin .t (f env)) := by
  refine PT.imp (pt_truth h he) fun σ H Q hw => ?_
  obtain ⟨env, b, env', E, hf, q⟩ := hw
  dsimp only at hf
  cases hfe : f env with
  | none => rw [hfe] at hf; cases hf
  | some oe =>
    obtain ⟨o, env1⟩ := oe
    rw [hfe] at hf
    simp only [fin] at hf
    cases hv : view env1 o with
    | none => rw [hv] at hf; cases hf
    | some d =>
      rw [hv] at hf
      cases ht : truth d with
      | none => simp only [ht] at hf; cases hf
      | some b' =>
        simp only [ht] at hf
        cases hf
        exact ⟨env, o, _, E, hfe, fun v H' po => ⟨b, VwR.tru (po.r.view po.e hv) ht, q H' po.e po.t⟩⟩
theorem itl_ok {H : Hp} {a : Addr} {o : Obj} {vs : List V} {xs : List D} (h : H a = some (.frz o (.lst vs))) (r : Rps K H xs vs) : ItOk K H (Itl K a) xs := fun i H2 k => by
  have h2 : SqL K H2 a vs := .inl (.inr ⟨o, k _ _ _ h⟩)
  have hl := r.length
  refine ⟨fun hi => ?_, fun hi => ⟨vs, h2, by omega⟩⟩
  refine ⟨⟨vs, vs[i]'(by omega), h2, List.getElem?_eq_getElem (by omega)⟩, fun x H3 y => ?_⟩
  obtain ⟨e, y⟩ := y
  refine ⟨e, ?_⟩
  have ex := y vs h2
  exact ⟨xs[i], List.getElem?_eq_getElem hi, (r.mono k).at (List.getElem?_eq_getElem hi) ex⟩
theorem itt_ok {H : Hp} {a : Addr} {vs : List V} {xs : List D} (h : TupAt K H a vs) (r : Rps K H xs vs) : ItOk K H (Itt K a) xs := fun i H2 k => by
  have h2 : SqT K H2 a vs := (h.mono k).sq
  have hl := r.length
  refine ⟨fun hi => ?_, fun hi => ⟨vs, h2, by omega⟩⟩
  refine ⟨⟨vs, vs[i]'(by omega), h2, List.getElem?_eq_getElem (by omega)⟩, fun x H3 y => ?_⟩
  obtain ⟨e, y⟩ := y
  refine ⟨e, ?_⟩
  have ex := y vs h2
  exact ⟨xs[i], List.getElem?_eq_getElem hi, (r.mono k).at (List.getElem?_eq_getElem hi) ex⟩
theorem pi_fin {tg e : Expr} {f : Ev} (h : PE X e (tE X.K f)) : PI X tg e (tI X.K fun env => fin .i (f env)) := by
  refine PI.imp (PI.or (pi_tup (pe_frz h)) (pi_list (pe_frz h))) fun σ H R hw => ?_
  obtain ⟨env, xs, env', E, hf, q⟩ := hw
  dsimp only at hf
  cases hfe : f env with
  | none => rw [hfe] at hf; cases hf
  | some oe =>
    obtain ⟨o, env1⟩ := oe
    rw [hfe] at hf
    simp only [fin, itemsOf] at hf
    cases hd : toD env1 o with
    | none => rw [hd] at hf; cases hf
    | some de =>
      obtain ⟨d, env2⟩ := de
      rw [hd] at hf
      cases d with
      | tup ys =>
        simp only at hf
        cases hf
        refine .inl ⟨env, .tup xs, env', E, by simp only [hfe]; exact hd, fun v H' E' t' r => ?_⟩
        obtain ⟨a, vs, rfl, t, rd⟩ := r
        exact ⟨a, rfl, ⟨vs, t.sq⟩, q _ _ E' t' (itt_ok t rd)⟩
      | lst ys =>
        simp only at hf
        cases hf
        refine .inr ⟨env, .lst xs, env', E, by simp only [hfe]; exact hd, fun v H' E' t' r => ?_⟩
        obtain ⟨a, ob, vs, rfl, t, rd⟩ := r
        exact ⟨a, rfl, ⟨vs, .inl (.inr ⟨ob, t⟩)⟩, q _ _ E' t' (itl_ok t rd)⟩
      | _ => cases hf
end
end PF
/-! PF6: the small language's expressions against Python's; that what the evaluator gives is what runs. -/
namespace PF
open PySem PySem.Spec PyProof.Rows L2

/-- what a text is checked against: names by slot, the scope, the names that may be stored to, those that no global bears, the defs with how many parameters -/
structure Ck where
  N : List Str
  sc : Scope
  st : Str → Bool
  bn : List Str
  fns : List (Str × Nat)
def visB (sc : Scope) (x : Str) : Bool := match sc.names.lookup x with
  | some .local => true | some .cell => true | some .free => true | _ => false
theorem vis_of {sc : Scope} {x : Str} (h : visB sc x = true) : Vis sc x := by
  unfold visB at h
  unfold Vis
  split at h <;> simp_all
def ldOk (G : Ck) (i : Nat) (x : Str) : Bool := decide (G.N[i]? = some x) && visB G.sc x && !(x == ("__debug__" : Str)) && !(x == ("__classdict__" : Str))
def locB (G : Ck) (x : Str) : Bool := match G.sc.names.lookup x with
  | some .local => true | some .cell => G.st x | _ => false
def stOk (G : Ck) (i : Nat) (x : Str) : Bool := decide (G.N[i]? = some x) && locB G x
def gbOk (G : Ck) (x : Str) : Bool := (match G.sc.names.lookup x with | some .globalImplicit => true | _ => false) && !(x == ("__debug__" : Str))
def blOk (G : Ck) (x : Str) : Bool := gbOk G x && G.bn.contains x
def Blt.name : Blt → Str
  | .len => "len" | .sum => "sum" | .max => "max" | .min => "min" | .abs => "abs" | .int => "int" | .tuple => "tuple" | .list => "list" | .set => "set" | .sorted => "sorted" | .any => "any" | .all => "all"
def Ty.name : Ty → Str
  | .bool => "bool" | .int => "int" | .str => "str" | .tuple => "tuple" | .list => "list"
def Mt.name : Mt → Str
  | .append => "append" | .pop => "pop" | .reverse => "reverse" | .extend => "extend" | .add => "add" | .insert => "insert" | .index => "index" | .count => "count" | .get => "get"
/-- how many arguments a changing method takes here -/
def Mt.mut : Mt → Nat → Bool
  | .append, 1 => true | .pop, 0 => true | .reverse, 0 => true | _, _ => false
def isSetE : Expr → Bool
  | .Set _ _ _ => true | _ => false
def isCallO : Expr → Bool
  | .Call (.Name _ _) [] [] _ => true | _ => false
def isIteE : E → Bool
  | .ite _ _ _ => true | _ => false
def isNonE : E → Bool
  | .non => true | _ => false
def Tg.is : Tg → List Nat
  | .nm i => [i] | .tp is => is
def ckTs (G : Ck) : List Nat → List Expr → Bool
  | [], [] => true
  | i :: is, .Name x _ :: es => stOk G i x && ckTs G is es
  | _, _ => false
def ckTg (G : Ck) : Tg → Expr → Bool
  | .nm i, .Name x _ => stOk G i x
  | .tp is, .Tuple es _ _ => ckTs G is es
  | _, _ => false
/-- the checks within a comprehension's block -/
def Ck.blk (G : Ck) (scope : Scope) : Ck := { G with sc := relS scope G.sc, st := fun x => scope.names.lookup x == some .cell }
def ownN (N : List Str) (own : List Nat) : List (Str × Nat) := own.map fun i => (N.getD i "", i)
mutual
def ckE : E → Ck → Expr → Bool
  | .var i, G, .Name x _ => ldOk G i x
  | .int i, _, .Constant (.int j) _ _ => decide (i = j)
  | .bl b, _, .Constant (.bool c) _ _ => decide (b = c)
  | .non, _, .Constant .none _ _ => true
  | .str s, _, .Constant (.str t) _ _ => decide (s = t)
  | .tup es, G, .Tuple xs _ _ => ckEs es G xs
  | .lst es, G, .List xs _ => ckEs es G xs
  | .bin op a b, G, .BinOp x o y _ => decide (op.py = o) && ckE a G x && ckE b G y
  | .neg a, G, .UnaryOp .USub x _ => ckE a G x
  | .not a, G, .UnaryOp .Not x _ => ckE a G x
  | .cmp op a b, G, .Compare x [o] [y] _ => decide (op.py = o) && ckE a G x && ckE b G y && !isSetE y
  | .chain op op2 a b c, G, .Compare x [o, o2] [y, z] _ => decide (op.py = o) && decide (op2.py = o2) && ckE a G x && ckE b G y && ckE c G z && !isSetE z
  | .and es, G, .BoolOp .And xs _ => !es.isEmpty && ckEs es G xs
  | .or es, G, .BoolOp .Or xs _ => !es.isEmpty && ckEs es G xs
  | .ite t a b, G, .IfExp t' x y _ => ckE t G t' && ckE a G x && ckE b G y
  | .idx a i, G, .Subscript x y _ => ckE a G x && ckE i G y
  | .rev a, G, .Subscript x (.Slice none none (some (.UnaryOp .USub (.Constant (.int 1) _ _) _)) _) _ => ckE a G x
  | .slc a lo hi, G, .Subscript x (.Slice l h none _) _ => ckE a G x && (match l with | none => isNonE lo | some l => !isNonE lo && ckE lo G l) && (match h with | none => isNonE hi | some h => !isNonE hi && ckE hi G h)
  | .call f es, G, .Call (.Name x _) xs [] _ => decide (x = f) && gbOk G x && G.fns.contains (f, es.length) && ckEs es G xs
  | .blt b es, G, .Call (.Name x _) xs [] _ => decide (x = b.name) && b.ok && blOk G x && !es.isEmpty && ckEs es G xs
  | .isi a t, G, .Call (.Name x _) [y, .Name z _] [] _ => decide (x = "isinstance") && blOk G x && decide (z = t.name) && blOk G z && ckE a G y
  | .mut m i es, G, .Call (.Attribute (.Name x _) nm apos) xs [] cpos => decide (nm = m.name) && m.mut es.length && ldOk G i x && (apos.endLine == cpos.line) && ckEs es G xs
  | .mth m a es, G, .Call (.Attribute o nm apos) xs [] cpos => decide (m = .index) && decide (nm = "index") && !isCallO o && (apos.endLine == cpos.line) && decide (es.length = 1) && ckE a G o && ckEs es G xs
  | .lc own tg (.rng es) cond elt, G, .ListComp elt' [⟨t0, .Call (.Name x _) xs [] _, ifs0, 0⟩] scope _ => blkC G.N G.sc scope (ownN G.N own) && ckTg (G.blk scope) tg t0 && (tg.is.all fun i => own.contains i) && (decide (x = "range") && blOk G x && (decide (es.length = 1) || decide (es.length = 2)) && ckEs es G xs) && decide (cond.length ≤ 1) && ckEs cond (G.blk scope) ifs0 && ckE elt (G.blk scope) elt'
  | .lc own tg src cond elt, G, .ListComp elt' [⟨t0, i0, ifs0, 0⟩] scope _ => blkC G.N G.sc scope (ownN G.N own) && ckTg (G.blk scope) tg t0 && (tg.is.all fun i => own.contains i) && (!isIteE src && ckE src G i0) && decide (cond.length ≤ 1) && ckEs cond (G.blk scope) ifs0 && ckE elt (G.blk scope) elt'
  | .lc2 own tg src cond vs1 tg1 src1 cond1 elt, G, .ListComp elt' [⟨t0, i0, ifs0, 0⟩, ⟨t1, i1, ifs1, 0⟩] scope _ => blkC G.N G.sc scope (ownN G.N own) && ckTg (G.blk scope) tg t0 && (tg.is.all fun i => own.contains i) && ckTg (G.blk scope) tg1 t1 && (tg1.is.all fun i => vs1.contains i) && (vs1.all fun i => own.contains i) && (!isIteE src && ckE src G i0) && (!isIteE src1 && ckE src1 (G.blk scope) i1) && decide (cond.length ≤ 1) && decide (cond1.length ≤ 1) && ckEs cond (G.blk scope) ifs0 && ckEs cond1 (G.blk scope) ifs1 && ckE elt (G.blk scope) elt'
  | .rng es, G, .Call (.Name x _) xs [] _ => decide (x = "range") && blOk G x && (decide (es.length = 1) || decide (es.length = 2)) && ckEs es G xs
  | .sset a, G, .Call (.Name x _) [.Call (.Name y _) [z] [] _] [] _ => decide (x = "sorted") && decide (y = "set") && blOk G x && blOk G y && ckE a G z
  | _, _, _ => false
def ckEs : List E → Ck → List Expr → Bool
  | [], _, [] => true
  | e :: es, G, x :: xs => ckE e G x && ckEs es G xs
  | _, _, _ => false
end

/-- what is walked -/
def ckI (e : E) (G : Ck) (x : Expr) : Bool := match e, x with
  | .rng es, .Call (.Name x _) xs [] _ => decide (x = "range") && blOk G x && (decide (es.length = 1) || decide (es.length = 2)) && ckEs es G xs
  | e, x => !isIteE e && ckE e G x

/-- a def's promise, by the evaluator -/
def spC (K : PySem.W.Frag) (c : Cl) (f : Str) : Sp := fun vs H Q _ => ∃ ss r fs, EnvR K H (vs.map some) ss ∧ c f ss = some (r, fs) ∧
  ∀ v H', EnvR K H' (vs.map some) fs → Tr (vs.map some) H ss (vs.map some) H' fs → OpdR K H' (vs.map some) fs r v → (∀ i, r ≠ .slot i) → (∀ d p, r = .own d → v = .ref p → H p = none ∨ OwnA ss (vs.map some) p) → Q v H'
structure CallOk (X : Cx) (c : Cl) (f : Str) (n : Nat) : Prop where
  ok : ∃ (a : Addr) (fdt : FuncData) (ps : List Str) (k : Nat), X.mg f = some (.ref a) ∧ PySem.W.keepIn X.K (.ref a) = true ∧ Binds X.K fdt ps [] ∧ FnOk X.prog X.w X.K X.mg X.base CX0 k a fdt ps (spC X.K c f) ∧ Room k X.A ∧ ps.length = n
structure XOk (X : Cx) (G : Ck) (c : Cl) : Prop where
  n : X.N = G.N
  nd : X.N.Nodup
  calm : X.calm = true
  sc : X.env.scope = G.sc
  kd : G.sc.kind = .function
  fn : ∀ x, G.st x = true → X.fn x = true
  bn : ∀ x, x ∈ G.bn → X.mg x = none
  un : X.A.units + 65 < cLine
  fns : ∀ f n, (f, n) ∈ G.fns → CallOk X c f n
  px : PassesOwn (model X.prog X.w) X.A X.env X.xe
/-- what is shown of a part -/
def SE (c : Cl) (e : E) : Prop := ∀ X G, XOk X G c → ∀ x, ckE e G x = true → PE X x (tE X.K (ev c e .v)) ∧ PT X x (tT X.K (ev c e .t))
section
variable {c : Cl} {X : Cx} {G : Ck}
theorem ld_of (O : XOk X G c) {i : Nat} {x : Str} {pos : Pos} (h : ldOk G i x = true) : PE X (.Name x pos) (tVar i) := by
  unfold ldOk at h
  simp only [Bool.and_eq_true, decide_eq_true_eq, Bool.not_eq_true'] at h
  obtain ⟨⟨⟨h1, h2⟩, h3⟩, h4⟩ := h
  exact pe_var (by rw [O.n]; exact h1) (by rw [O.sc]; exact vis_of h2) h3 h4
theorem gl_of (O : XOk X G c) {x : Str} (h : gbOk G x = true) : Gl X x ∧ (x == ("__debug__" : Str)) = false := by
  unfold gbOk at h
  simp only [Bool.and_eq_true, Bool.not_eq_true'] at h
  refine ⟨?_, h.2⟩
  show X.env.scope.names.lookup x = some .globalImplicit
  rw [O.sc]
  have h1 := h.1
  split at h1 <;> simp_all
theorem bl_of (O : XOk X G c) {x : Str} (h : blOk G x = true) : Gl X x ∧ X.mg x = none ∧ (x == ("__debug__" : Str)) = false := by
  unfold blOk at h
  rw [Bool.and_eq_true] at h
  obtain ⟨h1, h2⟩ := gl_of O h.1
  exact ⟨h1, O.bn _ (by simpa using h.2), h2⟩
/-- from a value's reading to a test's -/
theorem se_of {e : E} (he : ∀ env, ev c e .t env = fin .t (ev c e .v env)) (h : ∀ X G, XOk X G c → ∀ x, ckE e G x = true → PE X x (tE X.K (ev c e .v)) ∧ (∀ whole, isTrue x X.env whole = (do let v ← whole; standAt x.pos; holding [v] (truthy v)))) : SE c e := fun X G O x hx => by
  obtain ⟨h1, h2⟩ := h X G O x hx
  refine ⟨h1, ?_⟩
  have := pt_fin h1 h2
  rw [show ev c e .t = fun env => fin .t (ev c e .v env) from funext he]
  exact this
theorem se_var (i : Nat) : SE c (.var i) := by
  refine se_of (fun _ => rfl) fun X G O x hx => ?_
  cases x <;> first | (cases hx; done) | skip
  rename_i id pos
  refine ⟨PE.imp (ld_of O hx) fun σ H Q h => ?_, fun _ => rfl⟩
  obtain ⟨env, o, env', E, hf, q⟩ := h
  simp only [ev, fin] at hf
  cases hl : look env i with
  | un => rw [hl] at hf; cases hf
  | val d =>
    rw [hl] at hf
    cases hf
    obtain ⟨v, e, r⟩ := E.val hl
    exact ⟨v, e, q v H (po_dat E .refl r)⟩
  | own d =>
    rw [hl] at hf
    cases hf
    obtain ⟨p, e, r, ow⟩ := E.own hl
    exact ⟨.ref p, e, q _ H ⟨E, .refl, e, fun _ _ z => nomatch z⟩⟩
theorem pe_const {x : Expr} {d : D} {v : V} (h : PE X x (tC v)) (hr : ∀ H, Rp X.K H d v) : PE X x (tE X.K fun env => some (.dat d, env)) :=
  PE.imp h fun σ H Q ⟨env, o, env', E, hf, q⟩ => by
    cases hf
    exact q v H (po_dat E .refl (hr H))
theorem se_int (i : Int) : SE c (.int i) := by
  refine se_of (fun _ => rfl) fun X G O x hx => ?_
  cases x <;> first | (cases hx; done) | skip
  rename_i cst k pos
  cases cst <;> first | (cases hx; done) | skip
  rename_i j
  have e : i = j := of_decide_eq_true hx
  subst e
  exact ⟨pe_const pe_int fun _ => rfl, fun _ => rfl⟩
theorem se_bl (i : Bool) : SE c (.bl i) := by
  refine se_of (fun _ => rfl) fun X G O x hx => ?_
  cases x <;> first | (cases hx; done) | skip
  rename_i cst k pos
  cases cst <;> first | (cases hx; done) | skip
  rename_i j
  have e : i = j := of_decide_eq_true hx
  subst e
  exact ⟨pe_const pe_bl fun _ => rfl, fun _ => rfl⟩
theorem se_non : SE c .non := by
  refine se_of (fun _ => rfl) fun X G O x hx => ?_
  cases x <;> first | (cases hx; done) | skip
  rename_i cst k pos
  cases cst <;> first | (cases hx; done) | skip
  exact ⟨pe_const pe_non fun _ => rfl, fun _ => rfl⟩
theorem se_str (i : Str) : SE c (.str i) := by
  refine se_of (fun _ => rfl) fun X G O x hx => ?_
  cases x <;> first | (cases hx; done) | skip
  rename_i cst k pos
  cases cst <;> first | (cases hx; done) | skip
  rename_i j
  have e : i = j := of_decide_eq_true hx
  subst e
  exact ⟨pe_const pe_str fun _ => rfl, fun _ => rfl⟩

/-! ### argument lists -/
theorem star_of {e : E} {G : Ck} {x : Expr} {env : PySem.Env} (h : ckE e G x = true) (xs : List Expr) : starEach (x :: xs) env = (false, eval x env) :: starEach xs env := by
  cases x <;> first | rfl | (exfalso; cases e <;> first | (cases h; done) | (rename_i src _ _; cases src <;> cases h))
theorem any_star : ∀ {es : List E} {G : Ck} {xs : List Expr} {env : PySem.Env} {pos : Pos}, ckEs es G xs = true → (backTo pos (starEach xs env)).any (·.1) = false
  | [], _, [], _, _, _ => rfl
  | [], _, _ :: _, _, _, h => by cases h
  | _ :: _, _, [], _, _, h => by cases h
  | e :: es, G, x :: xs, env, pos, h => by
    have h' : (ckE e G x && ckEs es G xs) = true := h
    rw [Bool.and_eq_true] at h'
    rw [star_of h'.1]
    show (false || (backTo pos (starEach xs env)).any (·.1)) = false
    rw [any_star h'.2]
    rfl
theorem len_of : ∀ {es : List E} {G : Ck} {xs : List Expr}, ckEs es G xs = true → xs.length = es.length
  | [], _, [], _ => rfl
  | [], _, _ :: _, h => by cases h
  | _ :: _, _, [], h => by cases h
  | e :: es, G, x :: xs, h => by
    have h' : (ckE e G x && ckEs es G xs) = true := h
    rw [Bool.and_eq_true] at h'
    rw [List.length_cons, List.length_cons, len_of h'.2]
theorem pa_ds (O : XOk X G c) : ∀ {es : List E}, (∀ e ∈ es, SE c e) → ∀ {xs : List Expr}, ckEs es G xs = true → PA X xs (tDs X.K (evds c es))
  | [], _, [], _ => PA.imp pa_nil fun σ H Q ⟨env, ds, env', E, hf, q⟩ => by
    cases hf
    exact q [] H E .refl rfl
  | [], _, _ :: _, h => by cases h
  | _ :: _, _, [], h => by cases h
  | e :: es, hs, x :: xs, h => by
    have h' : (ckE e G x && ckEs es G xs) = true := h
    rw [Bool.and_eq_true] at h'
    have h1 := pe_frz (hs e List.mem_cons_self X G O x h'.1).1
    have h2 := pa_ds O (fun e he => hs e (List.mem_cons_of_mem _ he)) h'.2
    refine PA.imp (pa_cons h1 h2 (star_of h'.1 xs)) fun σ H Q ⟨env, ds, env', E, hf, q⟩ => ?_
    simp only [evds] at hf
    cases e1 : ev c e .v env with
    | none => rw [e1] at hf; cases hf
    | some oe =>
      obtain ⟨o, env1⟩ := oe
      rw [e1] at hf
      simp only at hf
      cases e2 : toD env1 o with
      | none => rw [e2] at hf; cases hf
      | some de =>
        obtain ⟨d, env2⟩ := de
        rw [e2] at hf
        simp only at hf
        cases e3 : evds c es env2 with
        | none => rw [e3] at hf; cases hf
        | some dse =>
          obtain ⟨ds', env3⟩ := dse
          rw [e3] at hf
          cases hf
          refine ⟨env, d, env2, E, by simp only [e1, e2], fun v H1 E1 t1 r1 => ⟨env2, ds', env', E1, e3, fun vs H2 E2 t2 r2 => q _ H2 E2 (t1.trans t2) (.cons (r1.mono (t2.kp E1)) r2)⟩⟩
theorem OpdsR.later {K : PySem.W.Frag} {σ : St} {H0 H H1 : Hp} {env0 env env1 : Env} (E : EnvR K H σ env) (t : Tr σ H env σ H1 env1) : ∀ {os : List Opd} {vs : List V}, OpdsR K σ H0 env0 H env os vs → OpdsR K σ H0 env0 H1 env1 os vs
  | _, _, .nil => .nil
  | _, _, .cons r n t' dj => .cons (r.later E t) n (OpdsR.later E t t') dj
theorem OpdsR.from {K : PySem.W.Frag} {σ : St} {H0 H H1 : Hp} {env0 env env1 : Env} (t : Tr σ H env σ H0 env0) : ∀ {os : List Opd} {vs : List V}, OpdsR K σ H0 env0 H1 env1 os vs → OpdsR K σ H env H1 env1 os vs
  | _, _, .nil => .nil
  | _, _, .cons r n t' dj => .cons r (fun d p e1 e2 => by
      rcases n d p e1 e2 with z | z
      · exact t.fresh z
      · exact (t.s p z).symm) (OpdsR.from t t') dj
theorem OpdsR.own {K : PySem.W.Frag} {σ : St} {H0 H1 : Hp} {env0 env1 : Env} : ∀ {os : List Opd} {vs : List V}, OpdsR K σ H0 env0 H1 env1 os vs → ∀ (k : Nat) (e : D) (p : Addr), os[k]? = some (.own e) → vs[k]? = some (.ref p) → H0 p = none ∨ OwnA env0 σ p
  | _, _, .nil, k, e, p, h, _ => by simp at h
  | _, _, .cons r n t dj, 0, e, p, h, h2 => by
    simp at h h2
    exact n e p h h2
  | _, _, .cons r n t dj, k + 1, e, p, h, h2 => OpdsR.own t k e p (by simpa using h) (by simpa using h2)
theorem pa_os (O : XOk X G c) : ∀ {es : List E}, (∀ e ∈ es, SE c e) → ∀ {xs : List Expr}, ckEs es G xs = true → PA X xs (tAs X.K (evs c es))
  | [], _, [], _ => PA.imp pa_nil fun σ H Q ⟨env, ds, env', E, hf, q⟩ => by
    cases hf
    exact q [] H E .refl .nil
  | [], _, _ :: _, h => by cases h
  | _ :: _, _, [], h => by cases h
  | e :: es, hs, x :: xs, h => by
    have h' : (ckE e G x && ckEs es G xs) = true := h
    rw [Bool.and_eq_true] at h'
    have h1 := (hs e List.mem_cons_self X G O x h'.1).1
    have h2 := pa_os O (fun e he => hs e (List.mem_cons_of_mem _ he)) h'.2
    refine PA.imp (pa_cons h1 h2 (star_of h'.1 xs)) fun σ H Q ⟨env, ds, env', E, hf, q⟩ => ?_
    simp only [evs] at hf
    cases e1 : ev c e .v env with
    | none => rw [e1] at hf; cases hf
    | some oe =>
      obtain ⟨o, env1⟩ := oe
      rw [e1] at hf
      simp only at hf
      cases e3 : evs c es env1 with
      | none => rw [e3] at hf; cases hf
      | some dse =>
        obtain ⟨os', env3⟩ := dse
        rw [e3] at hf
        cases hf
        refine ⟨env, o, env1, E, e1, fun v H1 po => ⟨env1, os', env', po.e, e3, fun vs H2 E2 t2 r2 => q _ H2 E2 (po.t.trans t2) (.cons (po.r.later po.e t2) po.n (r2.from po.t) ?_)⟩⟩
        intro d p eo ev k e' hk hv
        subst eo
        obtain ⟨p', e2, oa, no⟩ := po.r
        rw [ev] at e2; cases e2
        rcases r2.own k e' p hk hv with z | z
        · obtain ⟨u, qq, _⟩ := oa.nfrz
          rw [qq] at z; cases z
        · exact no z
end
end PF
/-! PF7: the expressions, one by one. -/
namespace PF
open PySem PySem.Spec PyProof.Rows L2
section
variable {c : Cl}
theorem two_inv {α : Type} {a b : E} {env : Env} {r : α} {k : D → D → Env → Opd → Option α}
    (h : (match ev c a .v env with
      | none => none
      | some (x, env) => match ev c b .v env with
        | none => none
        | some (y, env) => match view env x, view env y with
          | some d, some e => k d e env y
          | _, _ => none) = some r) :
    ∃ x env1 y env2 d e, ev c a .v env = some (x, env1) ∧ ev c b .v env1 = some (y, env2) ∧ view env2 x = some d ∧ view env2 y = some e ∧ k d e env2 y = some r := by
  cases e1 : ev c a .v env with
  | none => rw [e1] at h; cases h
  | some xe =>
    obtain ⟨x, env1⟩ := xe
    rw [e1] at h
    simp only at h
    cases e2 : ev c b .v env1 with
    | none => rw [e2] at h; cases h
    | some ye =>
      obtain ⟨y, env2⟩ := ye
      rw [e2] at h
      simp only at h
      cases e3 : view env2 x with
      | none => rw [e3] at h; cases h
      | some d =>
        cases e4 : view env2 y with
        | none => rw [e3, e4] at h; cases h
        | some e =>
          rw [e3, e4] at h
          exact ⟨x, env1, y, env2, d, e, rfl, e2, e3, e4, h⟩
theorem se_tup {es : List E} (hs : ∀ e ∈ es, SE c e) : SE c (.tup es) := by
  refine se_of (fun _ => rfl) fun X G O x hx => ?_
  cases x <;> first | (cases hx; done) | skip
  rename_i xs k pos
  refine ⟨PE.imp (pe_tupF (pa_ds O hs hx)) fun σ H Q ⟨env, o, env', E, hf, q⟩ => ?_, fun _ => rfl⟩
  simp only [ev, fin] at hf
  cases e1 : evds c es env with
  | none => rw [e1] at hf; cases hf
  | some de =>
    obtain ⟨ds, env1⟩ := de
    rw [e1] at hf
    simp only at hf
    by_cases hz : ds.length ≤ line
    · rw [if_pos hz] at hf
      cases hf
      refine ⟨env, ds, env', E, e1, fun vs H1 E1 t1 r1 => ⟨by rw [r1.length, ← line_eq]; exact hz, fun p ob n hd => q _ _ (po_res E1 t1 (res_tup r1 n hd))⟩⟩
    · rw [if_neg hz] at hf; cases hf
theorem se_lst {es : List E} (hs : ∀ e ∈ es, SE c e) : SE c (.lst es) := by
  refine se_of (fun _ => rfl) fun X G O x hx => ?_
  cases x <;> first | (cases hx; done) | skip
  rename_i xs pos
  refine ⟨PE.imp (pe_lst (pa_ds O hs hx)) fun σ H Q ⟨env, o, env', E, hf, q⟩ => ?_, fun _ => rfl⟩
  simp only [ev, fin] at hf
  cases e1 : evds c es env with
  | none => rw [e1] at hf; cases hf
  | some de =>
    obtain ⟨ds, env1⟩ := de
    rw [e1] at hf
    simp only at hf
    by_cases hz : ds.length ≤ line
    · rw [if_pos hz] at hf
      cases hf
      refine ⟨env, ds, env', E, e1, fun vs H1 E1 t1 r1 => ⟨by rw [r1.length, ← line_eq]; exact hz, fun p n => q _ _ (po_res E1 t1 (res_lst r1 n))⟩⟩
    · rw [if_neg hz] at hf; cases hf
theorem and2 {a b : Bool} (h : (a && b) = true) : a = true ∧ b = true := by rwa [Bool.and_eq_true] at h
theorem se_bin {op : Op2} {a b : E} (ha : SE c a) (hb : SE c b) : SE c (.bin op a b) := by
  refine se_of (fun _ => rfl) fun X G O x hx => ?_
  cases x <;> first | (cases hx; done) | skip
  rename_i l o r pos
  obtain ⟨hx1, h3⟩ := and2 hx
  obtain ⟨h1, h2⟩ := and2 hx1
  have eo : op.py = o := of_decide_eq_true h1
  subst eo
  refine ⟨PE.imp (pe_op (opR2 op) (ha X G O _ h2).1 (hb X G O _ h3).1) fun σ H Q ⟨env, o, env', E, hf, q⟩ => ?_, fun _ => rfl⟩
  simp only [ev, fin] at hf
  obtain ⟨x, env1, y, env2, d, e, e1, e2, e3, e4, hk⟩ := two_inv (k := fun d e env _ => match op2 op d e with | some r => some (r, env) | none => none) hf
  cases ho : op2 op d e with
  | none => rw [ho] at hk; cases hk
  | some r =>
    rw [ho] at hk
    cases hk
    exact ⟨env, x, env1, E, e1, fun v H1 p1 => ⟨env1, y, env', p1.e, e2, fun u H2 p2 => ⟨d, e, o, (p1.r.later p1.e p2.t).view p2.e e3, p2.r.view p2.e e4, ho, fun w H3 res => q w H3 (po_res p2.e (p1.t.trans p2.t) res)⟩⟩⟩
theorem nomk {op : CmpOp} {y : Expr} (h : isSetE y = false) : behindInMarks op y = false := by
  cases y <;> first | rfl | cases h
theorem po_bl {K : PySem.W.Frag} {σ : St} {H H1 : Hp} {env env1 : Env} {b : Bool} (E : EnvR K H1 σ env1) (t : Tr σ H env σ H1 env1) : Po K σ H env (.dat (.bl b)) env1 (.bl b) H1 := po_dat E t rfl
theorem se_cmp {op : Cm} {a b : E} (ha : SE c a) (hb : SE c b) : SE c (.cmp op a b) := by
  intro X G O x hx
  cases x <;> first | (cases hx; done) | skip
  rename_i l ops rs pos
  match ops, rs, hx with
  | [o], [r], hx =>
    obtain ⟨hx1, h4⟩ := and2 hx
    obtain ⟨hx2, h3⟩ := and2 hx1
    obtain ⟨h1, h2⟩ := and2 hx2
    have eo : op.py = o := of_decide_eq_true h1
    subst eo
    have hm : behindInMarks op.py r = false := nomk (by simpa using h4)
    have key : ∀ {σ : St} {H : Hp} {env env' : Env} {bb : Bool} {Q : VK}, EnvR X.K H σ env → ev c (.cmp op a b) .v env = some (.dat (.bl bb), env') → (∀ H', EnvR X.K H' σ env' → Tr σ H env σ H' env' → Q (.bl bb) H') →
        tOp (rCm X.K op) (tE X.K (ev c a .v)) (tE X.K (ev c b .v)) σ H Q := by
      intro σ H env env' bb Q E hf q
      simp only [ev, fin] at hf
      obtain ⟨x, env1, y, env2, d, e, e1, e2, e3, e4, hk⟩ := two_inv (k := fun d e env _ => match cm op d e with | some r => some (Opd.dat (.bl r), env) | none => none) hf
      cases ho : cm op d e with
      | none => rw [ho] at hk; cases hk
      | some r =>
        rw [ho] at hk
        cases hk
        exact ⟨env, x, env1, E, e1, fun v H1 p1 => ⟨env1, y, env', p1.e, e2, fun u H2 p2 => ⟨d, e, bb, (p1.r.later p1.e p2.t).view p2.e e3, p2.r.view p2.e e4, ho, q H2 p2.e (p1.t.trans p2.t)⟩⟩⟩
    have vb : ∀ {env : Env} {o : Opd} {env' : Env}, ev c (.cmp op a b) .v env = some (o, env') → ∃ bb, o = .dat (.bl bb) := by
      intro env o env' hf
      simp only [ev, fin] at hf
      obtain ⟨x, env1, y, env2, d, e, e1, e2, e3, e4, hk⟩ := two_inv (k := fun d e env _ => match cm op d e with | some r => some (Opd.dat (.bl r), env) | none => none) hf
      cases ho : cm op d e with
      | none => rw [ho] at hk; cases hk
      | some r => rw [ho] at hk; cases hk; exact ⟨_, rfl⟩
    refine ⟨PE.imp (pe_cmpR (cmR O.un op) (ha X G O _ h2).1 (hb X G O _ h3).1 hm) fun σ H Q ⟨env, o, env', E, hf, q⟩ => ?_, PT.imp (pt_cmpR (cmR O.un op) (ha X G O _ h2).1 (hb X G O _ h3).1 hm) fun σ H Q ⟨env, b', env', E, hf, q⟩ => ?_⟩
    · obtain ⟨bb, rfl⟩ := vb hf
      exact key E hf fun H' E' t' => q _ H' (po_bl E' t')
    · have hf' : fin .t (ev c (.cmp op a b) .v env) = some (.dat (.bl b'), env') := hf
      cases hv : ev c (.cmp op a b) .v env with
      | none => rw [hv] at hf'; cases hf'
      | some oe =>
        obtain ⟨o, env2⟩ := oe
        obtain ⟨bb, rfl⟩ := vb hv
        rw [hv] at hf'
        cases hf'
        exact key E hv fun H' E' t' => ⟨b', rfl, q H' E' t'⟩
theorem se_chain {op op2 : Cm} {a b d : E} (ha : SE c a) (hb : SE c b) (hd : SE c d) : SE c (.chain op op2 a b d) := by
  intro X G O x hx
  cases x <;> first | (cases hx; done) | skip
  rename_i l ops rs pos
  match ops, rs, hx with
  | [o, o2], [r, r2], hx =>
    obtain ⟨hx1, h6⟩ := and2 hx
    obtain ⟨hx2, h5⟩ := and2 hx1
    obtain ⟨hx3, h4⟩ := and2 hx2
    obtain ⟨hx4, h3⟩ := and2 hx3
    obtain ⟨h1, h2⟩ := and2 hx4
    have eo : op.py = o := of_decide_eq_true h1
    have eo2 : op2.py = o2 := of_decide_eq_true h2
    subst eo eo2
    have hm : lastMarks [op.py, op2.py] [r, r2] = false := nomk (op := op2.py) (by simpa using h6)
    have inv : ∀ {env : Env} {o : Opd} {env' : Env}, ev c (.chain op op2 a b d) .v env = some (o, env') →
        ∃ x env1 y env2 g e, ev c a .v env = some (x, env1) ∧ ev c b .v env1 = some (y, env2) ∧ view env2 x = some g ∧ view env2 y = some e ∧
          ((cm op g e = some false ∧ o = .dat (.bl false) ∧ env' = env2) ∨ (cm op g e = some true ∧ ∃ z env3 e2 h k, ev c d .v env2 = some (z, env3) ∧ view env3 y = some e2 ∧ view env3 z = some h ∧ cm op2 e2 h = some k ∧ o = .dat (.bl k) ∧ env' = env3)) := by
      intro env o env' hf
      simp only [ev, fin] at hf
      obtain ⟨x, env1, y, env2, g, e, e1, e2, e3, e4, hk⟩ := two_inv (k := fun g e env y => match cm op g e with
          | none => none
          | some false => some (Opd.dat (.bl false), env)
          | some true => match ev c d .v env with
            | none => none
            | some (z, env) => match view env y, view env z with
              | some e, some g => match cm op2 e g with | some r => some (Opd.dat (.bl r), env) | none => none
              | _, _ => none) hf
      refine ⟨x, env1, y, env2, g, e, e1, e2, e3, e4, ?_⟩
      cases ho : cm op g e with
      | none => rw [ho] at hk; cases hk
      | some bb =>
        rw [ho] at hk
        cases bb with
        | false => cases hk; exact .inl ⟨rfl, rfl, rfl⟩
        | true =>
          simp only at hk
          cases e5 : ev c d .v env2 with
          | none => rw [e5] at hk; cases hk
          | some ze =>
            obtain ⟨z, env3⟩ := ze
            rw [e5] at hk
            simp only at hk
            cases e6 : view env3 y with
            | none => rw [e6] at hk; cases hk
            | some e2' =>
              cases e7 : view env3 z with
              | none => rw [e6, e7] at hk; cases hk
              | some h' =>
                rw [e6, e7] at hk
                simp only at hk
                cases e8 : cm op2 e2' h' with
                | none => rw [e8] at hk; cases hk
                | some k =>
                  rw [e8] at hk
                  cases hk
                  exact .inr ⟨rfl, z, _, e2', h', k, rfl, e6, e7, e8, rfl, rfl⟩
    have key : ∀ {σ : St} {H : Hp} {env env' : Env} {o : Opd} {Q : VK}, EnvR X.K H σ env → ev c (.chain op op2 a b d) .v env = some (o, env') → (∀ bb H', o = .dat (.bl bb) → EnvR X.K H' σ env' → Tr σ H env σ H' env' → Q (.bl bb) H') →
        tChain (rCm X.K op) (rCm X.K op2) (tE X.K (ev c a .v)) (tE X.K (ev c b .v)) (tE X.K (ev c d .v)) σ H Q := by
      intro σ H env env' o Q E hf q
      obtain ⟨x, env1, y, env2, g, e, e1, e2, e3, e4, hk⟩ := inv hf
      refine ⟨env, x, env1, E, e1, fun v H1 p1 => ⟨env1, y, env2, p1.e, e2, fun u H2 p2 => ?_⟩⟩
      rcases hk with ⟨ho, rfl, rfl⟩ | ⟨ho, z, env3, e2', h', k, e5, e6, e7, e8, rfl, rfl⟩
      · refine ⟨g, e, false, (p1.r.later p1.e p2.t).view p2.e e3, p2.r.view p2.e e4, ho, false, rfl, ?_⟩
        rw [if_neg Bool.false_ne_true]
        exact q _ H2 rfl p2.e (p1.t.trans p2.t)
      · refine ⟨g, e, true, (p1.r.later p1.e p2.t).view p2.e e3, p2.r.view p2.e e4, ho, true, rfl, ?_⟩
        rw [if_pos rfl]
        exact ⟨env2, z, env', p2.e, e5, fun w' H3 p3 => ⟨e2', h', k, (p2.r.later p2.e p3.t).view p3.e e6, p3.r.view p3.e e7, e8, q _ H3 rfl p3.e ((p1.t.trans p2.t).trans p3.t)⟩⟩
    have vb : ∀ {env : Env} {o : Opd} {env' : Env}, ev c (.chain op op2 a b d) .v env = some (o, env') → ∃ bb, o = .dat (.bl bb) := by
      intro env o env' hf
      obtain ⟨x, env1, y, env2, g, e, e1, e2, e3, e4, hk⟩ := inv hf
      rcases hk with ⟨ho, rfl, rfl⟩ | ⟨ho, z, env3, e2', h', k, e5, e6, e7, e8, rfl, rfl⟩
      · exact ⟨_, rfl⟩
      · exact ⟨_, rfl⟩
    have ca := cmR (X := X) O.un op
    have cb := cmR (X := X) O.un op2
    refine ⟨PE.imp (pe_chain ca cb (ha X G O _ (by assumption)).1 (hb X G O _ (by assumption)).1 (hd X G O _ (by assumption)).1 hm) fun σ H Q ⟨env, o, env', E, hf, q⟩ => key E hf fun bb H' e E' t' => ?_,
      PT.imp (pt_chain ca cb (ha X G O _ (by assumption)).1 (hb X G O _ (by assumption)).1 (hd X G O _ (by assumption)).1 hm) fun σ H Q ⟨env, b', env', E, hf, q⟩ => ?_⟩
    · subst e
      exact q _ H' (po_bl E' t')
    · have hf' : fin .t (ev c (.chain op op2 a b d) .v env) = some (.dat (.bl b'), env') := hf
      cases hv : ev c (.chain op op2 a b d) .v env with
      | none => rw [hv] at hf'; cases hf'
      | some oe =>
        obtain ⟨o, env2⟩ := oe
        obtain ⟨bb, rfl⟩ := vb hv
        rw [hv] at hf'
        cases hf'
        exact key E hv fun bb H' e E' t' => by
          cases e
          exact ⟨_, rfl, q H' E' t'⟩
theorem se_neg {a : E} (ha : SE c a) : SE c (.neg a) := by
  refine se_of (fun _ => rfl) fun X G O x hx => ?_
  cases x <;> first | (cases hx; done) | skip
  rename_i op y pos
  cases op <;> first | (cases hx; done) | skip
  refine ⟨PE.imp (pe_un un_neg (ha X G O _ hx).1) fun σ H Q ⟨env, o, env', E, hf, q⟩ => ?_, fun _ => rfl⟩
  simp only [ev, fin] at hf
  cases e1 : ev c a .v env with
  | none => rw [e1] at hf; cases hf
  | some xe =>
    obtain ⟨x, env1⟩ := xe
    rw [e1] at hf
    cases x with
    | dat d =>
      cases d with
      | int i =>
        cases hf
        exact ⟨env, _, _, E, e1, fun v H1 p1 => ⟨i, p1.r, q _ H1 (po_dat p1.e p1.t rfl)⟩⟩
      | _ => cases hf
    | _ => cases hf
theorem not_inv {a : E} {x : Option (Opd × Env)} {o : Opd} {env' : Env} (h : (match x with
    | some (.dat (.bl b), env) => some (Opd.dat (.bl (!b)), env)
    | _ => none) = some (o, env')) : ∃ b, x = some (.dat (.bl b), env') ∧ o = .dat (.bl (!b)) := by
  cases x with
  | none => cases h
  | some xe =>
    obtain ⟨x, env1⟩ := xe
    cases x with
    | dat d =>
      cases d with
      | bl b => cases h; exact ⟨b, rfl, rfl⟩
      | _ => cases h
    | _ => cases h
theorem fin_t_inv {x : Option (Opd × Env)} {o : Opd} {env' : Env} (h : fin .t x = some (o, env')) : ∃ y d b, x = some (y, env') ∧ view env' y = some d ∧ truth d = some b ∧ o = .dat (.bl b) := by
  cases x with
  | none => cases h
  | some xe =>
    obtain ⟨y, env1⟩ := xe
    simp only [fin] at h
    cases e3 : view env1 y with
    | none => rw [e3] at h; cases h
    | some d =>
      rw [e3] at h
      cases e4 : truth d with
      | none => simp only [e4] at h; cases h
      | some b =>
        simp only [e4] at h
        cases h
        exact ⟨y, d, b, rfl, e3, e4, rfl⟩
theorem se_not {a : E} (ha : SE c a) : SE c (.not a) := by
  intro X G O x hx
  cases x <;> first | (cases hx; done) | skip
  rename_i op y pos
  cases op <;> first | (cases hx; done) | skip
  refine ⟨PE.imp (pe_notT (ha X G O _ hx).1) fun σ H Q ⟨env, o, env', E, hf, q⟩ => ?_, PT.imp (pt_not (ha X G O _ hx).2) fun σ H Q ⟨env, b, env', E, hf, q⟩ => ?_⟩
  · simp only [ev, fin] at hf
    obtain ⟨b, e1, rfl⟩ := not_inv (a := a) hf
    obtain ⟨y, d, b', e2, e3, e4, e5⟩ := fin_t_inv e1
    cases e5
    exact ⟨env, y, env', E, e2, fun v H1 p1 => ⟨b, VwR.tru (p1.r.view p1.e e3) e4, q _ H1 (po_bl p1.e p1.t)⟩⟩
  · simp only [ev] at hf
    obtain ⟨y, d, b', e2, e3, e4, e5⟩ := fin_t_inv hf
    obtain ⟨b2, e6, rfl⟩ := not_inv (a := a) e2
    cases e3
    cases e4
    cases e5
    exact ⟨env, b2, env', E, e6, fun H1 E1 t1 => q H1 E1 t1⟩
/-! ### and, or -/
theorem and_cons {e : E} {es : List E} {md : Md} {env : Env} {b : Bool} {env' : Env} (h : evAnd c (e :: es) md env = some (.dat (.bl b), env')) :
    (b = false ∧ ev c e md env = some (.dat (.bl false), env')) ∨ ∃ env1, ev c e md env = some (.dat (.bl true), env1) ∧ evAnd c es md env1 = some (.dat (.bl b), env') := by
  simp only [evAnd] at h
  cases e1 : ev c e md env with
  | none => rw [e1] at h; cases h
  | some oe =>
    obtain ⟨o, env1⟩ := oe
    rw [e1] at h
    cases o with
    | dat d =>
      cases d with
      | bl k =>
        cases k with
        | false => cases h; exact .inl ⟨rfl, rfl⟩
        | true => exact .inr ⟨env1, rfl, h⟩
      | _ => cases h
    | _ => cases h
theorem or_cons {e : E} {es : List E} {md : Md} {env : Env} {b : Bool} {env' : Env} (h : evOr c (e :: es) md env = some (.dat (.bl b), env')) :
    (b = true ∧ ev c e md env = some (.dat (.bl true), env')) ∨ ∃ env1, ev c e md env = some (.dat (.bl false), env1) ∧ evOr c es md env1 = some (.dat (.bl b), env') := by
  simp only [evOr] at h
  cases e1 : ev c e md env with
  | none => rw [e1] at h; cases h
  | some oe =>
    obtain ⟨o, env1⟩ := oe
    rw [e1] at h
    cases o with
    | dat d =>
      cases d with
      | bl k =>
        cases k with
        | true => cases h; exact .inl ⟨rfl, rfl⟩
        | false => exact .inr ⟨env1, rfl, h⟩
      | _ => cases h
    | _ => cases h
theorem and_bl : ∀ {es : List E} {md : Md} {env : Env} {o : Opd} {env' : Env}, evAnd c es md env = some (o, env') → ∃ b, o = .dat (.bl b)
  | [], md, env, o, env', h => by cases h; exact ⟨_, rfl⟩
  | e :: es, md, env, o, env', h => by
    simp only [evAnd] at h
    split at h
    · cases h; exact ⟨_, rfl⟩
    · exact and_bl h
    · cases h
theorem or_bl : ∀ {es : List E} {md : Md} {env : Env} {o : Opd} {env' : Env}, evOr c es md env = some (o, env') → ∃ b, o = .dat (.bl b)
  | [], md, env, o, env', h => by cases h; exact ⟨_, rfl⟩
  | e :: es, md, env, o, env', h => by
    simp only [evOr] at h
    split at h
    · cases h; exact ⟨_, rfl⟩
    · exact or_bl h
    · cases h
theorem pe_ands {X : Cx} {G : Ck} (O : XOk X G c) {pos : Pos} : ∀ {e : E} {es : List E}, (∀ e' ∈ e :: es, SE c e') → ∀ {xs : List Expr}, ckEs (e :: es) G xs = true → PE X (.BoolOp .And xs pos) (tE X.K (evAnd c (e :: es) .v))
  | e, [], hs, [], h => by cases h
  | e, _ :: _, hs, [], h => by cases h
  | e, [], hs, x :: y :: xs, h => by
    obtain ⟨h1, h2⟩ := and2 (show (ckE e G x && ckEs [] G (y :: xs)) = true from h)
    cases h2
  | e, e2 :: es, hs, [x], h => by
    obtain ⟨h1, h2⟩ := and2 (show (ckE e G x && ckEs (e2 :: es) G []) = true from h)
    cases h2
  | e, [], hs, [x], h => by
    obtain ⟨h1, h2⟩ := and2 (show (ckE e G x && ckEs [] G []) = true from h)
    refine PE.imp (pe_one (hs e List.mem_cons_self X G O x h1).1) fun σ H Q ⟨env, o, env', E, hf, q⟩ => ?_
    obtain ⟨b, rfl⟩ := and_bl hf
    rcases and_cons hf with ⟨rfl, e1⟩ | ⟨env1, e1, e2⟩
    · exact ⟨env, _, env', E, e1, q⟩
    · cases e2
      exact ⟨env, _, env', E, e1, q⟩
  | e, e2 :: es, hs, x :: y :: xs, h => by
    obtain ⟨h1, h2⟩ := and2 (show (ckE e G x && ckEs (e2 :: es) G (y :: xs)) = true from h)
    refine PE.imp (pe_and (hs e List.mem_cons_self X G O x h1).1 (pe_ands O (fun e' he => hs e' (List.mem_cons_of_mem _ he)) h2)) fun σ H Q ⟨env, o, env', E, hf, q⟩ => ?_
    obtain ⟨b, rfl⟩ := and_bl hf
    rcases and_cons hf with ⟨rfl, e1⟩ | ⟨env1, e1, e2⟩
    · refine ⟨env, _, env', E, e1, fun v H1 p1 => ⟨false, p1.r, ?_⟩⟩
      rw [if_neg Bool.false_ne_true]
      exact q _ H1 (po_bl p1.e p1.t)
    · refine ⟨env, _, env1, E, e1, fun v H1 p1 => ⟨true, p1.r, ?_⟩⟩
      rw [if_pos rfl]
      exact ⟨env1, _, env', p1.e, e2, fun w' H2 p2 => by
        have : w' = .bl b := p2.r
        subst this
        exact q _ H2 (po_bl p2.e (p1.t.trans p2.t))⟩
theorem pe_ors {X : Cx} {G : Ck} (O : XOk X G c) {pos : Pos} : ∀ {e : E} {es : List E}, (∀ e' ∈ e :: es, SE c e') → ∀ {xs : List Expr}, ckEs (e :: es) G xs = true → PE X (.BoolOp .Or xs pos) (tE X.K (evOr c (e :: es) .v))
  | e, [], hs, [], h => by cases h
  | e, _ :: _, hs, [], h => by cases h
  | e, [], hs, x :: y :: xs, h => by
    obtain ⟨h1, h2⟩ := and2 (show (ckE e G x && ckEs [] G (y :: xs)) = true from h)
    cases h2
  | e, e2 :: es, hs, [x], h => by
    obtain ⟨h1, h2⟩ := and2 (show (ckE e G x && ckEs (e2 :: es) G []) = true from h)
    cases h2
  | e, [], hs, [x], h => by
    obtain ⟨h1, h2⟩ := and2 (show (ckE e G x && ckEs [] G []) = true from h)
    refine PE.imp (pe_one (hs e List.mem_cons_self X G O x h1).1) fun σ H Q ⟨env, o, env', E, hf, q⟩ => ?_
    obtain ⟨b, rfl⟩ := or_bl hf
    rcases or_cons hf with ⟨rfl, e1⟩ | ⟨env1, e1, e2⟩
    · exact ⟨env, _, env', E, e1, q⟩
    · cases e2
      exact ⟨env, _, env', E, e1, q⟩
  | e, e2 :: es, hs, x :: y :: xs, h => by
    obtain ⟨h1, h2⟩ := and2 (show (ckE e G x && ckEs (e2 :: es) G (y :: xs)) = true from h)
    refine PE.imp (pe_or (hs e List.mem_cons_self X G O x h1).1 (pe_ors O (fun e' he => hs e' (List.mem_cons_of_mem _ he)) h2)) fun σ H Q ⟨env, o, env', E, hf, q⟩ => ?_
    obtain ⟨b, rfl⟩ := or_bl hf
    rcases or_cons hf with ⟨rfl, e1⟩ | ⟨env1, e1, e2⟩
    · refine ⟨env, _, env', E, e1, fun v H1 p1 => ⟨true, p1.r, ?_⟩⟩
      rw [if_pos rfl]
      exact q _ H1 (po_bl p1.e p1.t)
    · refine ⟨env, _, env1, E, e1, fun v H1 p1 => ⟨false, p1.r, ?_⟩⟩
      rw [if_neg Bool.false_ne_true]
      exact ⟨env1, _, env', p1.e, e2, fun w' H2 p2 => by
        have : w' = .bl b := p2.r
        subst this
        exact q _ H2 (po_bl p2.e (p1.t.trans p2.t))⟩
theorem pw_ands {X : Cx} {G : Ck} (O : XOk X G c) {pos : Pos} : ∀ {e : E} {es : List E}, (∀ e' ∈ e :: es, SE c e') → ∀ {xs : List Expr}, ckEs (e :: es) G xs = true → PW X (.BoolOp .And xs pos) (tT X.K (evAnd c (e :: es) .t))
  | e, [], hs, [], h => by cases h
  | e, _ :: _, hs, [], h => by cases h
  | e, [], hs, x :: y :: xs, h => by
    obtain ⟨h1, h2⟩ := and2 (show (ckE e G x && ckEs [] G (y :: xs)) = true from h)
    cases h2
  | e, e2 :: es, hs, [x], h => by
    obtain ⟨h1, h2⟩ := and2 (show (ckE e G x && ckEs (e2 :: es) G []) = true from h)
    cases h2
  | e, [], hs, [x], h => by
    obtain ⟨h1, h2⟩ := and2 (show (ckE e G x && ckEs [] G []) = true from h)
    refine ⟨fun wh pins s σ H Q I hw => (pw_and1 (hs e List.mem_cons_self X G O x h1).2).run wh pins s σ H Q I ?_⟩
    obtain ⟨env, b, env', E, hf, q⟩ := hw
    rcases and_cons hf with ⟨rfl, e1⟩ | ⟨env1, e1, e2⟩
    · exact ⟨env, _, env', E, e1, q⟩
    · cases e2
      exact ⟨env, _, env', E, e1, q⟩
  | e, e2 :: es, hs, x :: y :: xs, h => by
    obtain ⟨h1, h2⟩ := and2 (show (ckE e G x && ckEs (e2 :: es) G (y :: xs)) = true from h)
    refine ⟨fun wh pins s σ H Q I hw => (pw_and (hs e List.mem_cons_self X G O x h1).2 (pw_ands O (fun e' he => hs e' (List.mem_cons_of_mem _ he)) h2)).run wh pins s σ H Q I ?_⟩
    obtain ⟨env, b, env', E, hf, q⟩ := hw
    rcases and_cons hf with ⟨rfl, e1⟩ | ⟨env1, e1, e2⟩
    · refine ⟨env, _, env', E, e1, fun H1 E1 t1 => ?_⟩
      dsimp only
      rw [if_neg Bool.false_ne_true]
      exact q H1 E1 t1
    · refine ⟨env, _, env1, E, e1, fun H1 E1 t1 => ?_⟩
      dsimp only
      rw [if_pos rfl]
      exact ⟨env1, _, env', E1, e2, fun H2 E2 t2 => q H2 E2 (t1.trans t2)⟩
theorem pw_ors {X : Cx} {G : Ck} (O : XOk X G c) {pos : Pos} : ∀ {e : E} {es : List E}, (∀ e' ∈ e :: es, SE c e') → ∀ {xs : List Expr}, ckEs (e :: es) G xs = true → PW X (.BoolOp .Or xs pos) (tT X.K (evOr c (e :: es) .t))
  | e, [], hs, [], h => by cases h
  | e, _ :: _, hs, [], h => by cases h
  | e, [], hs, x :: y :: xs, h => by
    obtain ⟨h1, h2⟩ := and2 (show (ckE e G x && ckEs [] G (y :: xs)) = true from h)
    cases h2
  | e, e2 :: es, hs, [x], h => by
    obtain ⟨h1, h2⟩ := and2 (show (ckE e G x && ckEs (e2 :: es) G []) = true from h)
    cases h2
  | e, [], hs, [x], h => by
    obtain ⟨h1, h2⟩ := and2 (show (ckE e G x && ckEs [] G []) = true from h)
    refine ⟨fun wh pins s σ H Q I hw => (pw_or1 (hs e List.mem_cons_self X G O x h1).2).run wh pins s σ H Q I ?_⟩
    obtain ⟨env, b, env', E, hf, q⟩ := hw
    rcases or_cons hf with ⟨rfl, e1⟩ | ⟨env1, e1, e2⟩
    · exact ⟨env, _, env', E, e1, q⟩
    · cases e2
      exact ⟨env, _, env', E, e1, q⟩
  | e, e2 :: es, hs, x :: y :: xs, h => by
    obtain ⟨h1, h2⟩ := and2 (show (ckE e G x && ckEs (e2 :: es) G (y :: xs)) = true from h)
    refine ⟨fun wh pins s σ H Q I hw => (pw_or (hs e List.mem_cons_self X G O x h1).2 (pw_ors O (fun e' he => hs e' (List.mem_cons_of_mem _ he)) h2)).run wh pins s σ H Q I ?_⟩
    obtain ⟨env, b, env', E, hf, q⟩ := hw
    rcases or_cons hf with ⟨rfl, e1⟩ | ⟨env1, e1, e2⟩
    · refine ⟨env, _, env', E, e1, fun H1 E1 t1 => ?_⟩
      dsimp only
      rw [if_pos rfl]
      exact q H1 E1 t1
    · refine ⟨env, _, env1, E, e1, fun H1 E1 t1 => ?_⟩
      dsimp only
      rw [if_neg Bool.false_ne_true]
      exact ⟨env1, _, env', E1, e2, fun H2 E2 t2 => q H2 E2 (t1.trans t2)⟩
theorem fin_bl {md : Md} {x : Option (Opd × Env)} (h : ∀ o env, x = some (o, env) → ∃ b, o = .dat (.bl b)) (hm : md = .t) : fin md x = x := by
  subst hm
  cases x with
  | none => rfl
  | some oe =>
    obtain ⟨o, env⟩ := oe
    obtain ⟨b, rfl⟩ := h o env rfl
    rfl
theorem se_and {es : List E} (hs : ∀ e ∈ es, SE c e) : SE c (.and es) := by
  intro X G O x hx
  cases x <;> first | (cases hx; done) | skip
  rename_i op xs pos
  cases op <;> first | (cases hx; done) | skip
  obtain ⟨h1, h2⟩ := and2 hx
  cases es with
  | nil => cases h1
  | cons e es =>
    refine ⟨pe_ands O hs h2, ?_⟩
    rw [show ev c (.and (e :: es)) .t = evAnd c (e :: es) .t from funext fun env => fin_bl (fun o env h => and_bl h) rfl]
    exact (pw_ands O hs h2).pt
theorem se_or {es : List E} (hs : ∀ e ∈ es, SE c e) : SE c (.or es) := by
  intro X G O x hx
  cases x <;> first | (cases hx; done) | skip
  rename_i op xs pos
  cases op <;> first | (cases hx; done) | skip
  obtain ⟨h1, h2⟩ := and2 hx
  cases es with
  | nil => cases h1
  | cons e es =>
    refine ⟨pe_ors O hs h2, ?_⟩
    rw [show ev c (.or (e :: es)) .t = evOr c (e :: es) .t from funext fun env => fin_bl (fun o env h => or_bl h) rfl]
    exact (pw_ors O hs h2).pt
end
end PF
/-! PF8: names lent to a call and given back. -/
namespace PF
open PySem PySem.Spec PyProof.Rows L2
section
variable {K : PySem.W.Frag} {H H1 H2 : Hp} {σ : St} {env env1 env2 : Env}
theorem OwnA.cons {s : Slot} {ss : Env} {x : Option V} {σ : St} {p : Addr} : OwnA (s :: ss) (x :: σ) p ↔ (∃ d, s = .own d ∧ x = some (.ref p)) ∨ OwnA ss σ p := by
  constructor
  · rintro ⟨i, d, h1, h2⟩
    cases i with
    | zero => simp at h1 h2; exact .inl ⟨d, h1, h2⟩
    | succ i => exact .inr ⟨i, d, by simpa using h1, by simpa using h2⟩
  · rintro (⟨d, rfl, rfl⟩ | ⟨i, d, h1, h2⟩)
    · exact ⟨0, d, rfl, rfl⟩
    · exact ⟨i + 1, d, by simpa using h1, by simpa using h2⟩
theorem EnvR.nil : EnvR K H [] [] := ⟨rfl, fun i s e => by simp at e, fun i j d e p h => by simp at h⟩
theorem EnvR.cons' {s : Slot} {ss : Env} {x : Option V} (h : SlotR K H s x) (E : EnvR K H σ ss) (dj : ∀ d p, s = .own d → x = some (.ref p) → ¬ OwnA ss σ p) : EnvR K H (x :: σ) (s :: ss) := by
  refine ⟨by rw [List.length_cons, List.length_cons, E.len], fun i sl e => ?_, fun i j d e p h1 h2 h3 h4 => ?_⟩
  · cases i with
    | zero => simp at e; subst e; exact ⟨x, rfl, h⟩
    | succ i =>
      obtain ⟨y, e2, r⟩ := E.sl i sl (by simpa using e)
      exact ⟨y, by simpa using e2, r⟩
  · cases i with
    | zero =>
      cases j with
      | zero => rfl
      | succ j =>
        simp at h1 h3
        exact (dj d p h1 h3 ⟨j, e, by simpa using h2, by simpa using h4⟩).elim
    | succ i =>
      cases j with
      | zero =>
        simp at h2 h4
        exact (dj e p h2 h4 ⟨i, d, by simpa using h1, by simpa using h3⟩).elim
      | succ j =>
        rw [E.dj i j d e p (by simpa using h1) (by simpa using h2) (by simpa using h3) (by simpa using h4)]
theorem EnvR.uncons {s : Slot} {ss : Env} {x : Option V} (E : EnvR K H (x :: σ) (s :: ss)) : SlotR K H s x ∧ EnvR K H σ ss ∧ ∀ d p, s = .own d → x = some (.ref p) → ¬ OwnA ss σ p := by
  refine ⟨?_, ⟨by have := E.len; simpa using this, fun i sl e => ?_, fun i j d e p h1 h2 h3 h4 => ?_⟩, fun d p e1 e2 z => ?_⟩
  · obtain ⟨y, e2, r⟩ := E.sl 0 s rfl
    cases e2
    exact r
  · obtain ⟨y, e2, r⟩ := E.sl (i + 1) sl (by simpa using e)
    exact ⟨y, by simpa using e2, r⟩
  · have := E.dj (i + 1) (j + 1) d e p (by simpa using h1) (by simpa using h2) (by simpa using h3) (by simpa using h4)
    omega
  · obtain ⟨i, d', h1, h2⟩ := z
    subst e1 e2
    have := E.dj 0 (i + 1) d d' p rfl (by simpa using h1) rfl (by simpa using h2)
    omega
/-- a slot let go -/
theorem EnvR.un (E : EnvR K H σ env) (i : Nat) : EnvR K H σ (env.set i .un) ∧ (∀ p, OwnA (env.set i .un) σ p → OwnA env σ p) ∧ ∀ p, σ[i]? = some (some (.ref p)) → (∃ d, env[i]? = some (.own d)) → ¬ OwnA (env.set i .un) σ p := by
  have getS : ∀ {j : Nat} {sl : Slot}, (env.set i .un)[j]? = some sl → (j = i ∧ sl = .un) ∨ (j ≠ i ∧ env[j]? = some sl) := fun {j sl} e => by
    by_cases hj : i = j
    · subst hj
      rw [List.getElem?_set_self'] at e
      cases hh : env[i]? with
      | none => rw [hh] at e; cases e
      | some w => rw [hh] at e; cases e; exact .inl ⟨rfl, rfl⟩
    · rw [List.getElem?_set_ne hj] at e
      exact .inr ⟨Ne.symm hj, e⟩
  have own : ∀ {j : Nat} {d : D}, (env.set i .un)[j]? = some (.own d) → j ≠ i ∧ env[j]? = some (.own d) := fun {j d} e => by
    rcases getS e with ⟨_, z⟩ | z
    · cases z
    · exact z
  refine ⟨⟨by rw [List.length_set]; exact E.len, fun j sl e => ?_, fun j l d e p h1 h2 h3 h4 => E.dj j l d e p (own h1).2 (own h2).2 h3 h4⟩, fun p ⟨j, d, h1, h2⟩ => ⟨j, d, (own h1).2, h2⟩, fun p h ⟨d, hd⟩ ⟨j, e, h1, h2⟩ => (own h1).1 (E.dj j i e d p (own h1).2 hd h2 h)⟩
  rcases getS e with ⟨rfl, rfl⟩ | ⟨hj, e⟩
  · have hlt : j < env.length := by
      obtain ⟨q, _⟩ := List.getElem?_eq_some_iff.mp e
      rw [List.length_set] at q; exact q
    rw [E.len] at hlt
    exact ⟨σ[j], List.getElem?_eq_getElem hlt, trivial⟩
  · exact E.sl j sl e
/-- a slot that takes a value -/
theorem EnvR.put (E : EnvR K H σ env) {i : Nat} {s : Slot} {x : Option V} (hx : σ[i]? = some x) (h : SlotR K H s x) (dj : ∀ d p, s = .own d → x = some (.ref p) → ¬ OwnA env σ p) :
    EnvR K H σ (env.set i s) ∧ ∀ p, OwnA (env.set i s) σ p → OwnA env σ p ∨ ∃ d, s = .own d ∧ x = some (.ref p) := by
  have getS : ∀ {j : Nat} {sl : Slot}, (env.set i s)[j]? = some sl → (j = i ∧ sl = s) ∨ (j ≠ i ∧ env[j]? = some sl) := fun {j sl} e => by
    by_cases hj : i = j
    · subst hj
      rw [List.getElem?_set_self'] at e
      cases hh : env[i]? with
      | none => rw [hh] at e; cases e
      | some w => rw [hh] at e; cases e; exact .inl ⟨rfl, rfl⟩
    · rw [List.getElem?_set_ne hj] at e
      exact .inr ⟨Ne.symm hj, e⟩
  refine ⟨⟨by rw [List.length_set]; exact E.len, fun j sl e => ?_, fun j l d e p h1 h2 h3 h4 => ?_⟩, fun p ⟨j, d, h1, h2⟩ => ?_⟩
  · rcases getS e with ⟨rfl, rfl⟩ | ⟨hj, e⟩
    · exact ⟨x, hx, h⟩
    · exact E.sl j sl e
  · rcases getS h1 with ⟨rfl, z1⟩ | ⟨hj, z1⟩
    · rcases getS h2 with ⟨rfl, z2⟩ | ⟨hl, z2⟩
      · rfl
      · rw [hx] at h3; cases h3
        exact (dj d p z1.symm rfl ⟨l, e, z2, h4⟩).elim
    · rcases getS h2 with ⟨rfl, z2⟩ | ⟨hl, z2⟩
      · rw [hx] at h4; cases h4
        exact (dj e p z2.symm rfl ⟨j, d, z1, h3⟩).elim
      · exact E.dj j l d e p z1 z2 h3 h4
  · rcases getS h1 with ⟨rfl, z⟩ | ⟨hj, z⟩
    · rw [hx] at h2; cases h2
      exact .inr ⟨d, z.symm, rfl⟩
    · exact .inl ⟨j, d, z, h2⟩
theorem OpdsR.under {H0 : Hp} {env0 : Env} (ho : ∀ p, OwnA env1 σ p → OwnA env σ p) : ∀ {os : List Opd} {vs : List V}, OpdsR K σ H0 env0 H env os vs → OpdsR K σ H0 env0 H env1 os vs
  | _, _, .nil => .nil
  | .dat d :: _, _, .cons r n t dj => .cons r n (OpdsR.under ho t) dj
  | .own d :: _, _, .cons ⟨p, e, o, no⟩ n t dj => .cons ⟨p, e, o, fun z => no (ho p z)⟩ n (OpdsR.under ho t) dj
  | .slot i :: _, _, .cons r n t dj => .cons r n (OpdsR.under ho t) dj
theorem lend_ok {H0 : Hp} {env0 : Env} : ∀ {os : List Opd} {vs : List V} {env : Env} {ss : List Slot} {env2 : Env}, EnvR K H σ env → OpdsR K σ H0 env0 H env os vs → lend os env = some (ss, env2) →
    EnvR K H σ env2 ∧ (∀ p, OwnA env2 σ p → OwnA env σ p) ∧ EnvR K H (vs.map some) ss ∧
      ∀ p, OwnA ss (vs.map some) p → ¬ OwnA env2 σ p ∧ (OwnA env σ p ∨ ∃ (k : Nat) (e : D), os[k]? = some (.own e) ∧ vs[k]? = some (.ref p))
  | [], _, env, ss, env2, E, .nil, h => by
    cases h
    exact ⟨E, fun _ z => z, .nil, fun p ⟨i, d, h, _⟩ => by simp at h⟩
  | o :: r, v :: vs, env, ss, env2, E, .cons ro n t dj, h => by
    cases o with
    | dat d =>
      simp only [lend] at h
      cases e1 : lend r env with
      | none => rw [e1] at h; cases h
      | some q =>
        obtain ⟨ss', env'⟩ := q
        rw [e1] at h
        cases h
        obtain ⟨a1, a2, a3, a4⟩ := lend_ok E t e1
        refine ⟨a1, a2, .cons' ⟨v, rfl, ro⟩ a3 (fun d p z => nomatch z), fun p z => ?_⟩
        rcases OwnA.cons.mp z with ⟨d, z, _⟩ | z
        · cases z
        · obtain ⟨b1, b2⟩ := a4 p z
          refine ⟨b1, b2.imp id fun ⟨k, e, k1, k2⟩ => ⟨k + 1, e, by simpa using k1, by simpa using k2⟩⟩
    | own d =>
      simp only [lend] at h
      cases e1 : lend r env with
      | none => rw [e1] at h; cases h
      | some q =>
        obtain ⟨ss', env'⟩ := q
        rw [e1] at h
        cases h
        obtain ⟨a1, a2, a3, a4⟩ := lend_ok E t e1
        obtain ⟨p, rfl, oa, no⟩ := ro
        refine ⟨a1, a2, .cons' ⟨p, rfl, oa⟩ a3 (fun d' p' z1 z2 z3 => ?_), fun p' z => ?_⟩
        · cases z2
          obtain ⟨b1, b2⟩ := a4 p z3
          rcases b2 with b2 | ⟨k, e, k1, k2⟩
          · exact no b2
          · exact dj d p rfl rfl k e k1 k2
        · rcases OwnA.cons.mp z with ⟨d', z1, z2⟩ | z
          · cases z2
            exact ⟨fun q => no (a2 _ q), .inr ⟨0, d, rfl, rfl⟩⟩
          · obtain ⟨b1, b2⟩ := a4 p' z
            refine ⟨b1, b2.imp id fun ⟨k, e, k1, k2⟩ => ⟨k + 1, e, by simpa using k1, by simpa using k2⟩⟩
    | slot i =>
      simp only [lend] at h
      cases hl : look env i with
      | own d =>
        rw [hl] at h
        simp only at h
        cases e1 : lend r (env.set i .un) with
        | none => rw [e1] at h; cases h
        | some q =>
          obtain ⟨ss', env'⟩ := q
          rw [e1] at h
          cases h
          obtain ⟨u1, u2, u3⟩ := E.un i
          obtain ⟨a1, a2, a3, a4⟩ := lend_ok u1 (t.under u2) e1
          obtain ⟨p, e2, oa, ow⟩ := E.own hl
          have e3 : σ[i]? = some (some v) := ro
          rw [e2] at e3
          cases e3
          have nun := u3 p e2 ⟨d, look_own hl⟩
          refine ⟨a1, fun p z => u2 p (a2 p z), .cons' ⟨p, rfl, oa⟩ a3 (fun d' p' z1 z2 z3 => ?_), fun p' z => ?_⟩
          · cases z2
            obtain ⟨b1, b2⟩ := a4 p z3
            rcases b2 with b2 | ⟨k, e, k1, k2⟩
            · exact nun b2
            · have : ∀ {os : List Opd} {vs : List V}, OpdsR K σ H0 env0 H env os vs → ∀ (k : Nat) (e : D), os[k]? = some (.own e) → vs[k]? = some (.ref p) → ¬ OwnA env σ p := by
                intro os vs t
                induction t with
                | nil => intro k e h; simp at h
                | cons r n t dj ih =>
                  intro k e h h2
                  cases k with
                  | zero =>
                    simp at h h2
                    subst h h2
                    obtain ⟨p', e', _, no⟩ := r
                    cases e'
                    exact no
                  | succ k => exact ih k e (by simpa using h) (by simpa using h2)
              exact this t k e k1 k2 ow
          · rcases OwnA.cons.mp z with ⟨d', z1, z2⟩ | z
            · cases z2
              exact ⟨fun q => nun (a2 _ q), .inl ow⟩
            · obtain ⟨b1, b2⟩ := a4 p' z
              refine ⟨b1, b2.imp (u2 p') fun ⟨k, e, k1, k2⟩ => ⟨k + 1, e, by simpa using k1, by simpa using k2⟩⟩
      | un => rw [hl] at h; cases h
      | val d => rw [hl] at h; cases h
/-- what is given back stands -/
theorem give_ok : ∀ {os : List Opd} {vs : List V} {fs : List Slot} {env : Env}, (∀ (k i : Nat), os[k]? = some (.slot i) → ∀ v, vs[k]? = some v → σ[i]? = some (some v)) → EnvR K H σ env → EnvR K H (vs.map some) fs → (∀ p, OwnA env σ p → ¬ OwnA fs (vs.map some) p) →
    EnvR K H σ (giveBack os fs env) ∧ ∀ p, OwnA (giveBack os fs env) σ p → OwnA env σ p ∨ OwnA fs (vs.map some) p
  | [], _, fs, env, _, E, _, _ => by
    cases fs <;> exact ⟨E, fun _ z => .inl z⟩
  | .dat d :: r, vs, [], env, _, E, _, _ => ⟨E, fun _ z => .inl z⟩
  | .own d :: r, vs, [], env, _, E, _, _ => ⟨E, fun _ z => .inl z⟩
  | .slot d :: r, vs, [], env, _, E, _, _ => ⟨E, fun _ z => .inl z⟩
  | o :: r, [], s :: fs, env, _, E, F, _ => by have := F.len; simp at this
  | o :: r, v :: vs, s :: fs, env, hk, E, F, dj => by
    obtain ⟨f1, f2, f3⟩ := EnvR.uncons (σ := vs.map some) F
    have hk' : ∀ (k i : Nat), r[k]? = some (.slot i) → ∀ v, vs[k]? = some v → σ[i]? = some (some v) := fun k i h v' h' => hk (k + 1) i (by simpa using h) v' (by simpa using h')
    have skip : EnvR K H σ (giveBack r fs env) ∧ ∀ p, OwnA (giveBack r fs env) σ p → OwnA env σ p ∨ OwnA (s :: fs) ((v :: vs).map some) p := by
      obtain ⟨g1, g2⟩ := give_ok hk' E f2 fun p z q => dj p z (OwnA.cons.mpr (.inr q))
      exact ⟨g1, fun p z => (g2 p z).imp id fun q => OwnA.cons.mpr (.inr q)⟩
    cases o with
    | dat d => exact skip
    | own d => exact skip
    | slot i =>
      have hi : σ[i]? = some (some v) := hk 0 i rfl v rfl
      obtain ⟨e1, e2⟩ := E.put hi f1 fun d p z1 z2 z3 => dj p z3 (OwnA.cons.mpr (.inl ⟨d, z1, z2⟩))
      obtain ⟨g1, g2⟩ := give_ok hk' e1 f2 fun p z q => by
        rcases e2 p z with z | ⟨d, z1, z2⟩
        · exact dj p z (OwnA.cons.mpr (.inr q))
        · exact f3 d p z1 z2 q
      refine ⟨g1, fun p z => ?_⟩
      rcases g2 p z with z | z
      · rcases e2 p z with z | ⟨d, z1, z2⟩
        · exact .inl z
        · exact .inr (OwnA.cons.mpr (.inl ⟨d, z1, z2⟩))
      · exact .inr (OwnA.cons.mpr (.inr z))
end
end PF
/-! PF9: the other expressions. -/
namespace PF
open PySem PySem.Spec PyProof.Rows L2
section
variable {c : Cl}
theorem isTrue_ifx {M : Model} {A : Around} {E : Value → Shared → Prop} {s : Shared} {env : PySem.Env} {t a b : Expr} {pos : Pos} {whole : Sem Value} {Q : Bool → Shared → Prop}
    (h : wpAny M A (isTrue t env (eval t env)) (fun k s' => wpAny M A (if k = true then isTrue a env (eval a env) else isTrue b env (eval b env)) Q E s') E s) : wpAny M A (isTrue (.IfExp t a b pos) env whole) Q E s := by
  show wpAny M A (do if ← isTrue t env (eval t env) then isTrue a env (eval a env) else isTrue b env (eval b env)) Q E s
  exact wpAny_bind (wpAny_mono h (fun k s' h' => h') fun _ _ x => x)
theorem pt_ifx {X : Cx} {t a b : Expr} {pos : Pos} {tt ta tb : TT} (ht : PT X t tt) (ha : PT X a ta) (hb : PT X b tb) : PT X (.IfExp t a b pos) (fun σ H Q => tt σ H fun k H1 => if k = true then ta σ H1 Q else tb σ H1 Q) := by
  refine ⟨fun pins s σ H Q I h => isTrue_ifx (thn (ht.run pins s σ H _ I h) fun k s1 ⟨H1, I1, q1⟩ => ?_)⟩
  cases k with
  | true => rw [if_pos rfl] at q1 ⊢; exact ha.run pins s1 σ H1 Q I1 q1
  | false => rw [if_neg Bool.false_ne_true] at q1 ⊢; exact hb.run pins s1 σ H1 Q I1 q1
theorem ite_inv {t a b : E} {md : Md} {env : Env} {r : Opd × Env} (h : ev c (.ite t a b) md env = some r) : ∃ k env1, ev c t .t env = some (.dat (.bl k), env1) ∧ (if k = true then ev c a md env1 else ev c b md env1) = some r := by
  simp only [ev] at h
  cases e1 : ev c t .t env with
  | none => rw [e1] at h; cases h
  | some oe =>
    obtain ⟨o, env1⟩ := oe
    rw [e1] at h
    cases o with
    | dat d =>
      cases d with
      | bl k => cases k <;> exact ⟨_, env1, rfl, h⟩
      | _ => cases h
    | _ => cases h
theorem se_ite {t a b : E} (ht : SE c t) (ha : SE c a) (hb : SE c b) : SE c (.ite t a b) := by
  intro X G O x hx
  cases x <;> first | (cases hx; done) | skip
  rename_i t' a' b' pos
  obtain ⟨hx1, h3⟩ := and2 hx
  obtain ⟨h1, h2⟩ := and2 hx1
  refine ⟨PE.imp (pe_ifExp (ht X G O _ h1).2 (ha X G O _ h2).1 (hb X G O _ h3).1) fun σ H Q ⟨env, o, env', E, hf, q⟩ => ?_, PT.imp (pt_ifx (ht X G O _ h1).2 (ha X G O _ h2).2 (hb X G O _ h3).2) fun σ H Q ⟨env, o, env', E, hf, q⟩ => ?_⟩
  · obtain ⟨k, env1, e1, e2⟩ := ite_inv hf
    refine ⟨env, k, env1, E, e1, fun H1 E1 t1 => ?_⟩
    dsimp only
    have next : ∀ v H2, Po X.K σ H1 env1 o env' v H2 → Q v H2 := fun v H2 p => q v H2 ⟨p.e, t1.trans p.t, p.r, fun d p' a b => by
      rcases p.n d p' a b with z | z
      · exact t1.fresh z
      · exact (t1.s p' z).symm⟩
    cases k with
    | true => rw [if_pos rfl] at e2 ⊢; exact ⟨env1, o, env', E1, e2, next⟩
    | false => rw [if_neg Bool.false_ne_true] at e2 ⊢; exact ⟨env1, o, env', E1, e2, next⟩
  · obtain ⟨k, env1, e1, e2⟩ := ite_inv hf
    refine ⟨env, k, env1, E, e1, fun H1 E1 t1 => ?_⟩
    dsimp only
    cases k with
    | true => rw [if_pos rfl] at e2 ⊢; exact ⟨env1, o, env', E1, e2, fun H2 E2 t2 => q H2 E2 (t1.trans t2)⟩
    | false => rw [if_neg Bool.false_ne_true] at e2 ⊢; exact ⟨env1, o, env', E1, e2, fun H2 E2 t2 => q H2 E2 (t1.trans t2)⟩
theorem plain_of {e : E} {G : Ck} {x : Expr} (h : ckE e G x = true) : PlainIx x := by
  intro o i
  cases x <;> first | rfl | (exfalso; cases e <;> first | (cases h; done) | (rename_i src _ _; cases src <;> cases h))
theorem se_idx {a b : E} (ha : SE c a) (hb : SE c b) : SE c (.idx a b) := by
  refine se_of (fun _ => rfl) fun X G O x hx => ?_
  cases x <;> first | (cases hx; done) | skip
  rename_i l r pos
  obtain ⟨h1, h2⟩ := and2 hx
  refine ⟨PE.imp (pe_ix idxR (ha X G O _ h1).1 (hb X G O _ h2).1 (plain_of h2)) fun σ H Q ⟨env, o, env', E, hf, q⟩ => ?_, fun _ => rfl⟩
  simp only [ev, fin] at hf
  obtain ⟨x, env1, y, env2, d, e, e1, e2, e3, e4, hk⟩ := two_inv (k := fun d e env _ => match idxD d e with | some r => some (Opd.dat r, env) | none => none) hf
  cases ho : idxD d e with
  | none => rw [ho] at hk; cases hk
  | some r =>
    rw [ho] at hk
    cases hk
    exact ⟨env, x, env1, E, e1, fun v H1 p1 => ⟨env1, y, env', p1.e, e2, fun u H2 p2 => ⟨d, e, r, (p1.r.later p1.e p2.t).view p2.e e3, p2.r.view p2.e e4, ho, fun w rw => q w H2 (po_dat p2.e (p1.t.trans p2.t) rw)⟩⟩⟩
theorem se_rev {a : E} (ha : SE c a) : SE c (.rev a) := by
  refine se_of (fun _ => rfl) fun X G O x hx => ?_
  cases x <;> first | (cases hx; done) | skip
  rename_i l r pos
  cases r <;> first | (cases hx; done) | skip
  rename_i lo hi st p2
  cases lo <;> first | (cases hx; done) | skip
  cases hi <;> first | (cases hx; done) | skip
  cases st <;> first | (cases hx; done) | skip
  rename_i st
  cases st <;> first | (cases hx; done) | skip
  rename_i op st p3
  cases op <;> first | (cases hx; done) | skip
  cases st <;> first | (cases hx; done) | skip
  rename_i cst k p4
  cases cst <;> first | (cases hx; done) | skip
  rename_i i
  by_cases hi : i = 1
  · subst hi
    refine ⟨PE.imp (pe_rev (ha X G O _ hx).1) fun σ H Q ⟨env, o, env', E, hf, q⟩ => ?_, fun _ => rfl⟩
    simp only [ev, fin] at hf
    cases e1 : ev c a .v env with
    | none => rw [e1] at hf; cases hf
    | some xe =>
      obtain ⟨x, env1⟩ := xe
      rw [e1] at hf
      simp only at hf
      cases e2 : view env1 x with
      | none => rw [e2] at hf; cases hf
      | some d =>
        rw [e2] at hf
        simp only at hf
        cases e3 : revD d with
        | none => rw [e3] at hf; cases hf
        | some r =>
          rw [e3] at hf
          cases hf
          exact ⟨env, x, _, E, e1, fun v H1 p1 => ⟨d, _, p1.r.view p1.e e2, e3, fun w H2 res => q w H2 (po_res p1.e p1.t res)⟩⟩
  · exfalso
    unfold ckE at hx
    split at hx <;> simp_all
/-- a slice's part -/
def tP (K : PySem.W.Frag) (c : Cl) (e : E) : TO := fun σ H Q => ∃ env d env' p, EnvR K H σ env ∧ ev c e .v env = some (.dat d, env') ∧ part e d = some p ∧ ∀ H', EnvR K H' σ env' → Tr σ H env σ H' env' → Q p H'
theorem po_of {X : Cx} {G : Ck} (O : XOk X G c) {e : E} (he : SE c e) {l : Option Expr} (h : (match l with | none => isNonE e | some l => !isNonE e && ckE e G l) = true) : PO X l (tP X.K c e) := by
  cases l with
  | none =>
    cases e <;> first | (cases h; done) | skip
    refine ⟨fun pins s σ H Q I hw => po_none.run pins s σ H Q I ?_⟩
    obtain ⟨env, d, env', p, E, e1, e2, q⟩ := hw
    cases e1
    cases e2
    exact q H E .refl
  | some l =>
    obtain ⟨h0, h1⟩ := and2 h
    have hp := po_some (he X G O l h1).1
    refine ⟨fun pins s σ H Q I hw => hp.run pins s σ H Q I ?_⟩
    obtain ⟨env, d, env', p, E, e1, e2, q⟩ := hw
    refine ⟨env, _, env', E, e1, fun v H1 p1 => ?_⟩
    cases d with
    | int i =>
      have : p = some i := by
        cases e <;> first | (cases h0; done) | (cases e2; rfl)
      subst this
      exact ⟨i, p1.r, q H1 p1.e p1.t⟩
    | _ => cases e <;> first | (cases h0; done) | cases e2
theorem slc_inv {a lo hi : E} {env : Env} {o : Opd} {env' : Env} (h : ev c (.slc a lo hi) .v env = some (o, env')) :
    ∃ x env1 l env2 g d p q, ev c a .v env = some (x, env1) ∧ ev c lo .v env1 = some (.dat l, env2) ∧ ev c hi .v env2 = some (.dat g, env') ∧ view env' x = some d ∧ part lo l = some p ∧ part hi g = some q ∧ slcD d p q = some o := by
  simp only [ev, fin] at h
  cases e1 : ev c a .v env with
  | none => rw [e1] at h; cases h
  | some xe =>
    obtain ⟨x, env1⟩ := xe
    rw [e1] at h
    simp only at h
    cases e2 : ev c lo .v env1 with
    | none => rw [e2] at h; cases h
    | some le =>
      obtain ⟨l, env2⟩ := le
      rw [e2] at h
      cases l with
      | dat l =>
        simp only at h
        cases e3 : ev c hi .v env2 with
        | none => rw [e3] at h; cases h
        | some ge =>
          obtain ⟨g, env3⟩ := ge
          rw [e3] at h
          cases g with
          | dat g =>
            simp only at h
            cases e4 : view env3 x with
            | none => rw [e4] at h; cases h
            | some d =>
              cases e5 : part lo l with
              | none => rw [e4, e5] at h; cases h
              | some p =>
                cases e6 : part hi g with
                | none => rw [e4, e5, e6] at h; cases h
                | some q =>
                  rw [e4, e5, e6] at h
                  simp only at h
                  cases e7 : slcD d p q with
                  | none => rw [e7] at h; cases h
                  | some r =>
                    rw [e7] at h
                    cases h
                    exact ⟨x, env1, l, env2, g, d, p, q, rfl, e2, e3, e4, e5, e6, e7⟩
          | _ => cases h
      | _ => cases h
theorem se_slc {a lo hi : E} (ha : SE c a) (hl : SE c lo) (hh : SE c hi) : SE c (.slc a lo hi) := by
  refine se_of (fun _ => rfl) fun X G O x hx => ?_
  cases x <;> first | (cases hx; done) | skip
  rename_i l r pos
  cases r <;> first | (cases hx; done) | skip
  rename_i le he st p2
  cases st <;> first | (cases hx; done) | skip
  obtain ⟨hx1, h3⟩ := and2 hx
  obtain ⟨h1, h2⟩ := and2 hx1
  refine ⟨PE.imp (pe_slice slcR (ha X G O _ h1).1 (po_of O hl h2) (po_of O hh h3)) fun σ H Q ⟨env, o, env', E, hf, q⟩ => ?_, fun _ => rfl⟩
  obtain ⟨x, env1, l, env2, g, d, p, r, e1, e2, e3, e4, e5, e6, e7⟩ := slc_inv hf
  exact ⟨env, x, env1, E, e1, fun v H1 p1 => ⟨env1, l, env2, p, p1.e, e2, e5, fun H2 E2 t2 => ⟨env2, g, env', r, E2, e3, e6, fun H3 E3 t3 => ⟨d, o, ((p1.r.later p1.e t2).later E2 t3).view E3 e4, e7, fun w H4 res => q w H4 (po_res E3 ((p1.t.trans t2).trans t3) res)⟩⟩⟩⟩
/-! ### calls -/
theorem boot_of (b : Blt) (h : b.ok = true) : bootBuiltins b.name = some b.val := by
  cases b <;> first | (cases h; done) | decide +kernel
theorem pe_callV {X : Cx} {f : Value} {r : List V → Hp → VK → Prop} {x : Str} {p pos : Pos} {e : Expr} {es : List Expr} {t : TA} (hc : CallR X f r) (hf : (∃ id, f = .builtin id) ∨ ∃ T, f = .type T) (hg : Gl X x) (hm : X.mg x = none) (hv : bootBuiltins x = some f) (ha : PA X (e :: es) t) (hn : x ≠ "__name__") (hdb : (x == ("__debug__" : Str)) = false)
    (he : starEach (e :: es) X.env = (false, eval e X.env) :: starEach es X.env) (hpl : (backTo pos (starEach es X.env)).any (·.1) = false) : PE X (.Call (.Name x p) (e :: es) [] pos) (tCB r t) := by
  rcases hf with ⟨id, rfl⟩ | ⟨T, rfl⟩
  · exact pe_callB hc hg hm hv ha hn hdb he hpl
  · exact pe_callTy hc hg hm hv ha hn hdb he hpl
theorem views_ok {K : PySem.W.Frag} {σ : St} {H0 H : Hp} {env0 env : Env} (E : EnvR K H σ env) : ∀ {os : List Opd} {vs : List V} {ds : List D}, OpdsR K σ H0 env0 H env os vs → views env os = some ds → VwRs K H ds vs
  | [], _, ds, .nil, h => by cases h; exact .nil
  | o :: os, _, ds, .cons r n t dj, h => by
    simp only [views] at h
    cases e1 : view env o with
    | none => rw [e1] at h; cases h
    | some d =>
      cases e2 : views env os with
      | none => rw [e1, e2] at h; cases h
      | some ds' =>
        rw [e1, e2] at h
        cases h
        exact .cons (r.view E e1) (views_ok E t e2)
theorem blt_inv {b : Blt} {es : List E} {env : Env} {o : Opd} {env' : Env} (h : ev c (.blt b es) .v env = some (o, env')) : ∃ os ds, evs c es env = some (os, env') ∧ views env' os = some ds ∧ bltD b ds = some o := by
  simp only [ev, fin] at h
  cases e1 : evs c es env with
  | none => rw [e1] at h; cases h
  | some xe =>
    obtain ⟨os, env1⟩ := xe
    rw [e1] at h
    simp only at h
    cases e2 : views env1 os with
    | none => rw [e2] at h; cases h
    | some ds =>
      rw [e2] at h
      simp only at h
      cases e3 : bltD b ds with
      | none => rw [e3] at h; cases h
      | some r =>
        rw [e3] at h
        cases h
        exact ⟨os, ds, rfl, e2, e3⟩
theorem se_blt {b : Blt} {es : List E} (hs : ∀ e ∈ es, SE c e) : SE c (.blt b es) := by
  refine se_of (fun _ => rfl) fun X G O x hx => ?_
  cases x <;> first | (cases hx; done) | skip
  rename_i f args kws pos
  cases f <;> first | (cases hx; done) | skip
  rename_i x p
  cases kws <;> first | (cases hx; done) | skip
  obtain ⟨hx1, h5⟩ := and2 hx
  obtain ⟨hx2, h4⟩ := and2 hx1
  obtain ⟨hx3, h3⟩ := and2 hx2
  obtain ⟨h1, h2⟩ := and2 hx3
  have ex : x = b.name := of_decide_eq_true h1
  subst ex
  obtain ⟨g1, g2, g3⟩ := bl_of O h3
  cases es with
  | nil => cases h4
  | cons e es =>
    cases args with
    | nil => cases h5
    | cons a args =>
      obtain ⟨k1, k2⟩ := and2 (show (ckE e G a && ckEs es G args) = true from h5)
      have hn : b.name ≠ "__name__" := by cases b <;> decide
      have hv : (∃ id, b.val = .builtin id) ∨ ∃ T, b.val = .type T := by cases b <;> first | exact .inl ⟨_, rfl⟩ | exact .inr ⟨_, rfl⟩
      refine ⟨PE.imp (pe_callV (bltR O.calm b h2) hv g1 g2 (boot_of b h2) (pa_os O hs h5) hn g3 (star_of k1 _) (any_star k2)) fun σ H Q ⟨env, o, env', E, hf, q⟩ => ?_, fun _ => rfl⟩
      obtain ⟨os, ds, e1, e2, e3⟩ := blt_inv hf
      exact ⟨env, os, env', E, e1, fun vs H1 E1 t1 r1 => ⟨ds, o, views_ok E1 r1 e2, e3, fun w H2 res => q w H2 (po_res E1 t1 res)⟩⟩
theorem boot_ty (t : Ty) : bootBuiltins t.name = some (.type t.py) := by
  cases t <;> decide +kernel
theorem boot_isi : bootBuiltins ("isinstance" : Str) = some (.builtin "isinstance") := by decide +kernel
theorem se_isi {a : E} {t : Ty} (ha : SE c a) : SE c (.isi a t) := by
  refine se_of (fun _ => rfl) fun X G O x hx => ?_
  cases x <;> first | (cases hx; done) | skip
  rename_i f args kws pos
  cases f <;> first | (cases hx; done) | skip
  rename_i x p
  match args, kws, hx with
  | [y, .Name z pz], [], hx =>
    obtain ⟨hx1, h5⟩ := and2 hx
    obtain ⟨hx2, h4⟩ := and2 hx1
    obtain ⟨hx3, h3⟩ := and2 hx2
    obtain ⟨h1, h2⟩ := and2 hx3
    have ex : x = "isinstance" := of_decide_eq_true h1
    have ez : z = t.name := of_decide_eq_true h3
    subst ex ez
    obtain ⟨g1, g2, g3⟩ := bl_of O h2
    obtain ⟨k1, k2, k3⟩ := bl_of O h4
    have hn : t.name ≠ "__name__" := by cases t <;> decide
    have pz : PE X (.Name t.name pz) (tC (.ty t.py)) := pe_bltn k1 k2 (boot_ty t) rfl hn k3
    refine ⟨PE.imp (pe_callB call_isi g1 g2 boot_isi (pa_cons (ha X G O _ h5).1 (pa_cons pz pa_nil) (star_of h5 _)) (by decide) g3 (star_of h5 _) rfl) fun σ H Q ⟨env, o, env', E, hf, q⟩ => ?_, fun _ => rfl⟩
    simp only [ev, fin] at hf
    cases e1 : ev c a .v env with
    | none => rw [e1] at hf; cases hf
    | some xe =>
      obtain ⟨x, env1⟩ := xe
      rw [e1] at hf
      simp only at hf
      cases e2 : view env1 x with
      | none => rw [e2] at hf; cases hf
      | some d =>
        rw [e2] at hf
        simp only at hf
        cases e3 : isiD t d with
        | none => rw [e3] at hf; cases hf
        | some b =>
          rw [e3] at hf
          cases hf
          refine ⟨env, x, _, E, e1, fun v H1 p1 => ?_⟩
          obtain ⟨ty, k1, k2⟩ := isiR (p1.r.view p1.e e2) t e3
          exact ⟨v, .ty t.py, ty, _, b, rfl, .ty _, k1, k2, q _ H1 (po_bl p1.e p1.t)⟩
/-! ### methods -/
theorem mut_inv {m : Mt} {i : Nat} {es : List E} {env : Env} {o : Opd} {env' : Env} (h : ev c (.mut m i es) .v env = some (o, env')) :
    ∃ d0 ds env1 d r d', look env i = .own d0 ∧ evds c es env = some (ds, env1) ∧ look env1 i = .own d ∧ mutD m d ds = some (r, d') ∧ o = .dat r ∧ env' = env1.set i (.own d') := by
  simp only [ev, fin] at h
  cases e0 : look env i with
  | own d0 =>
    rw [e0] at h
    simp only at h
    cases e1 : evds c es env with
    | none => rw [e1] at h; cases h
    | some xe =>
      obtain ⟨ds, env1⟩ := xe
      rw [e1] at h
      simp only at h
      cases e2 : look env1 i with
      | own d =>
        rw [e2] at h
        simp only at h
        cases e3 : mutD m d ds with
        | none => rw [e3] at h; cases h
        | some rd =>
          obtain ⟨r, d'⟩ := rd
          rw [e3] at h
          cases h
          exact ⟨d0, ds, env1, d, r, d', rfl, rfl, e2, e3, rfl, rfl⟩
      | un => rw [e2] at h; cases h
      | val _ => rw [e2] at h; cases h
  | un => rw [e0] at h; cases h
  | val _ => rw [e0] at h; cases h
theorem own_sql {K : PySem.W.Frag} {H : Hp} {d : D} {p : Addr} (h : OwnAt K H d p) : ∃ xs, SqL K H p xs := by
  cases d with
  | lst ds =>
    obtain ⟨vs, e, _⟩ := h
    exact ⟨vs, .inl (.inl e)⟩
  | _ => exact h.elim
theorem mut_end {K : PySem.W.Frag} {σ : St} {H H1 H2 : Hp} {env env1 : Env} {i : Nat} {d d' r : D} {p : Addr} {v : V} (E : EnvR K H1 σ env1) (t : Tr σ H env σ H1 env1) (hl : look env1 i = .own d) (hp : σ[i]? = some (some (.ref p)))
    (k : ∀ b, b ≠ p → H2 b = H1 b) (o : OwnAt K H2 d' p) (o1 : OwnAt K H1 d p) (hr : Rp K H2 r v) : Po K σ H env (.dat r) (env1.set i (.own d')) v H2 := by
  have hio := look_own hl
  have kp : Kp H1 H2 := fun a ob u e => by
    rw [k a ?_]; exact e
    rintro rfl
    obtain ⟨u', q, n⟩ := o1.nfrz
    rw [e] at q; cases q
    exact n _ _ rfl
  have E2 : EnvR K H2 σ (env1.set i .un) := by
    obtain ⟨u1, u2, u3⟩ := E.un i
    refine ⟨u1.len, fun j sl e => ?_, u1.dj⟩
    obtain ⟨x, e2, rr⟩ := u1.sl j sl e
    refine ⟨x, e2, ?_⟩
    cases sl with
    | un => trivial
    | val d => obtain ⟨v, e3, rr⟩ := rr; exact ⟨v, e3, rr.mono kp⟩
    | own d2 =>
      obtain ⟨p2, e3, rr⟩ := rr
      subst e3
      refine ⟨p2, rfl, rr.keep kp fun u qq => ?_⟩
      rw [k p2 ?_]; exact qq
      rintro rfl
      exact u3 p2 hp ⟨d, hio⟩ ⟨j, d2, e, e2⟩
  have nun : ¬ OwnA (env1.set i .un) σ p := (E.un i).2.2 p hp ⟨d, hio⟩
  obtain ⟨E3, o3⟩ := E2.put (s := .own d') hp ⟨p, rfl, o⟩ fun d2 p2 z1 z2 z3 => by cases z2; exact nun z3
  rw [List.set_set] at E3 o3
  have ow : OwnA env1 σ p := ⟨i, d, hio, hp⟩
  refine ⟨E3, ⟨fun b u e n => ?_, fun b z => ?_⟩, hr, fun _ _ z => nomatch z⟩
  · have hb := t.f b u e n
    rw [k b fun z => ?_]
    · exact hb
    · have ow' : OwnA env1 σ b := by rw [z]; exact ow
      rcases t.s b ow' with z | z
      · exact n z
      · rw [e] at z; cases z
  · rcases o3 b z with z | ⟨d2, z1, z2⟩
    · exact t.s b ((E.un i).2.1 b z)
    · cases z2; exact t.s _ ow
theorem base_name {x : Str} {p : Pos} {nm : Str} {env : PySem.Env} : attributeBase (.Name x p) nm env (eval (.Name x p) env) = eval (.Name x p) env := rfl
theorem mut_go {X : Cx} {m : Mt} {i : Nat} {es : List E} {σ : St} {H : Hp} {Q : VK} {env : Env} {o : Opd} {env' : Env} (E : EnvR X.K H σ env) (hf : ev c (.mut m i es) .v env = some (o, env')) (q : ∀ v H', Po X.K σ H env o env' v H' → Q v H') :
    ∃ v, σ[i]? = some (some v) ∧ tyV X.K "list" v H ∧ tDs X.K (evds c es) σ H fun xs H2 => rMut X.K m v xs H2 Q := by
  obtain ⟨d0, ds, env1, d, r, d', e0, e1, e2, e3, rfl, rfl⟩ := mut_inv hf
  obtain ⟨p0, g1, g2, g3⟩ := E.own e0
  refine ⟨_, g1, .inl ⟨rfl, own_sql g2⟩, env, ds, env1, E, e1, fun vs H1 E1 t1 r1 => ?_⟩
  obtain ⟨p1, k1, k2, k3⟩ := E1.own e2
  rw [g1] at k1
  cases k1
  exact ⟨p0, d, ds, r, d', rfl, k2, r1, e3, fun v H2 f1 f2 o2 rr => q v H2 (mut_end E1 t1 e2 g1 f2 o2 k2 rr)⟩
theorem se_mut {m : Mt} {i : Nat} {es : List E} (hs : ∀ e ∈ es, SE c e) : SE c (.mut m i es) := by
  refine se_of (fun _ => rfl) fun X G O x hx => ?_
  cases x <;> first | (cases hx; done) | skip
  rename_i f args kws pos
  cases f <;> first | (cases hx; done) | skip
  rename_i ob nm apos
  cases ob <;> first | (cases hx; done) | skip
  rename_i x p
  cases kws <;> first | (cases hx; done) | skip
  obtain ⟨hx1, h5⟩ := and2 hx
  obtain ⟨hx2, h4⟩ := and2 hx1
  obtain ⟨hx3, h3⟩ := and2 hx2
  obtain ⟨h1, h2⟩ := and2 hx3
  have en : nm = m.name := of_decide_eq_true h1
  subst en
  have hv := ld_of (pos := p) O h3
  clear hx hx1 hx2 hx3 h1 h3
  refine ⟨?_, fun _ => rfl⟩
  cases m <;> first | (cases es <;> cases h2; done) | skip
  · -- append
    match es, args, h2, h5, hs with
    | [e], _ :: _ :: _, h2, h5, hs => cases (and2 h5).2
    | [e], [a], h2, h5, hs =>
      obtain ⟨k1, k2⟩ := and2 (show (ckE e G a && ckEs [] G []) = true from h5)
      refine PE.imp (pe_bm PySem.F.plainAttrs_list PySem.F.slot_list_append PySem.F.type_list_append (mutR_append (X := X)) hv (pa_ds O hs h5) base_name (by rw [star_of k1]; rfl) h4 (star_of k1 _) rfl) fun σ H Q ⟨env, o, env', E, hf, q⟩ => ?_
      exact mut_go E hf q
  · -- pop
    match es, args, h2, h5, hs with
    | [], [], h2, h5, hs =>
      refine PE.imp (pe_bm0 PySem.F.plainAttrs_list PySem.F.slot_list_pop PySem.F.type_list_pop (mutR_pop (X := X)) hv base_name h4) fun σ H Q ⟨env, o, env', E, hf, q⟩ => ?_
      obtain ⟨v, g1, g2, env1, ds, env2, E1, e1, g3⟩ := mut_go E hf q
      cases e1
      exact ⟨v, g1, g2, g3 [] H E1 .refl rfl⟩
  · -- reverse
    match es, args, h2, h5, hs with
    | [], [], h2, h5, hs =>
      refine PE.imp (pe_bm0 PySem.F.plainAttrs_list PySem.F.slot_list_reverse PySem.F.type_list_reverse (mutR_reverse (X := X)) hv base_name h4) fun σ H Q ⟨env, o, env', E, hf, q⟩ => ?_
      obtain ⟨v, g1, g2, env1, ds, env2, E1, e1, g3⟩ := mut_go E hf q
      cases e1
      exact ⟨v, g1, g2, g3 [] H E1 .refl rfl⟩
/-- a tuple's method -/
theorem pe_bmT {X : Cx} {o e : Expr} {name : Str} {id : String} {apos cpos : Pos} {to : TE} {t : TA} {r : V → List V → Hp → VK → Prop} (pa : PlainAttrs "tuple") (slot : PySem.Slot "tuple" name id) (hty : typeOf (.builtin id) = pure (.type "method_descriptor")) (hm : MtR X id r) (ho : PE X o to) (ha : PA X [e] t)
    (hbase : attributeBase o name X.env (eval o X.env) = eval o X.env) (hs : starEach [e] X.env = (false, eval e X.env) :: starEach [] X.env) (hline : (apos.endLine == cpos.line) = true) :
    PE X (.Call (.Attribute o name apos) [e] [] cpos) (fun σ H Q => to σ H fun x H1 => (∃ p xs, x = .ref p ∧ TupAt X.K H1 p xs) ∧ t σ H1 fun xs H2 => r x xs H2 Q) := by
  refine ⟨fun pins s σ H Q I h => ?_⟩
  refine wpAny_Call_method_late hbase (by rw [hs]; rfl) hline rfl (thn (ho.run pins s σ H _ I h) fun v s1 ⟨x, H1, I1, r1, ⟨p, xs, ex, tp⟩, q1⟩ => ?_)
  subst ex
  cases r1
  have hd : s1.TypeIs (.ref p) "tuple" ∧ ∀ a, Value.ref p = .ref a → ∃ ob, s1.heap.get? a = some ob ∧ ob.dict = none := by
    obtain ⟨its, _, pl, _⟩ := I1.tuple tp.sq
    refine ⟨pl.typeIs, fun a e => ?_⟩
    cases e
    rcases tp with ⟨ob, e1, e2⟩ | ⟨ob, its, n, e1, _, e2, _⟩
    · exact ⟨ob, (I1.hok p _ e1).1, e2⟩
    · exact ⟨ob, I1.kIn p ob e1, e2⟩
  refine ⟨"tuple", id, pa, slot, hty, hd.1, hd.2, ?_⟩
  have hA := ha.run cpos pins s1 σ H1 _ I1 q1
  rw [hs] at hA ⊢
  refine Calls.callWith_builtin rfl (Calls.evalArgs_plain ?_)
  exact thn hA fun us s2 ⟨vs, H2, I2, r2, q2⟩ => hm pins s2 σ H2 (V.ref p) vs _ us Q I2 rfl r2 q2
theorem base_of {o : Expr} {nm : Str} {env : PySem.Env} (h : isCallO o = false) : attributeBase o nm env (eval o env) = eval o env := by
  unfold attributeBase
  split
  · cases h
  · rfl
theorem mth_inv {m : Mt} {a : E} {es : List E} {env : Env} {o : Opd} {env' : Env} (h : ev c (.mth m a es) .v env = some (o, env')) :
    ∃ d env1 ds r, ev c a .v env = some (.dat d, env1) ∧ evds c es env1 = some (ds, env') ∧ mthD m d ds = some r ∧ o = .dat r := by
  simp only [ev, fin] at h
  cases e1 : ev c a .v env with
  | none => rw [e1] at h; cases h
  | some xe =>
    obtain ⟨x, env1⟩ := xe
    rw [e1] at h
    cases x with
    | dat d =>
      simp only at h
      cases e2 : evds c es env1 with
      | none => rw [e2] at h; cases h
      | some de =>
        obtain ⟨ds, env2⟩ := de
        rw [e2] at h
        simp only at h
        cases e3 : mthD m d ds with
        | none => rw [e3] at h; cases h
        | some r =>
          rw [e3] at h
          cases h
          exact ⟨d, env1, ds, r, rfl, e2, e3, rfl⟩
    | _ => cases h
theorem se_mth {m : Mt} {a : E} {es : List E} (ha : SE c a) (hs : ∀ e ∈ es, SE c e) : SE c (.mth m a es) := by
  refine se_of (fun _ => rfl) fun X G O x hx => ?_
  cases x <;> first | (cases hx; done) | skip
  rename_i f args kws pos
  cases f <;> first | (cases hx; done) | skip
  rename_i ob nm apos
  cases kws <;> first | (cases hx; done) | skip
  obtain ⟨hx1, h7⟩ := and2 hx
  obtain ⟨hx2, h6⟩ := and2 hx1
  obtain ⟨hx3, h5⟩ := and2 hx2
  obtain ⟨hx4, h4⟩ := and2 hx3
  obtain ⟨hx5, h3⟩ := and2 hx4
  obtain ⟨h1, h2⟩ := and2 hx5
  have em : m = .index := of_decide_eq_true h1
  have en : nm = "index" := of_decide_eq_true h2
  have hl : es.length = 1 := of_decide_eq_true h5
  subst em en
  match es, args, hl, h7, hs with
  | [e], _ :: _ :: _, hl, h7, hs => cases (and2 h7).2
  | [e], [y], hl, h7, hs =>
    obtain ⟨k1, k2⟩ := and2 (show (ckE e G y && ckEs [] G []) = true from h7)
    refine ⟨PE.imp (pe_bmT PySem.F.plainAttrs_tuple PySem.F.slot_tuple_index PySem.F.type_tuple_index (mthR_index_tup (X := X)) (ha X G O _ h6).1 (pa_ds O hs h7) (base_of (by simpa using h3)) (star_of k1 _) h4) fun σ H Q ⟨env, o, env', E, hf, q⟩ => ?_, fun _ => rfl⟩
    obtain ⟨d, env1, ds, r, e1, e2, e3, rfl⟩ := mth_inv hf
    refine ⟨env, _, env1, E, e1, fun v H1 p1 => ?_⟩
    cases d with
    | tup ys =>
      obtain ⟨p, vs, rfl, t, rd⟩ := VwR.tup (.inl p1.r)
      refine ⟨⟨p, vs, rfl, t⟩, env1, ds, env', p1.e, e2, fun us H2 E2 t2 r2 => ?_⟩
      match ds, e3, r2 with
      | [z], e3, r2 => exact ⟨ys, z, r, .inl ⟨p, vs, rfl, t.mono (t2.kp p1.e), rd.mono (t2.kp p1.e)⟩, r2, e3, fun w rw => q w H2 (po_dat E2 (p1.t.trans t2) rw)⟩
    | _ => cases e3
end
end PF
/-! PF9S: sorted(set(x)) of tuples of numbers below 64. -/
namespace PF
open PySem PySem.Spec PyProof.Rows L2
/-! ### set(x) of a tuple -/
section
variable {P : Program} {w : World} {A : Around} {E : Value → Shared → Prop} {s : Shared}
abbrev bareSet (w : World) : Obj := { cls := .type "set", dict := none, data := .set #[] 0 (.fresh 0 0 (!w.params.followText "set-order")) }
abbrev tupIt (t : Addr) : Obj := { cls := .type "tuple_iterator", data := .fields #[.ref t, .int 0 0] }
/-- the answer of set.__init__ -/
def SetMade (P : Program) (w : World) (s : Shared) (ks : List (Addr × List Int)) (s2 : Shared) : Prop :=
  ∃ h' tk L es ep t, s2 = { s with heap := h', toks := tk } ∧ SetTR P w h' s.heap.objs.size L es ep t ∧ Got ks ks.length L ∧ ∀ b o, s.heap.get? b = some o → h'.get? b = some o
theorem fill_set {l : Addr} {vs : Array Value} (ks : List (Addr × List Int)) (hh : A.handled = none) (hl : s.heap.IsTuple l vs) (hv : vs.toList = ks.map fun p => Value.ref p.1)
    (hk : ∀ p ∈ ks, IsT P w s.heap p.2 p.1) (hn : ks.length < 64) (hu : A.units + 3 < cLine) {R : Result → Shared → Prop} (hR : ∀ s2, SetMade P w s ks s2 → R (.ok (.ret .none)) s2) :
    codeAny (model P w) A.in1.in1 (.builtin "set.update.loop" ⟨[.ref s.heap.objs.size, .ref (s.heap.push (bareSet w)).objs.size], []⟩) R { s with heap := (s.heap.push (bareSet w)).push (tupIt l) } := by
  have z1 : (s.heap.push (bareSet w)).objs.size = s.heap.objs.size + 1 := Heap.size_push ..
  have ll : l < s.heap.objs.size := by obtain ⟨_, e, _⟩ := hl; exact Heap.lt_size e
  have zs : vs.size = ks.length := by
    have q := congrArg List.length hv
    simpa using q
  have at' : ∀ (i : Nat) (v : Value), vs[i]? = some v → ∃ p, ks[i]? = some p ∧ v = .ref p.1 := fun i v e => by
    rw [← Array.getElem?_toList, hv, List.getElem?_map] at e
    obtain ⟨p, e1, e2⟩ := Option.map_eq_some_iff.mp e
    exact ⟨p, e1, e2.symm⟩
  have no : ∀ b, s.heap.objs.size ≤ b → s.heap.get? b = none := fun b hb => by
    cases q : s.heap.get? b with
    | none => rfl
    | some o => exact (Nat.lt_irrefl _ (Nat.lt_of_lt_of_le (Heap.lt_size q) hb)).elim
  have ne : l ≠ (s.heap.push (bareSet w)).objs.size := by rw [z1]; exact Nat.ne_of_lt (Nat.lt_succ_of_lt ll)
  have h3 : A.in1.in1.in1.handled = none := by simp [hh]
  have hsf : s.heap.objs.size ∉ [(s.heap.push (bareSet w)).objs.size, l] := by
    rw [z1]; simp only [List.mem_cons, List.not_mem_nil, or_false, not_or]; exact ⟨Nat.ne_of_lt (Nat.lt_succ_self _), Nat.ne_of_gt ll⟩
  have g1 : ((s.heap.push (bareSet w)).push (tupIt l)).get? s.heap.objs.size = some (bareSet w) := Heap.get?_push_of_some _ (Heap.get?_push_size _ rfl)
  refine set_update_tups (A := A.in1.in1) ((Walks.tuple h3 _ l ne vs).toS) s.heap.objs.size hsf ks zs hn at' s.heap hk (no _ (Nat.le_refl _)) (fun b hb => no b (by rw [List.mem_singleton.mp hb, z1]; exact Nat.le_succ _)) hu (vs.size - 0) 0 _ (by omega) (Nat.zero_le _)
    ⟨⟨_, Heap.get?_push_size _ rfl, rfl, rfl⟩, ((hl.push _).push _)⟩ (fun b o e => Heap.get?_push_of_some _ (Heap.get?_push_of_some _ e)) ⟨[], #[], 0, _, setTR_fresh g1, Got.zero ks⟩ ?_
  intro s' L es ep t hm hS g hkp
  refine hR s' ⟨s'.heap, s'.toks, L, es, ep, t, ?_, hS, by rw [← zs]; exact g, hkp⟩
  have e1 : s'.gens = s.gens := hm.gens
  have e2 : s'.drawn = s.drawn := hm.drawn
  have e3 : s'.os = s.os := hm.os
  cases s'
  simp only at e1 e2 e3
  subst e1 e2 e3
  rfl
theorem set_of_tuple {l : Addr} {vs : Array Value} (ks : List (Addr × List Int)) {Q : Value → Shared → Prop} (hh : A.handled = none) (hl : s.heap.IsTuple l vs) (hv : vs.toList = ks.map fun p => Value.ref p.1)
    (hk : ∀ p ∈ ks, IsT P w s.heap p.2 p.1) (hn : ks.length < 64) (hu : A.units + 3 < cLine)
    (h : ∀ (h' : Heap) (tk : Nat) L es ep t, SetTR P w h' s.heap.objs.size L es ep t → Got ks ks.length L → (∀ b o, s.heap.get? b = some o → h'.get? b = some o) → Q (.ref s.heap.objs.size) { s with heap := h', toks := tk }) : wpAny (model P w) A (call (.type "set") [.ref l]) Q E s := by
  obtain ⟨m1, m2, hmro⟩ := F.called_set.mro
  have cmade := F.called_set.made
  have csub := F.called_set.sub
  refine wpAny_call (codeAny_of_tree ?_); show wpAny _ _ (callAny (.type "set") _) _ _ _
  refine wpAny_pure ⟨Code.quiet_builtin _ (by decide +kernel), codeAny_builtin F.entry_type_call ?_⟩; rw [Around.under_plain (weight_type_call_type "set" [.ref l] []) rfl]
  have c1 := F.called_set.notType
  have c2 := F.called_set.canCreate
  have c3 := F.typeCall_set_1 (.ref l)
  repeat (any_goals (first | assumption | wp_step))
  refine codeAny_mono (code_set_led1 (.ref l) (E := E) (Q₁ := fun ob s1 => ob = .ref s.heap.objs.size ∧ s1 = { s with heap := s.heap.push (bareSet w) }) ⟨rfl, rfl⟩) fun r s1 hr => ?_
  cases r with
  | error e => exact hr
  | ok fl =>
    cases fl with
    | ret ob =>
      obtain ⟨rfl, rfl⟩ := hr
      have gS : (s.heap.push (bareSet w)).get? s.heap.objs.size = some (bareSet w) := Heap.get?_push_size _ rfl
      have tS : Shared.TypeIs { s with heap := s.heap.push (bareSet w) } (.ref s.heap.objs.size) "set" := ⟨_, gS, rfl⟩
      have i1 := F.called_set.init.lookup
      have i2 := F.called_set.init.bind (.ref s.heap.objs.size)
      repeat (any_goals (first | assumption | wp_step))
      refine codeAny_mono (codeAny_call_builtin (R := wants (fun r s2 => r = .none ∧ SetMade P w s ks s2) E) F.called_set.init.plain F.entry_set_init (check_set_init_1 tS ?_)) fun r2 s2 hr2 => ?_
      · obtain ⟨ol, hol, hcl, nl, hdl⟩ := hl
        obtain ⟨oc, od, odata, os⟩ := ol
        simp only at hcl hdl
        subst hcl hdl
        have gl : (s.heap.push (bareSet w)).get? l = some { cls := .type "tuple", dict := od, data := .seq vs nl, slots := os } := Heap.get?_push_of_some _ hol
        have b1 : isSubtype (.type "tuple") (.type "set") = pure false := by rw [isSubtype_type]; kernel_rfl
        have b2 : isSubtype (.type "tuple") (.type "frozenset") = pure false := by rw [isSubtype_type]; kernel_rfl
        have b3 : (Value.type "tuple" == Value.type "dict") = false := by decide
        have hl1 : (s.heap.push (bareSet w)).IsTuple l vs := ⟨_, gl, rfl, nl, rfl⟩
        unfold Builtin.«set.__init__» noKeywords Builtin.Frozenset.updateFrom; generalize hPI : pyIter = PI
        wp_walk
        subst hPI
        refine wpAny_pyIter_tuple hl1 ?_; refine wpAny_bind (wpAny_runValue ?_)
        refine fill_set (P := P) (w := w) (l := l) ks hh ⟨_, hol, rfl, nl, rfl⟩ hv hk hn hu fun s2 hs2 => ?_
        show wpAny _ _ _ _ _ _
        refine wpAny_pure ?_; show wpAny _ _ (ret Value.none) _ _ _
        exact wpAny_pure ⟨rfl, hs2⟩
      · cases r2 with
        | error e => exact hr2
        | ok fl2 =>
          cases fl2 with
          | ret r =>
            obtain ⟨rfl, h', tk, L, es, ep, t, rfl, hS, g, hk'⟩ := hr2
            repeat (any_goals (first | assumption | wp_step))
            exact h _ _ _ _ _ _ hS g hk'
          | _ => exact hr2.elim
    | _ => exact hr.elim
/-! ### sorted -/
/-- what sorted leaves of a set with rows of d numbers, or with one row -/
theorem sort_few {a : Addr} {vs : List Value} {n d : Nat} {B : Int} {Pf : PySem.Fin → Shared → Prop} (ho : s.heap.get? a = some (seqObj "list" vs.toArray n)) (h1 : vs.length ≤ 1)
    (h : ∀ out : Array Value, out.toList.Perm vs → Pf (.done (.ret .none)) { s with heap := sortedHeap s.heap a vs out }) : wpAny (model P w) A (Builtin.«list.sort» ⟨[.ref a], []⟩) Pf E s := by
  refine SK.plain_sort (r := fun _ => 0) ho (by omega) (fun h2 => absurd h2 (by omega)) fun ps out q1 q2 q3 => ?_
  refine h out ?_
  rw [q1]
  have z := q2.map Prod.snd
  rwa [List.map_snd_zip (Nat.le_refl _)] at z
theorem sorted_one {a : Addr} {q : Addr × List Int} {es : Array (Int × Value)} {ep : Nat} {t : SetTable} {Q : Value → Shared → Prop} (R : SetTR P w s.heap a [q] es ep t) (hh : A.handled = none)
    (hQ : ∀ s' p (c : Nat), (∀ b o, s.heap.get? b = some o → s'.heap.get? b = some o) → s'.gens = s.gens → s'.os = s.os → s.heap.objs.size ≤ p → s'.heap.get? p = some (seqObj "list" #[Value.ref q.1] c) → Q (.ref p) s') :
    wpAny (model P w) A (call (.builtin "sorted") [.ref a]) Q E s := by
  obtain ⟨o, ho, hex, hd⟩ := R.ob
  have z1 := R.size
  refine Calls.call_function_entry kind_sorted plain_sorted entry_sorted (args_sorted1 _) ?_; unfold Builtin.«sorted»
  refine wpAny_bind (m := checkCount "sorted" 1 1 _) (wpAny_pure ?_)
  refine wpAny_bind (collect_set (A := A.in1) hh ⟨o, ho, hex.1, hd⟩ R.fits (by rw [z1]; show 1 < scanBound; decide) R.tab.ris R.led fun s1 vs k1 hz g1 o1 pm => ?_)
  have e1 : es.toList.map (·.2) = [Value.ref q.1] := by rw [R.rows]; rfl
  rw [e1] at pm
  have e2 : vs = [Value.ref q.1] := List.perm_singleton.mp pm
  subst e2
  refine wpAny_bind (wpAny_newList ?_ (by rw [sizeLine_eq]; show 1 ≤ 16777216; decide))
  have gl : (s1.heap.push (seqObj "list" [Value.ref q.1].toArray 0)).get? s1.heap.objs.size = some (seqObj "list" [Value.ref q.1].toArray 0) := Heap.get?_push_size _ rfl
  refine wpAny_bind (wpAny_holding (wpAny_call_entry (s := { s1 with heap := s1.heap.push (seqObj "list" [Value.ref q.1].toArray 0) }) slot_list_sort ⟨_, gl, rfl⟩ entry_list_sort (sort_few (d := 0) (B := 0) (vs := [Value.ref q.1]) gl (Nat.le_refl _) fun out a1 => ⟨_, rfl, ?_⟩) (args_list_sort _)))
  have e3 : out.toList = [Value.ref q.1] := List.perm_singleton.mp a1
  obtain ⟨c, hc⟩ := sortedHeap_at (vs := [Value.ref q.1]) (out := out) gl
  have e4 : out = #[Value.ref q.1] := by rw [← Array.toArray_toList (xs := out), e3]
  rw [e4] at hc
  refine wpAny_pure ⟨_, rfl, hQ _ s1.heap.objs.size c (fun b u e => ?_) g1 o1 hz (by rw [e4]; exact hc)⟩
  have q := k1 b u e
  have hlt := Heap.lt_size q
  show (sortedHeap (s1.heap.push (seqObj "list" [Value.ref _].toArray 0)) s1.heap.objs.size [Value.ref _] out).get? b = some u
  rw [sortedHeap_old (Nat.ne_of_lt hlt) (by rw [size_push']; exact Nat.lt_succ_of_lt hlt)]; exact Heap.get?_push_of_some _ q
end
section
variable {X : Cx}
/-- set(x), x tuples of numbers in a list or in a tuple -/
def rSetA (K : PySem.W.Frag) (P : Program) (w : World) : List V → Hp → VK → Prop := fun xs H Q => ∃ (l : Addr) (ks : List (Addr × List Int)), xs = [V.ref l] ∧ (SqL K H l (ks.map fun p => V.ref p.1) ∨ TupAt K H l (ks.map fun p => V.ref p.1)) ∧
  (∀ p ∈ ks, SqT K H p.1 (p.2.map V.int)) ∧ ks.length < 64 ∧ ∀ a L, H a = none → (∀ p ∈ L, p ∈ ks) → (∀ p ∈ ks, p.2 ∈ L.map (·.2)) → (L.map (·.2)).Nodup → Q (.ref a) (upd H a (SetTO P w a L))
theorem cr_setA (hc : X.calm = true) (hu : X.A.units + 64 < cLine) : CallR X (.type "set") (rSetA X.K X.prog X.w) := by
  intro pins s σ H xs us Q I r ⟨l, ks, e, hl, hk, hf, q⟩
  subst e
  rw [Vals.ref1 r]
  have hn : H s.heap.objs.size = none := I.hok.fresh (Nat.le_refl _)
  have fin : ∀ (h' : Heap) (tk : Nat) L es ep t, SetTR X.prog X.w h' s.heap.objs.size L es ep t → Got ks ks.length L → (∀ b o, s.heap.get? b = some o → h'.get? b = some o) →
      EP X pins σ Q (.ref s.heap.objs.size) { s with heap := h', toks := tk } := fun h' tk L es ep t R g k =>
    ⟨.ref s.heap.objs.size, upd H s.heap.objs.size (SetTO X.prog X.w s.heap.objs.size L), I.laid (t' := tk) k (Nat.le_refl _) (setTO_new R.t0), rfl, q _ L hn (fun p hp => List.mem_of_mem_take (g.sub p hp)) (fun p hp => g.all p (by rw [List.take_length]; exact hp)) R.nd⟩
  rcases hl with hl | hl
  · obtain ⟨its, rv, pl, hz⟩ := I.list hl
    exact call_set_tups (P := X.prog) (w := X.w) ks (I.ok.hd hc) pl.isList (by simpa using refs_of_vals rv) (fun p hp => I.isT (hk p hp)) hf (by omega) fin
  · obtain ⟨its, rv, pl, hz⟩ := I.tuple hl.sq
    exact set_of_tuple (P := X.prog) (w := X.w) ks (I.ok.hd hc) pl (by simpa using refs_of_vals rv) (fun p hp => I.isT (hk p hp)) hf (by omega) fin
/-- sorted(set) -/
def rSortA (K : PySem.W.Frag) (P : Program) (w : World) : List V → Hp → VK → Prop := fun vs H Q => ∃ (a : Addr) (L : List (Addr × List Int)) (d : Nat), vs = [V.ref a] ∧ H a = some (SetTO P w a L) ∧ (∀ p ∈ L, SqT K H p.1 (p.2.map V.int)) ∧ (1 ≤ d ∨ ∃ q, L = [q]) ∧
  (∀ p ∈ L, p.2.length = d ∧ TS.Bd 64 p.2) ∧ ∀ (L' : List (Addr × List Int)) (p : Addr), L'.Perm L → L'.length < 64 → L'.Pairwise (fun q r => TS.code 64 q.2 ≤ TS.code 64 r.2) → H p = none → Q (.ref p) (upd H p (.lst (L'.map fun q => V.ref q.1)))
theorem cr_sortA (hc : X.calm = true) : CallR X (.builtin "sorted") (rSortA X.K X.prog X.w) := by
  intro pins s σ H vs us Q I r ⟨a, L, d, e, ha, hk, hd, hB, q⟩
  subst e
  have R0 : SetT0 X.prog X.w s.heap a L := (I.hok a _ ha).1
  obtain ⟨es, ep, t, R⟩ := R0.full fun p hp => I.isT (hk p hp)
  rw [Vals.ref1 r]
  have fin : ∀ s' p (out : Array Value) (c : Nat) (L' : List (Addr × List Int)), (∀ b o, s.heap.get? b = some o → s'.heap.get? b = some o) → s'.gens = s.gens → s'.os = s.os → s.heap.objs.size ≤ p →
      s'.heap.get? p = some (seqObj "list" out c) → out.toList = L'.map (fun q => Value.ref q.1) → L'.Perm L → L'.Pairwise (fun q r => TS.code 64 q.2 ≤ TS.code 64 r.2) → EP X pins σ Q (.ref p) s' := by
    intro s' p out c L' k g o hp hg hout pm pw
    have few : L'.length < 64 := by rw [pm.length_eq]; exact R.few
    have hlen : (L'.map fun q => V.ref q.1).length ≤ sizeLine := by rw [List.length_map, sizeLine_eq]; omega
    have hn : H p = none := I.hok.fresh hp
    have hv : Vals (L'.map fun q => V.ref q.1) out.toList := by rw [hout]; exact vals_of_refs L'
    have J : Inv X pins σ (upd H p (.lst (L'.map fun q => V.ref q.1))) { s with heap := s'.heap, gens := s'.gens, drawn := s'.drawn, toks := s'.toks } :=
      I.call (ch := []) (Un.laid k hp hn) (I.hok.laid k hp ⟨hlen, out.toList, c, hv, hg⟩) (by rw [g]; exact I.bare) (fun _ z => nomatch z)
    have e : s' = { s with heap := s'.heap, gens := s'.gens, drawn := s'.drawn, toks := s'.toks } := by
      cases s'; cases s; cases o; rfl
    rw [e]
    exact ⟨.ref p, _, J, rfl, q L' p pm few pw hn⟩
  rcases hd with hd | ⟨x, rfl⟩
  · exact sorted_setT R (I.ok.hd hc) hd hB fin
  · exact sorted_one R (I.ok.hd hc) fun s' p c k g o hp hg => fin s' p _ c [x] k g o hp hg rfl (.refl _) (List.pairwise_singleton _ _)
end
/-! ### in plain Lean -/
theorem code_inj {B : Int} : ∀ {x y : List Int}, x.length = y.length → TS.Bd B x → TS.Bd B y → TS.code B x = TS.code B y → x = y
  | [], [], _, _, _, _ => rfl
  | [], _ :: _, h, _, _, _ => by simp at h
  | _ :: _, [], h, _, _, _ => by simp at h
  | a :: x, b :: y, h, hx, hy, e => by
    have hl : x.length = y.length := by simpa using h
    rcases Int.lt_trichotomy a b with z | z | z
    · have := TS.code_lt hl hx.tail hy.tail z; omega
    · subst z
      have e2 : TS.code B x = TS.code B y := by
        have e' : a * B ^ x.length + TS.code B x = a * B ^ y.length + TS.code B y := e
        rw [hl] at e'
        omega
      rw [code_inj hl hx.tail hy.tail e2]
    · have := TS.code_lt hl.symm hy.tail hx.tail z; omega
theorem insR_mem {B : Int} {x z : List Int} : ∀ {l : List (List Int)}, z ∈ insR B x l ↔ z = x ∨ z ∈ l
  | [] => by simp [insR]
  | y :: ys => by
    unfold insR
    split
    · rename_i e; subst e; simp
    · split
      · simp
      · simp only [List.mem_cons, insR_mem (l := ys)]
        constructor
        · rintro (h | h | h) <;> simp [h]
        · rintro (h | h | h) <;> simp [h]
theorem sortR_mem {B : Int} {z : List Int} : ∀ {l : List (List Int)}, z ∈ sortR B l ↔ z ∈ l
  | [] => by simp [sortR]
  | y :: ys => by unfold sortR; rw [insR_mem, sortR_mem, List.mem_cons]
theorem insR_sorted {B : Int} {x : List Int} : ∀ {l : List (List Int)}, (∀ z ∈ l, TS.code B x = TS.code B z → x = z) → l.Pairwise (fun a b => TS.code B a < TS.code B b) → (insR B x l).Pairwise fun a b => TS.code B a < TS.code B b
  | [], _, _ => List.pairwise_singleton _ _
  | y :: ys, hi, h => by
    obtain ⟨h1, h2⟩ := List.pairwise_cons.mp h
    unfold insR
    split
    · exact h
    · rename_i ne
      split
      · rename_i le
        have lt : TS.code B x < TS.code B y := Int.lt_iff_le_and_ne.mpr ⟨by assumption, fun e => ne (hi y List.mem_cons_self e)⟩
        refine List.pairwise_cons.mpr ⟨fun z hz => ?_, h⟩
        rcases List.mem_cons.mp hz with rfl | hz
        · exact lt
        · have := h1 z hz; omega
      · rename_i nle
        refine List.pairwise_cons.mpr ⟨fun z hz => ?_, insR_sorted (fun z hz => hi z (List.mem_cons_of_mem _ hz)) h2⟩
        rcases insR_mem.mp hz with rfl | hz
        · omega
        · exact h1 z hz
theorem sortR_sorted {B : Int} {d : Nat} : ∀ {l : List (List Int)}, (∀ z ∈ l, z.length = d ∧ TS.Bd B z) → (sortR B l).Pairwise fun a b => TS.code B a < TS.code B b
  | [], _ => List.Pairwise.nil
  | y :: ys, h => by
    unfold sortR
    refine insR_sorted (fun z hz e => ?_) (sortR_sorted fun z hz => h z (List.mem_cons_of_mem _ hz))
    obtain ⟨a1, a2⟩ := h y List.mem_cons_self
    obtain ⟨b1, b2⟩ := h z (List.mem_cons_of_mem _ (sortR_mem.mp hz))
    exact code_inj (a1.trans b1.symm) a2 b2 e
theorem sort_is {d : Nat} {rs ls : List (List Int)} (h : ∀ z ∈ rs, z.length = d ∧ TS.Bd 64 z) (hm : ∀ z, z ∈ ls ↔ z ∈ rs) (nd : ls.Nodup) (pw : ls.Pairwise fun a b => TS.code 64 a ≤ TS.code 64 b) : ls = sortR 64 rs := by
  have hs := sortR_sorted h
  have nd2 : (sortR 64 rs).Nodup := hs.imp fun {a b} lt e => by rw [e] at lt; exact Int.lt_irrefl _ lt
  refine List.Perm.eq_of_pairwise (le := fun a b => TS.code 64 a ≤ TS.code 64 b) (fun a b ha hb h1 h2 => ?_) pw (hs.imp fun {a b} lt => Int.le_of_lt lt) ((List.perm_ext_iff_of_nodup nd nd2).mpr fun z => (hm z).trans sortR_mem.symm)
  obtain ⟨a1, a2⟩ := h a ((hm a).mp ha)
  obtain ⟨b1, b2⟩ := h b (sortR_mem.mp hb)
  exact code_inj (a1.trans b1.symm) a2 b2 (Int.le_antisymm h1 h2)
theorem rows_ks {K : PySem.W.Frag} {H : Hp} : ∀ {xs : List D} {vs : List V} {rs : List (List Int)}, Rps K H xs vs → rowsD xs = some rs → ∃ ks : List (Addr × List Int), vs = ks.map (fun p => V.ref p.1) ∧ ks.map (·.2) = rs ∧ ∀ p ∈ ks, TupAt K H p.1 (p.2.map V.int)
  | [], vs, rs, r, h => by
    cases h
    have e : vs = [] := r
    exact ⟨[], by rw [e]; rfl, rfl, fun p hp => nomatch hp⟩
  | x :: xs, vs, rs, r, h => by
    obtain ⟨v, r', rfl, r1, r2⟩ := r
    cases x with
    | tup ys =>
      unfold rowsD at h
      cases e1 : intsD ys with
      | none => rw [e1] at h; cases h
      | some a =>
        cases e2 : rowsD xs with
        | none => rw [e1, e2] at h; cases h
        | some b =>
          rw [e1, e2] at h
          cases h
          obtain ⟨ks, k1, k2, k3⟩ := rows_ks r2 e2
          obtain ⟨p, us, rfl, t, ru⟩ := r1
          have e3 := ru.intsD e1
          subst e3
          refine ⟨(p, a) :: ks, by rw [k1]; rfl, by rw [← k2]; rfl, fun q hq => ?_⟩
          rcases List.mem_cons.mp hq with rfl | hq
          · exact t
          · exact k3 q hq
    | _ => cases h
/-- sorted(set(x)) -/
theorem se_sset {c : Cl} {a : E} (ha : SE c a) : SE c (.sset a) := by
  refine se_of (fun _ => rfl) fun X G O x hx => ?_
  cases x <;> first | (cases hx; done) | skip
  rename_i f args kws pos
  cases f <;> first | (cases hx; done) | skip
  rename_i x p
  match args, kws, hx with
  | [.Call (.Name y py) [z] [] pz], [], hx =>
    obtain ⟨h1, h5⟩ := and2 (show (decide (x = "sorted") && decide (y = "set") && blOk G x && blOk G y && ckE a G z) = true from hx)
    obtain ⟨h2, h4⟩ := and2 h1
    obtain ⟨h6, h3⟩ := and2 h2
    obtain ⟨h7, h8⟩ := and2 h6
    have ex : x = "sorted" := of_decide_eq_true h7
    have ey : y = "set" := of_decide_eq_true h8
    subst ex ey
    obtain ⟨g1, g2, g3⟩ := bl_of O h3
    obtain ⟨k1, k2, k3⟩ := bl_of O h4
    have hu : X.A.units + 64 < cLine := by have := O.un; omega
    have bs : bootBuiltins ("set" : Str) = some (.type "set") := by decide +kernel
    have bo : bootBuiltins ("sorted" : Str) = some (.builtin "sorted") := by decide +kernel
    have inner := pe_callTy (pos := pz) (p := py) (cr_setA O.calm hu) k1 k2 bs (pa_cons (ha X G O z h5).1 pa_nil (by rw [star_of h5])) (by decide) k3 (by rw [star_of h5]) (by rfl)
    refine ⟨PE.imp (pe_callB (pos := pos) (p := p) (cr_sortA O.calm) g1 g2 bo (pa_cons inner pa_nil) (by decide) g3) fun σ H Q ⟨env, o, env', E, hf, q⟩ => ?_, fun _ => rfl⟩
    simp only [ev, fin] at hf
    cases e1 : ev c a .v env with
    | none => rw [e1] at hf; cases hf
    | some oe =>
      obtain ⟨oa, env1⟩ := oe
      rw [e1] at hf
      simp only at hf
      cases e2 : view env1 oa with
      | none => rw [e2] at hf; cases hf
      | some d =>
        rw [e2] at hf
        simp only at hf
        cases e3 : ssetD d with
        | none => rw [e3] at hf; cases hf
        | some xs =>
          rw [e3] at hf
          cases hf
          refine ⟨env, oa, env', E, e1, fun v H1 p1 => ?_⟩
          have vw := p1.r.view p1.e e2
          -- the rows
          unfold ssetD at e3
          cases e4 : seqOf d with
          | none => rw [e4] at e3; cases e3
          | some ys =>
            rw [e4] at e3
            simp only at e3
            cases e5 : rowsD ys with
            | none => rw [e5] at e3; cases e3
            | some rs =>
              rw [e5] at e3
              cases rs with
              | nil => cases e3
              | cons r rs =>
                simp only at e3
                split at e3
                · rename_i hz
                  cases e3
                  obtain ⟨hz1, hz2⟩ := and2 hz
                  obtain ⟨hz3, hz4⟩ := and2 hz1
                  have lt : ys.length < 64 := of_decide_eq_true hz2
                  have ok : ∀ z ∈ r :: rs, z.length = r.length ∧ TS.Bd 64 z := fun z hz => by
                    have := List.all_eq_true.mp hz4 z hz
                    obtain ⟨b1, b2⟩ := and2 this
                    refine ⟨of_decide_eq_true b1, fun m hm => ?_⟩
                    have b3 := List.all_eq_true.mp b2 m hm
                    simpa using b3
                  have src : ∃ l vs, v = .ref l ∧ (SqL X.K H1 l vs ∨ TupAt X.K H1 l vs) ∧ Rps X.K H1 ys vs := by
                    cases d with
                    | tup zs => cases e4; obtain ⟨l, vs, e, t, rd⟩ := vw.tup; exact ⟨l, vs, e, .inr t, rd⟩
                    | lst zs => cases e4; obtain ⟨l, vs, e, t, rd⟩ := vw.lst; exact ⟨l, vs, e, .inl (.inl t), rd⟩
                    | _ => cases e4
                  obtain ⟨l, vs, rfl, hs, rd⟩ := src
                  obtain ⟨ks, kv, kr, kt⟩ := rows_ks rd e5
                  have kl : ks.length < 64 := by
                    have q1 := rd.length
                    rw [kv, List.length_map] at q1
                    omega
                  rw [kv] at hs
                  refine ⟨l, ks, rfl, hs, fun p hp => (kt p hp).sq, kl, fun b L nb L1 L2 L3 => ?_⟩
                  have sb : Same H1 (upd H1 b (SetTO X.prog X.w b L)) := same_new nb
                  have mem : ∀ z, z ∈ L.map (·.2) ↔ z ∈ r :: rs := fun z => by
                    rw [← kr]
                    constructor
                    · intro hz
                      obtain ⟨p, hp, e⟩ := List.mem_map.mp hz
                      exact List.mem_map.mpr ⟨p, L1 p hp, e⟩
                    · intro hz
                      obtain ⟨p, hp, e⟩ := List.mem_map.mp hz
                      rw [← e]; exact L2 p hp
                  refine ⟨b, L, r.length, rfl, upd_same, fun p hp => ((kt p (L1 p hp)).mono (kp_same sb)).sq, ?_, fun p hp => ok _ ((mem _).mp (List.mem_map.mpr ⟨p, hp, rfl⟩)), fun L' t pm few pw nt => ?_⟩
                  · rw [Bool.or_eq_true] at hz3
                    rcases hz3 with h | h
                    · exact .inl (of_decide_eq_true h)
                    · refine .inr ?_
                      have : rs = [] := by simpa using h
                      subst this
                      have m1 : ∀ z ∈ L.map (·.2), z = r := fun z hz => by simpa using (mem z).mp hz
                      match L, L3, m1, (mem r).mpr (by simp) with
                      | [], _, _, h => simp at h
                      | [x], _, _, _ => exact ⟨x, rfl⟩
                      | x :: y :: L, nd, m1, _ =>
                        exfalso
                        have a1 := m1 x.2 (by simp)
                        have a2 := m1 y.2 (by simp)
                        simp only [List.map_cons, List.nodup_cons] at nd
                        exact nd.1 (by rw [a1, a2]; simp)
                  · have e6 : L'.map (·.2) = sortR 64 (r :: rs) := sort_is ok (fun z => ((pm.map (·.2)).mem_iff).trans (mem z)) ((pm.map (·.2)).nodup_iff.mpr L3) (List.pairwise_map.mpr pw)
                    have nt1 : H1 t = none := by
                      by_cases hb : t = b
                      · subst hb; exact nb
                      · rwa [upd_ne hb] at nt
                    have sa : Same (upd H1 b (SetTO X.prog X.w b L)) (upd (upd H1 b (SetTO X.prog X.w b L)) t (.lst (L'.map fun q => V.ref q.1))) := same_new nt
                    refine q _ _ (po_res p1.e p1.t ⟨sb.trans sa, t, rfl, nt1, _, upd_same, ?_⟩)
                    rw [← e6, List.map_map]
                    have : ∀ l : List (Addr × List Int), (∀ p ∈ l, p ∈ ks) → Rps X.K (upd (upd H1 b (SetTO X.prog X.w b L)) t (.lst (L'.map fun q => V.ref q.1))) (l.map ((fun z => D.tup (z.map .int)) ∘ fun p => p.2)) (l.map fun q => V.ref q.1) := by
                      intro l
                      induction l with
                      | nil => intro _; exact .nil
                      | cons p l ih =>
                        intro h
                        exact .cons ⟨p.1, _, rfl, (kt p (h p List.mem_cons_self)).mono (kp_same (sb.trans sa)), Rps.of_ints _⟩ (ih fun q hq => h q (List.mem_cons_of_mem _ hq))
                    exact this L' fun p hp => L1 p (pm.mem_iff.mp hp)
                · cases e3
end PF
/-! PF10: calls of defs, comprehensions, all expressions. -/
namespace PF
open PySem PySem.Spec PyProof.Rows L2
section
variable {c : Cl}
theorem call_inv {f : Str} {es : List E} {env : Env} {o : Opd} {env' : Env} (h : ev c (.call f es) .v env = some (o, env')) :
    ∃ os env1 ss env2 fs, evs c es env = some (os, env1) ∧ lend os env1 = some (ss, env2) ∧ c f ss = some (o, fs) ∧ env' = giveBack os fs env2 := by
  simp only [ev, fin] at h
  cases e1 : evs c es env with
  | none => rw [e1] at h; cases h
  | some xe =>
    obtain ⟨os, env1⟩ := xe
    rw [e1] at h
    simp only at h
    cases e2 : lend os env1 with
    | none => rw [e2] at h; cases h
    | some de =>
      obtain ⟨ss, env2⟩ := de
      rw [e2] at h
      simp only at h
      cases e3 : c f ss with
      | none => rw [e3] at h; cases h
      | some rf =>
        obtain ⟨r, fs⟩ := rf
        rw [e3] at h
        cases h
        exact ⟨os, env1, ss, env2, fs, rfl, e2, e3, rfl⟩
theorem opds_slot {K : PySem.W.Frag} {σ : St} {H0 H : Hp} {env0 env : Env} : ∀ {os : List Opd} {vs : List V}, OpdsR K σ H0 env0 H env os vs → ∀ (k i : Nat), os[k]? = some (.slot i) → ∀ v, vs[k]? = some v → σ[i]? = some (some v)
  | _, _, .nil, k, i, h, _, _ => by simp at h
  | _, _, .cons r n t dj, 0, i, h, v, h2 => by
    simp at h h2
    subst h h2
    exact r
  | _, _, .cons r n t dj, k + 1, i, h, v, h2 => opds_slot t k i (by simpa using h) v (by simpa using h2)
theorem opds_own {K : PySem.W.Frag} {σ : St} {H0 H : Hp} {env0 env : Env} : ∀ {os : List Opd} {vs : List V}, OpdsR K σ H0 env0 H env os vs → ∀ (k : Nat) (e : D) (p : Addr), os[k]? = some (.own e) → vs[k]? = some (.ref p) → OwnAt K H e p ∧ ¬ OwnA env σ p
  | _, _, .nil, k, i, p, h, _ => by simp at h
  | _, _, .cons r n t dj, 0, i, p, h, h2 => by
    simp at h h2
    subst h h2
    obtain ⟨p', e, o, no⟩ := r
    cases e
    exact ⟨o, no⟩
  | _, _, .cons r n t dj, k + 1, i, p, h, h2 => opds_own t k i p (by simpa using h) (by simpa using h2)
/-- behind a call -/
theorem call_end {K : PySem.W.Frag} {σ : St} {H H1 H2 : Hp} {env env1 env2 : Env} {os : List Opd} {vs : List V} {ss fs : List Slot} {o : Opd} {v : V}
    (E1 : EnvR K H1 σ env1) (t1 : Tr σ H env σ H1 env1) (r1 : OpdsR K σ H env H1 env1 os vs) (hl : lend os env1 = some (ss, env2))
    (F : EnvR K H2 (vs.map some) fs) (tc : Tr (vs.map some) H1 ss (vs.map some) H2 fs) (ro : OpdR K H2 (vs.map some) fs o v) (ns : ∀ i, o ≠ .slot i) (nr : ∀ d p, o = .own d → v = .ref p → H1 p = none ∨ OwnA ss (vs.map some) p) :
    Po K σ H env o (giveBack os fs env2) v H2 := by
  obtain ⟨l1, l2, l3, l4⟩ := lend_ok E1 r1 hl
  have kp : Kp H1 H2 := tc.kp l3
  -- what the caller keeps
  have n2 : ∀ p, OwnA env2 σ p → ¬ OwnA ss (vs.map some) p := fun p z q => (l4 p q).1 z
  have E2 : EnvR K H2 σ env2 := by
    refine ⟨l1.len, fun j sl e => ?_, l1.dj⟩
    obtain ⟨x, e2, rr⟩ := l1.sl j sl e
    refine ⟨x, e2, ?_⟩
    cases sl with
    | un => trivial
    | val d => obtain ⟨v, e3, rr⟩ := rr; exact ⟨v, e3, rr.mono kp⟩
    | own d2 =>
      obtain ⟨p2, e3, rr⟩ := rr
      subst e3
      exact ⟨p2, rfl, rr.keep kp fun u qq => tc.f p2 u qq (n2 p2 ⟨j, d2, e, e2⟩)⟩
  have dj : ∀ p, OwnA env2 σ p → ¬ OwnA fs (vs.map some) p := fun p z q => by
    rcases tc.s p q with q | q
    · exact n2 p z q
    · obtain ⟨u, e, _⟩ := l1.nfrz z
      rw [q] at e; cases e
  obtain ⟨g1, g2⟩ := give_ok (opds_slot r1) E2 F dj
  -- what the callee may touch
  have touched : ∀ p, OwnA ss (vs.map some) p → H p = none ∨ OwnA env σ p := fun p z => by
    rcases (l4 p z).2 with q | ⟨k, e, k1, k2⟩
    · exact (t1.s p q).symm
    · exact r1.own k e p k1 k2
  refine ⟨g1, ⟨fun b u e n => ?_, fun p z => ?_⟩, ?_, fun d p e1 e2 => ?_⟩
  · refine tc.f b u (t1.f b u e n) fun z => ?_
    rcases touched b z with q | q
    · rw [e] at q; cases q
    · exact n q
  · rcases g2 p z with z | z
    · exact t1.s p (l2 p z)
    · rcases tc.s p z with q | q
      · exact (touched p q).symm
      · exact (t1.fresh q).symm
  · cases o with
    | dat d => exact ro
    | own d =>
      obtain ⟨p, e, oa, no⟩ := ro
      refine ⟨p, e, oa, fun z => ?_⟩
      rcases g2 p z with z | z
      · rcases nr d p rfl e with q | q
        · obtain ⟨u, e', _⟩ := l1.nfrz z
          rw [q] at e'; cases e'
        · exact n2 p z q
      · exact no z
    | slot i => exact (ns i rfl).elim
  · rcases nr d p e1 e2 with q | q
    · exact t1.fresh q
    · exact touched p q
theorem se_call {f : Str} {es : List E} (hs : ∀ e ∈ es, SE c e) : SE c (.call f es) := by
  refine se_of (fun _ => rfl) fun X G O x hx => ?_
  cases x <;> first | (cases hx; done) | skip
  rename_i fe args kws pos
  cases fe <;> first | (cases hx; done) | skip
  rename_i x p
  cases kws <;> first | (cases hx; done) | skip
  obtain ⟨hx1, h4⟩ := and2 hx
  obtain ⟨hx2, h3⟩ := and2 hx1
  obtain ⟨h1, h2⟩ := and2 hx2
  have ex : x = f := of_decide_eq_true h1
  subst ex
  obtain ⟨g1, g2⟩ := gl_of O h2
  obtain ⟨a, fdt, ps, k, m1, m2, m3, m4, m5, m6⟩ := (O.fns x es.length (by simpa using h3)).ok
  refine ⟨?_, fun _ => rfl⟩
  have fin : ∀ {σ : St} {H : Hp} {Q : VK}, tE X.K (ev c (.call x es) .v) σ H Q → tCall (spC X.K c x) [] E0 (tAs X.K (evs c es)) σ H Q := by
    rintro σ H Q ⟨env, o, env', E, hf, q⟩
    obtain ⟨os, env1, ss, env2, fs, e1, e2, e3, rfl⟩ := call_inv hf
    refine ⟨env, os, env1, E, e1, fun vs H1 E1 t1 r1 => ?_⟩
    dsimp only
    rw [List.append_nil]
    obtain ⟨l1, l2, l3, l4⟩ := lend_ok E1 r1 e2
    exact ⟨ss, o, fs, l3, e3, fun v H2 F tc ro ns nr => q v H2 (call_end E1 t1 r1 e2 F tc ro ns nr)⟩
  match es, args, h4, hs with
  | [], [], h4, hs =>
    refine PE.imp (pe_call0 m4 m5 g1 m1 m2 m3 .nil pass0 g2) fun σ H Q h => ?_
    obtain ⟨env, os, env1, E, e1, q⟩ := fin h
    cases e1
    exact q [] H E .refl .nil
  | [], _ :: _, h4, hs => cases h4
  | _ :: _, [], h4, hs => cases h4
  | e :: es, y :: ys, h4, hs =>
    obtain ⟨k1, k2⟩ := and2 (show (ckE e G y && ckEs es G ys) = true from h4)
    exact PE.imp (pe_call m4 m5 g1 m1 m2 m3 .nil pass0 (pa_os O hs h4) g2 (star_of k1 _) (any_star k2)) fun σ H Q h => fin h
/-! ### targets -/
theorem setAll_ok {K : PySem.W.Frag} {H : Hp} : ∀ {is : List Nat} {ds : List D} {vs : List V} {env env' : Env} {σ : St}, setAll env is ds = some env' → Rps K H ds vs → EnvR K H σ env →
    ∃ σ', EnvR K H σ' env' ∧ σ'.length = σ.length ∧ (∀ j, j ∉ is → σ'[j]? = σ[j]?) ∧ (∀ p, OwnA env' σ' p → OwnA env σ p) ∧ vs.length = is.length ∧ σ' = (is.zip vs).foldl (fun σ q => σ.set q.1 (some q.2)) σ
  | [], [], vs, env, env', σ, h, r, E => by
    cases h
    have : vs = [] := r
    subst this
    exact ⟨σ, E, rfl, fun _ _ => rfl, fun _ z => z, rfl, rfl⟩
  | i :: is, d :: ds, vs, env, env', σ, h, r, E => by
    obtain ⟨v, vr, rfl, r1, r2⟩ := r
    have E1 : EnvR K H (σ.set i (some v)) (env.set i (.val d)) ∧ ∀ p, OwnA (env.set i (.val d)) (σ.set i (some v)) p → OwnA env σ p := by
      have own : ∀ {j : Nat} {e : D}, (env.set i (.val d))[j]? = some (.own e) → j ≠ i ∧ env[j]? = some (.own e) := fun {j e} q => by
        by_cases hj : i = j
        · subst hj
          rw [List.getElem?_set_self'] at q
          cases hh : env[i]? with
          | none => rw [hh] at q; cases q
          | some w => rw [hh] at q; cases q
        · rw [List.getElem?_set_ne hj] at q
          exact ⟨Ne.symm hj, q⟩
      refine ⟨⟨by rw [List.length_set, List.length_set]; exact E.len, fun j sl e => ?_, fun j l a b p h1 h2 h3 h4 => ?_⟩, fun p ⟨j, e, h1, h2⟩ => ?_⟩
      · by_cases hj : i = j
        · subst hj
          rw [List.getElem?_set_self'] at e
          cases hh : env[i]? with
          | none => rw [hh] at e; cases e
          | some w =>
            rw [hh] at e
            cases e
            have hlt : i < σ.length := by rw [← E.len]; exact (List.getElem?_eq_some_iff.mp hh).1
            exact ⟨some v, by rw [List.getElem?_set_self hlt], v, rfl, r1⟩
        · rw [List.getElem?_set_ne hj] at e ⊢
          exact E.sl j sl e
      · obtain ⟨n1, z1⟩ := own h1
        obtain ⟨n2, z2⟩ := own h2
        rw [List.getElem?_set_ne (Ne.symm n1)] at h3
        rw [List.getElem?_set_ne (Ne.symm n2)] at h4
        exact E.dj j l a b p z1 z2 h3 h4
      · obtain ⟨n1, z1⟩ := own h1
        rw [List.getElem?_set_ne (Ne.symm n1)] at h2
        exact ⟨j, e, z1, h2⟩
    obtain ⟨σ', a1, a2, a3, a4, a5, a6⟩ := setAll_ok (is := is) h r2 E1.1
    refine ⟨σ', a1, by rw [a2, List.length_set], fun j hj => ?_, fun p z => E1.2 p (a4 p z), by rw [List.length_cons, List.length_cons, a5], a6⟩
    rw [a3 j fun z => hj (List.mem_cons_of_mem _ z), List.getElem?_set_ne fun (z : i = j) => hj (by rw [z]; exact List.mem_cons_self)]
/-- a target's reading -/
def gT (K : PySem.W.Frag) (tg : Tg) : TG := fun v σ H Q => ∃ env d env', EnvR K H σ env ∧ Rp K H d v ∧ bindT env tg d = some env' ∧
  ∀ σ', EnvR K H σ' env' → σ'.length = σ.length → (∀ j, j ∉ tg.is → σ'[j]? = σ[j]?) → (∀ p, OwnA env' σ' p → OwnA env σ p) → Q σ' H
theorem pgs_of {X : Cx} {G : Ck} (O : XOk X G c) : ∀ {is : List Nat} {ts : List Expr}, ckTs G is ts = true → PGs X ts (fun vs σ H Q => vs.length = is.length ∧ Q ((is.zip vs).foldl (fun σ q => σ.set q.1 (some q.2)) σ) H) ∧ (assignEach ts X.env).length = is.length ∧ (assignEach ts X.env).findIdx? (·.1) = none
  | [], [], _ => ⟨⟨fun pins s σ H vs us Q I r h => pgs_nil.run pins s σ H vs us Q I r ⟨List.eq_nil_of_length_eq_zero h.1, by
      have := List.eq_nil_of_length_eq_zero h.1
      subst this
      exact h.2⟩⟩, rfl, rfl⟩
  | [], _ :: _, h => by cases h
  | _ :: _, [], h => by cases h
  | i :: is, t :: ts, h => by
    cases t <;> first | (cases h; done) | skip
    rename_i x p
    obtain ⟨h1, h2⟩ := and2 (show (stOk G i x && ckTs G is ts) = true from h)
    obtain ⟨k1, k2⟩ := and2 h1
    have hx : X.N[i]? = some x := by rw [O.n]; exact of_decide_eq_true k1
    have hl : L2.Loc X.env.scope x ∧ (X.fn x = true ∨ X.env.scope.names.lookup x = some .local) := by
      unfold L2.Loc
      rw [O.sc]
      unfold locB at k2
      split at k2
      · rename_i e; exact ⟨.inl e, .inr e⟩
      · rename_i e; exact ⟨.inr e, .inl (O.fn x k2)⟩
      · cases k2
    obtain ⟨a1, a2, a3⟩ := pgs_of O h2
    refine ⟨⟨fun pins s σ H vs us Q I r hq => ?_⟩, ?_, ?_⟩
    · refine (pgs_cons (pg_name O.nd hx hl.1 hl.2) a1).run pins s σ H vs us Q I r ?_
      obtain ⟨q1, q2⟩ := hq
      cases vs with
      | nil => simp at q1
      | cons v vr => exact ⟨v, vr, rfl, by simpa using q1, q2⟩
    · show (assignEach ts X.env).length + 1 = _
      rw [a2]; rfl
    · show ((false, assign (.Name x p) X.env) :: assignEach ts X.env).findIdx? (·.1) = none
      rw [List.findIdx?_cons]
      simp [a3]
theorem pg_of {X : Cx} {G : Ck} (O : XOk X G c) {tg : Tg} {t : Expr} (h : ckTg G tg t = true) : PG X t (gT X.K tg) := by
  cases tg with
  | nm i =>
    cases t <;> first | (cases h; done) | skip
    rename_i x p
    obtain ⟨k1, k2⟩ := and2 (show (decide (G.N[i]? = some x) && locB G x) = true from h)
    have hx : X.N[i]? = some x := by rw [O.n]; exact of_decide_eq_true k1
    have hl : L2.Loc X.env.scope x ∧ (X.fn x = true ∨ X.env.scope.names.lookup x = some .local) := by
      unfold L2.Loc
      rw [O.sc]
      unfold locB at k2
      split at k2
      · rename_i e; exact ⟨.inl e, .inr e⟩
      · rename_i e; exact ⟨.inr e, .inl (O.fn x k2)⟩
      · cases k2
    refine ⟨fun pins s σ H v u Q I r hq => (pg_name O.nd hx hl.1 hl.2).run pins s σ H v u Q I r ?_⟩
    obtain ⟨env, d, env', E, rd, hb, q⟩ := hq
    have hb' : setAll env [i] [d] = some env' := hb
    obtain ⟨σ', a1, a2, a3, a4, a5, a6⟩ := setAll_ok (vs := [v]) hb' (Rps.cons rd .nil) E
    subst a6
    exact q _ a1 a2 a3 a4
  | tp is =>
    cases t <;> first | (cases h; done) | skip
    rename_i ts k p
    obtain ⟨a1, a2, a3⟩ := pgs_of O (show ckTs G is ts = true from h)
    refine ⟨fun pins s σ H v u Q I r hq => (pg_tup O.calm a1 a2 a3).run pins s σ H v u Q I r ?_⟩
    obtain ⟨env, d, env', E, rd, hb, q⟩ := hq
    cases d with
    | tup ds =>
      obtain ⟨a, xs, rfl, t, rs⟩ := rd
      obtain ⟨σ', b1, b2, b3, b4, b5, b6⟩ := setAll_ok (show setAll env is ds = some env' from hb) rs E
      subst b6
      exact ⟨a, xs, rfl, t.sq, b5, b5, q _ b1 b2 b3 b4⟩
    | _ => cases hb
/-! ### comprehensions -/
theorem wipe_get (σ : St) : ∀ (vs : List Nat) (j : Nat), (wipe σ vs)[j]? = if j ∈ vs ∧ j < σ.length then some none else σ[j]?
  | [], j => by simp [wipe]
  | v :: vs, j => by
    unfold wipe
    have ih := wipe_get σ vs j
    by_cases hv : v = j
    · subst hv
      rw [List.getElem?_set_self', ih]
      by_cases hl : v < σ.length
      · by_cases hm : v ∈ vs
        · simp [hl, hm]
        · simp [hl, hm, List.getElem?_eq_getElem hl]
      · simp [hl, List.getElem?_eq_none (Nat.le_of_not_lt hl)]
    · rw [List.getElem?_set_ne hv, ih]
      by_cases hm : j ∈ vs
      · by_cases hl : j < σ.length
        · rw [if_pos ⟨hm, hl⟩, if_pos ⟨List.mem_cons_of_mem _ hm, hl⟩]
        · rw [if_neg fun z => hl z.2, if_neg fun z => hl z.2]
      · rw [if_neg fun z => hm z.1, if_neg fun z => by
          rcases List.mem_cons.mp z.1 with e | e
          · exact hv e.symm
          · exact hm e]
theorem wipe_same {σ σ2 : St} {vs : List Nat} (hl : σ2.length = σ.length) (h : ∀ j, j ∉ vs → σ2[j]? = (wipe σ vs)[j]?) : wipe σ2 vs = wipe σ vs := by
  refine List.ext_getElem? fun j => ?_
  rw [wipe_get, wipe_get]
  by_cases hm : j ∈ vs
  · by_cases hj : j < σ.length
    · rw [if_pos ⟨hm, by omega⟩, if_pos ⟨hm, hj⟩]
    · rw [if_neg fun z => hj (by have := z.2; omega), if_neg fun z => hj z.2, List.getElem?_eq_none (by omega), List.getElem?_eq_none (by omega)]
  · rw [if_neg fun z => hm z.1, if_neg fun z => hm z.1, h j hm, wipe_get, if_neg fun z => hm z.1]
theorem wipeE_get (env : Env) : ∀ (vs : List Nat) (j : Nat), (wipeE env vs)[j]? = if j ∈ vs ∧ j < env.length then some .un else env[j]?
  | [], j => by simp [wipeE]
  | v :: vs, j => by
    unfold wipeE
    have ih := wipeE_get env vs j
    by_cases hv : v = j
    · subst hv
      rw [List.getElem?_set_self', ih]
      by_cases hl : v < env.length
      · by_cases hm : v ∈ vs
        · simp [hl, hm]
        · simp [hl, hm, List.getElem?_eq_getElem hl]
      · simp [hl, List.getElem?_eq_none (Nat.le_of_not_lt hl)]
    · rw [List.getElem?_set_ne hv, ih]
      by_cases hm : j ∈ vs
      · by_cases hl : j < env.length
        · rw [if_pos ⟨hm, hl⟩, if_pos ⟨List.mem_cons_of_mem _ hm, hl⟩]
        · rw [if_neg fun z => hl z.2, if_neg fun z => hl z.2]
      · rw [if_neg fun z => hm z.1, if_neg fun z => by
          rcases List.mem_cons.mp z.1 with e | e
          · exact hv e.symm
          · exact hm e]
theorem wipeE_len (env : Env) : ∀ vs : List Nat, (wipeE env vs).length = env.length
  | [] => rfl
  | v :: vs => by unfold wipeE; rw [List.length_set, wipeE_len env vs]
theorem backE_get (old env : Env) (he : old.length = env.length) : ∀ (vs : List Nat) (j : Nat), (backE old env vs)[j]? = if j ∈ vs then old[j]? else env[j]?
  | [], j => by simp [backE]
  | v :: vs, j => by
    unfold backE
    have ih := backE_get old env he vs j
    by_cases hv : v = j
    · subst hv
      rw [List.getElem?_set_self', ih, if_pos List.mem_cons_self]
      by_cases hl : v < old.length
      · have e1 : old[v]? = some old[v] := List.getElem?_eq_getElem hl
        have e2 : env[v]? = some env[v] := List.getElem?_eq_getElem (by omega)
        have e3 : look old v = old[v] := by unfold look; rw [e1]; rfl
        rw [e3, e1, e2]
        split <;> rfl
      · rw [List.getElem?_eq_none (by omega), List.getElem?_eq_none (by omega)]
        split <;> rfl
    · rw [List.getElem?_set_ne hv, ih]
      by_cases hm : j ∈ vs
      · rw [if_pos hm, if_pos (List.mem_cons_of_mem _ hm)]
      · rw [if_neg hm, if_neg fun z => by
          rcases List.mem_cons.mp z with e | e
          · exact hv e.symm
          · exact hm e]
theorem backE_len (old env : Env) : ∀ vs : List Nat, (backE old env vs).length = env.length
  | [] => rfl
  | v :: vs => by unfold backE; rw [List.length_set, backE_len old env vs]
/-- a turn of a comprehension -/
def lcF (c : Cl) (own : List Nat) (tg : Tg) (cond : List E) (elt : E) : D → Env → Option (Option D × Env) := fun x env => match bindT (wipeE env own) tg x with
  | none => none
  | some env => match evAnd c cond .t env with
    | some (.dat (.bl true), env) => match ev c elt .v env with
      | none => none
      | some (o, env) => match toD env o with
        | some (d, env) => some (some d, env)
        | none => none
    | some (.dat (.bl false), env) => some (none, env)
    | _ => none
theorem lcF_inv {own : List Nat} {tg : Tg} {cond : List E} {elt : E} {x : D} {env : Env} {r : Option D} {env' : Env} (h : lcF c own tg cond elt x env = some (r, env')) :
    ∃ env1, bindT (wipeE env own) tg x = some env1 ∧ ((r = none ∧ evAnd c cond .t env1 = some (.dat (.bl false), env')) ∨
      ∃ env2 d, r = some d ∧ evAnd c cond .t env1 = some (.dat (.bl true), env2) ∧ (match ev c elt .v env2 with | none => none | some (o, env) => toD env o) = some (d, env')) := by
  unfold lcF at h
  cases e1 : bindT (wipeE env own) tg x with
  | none => rw [e1] at h; cases h
  | some env1 =>
    rw [e1] at h
    simp only at h
    refine ⟨env1, rfl, ?_⟩
    cases e2 : evAnd c cond .t env1 with
    | none => rw [e2] at h; cases h
    | some oe =>
      obtain ⟨o, env2⟩ := oe
      obtain ⟨b, rfl⟩ := and_bl e2
      rw [e2] at h
      cases b with
      | false => cases h; exact .inl ⟨rfl, rfl⟩
      | true =>
        simp only at h
        cases e3 : ev c elt .v env2 with
        | none => rw [e3] at h; cases h
        | some oe =>
          obtain ⟨o, env3⟩ := oe
          rw [e3] at h
          simp only at h
          cases e4 : toD env3 o with
          | none => rw [e4] at h; cases h
          | some de =>
            obtain ⟨d, env4⟩ := de
            rw [e4] at h
            cases h
            exact .inr ⟨env2, d, rfl, rfl, by rw [e3]; exact e4⟩
theorem EnvR.wipe {K : PySem.W.Frag} {H : Hp} {σ σ2 : St} {env : Env} {own : List Nat} (E : EnvR K H σ2 env) (hl : σ2.length = σ.length) (hs : ∀ j, j ∉ own → σ2[j]? = σ[j]?) :
    EnvR K H (L2.wipe σ own) (wipeE env own) ∧ ∀ p, OwnA (wipeE env own) (L2.wipe σ own) p → OwnA env σ2 p := by
  have get : ∀ {j : Nat} {sl : Slot}, (wipeE env own)[j]? = some sl → (j ∈ own ∧ sl = .un ∧ j < env.length) ∨ (j ∉ own ∧ env[j]? = some sl) := fun {j sl} e => by
    rw [wipeE_get] at e
    by_cases hm : j ∈ own
    · by_cases hj : j < env.length
      · rw [if_pos ⟨hm, hj⟩] at e; cases e; exact .inl ⟨hm, rfl, hj⟩
      · rw [if_neg fun z => hj z.2, List.getElem?_eq_none (by omega)] at e; cases e
    · rw [if_neg fun z => hm z.1] at e; exact .inr ⟨hm, e⟩
  have gets : ∀ {j : Nat}, j ∉ own → (L2.wipe σ own)[j]? = σ2[j]? := fun {j} hm => by rw [wipe_get, if_neg fun z => hm z.1, hs j hm]
  have own' : ∀ {j : Nat} {d : D}, (wipeE env own)[j]? = some (.own d) → j ∉ own ∧ env[j]? = some (.own d) := fun {j d} e => by
    rcases get e with ⟨_, z, _⟩ | z
    · cases z
    · exact z
  refine ⟨⟨by rw [wipeE_len, wipe_length, E.len, hl], fun j sl e => ?_, fun j l a b p h1 h2 h3 h4 => ?_⟩, fun p ⟨j, d, h1, h2⟩ => ?_⟩
  · rcases get e with ⟨hm, rfl, hj⟩ | ⟨hm, e⟩
    · have : j < (L2.wipe σ own).length := by rw [wipe_length, ← hl, ← E.len]; exact hj
      exact ⟨_, List.getElem?_eq_getElem this, trivial⟩
    · rw [gets hm]; exact E.sl j sl e
  · obtain ⟨n1, z1⟩ := own' h1
    obtain ⟨n2, z2⟩ := own' h2
    rw [gets n1] at h3
    rw [gets n2] at h4
    exact E.dj j l a b p z1 z2 h3 h4
  · obtain ⟨n1, z1⟩ := own' h1
    rw [gets n1] at h2
    exact ⟨j, d, z1, h2⟩
theorem wipe_wipe (σ : St) (own : List Nat) : L2.wipe (L2.wipe σ own) own = L2.wipe σ own := wipe_same (wipe_length σ own) fun _ _ => rfl
/-- the reading of a comprehension -/
theorem lc_read {K : PySem.W.Frag} {own : List Nat} {tg : Tg} {cond : List E} {elt : E} {σ : St} {H0 H1 : Hp} {env0 env1 envF : Env} {xs total : List D} {J : It} {Q : VK} (htg : ∀ j ∈ tg.is, j ∈ own)
    (E1 : EnvR K H1 σ env1) (t1 : Tr σ H0 env0 σ H1 env1) (hJ : ItOk K H1 J xs) (hl : lcLoop (lcF c own tg cond elt) xs env1 = some (total, envF)) (hz : total.length ≤ line)
    (q : ∀ v H', Po K σ H0 env0 (.own (.lst total)) (backE env1 envF own) v H' → Q v H') :
    ∀ D, H1 D = none → ∃ W : Nat → Nat → Hp → Prop, (∃ m, W 0 m (upd H1 D (.lst []))) ∧ ∀ i m H, W i m H →
      (J.stop i H ∧ Q (.ref D) H) ∨ (J.go i H ∧ ∃ Nx : Hp → Prop, (∀ H', Nx H' → ∃ m', m' < m ∧ W (i + 1) m' H') ∧ ∀ x H', J.yld i H x H' → gT K tg x (L2.wipe σ own) H' fun σ2 H2 => L2.wipe σ2 own = L2.wipe σ own ∧ tT K (evAnd c cond .t) σ2 H2 fun b H3 =>
        if b = true then tD K (fun env => match ev c elt .v env with | none => none | some (o, env) => toD env o) σ2 H3 fun y H4 => ∃ acc, H4 D = some (.lst acc) ∧ acc.length < sizeLine ∧ Nx (upd H4 D (.lst (acc ++ [y]))) else Nx H3) := by
  intro D hD
  have sD : Same H1 (upd H1 D (.lst [])) := same_new hD
  -- what holds at a turn
  let P : Nat → Hp → Prop := fun i H => ∃ env accD rest acc, lcLoop (lcF c own tg cond elt) (xs.drop i) env = some (rest, envF) ∧ EnvR K H (L2.wipe σ own) (wipeE env own) ∧ H D = some (.lst acc) ∧ Rps K H accD acc ∧ accD ++ rest = total ∧
    Tr σ H1 env1 (L2.wipe σ own) H (wipeE env own) ∧ ¬ OwnA (wipeE env own) (L2.wipe σ own) D ∧ (∀ p, OwnA (wipeE env own) (L2.wipe σ own) p → OwnA (wipeE env1 own) (L2.wipe σ own) p ∨ H1 p = none) ∧ (∀ b u, H1 b = some u → ¬ OwnA (wipeE env1 own) (L2.wipe σ own) b → H b = some u)
  obtain ⟨w1, w2⟩ := EnvR.wipe (own := own) E1 rfl (fun _ _ => rfl)
  have nD1 : ¬ OwnA env1 σ D := fun z => by
    obtain ⟨u, e, _⟩ := E1.nfrz z
    rw [hD] at e; cases e
  have p0 : P 0 (upd H1 D (.lst [])) := by
    refine ⟨env1, [], total, [], hl, w1.same sD, upd_same, .nil, rfl, ⟨fun b u e _ => sD b u e, fun p z => .inl (w2 p z)⟩, fun z => nD1 (w2 D z), fun p z => .inl z, fun b u e _ => sD b u e⟩
  refine ⟨fun i m H => m = xs.length - i ∧ i ≤ xs.length ∧ P i H, ⟨xs.length, by simp, Nat.zero_le _, p0⟩, ?_⟩
  rintro i m H ⟨rfl, hi, env, accD, rest, acc, hlp, EH, hDa, hacc, htot, tr, nD, ow, fr⟩
  have kp1 : Kp H1 H := fun a ob u e => fr a _ e fun z => by
    obtain ⟨u', e', n⟩ := w1.nfrz z
    rw [e] at e'; cases e'
    exact n _ _ rfl
  by_cases hlt : i < xs.length
  · refine .inr ⟨(hJ i H kp1).1 hlt |>.1, P (i + 1), fun H' p => ⟨xs.length - (i + 1), by omega, rfl, hlt, p⟩, fun x H' y => ?_⟩
    obtain ⟨e, d, hd, rd⟩ := ((hJ i H kp1).1 hlt).2 x H' y
    subst e
    have hdrop : xs.drop i = d :: xs.drop (i + 1) := by
      rw [List.drop_eq_getElem_cons hlt]
      have : xs[i] = d := by rw [List.getElem?_eq_getElem hlt] at hd; exact Option.some.inj hd
      rw [this]
    rw [hdrop] at hlp
    simp only [lcLoop] at hlp
    cases ef : lcF c own tg cond elt d env with
    | none => rw [ef] at hlp; cases hlp
    | some re =>
      obtain ⟨r, envN⟩ := re
      rw [ef] at hlp
      obtain ⟨envB, hb, hcase⟩ := lcF_inv ef
      refine ⟨wipeE env own, d, envB, EH, rd, hb, fun σ2 E2 l2 s2 o2 => ⟨?_, ?_⟩⟩
      · rw [← wipe_wipe σ own]
        exact wipe_same l2 fun j hj => by rw [wipe_get (L2.wipe σ own), if_neg fun z => hj z.1, s2 j fun z => hj (htg j z)]
      · have hs2 : ∀ j, j ∉ own → σ2[j]? = (L2.wipe σ own)[j]? := fun j hj => s2 j fun z => hj (htg j z)
        rcases hcase with ⟨rfl, ec⟩ | ⟨envC, dd, rfl, ec, ee⟩
        · refine ⟨envB, false, envN, E2, ec, fun H3 E3 t3 => ?_⟩
          dsimp only
          rw [if_neg Bool.false_ne_true]
          obtain ⟨v1, v2⟩ := EnvR.wipe (σ := L2.wipe σ own) (own := own) E3 l2 hs2
          rw [wipe_wipe] at v1 v2
          have nDB : ¬ OwnA envB σ2 D := fun z => nD (o2 D z)
          have up : ∀ p, OwnA (wipeE envN own) (L2.wipe σ own) p → OwnA (wipeE env own) (L2.wipe σ own) p ∨ H' p = none := fun p z => (t3.s p (v2 p z)).imp (o2 p) id
          have frB : ∀ b u, H' b = some u → ¬ OwnA (wipeE env own) (L2.wipe σ own) b → H3 b = some u := fun b u e n => t3.f b u e fun z => n (o2 b z)
          have trB : Tr (L2.wipe σ own) H' (wipeE env own) (L2.wipe σ own) H3 (wipeE envN own) := ⟨frB, up⟩
          have hD3 : H3 D = some (.lst acc) := frB D _ hDa nD
          refine ⟨envN, accD, rest, acc, hlp, v1, hD3, hacc.mono (t3.kp E2), htot, tr.trans trB, fun z => ?_, fun p z => ?_, fun b u e n => ?_⟩
          · rcases up D z with z | z
            · exact nD z
            · rw [hDa] at z; cases z
          · rcases up p z with z | z
            · exact ow p z
            · by_cases n : OwnA (wipeE env1 own) (L2.wipe σ own) p
              · exact .inl n
              · refine .inr ?_
                cases e : H1 p with
                | none => rfl
                | some u => rw [fr p u e n] at z; cases z
          · refine frB b u (fr b u e n) fun z => ?_
            rcases ow b z with z | z
            · exact n z
            · rw [e] at z; cases z
        · refine ⟨envB, true, envC, E2, ec, fun H3 E3 t3 => ?_⟩
          dsimp only
          rw [if_pos rfl]
          refine ⟨envC, dd, envN, E3, ee, fun y H4 E4 t4 ry => ?_⟩
          have t34 := t3.trans t4
          obtain ⟨v1, v2⟩ := EnvR.wipe (σ := L2.wipe σ own) (own := own) E4 l2 hs2
          rw [wipe_wipe] at v1 v2
          have up : ∀ p, OwnA (wipeE envN own) (L2.wipe σ own) p → OwnA (wipeE env own) (L2.wipe σ own) p ∨ H' p = none := fun p z => (t34.s p (v2 p z)).imp (o2 p) id
          have frB : ∀ b u, H' b = some u → ¬ OwnA (wipeE env own) (L2.wipe σ own) b → H4 b = some u := fun b u e n => t34.f b u e fun z => n (o2 b z)
          have hD4 : H4 D = some (.lst acc) := frB D _ hDa nD
          have nD4 : ¬ OwnA (wipeE envN own) (L2.wipe σ own) D := fun z => by
            rcases up D z with z | z
            · exact nD z
            · rw [hDa] at z; cases z
          cases er : lcLoop (lcF c own tg cond elt) (xs.drop (i + 1)) envN with
          | none => simp only [er] at hlp; cases hlp
          | some rr =>
            obtain ⟨rest', envF'⟩ := rr
            simp only [er] at hlp
            cases hlp
            have hla : acc.length < sizeLine := by
              have h1 : total.length = accD.length + (rest'.length + 1) := by rw [← htot, List.length_append, List.length_cons]
              rw [hacc.length, ← line_eq]
              omega
            refine ⟨acc, hD4, hla, ?_⟩
            have kD : Kp H4 (upd H4 D (.lst (acc ++ [y]))) := upd_kp fun ob u e => by rw [hD4] at e; cases e
            have oth : ∀ b u, b ≠ D → H4 b = some u → upd H4 D (.lst (acc ++ [y])) b = some u := fun b u n e => by rw [upd_ne n]; exact e
            refine ⟨envN, accD ++ [dd], rest', acc ++ [y], er, ⟨v1.len, fun j sl e => ?_, v1.dj⟩, upd_same, ((hacc.mono (t34.kp E2)).append (.cons ry .nil)).mono kD, by rw [← htot]; simp, ⟨fun b u e n => ?_, fun p z => ?_⟩, nD4, fun p z => ?_, fun b u e n => ?_⟩
            · obtain ⟨x', e2, rr⟩ := v1.sl j sl e
              refine ⟨x', e2, ?_⟩
              cases sl with
              | un => trivial
              | val d => obtain ⟨v, e3, rr⟩ := rr; exact ⟨v, e3, rr.mono kD⟩
              | own d2 =>
                obtain ⟨p2, e3, rr⟩ := rr
                subst e3
                refine ⟨p2, rfl, rr.keep kD fun u qq => oth p2 u ?_ qq⟩
                rintro rfl
                exact nD4 ⟨j, d2, e, e2⟩
            · refine oth b u ?_ (frB b u (tr.f b u e n) fun z => ?_)
              · rintro rfl; rw [hD] at e; cases e
              · rcases tr.s b z with z | z
                · exact n z
                · rw [e] at z; cases z
            · rcases up p z with z | z
              · exact tr.s p z
              · exact (tr.fresh z).symm
            · rcases up p z with z | z
              · exact ow p z
              · by_cases n : OwnA (wipeE env1 own) (L2.wipe σ own) p
                · exact .inl n
                · refine .inr ?_
                  cases e : H1 p with
                  | none => rfl
                  | some u => rw [fr p u e n] at z; cases z
            · refine oth b u ?_ (frB b u (fr b u e n) fun z => ?_)
              · rintro rfl; rw [hD] at e; cases e
              · rcases ow b z with z | z
                · exact n z
                · rw [e] at z; cases z
  · have e : i = xs.length := by omega
    subst e
    refine .inl ⟨(hJ _ H kp1).2 rfl, ?_⟩
    rw [List.drop_length] at hlp
    simp only [lcLoop] at hlp
    cases hlp
    rw [List.append_nil] at htot
    subst htot
    -- the names of the block as they stood
    have hlen : env1.length = envF.length := by
      have a := EH.len
      rw [wipeE_len, wipe_length] at a
      rw [a, E1.len]
    have bget := backE_get env1 envF hlen own
    have kept : ∀ j d p, j ∈ own → env1[j]? = some (.own d) → σ[j]? = some (some (.ref p)) → H p = H1 p := fun j d p hj h1 h2 => by
      have o1 : OwnA env1 σ p := ⟨j, d, h1, h2⟩
      obtain ⟨u, e, _⟩ := E1.nfrz o1
      rw [e]
      refine fr p u e fun ⟨l, b, k1, k2⟩ => ?_
      rw [wipeE_get] at k1
      by_cases hm : l ∈ own
      · by_cases hl' : l < env1.length
        · rw [if_pos ⟨hm, hl'⟩] at k1; cases k1
        · rw [if_neg fun z => hl' z.2, List.getElem?_eq_none (by omega)] at k1; cases k1
      · rw [if_neg fun z => hm z.1] at k1
        rw [wipe_get, if_neg fun z => hm z.1] at k2
        have := E1.dj l j b d p k1 h1 k2 h2
        subst this
        exact hm hj
    have outs : ∀ {j : Nat} {sl : Slot}, j ∉ own → envF[j]? = some sl → (wipeE envF own)[j]? = some sl ∧ (L2.wipe σ own)[j]? = σ[j]? := fun {j sl} hj e => by
      rw [wipeE_get, if_neg fun z => hj z.1, wipe_get, if_neg fun z => hj z.1]
      exact ⟨e, rfl⟩
    have ownB : ∀ p, OwnA (backE env1 envF own) σ p → (∃ j d, j ∈ own ∧ env1[j]? = some (.own d) ∧ σ[j]? = some (some (.ref p))) ∨ OwnA (wipeE envF own) (L2.wipe σ own) p := fun p ⟨j, d, h1, h2⟩ => by
      rw [bget j] at h1
      by_cases hj : j ∈ own
      · rw [if_pos hj] at h1; exact .inl ⟨j, d, hj, h1, h2⟩
      · rw [if_neg hj] at h1
        obtain ⟨k1, k2⟩ := outs hj h1
        exact .inr ⟨j, d, k1, by rw [k2]; exact h2⟩
    have EB : EnvR K H σ (backE env1 envF own) := by
      refine ⟨by rw [backE_len, ← hlen, E1.len], fun j sl e => ?_, fun j l a b p h1 h2 h3 h4 => ?_⟩
      · rw [bget j] at e
        by_cases hj : j ∈ own
        · rw [if_pos hj] at e
          obtain ⟨x', e2, rr⟩ := E1.sl j sl e
          refine ⟨x', e2, ?_⟩
          cases sl with
          | un => trivial
          | val d => obtain ⟨v, e3, rr⟩ := rr; exact ⟨v, e3, rr.mono kp1⟩
          | own d2 =>
            obtain ⟨p2, e3, rr⟩ := rr
            subst e3
            exact ⟨p2, rfl, rr.keep kp1 fun u qq => by rw [kept j d2 p2 hj e e2]; exact qq⟩
        · rw [if_neg hj] at e
          obtain ⟨k1, k2⟩ := outs hj e
          rw [← k2]
          exact EH.sl j sl k1
      · rw [bget j] at h1
        rw [bget l] at h2
        by_cases hj : j ∈ own
        · rw [if_pos hj] at h1
          by_cases hl' : l ∈ own
          · rw [if_pos hl'] at h2
            exact E1.dj j l a b p h1 h2 h3 h4
          · rw [if_neg hl'] at h2
            obtain ⟨k1, k2⟩ := outs hl' h2
            exfalso
            have o1 : OwnA env1 σ p := ⟨j, a, h1, h3⟩
            rcases ow p ⟨l, b, k1, by rw [k2]; exact h4⟩ with ⟨i', d', z1, z2⟩ | z
            · rw [wipeE_get] at z1
              by_cases hm : i' ∈ own
              · by_cases hx : i' < env1.length
                · rw [if_pos ⟨hm, hx⟩] at z1; cases z1
                · rw [if_neg fun z => hx z.2, List.getElem?_eq_none (by omega)] at z1; cases z1
              · rw [if_neg fun z => hm z.1] at z1
                rw [wipe_get, if_neg fun z => hm z.1] at z2
                have := E1.dj i' j d' a p z1 h1 z2 h3
                subst this
                exact hm hj
            · obtain ⟨u, e, _⟩ := E1.nfrz o1
              rw [z] at e; cases e
        · rw [if_neg hj] at h1
          obtain ⟨k1, k2⟩ := outs hj h1
          by_cases hl' : l ∈ own
          · rw [if_pos hl'] at h2
            exfalso
            have o1 : OwnA env1 σ p := ⟨l, b, h2, h4⟩
            rcases ow p ⟨j, a, k1, by rw [k2]; exact h3⟩ with ⟨i', d', z1, z2⟩ | z
            · rw [wipeE_get] at z1
              by_cases hm : i' ∈ own
              · by_cases hx : i' < env1.length
                · rw [if_pos ⟨hm, hx⟩] at z1; cases z1
                · rw [if_neg fun z => hx z.2, List.getElem?_eq_none (by omega)] at z1; cases z1
              · rw [if_neg fun z => hm z.1] at z1
                rw [wipe_get, if_neg fun z => hm z.1] at z2
                have := E1.dj i' l d' b p z1 h2 z2 h4
                subst this
                exact hm hl'
            · obtain ⟨u, e, _⟩ := E1.nfrz o1
              rw [z] at e; cases e
          · rw [if_neg hl'] at h2
            obtain ⟨k3, k4⟩ := outs hl' h2
            exact EH.dj j l a b p k1 k3 (by rw [k2]; exact h3) (by rw [k4]; exact h4)
    have nDB : ¬ OwnA (backE env1 envF own) σ D := fun z => by
      rcases ownB D z with ⟨j, d, hj, h1, h2⟩ | z
      · exact nD1 ⟨j, d, h1, h2⟩
      · exact nD z
    refine q _ H ⟨EB, t1.trans ⟨fun b u e n => tr.f b u e n, fun p z => ?_⟩, ⟨D, rfl, ⟨acc, hDa, hacc⟩, nDB⟩, fun d p e1 e2 => ?_⟩
    · rcases ownB p z with ⟨j, d, hj, h1, h2⟩ | z
      · exact .inl ⟨j, d, h1, h2⟩
      · exact tr.s p z
    · cases e2
      exact t1.fresh hD
/-! ### what is walked -/
theorem itr_ok {K : PySem.W.Frag} {H : Hp} (a b : Int) : ItOk K H (Itr a (b - a).toNat) (rngL a b 1) := fun i H2 _ => by
  have e : ((b - a + 1 - 1) / 1).toNat = (b - a).toNat := by rw [Int.ediv_one]; congr 1; omega
  have hl : (rngL a b 1).length = (b - a).toNat := by
    unfold rngL
    rw [if_pos (by decide), List.length_map, List.length_range, e]
  refine ⟨fun hi => ?_, fun hi => ?_⟩
  · rw [hl] at hi
    refine ⟨hi, fun x H3 y => ?_⟩
    obtain ⟨e1, e2⟩ := y
    refine ⟨e1, .int (a + 1 * (i : Int)), ?_, ?_⟩
    · unfold rngL
      rw [if_pos (by decide), List.getElem?_map, e, List.getElem?_range hi]
      rfl
    · rw [e2, Int.one_mul]; rfl
  · rw [hl] at hi
    show (b - a).toNat ≤ i
    omega
theorem rng_inv {es : List E} {env : Env} {o : Opd} {env' : Env} (h : ev c (.rng es) .i env = some (o, env')) : ∃ ds xs, evds c es env = some (ds, env') ∧ rngD ds = some xs ∧ o = .dat (.tup xs) := by
  simp only [ev] at h
  cases e1 : evds c es env with
  | none => rw [e1] at h; cases h
  | some de =>
    obtain ⟨ds, env1⟩ := de
    rw [e1] at h
    simp only at h
    cases e2 : rngD ds with
    | none => rw [e2] at h; cases h
    | some xs =>
      rw [e2] at h
      cases h
      exact ⟨ds, xs, rfl, e2, rfl⟩
theorem pi_rng {X : Cx} {G : Ck} (O : XOk X G c) {es : List E} (hs : ∀ e ∈ es, SE c e) {x : Str} {p pos : Pos} {args : List Expr} (h : (decide (x = "range") && blOk G x && (decide (es.length = 1) || decide (es.length = 2)) && ckEs es G args) = true) (tg : Expr) :
    PI X tg (.Call (.Name x p) args [] pos) (tI X.K (ev c (.rng es) .i)) := by
  obtain ⟨h1, h2⟩ := and2 h
  obtain ⟨h3, h4⟩ := and2 h1
  obtain ⟨h5, h6⟩ := and2 h3
  have ex : x = "range" := of_decide_eq_true h5
  subst ex
  obtain ⟨g1, g2, g3⟩ := bl_of O h6
  have hp := pa_ds O hs h2
  have hlen := len_of h2
  rw [Bool.or_eq_true, decide_eq_true_eq, decide_eq_true_eq] at h4
  have ok1 : ∀ {i : Int}, okR i = true → -(2 ^ 62) ≤ i ∧ i < 2 ^ 62 := fun {i} h => by unfold okR at h; simpa using h
  match es, args, h4, hlen, h2, hs, hp with
  | [e], [a], h4, hlen, h2, hs, hp =>
    obtain ⟨k1, k2⟩ := and2 (show (ckE e G a && ckEs [] G []) = true from h2)
    refine PI.imp (pi_range1 g1 g2 hp (star_of k1 _)) fun σ H R ⟨env, xs, env', E, hf, q⟩ => ?_
    obtain ⟨ds, xs', e1, e2, e3⟩ := rng_inv hf
    cases e3
    refine ⟨env, ds, env', E, e1, fun vs H1 E1 t1 r1 => ?_⟩
    have hl1 := r1.length
    match ds, e2, r1 with
    | [.int b], e2, r1 =>
      obtain ⟨v, r, rfl, rv, rr⟩ := r1
      have : r = [] := rr
      subst this
      have : v = .int b := rv
      subst this
      simp only [rngD] at e2
      split at e2
      · rename_i hk
        cases e2
        obtain ⟨b1, b2⟩ := ok1 hk
        refine ⟨b, rfl, b1, b2, q _ _ E1 t1 ?_⟩
        have := itr_ok (K := X.K) (H := H1) 0 b
        rwa [Int.sub_zero] at this
      · cases e2
    | [.int a, .int b], e2, r1 =>
      exfalso
      simp only [evds] at e1
      split at e1
      · cases e1
      · split at e1
        · cases e1
        · cases e1
    | [.int a, .int b, .int d], e2, r1 =>
      exfalso
      simp only [evds] at e1
      split at e1
      · cases e1
      · split at e1
        · cases e1
        · cases e1
  | [e, f], [a, b], h4, hlen, h2, hs, hp =>
    obtain ⟨k1, k2⟩ := and2 (show (ckE e G a && ckEs [f] G [b]) = true from h2)
    obtain ⟨k3, k4⟩ := and2 (show (ckE f G b && ckEs [] G []) = true from k2)
    refine PI.imp (pi_range2 g1 g2 hp (by rw [star_of k1, star_of k3]; rfl) (star_of k3 _)) fun σ H R ⟨env, xs, env', E, hf, q⟩ => ?_
    obtain ⟨ds, xs', e1, e2, e3⟩ := rng_inv hf
    cases e3
    refine ⟨env, ds, env', E, e1, fun vs H1 E1 t1 r1 => ?_⟩
    have hlds : ds.length = 2 := by
      simp only [evds] at e1
      split at e1
      · cases e1
      · split at e1
        · cases e1
        · split at e1
          · cases e1
          · rename_i h'
            split at h'
            · cases h'
            · split at h'
              · cases h'
              · cases h'
                cases e1
                rfl
    match ds, hlds, e2, r1 with
    | [.int a, .int b], hlds, e2, r1 =>
      obtain ⟨v, r, rfl, rv, rr⟩ := r1
      obtain ⟨v2, r2, rfl, rv2, rr2⟩ := rr
      have : r2 = [] := rr2
      subst this
      have : v = .int a := rv
      subst this
      have : v2 = .int b := rv2
      subst this
      simp only [rngD] at e2
      split at e2
      · rename_i hk
        cases e2
        obtain ⟨hk1, hk2⟩ := and2 hk
        obtain ⟨b1, b2⟩ := ok1 hk1
        obtain ⟨b3, b4⟩ := ok1 hk2
        exact ⟨a, b, rfl, ⟨b1, b2, b3, b4⟩, q _ _ E1 t1 (itr_ok a b)⟩
      · cases e2
theorem ev_i {e : E} (h1 : isIteE e = false) (h2 : ∀ es, e ≠ .rng es) : ev c e .i = fun env => fin .i (ev c e .v env) := by
  funext env
  cases e <;> first | rfl | (cases h1; done) | exact (h2 _ rfl).elim
theorem nofold {e : E} {G : Ck} {x : Expr} (h : ckI e G x = true) (env : PySem.Env) (v : Value) : foldedSetIterable x env v = pure v := by
  cases x <;> first | rfl | (exfalso; cases e <;> first | (cases h; done) | (rename_i src _ _; cases src <;> cases h))
theorem pi_of {X : Cx} {G : Ck} (O : XOk X G c) {src : E} (hs : SE c src) (hr : ∀ es, src = .rng es → ∀ e ∈ es, SE c e) {x : Expr} (h : ckI src G x = true) (tg : Expr) : PI X tg x (tI X.K (ev c src .i)) := by
  by_cases hq : ∃ es, src = .rng es
  · obtain ⟨es, rfl⟩ := hq
    cases x <;> first | (cases h; done) | skip
    rename_i f args kws pos
    cases f <;> first | (cases h; done) | skip
    cases kws <;> first | (cases h; done) | skip
    exact pi_rng O (hr es rfl) h tg
  · have hn : ∀ es, src ≠ .rng es := fun es z => hq ⟨es, z⟩
    have h' : (!isIteE src && ckE src G x) = true := by
      unfold ckI at h
      split at h
      · exact absurd rfl (hn _)
      · exact h
    obtain ⟨k1, k2⟩ := and2 h'
    rw [ev_i (by simpa using k1) hn]
    exact pi_fin (hs X G O x k2).1
end
end PF
/-! PF10B: comprehensions of two clauses. -/
namespace PF
open PySem PySem.Spec PyProof.Rows L2
section
variable {c : Cl}
/-- where a comprehension stands: the names' values, what the new list at P holds -/
structure LSt (K : PySem.W.Frag) (τ : St) (own : List Nat) (H1 : Hp) (e1 : Env) (P : Addr) (σ : St) (H : Hp) (env : Env) (accD : List D) : Prop where
  len : σ.length = τ.length
  out : ∀ j, j ∉ own → σ[j]? = τ[j]?
  e : EnvR K H σ env
  acc : ∃ acc, H P = some (.lst acc) ∧ Rps K H accD acc
  tr : Tr τ H1 e1 σ H env
  nd : ¬ OwnA env σ P
section
variable {K : PySem.W.Frag} {τ σ σ2 : St} {own : List Nat} {H1 H H' : Hp} {e1 env env' : Env} {P : Addr} {accD : List D}
theorem LSt.ev (L : LSt K τ own H1 e1 P σ H env accD) (E : EnvR K H' σ env') (t : Tr σ H env σ H' env') : LSt K τ own H1 e1 P σ H' env' accD := by
  obtain ⟨acc, h, r⟩ := L.acc
  refine ⟨L.len, L.out, E, ⟨acc, t.f P _ h L.nd, r.mono (t.kp L.e)⟩, L.tr.trans t, fun z => ?_⟩
  rcases t.s P z with z | z
  · exact L.nd z
  · rw [h] at z; cases z
theorem LSt.wipe (L : LSt K τ own H1 e1 P σ H env accD) {vs : List Nat} (hv : ∀ j ∈ vs, j ∈ own) : LSt K τ own H1 e1 P (L2.wipe σ vs) H (wipeE env vs) accD := by
  obtain ⟨w1, w2⟩ := EnvR.wipe (own := vs) L.e rfl (fun _ _ => rfl)
  refine ⟨by rw [wipe_length, L.len], fun j hj => ?_, w1, L.acc, ⟨L.tr.f, fun p z => L.tr.s p (w2 p z)⟩, fun z => L.nd (w2 P z)⟩
  rw [wipe_get, if_neg fun z => hj (hv j z.1), L.out j hj]
theorem LSt.bind (L : LSt K τ own H1 e1 P σ H env accD) (E : EnvR K H σ2 env') (l : σ2.length = σ.length) (s : ∀ j, j ∉ own → σ2[j]? = σ[j]?) (o : ∀ p, OwnA env' σ2 p → OwnA env σ p) : LSt K τ own H1 e1 P σ2 H env' accD :=
  ⟨l.trans L.len, fun j hj => (s j hj).trans (L.out j hj), E, L.acc, ⟨L.tr.f, fun p z => L.tr.s p (o p z)⟩, fun z => L.nd (o P z)⟩
theorem LSt.push (L : LSt K τ own H1 e1 P σ H env accD) (hP : H1 P = none) {d : D} {y : V} (ry : Rp K H d y) : ∃ acc, H P = some (.lst acc) ∧ acc.length = accD.length ∧ LSt K τ own H1 e1 P σ (upd H P (.lst (acc ++ [y]))) env (accD ++ [d]) ∧ Kp H (upd H P (.lst (acc ++ [y]))) := by
  obtain ⟨acc, h, r⟩ := L.acc
  have kD : Kp H (upd H P (.lst (acc ++ [y]))) := upd_kp fun ob u e => by rw [h] at e; cases e
  have oth : ∀ b u, b ≠ P → H b = some u → upd H P (.lst (acc ++ [y])) b = some u := fun b u n e => by rw [upd_ne n]; exact e
  refine ⟨acc, h, r.length, ⟨L.len, L.out, ⟨L.e.len, fun j sl e => ?_, L.e.dj⟩, ⟨_, upd_same, (r.append (.cons ry .nil)).mono kD⟩, ⟨fun b u e n => oth b u ?_ (L.tr.f b u e n), L.tr.s⟩, L.nd⟩, kD⟩
  · obtain ⟨x', e2, rr⟩ := L.e.sl j sl e
    refine ⟨x', e2, ?_⟩
    cases sl with
    | un => trivial
    | val d => obtain ⟨v, e3, rr⟩ := rr; exact ⟨v, e3, rr.mono kD⟩
    | own d2 =>
      obtain ⟨p2, e3, rr⟩ := rr
      subst e3
      refine ⟨p2, rfl, rr.keep kD fun u qq => oth p2 u ?_ qq⟩
      rintro rfl
      exact L.nd ⟨j, d2, e, e2⟩
  · rintro rfl; rw [hP] at e; cases e
theorem LSt.kp (L : LSt K τ own H1 e1 P σ H env accD) (E : EnvR K H1 τ e1) : Kp H1 H := L.tr.kp E
end
theorem LSt.rewipe {K : PySem.W.Frag} {σ σ3 : St} {own : List Nat} {H1 H : Hp} {e1 env : Env} {P : Addr} {accD : List D} (L : LSt K (L2.wipe σ own) own H1 e1 P σ3 H env accD) : LSt K (L2.wipe σ own) own H1 e1 P (L2.wipe σ own) H (wipeE env own) accD := by
  have h := L.wipe (vs := own) fun _ h => h
  rwa [wipe_same (by rw [L.len, wipe_length]) L.out] at h
theorem wipeE_two (env : Env) {vs own : List Nat} (hv : ∀ j ∈ vs, j ∈ own) : wipeE (wipeE env vs) own = wipeE env own := by
  apply List.ext_getElem?
  intro j
  rw [wipeE_get, wipeE_get, wipeE_len, wipeE_get]
  by_cases h : j ∈ own ∧ j < env.length
  · rw [if_pos h, if_pos h]
  · rw [if_neg h, if_neg h, if_neg fun z => h ⟨hv j z.1, z.2⟩]
/-- the names of a comprehension as they stood -/
theorem lc_end {K : PySem.W.Frag} {own : List Nat} {σ : St} {H0 H1 H : Hp} {env0 env1 envF : Env} {total : List D} {P : Addr} (E1 : EnvR K H1 σ env1) (t1 : Tr σ H0 env0 σ H1 env1) (hP : H1 P = none)
    (L : LSt K (L2.wipe σ own) own H1 (wipeE env1 own) P (L2.wipe σ own) H (wipeE envF own) total) : Po K σ H0 env0 (.own (.lst total)) (backE env1 envF own) (.ref P) H := by
  obtain ⟨w1, w2⟩ := EnvR.wipe (own := own) E1 rfl (fun _ _ => rfl)
  have EH := L.e
  have nD := L.nd
  have ow := L.tr.s
  have fr := L.tr.f
  obtain ⟨acc, hDa, hacc⟩ := L.acc
  have kp1 : Kp H1 H := L.kp w1
  have nD1 : ¬ OwnA env1 σ P := fun z => by
    obtain ⟨u, e, _⟩ := E1.nfrz z
    rw [hP] at e; cases e
  have hlen : env1.length = envF.length := by
    have a := EH.len
    rw [wipeE_len, wipe_length] at a
    rw [a, E1.len]
  have bget := backE_get env1 envF hlen own
  have kept : ∀ j d p, j ∈ own → env1[j]? = some (.own d) → σ[j]? = some (some (.ref p)) → H p = H1 p := fun j d p hj h1 h2 => by
    have o1 : OwnA env1 σ p := ⟨j, d, h1, h2⟩
    obtain ⟨u, e, _⟩ := E1.nfrz o1
    rw [e]
    refine fr p u e fun ⟨l, b, k1, k2⟩ => ?_
    rw [wipeE_get] at k1
    by_cases hm : l ∈ own
    · by_cases hl' : l < env1.length
      · rw [if_pos ⟨hm, hl'⟩] at k1; cases k1
      · rw [if_neg fun z => hl' z.2, List.getElem?_eq_none (by omega)] at k1; cases k1
    · rw [if_neg fun z => hm z.1] at k1
      rw [wipe_get, if_neg fun z => hm z.1] at k2
      have := E1.dj l j b d p k1 h1 k2 h2
      subst this
      exact hm hj
  have outs : ∀ {j : Nat} {sl : Slot}, j ∉ own → envF[j]? = some sl → (wipeE envF own)[j]? = some sl ∧ (L2.wipe σ own)[j]? = σ[j]? := fun {j sl} hj e => by
    rw [wipeE_get, if_neg fun z => hj z.1, wipe_get, if_neg fun z => hj z.1]
    exact ⟨e, rfl⟩
  have ownB : ∀ p, OwnA (backE env1 envF own) σ p → (∃ j d, j ∈ own ∧ env1[j]? = some (.own d) ∧ σ[j]? = some (some (.ref p))) ∨ OwnA (wipeE envF own) (L2.wipe σ own) p := fun p ⟨j, d, h1, h2⟩ => by
    rw [bget j] at h1
    by_cases hj : j ∈ own
    · rw [if_pos hj] at h1; exact .inl ⟨j, d, hj, h1, h2⟩
    · rw [if_neg hj] at h1
      obtain ⟨k1, k2⟩ := outs hj h1
      exact .inr ⟨j, d, k1, by rw [k2]; exact h2⟩
  -- two owners, one within, one without
  have apart : ∀ {j l : Nat} {a b : D} {p : Addr}, j ∈ own → env1[j]? = some (.own a) → σ[j]? = some (some (.ref p)) → l ∉ own → envF[l]? = some (.own b) → σ[l]? = some (some (.ref p)) → False := fun {j l a b p} hj h1 h3 hl' h2 h4 => by
    obtain ⟨k1, k2⟩ := outs hl' h2
    have o1 : OwnA env1 σ p := ⟨j, a, h1, h3⟩
    rcases ow p ⟨l, b, k1, by rw [k2]; exact h4⟩ with ⟨i', d', z1, z2⟩ | z
    · rw [wipeE_get] at z1
      by_cases hm : i' ∈ own
      · by_cases hx : i' < env1.length
        · rw [if_pos ⟨hm, hx⟩] at z1; cases z1
        · rw [if_neg fun z => hx z.2, List.getElem?_eq_none (by omega)] at z1; cases z1
      · rw [if_neg fun z => hm z.1] at z1
        rw [wipe_get, if_neg fun z => hm z.1] at z2
        have := E1.dj i' j d' a p z1 h1 z2 h3
        subst this
        exact hm hj
    · obtain ⟨u, e, _⟩ := E1.nfrz o1
      rw [z] at e; cases e
  have EB : EnvR K H σ (backE env1 envF own) := by
    refine ⟨by rw [backE_len, ← hlen, E1.len], fun j sl e => ?_, fun j l a b p h1 h2 h3 h4 => ?_⟩
    · rw [bget j] at e
      by_cases hj : j ∈ own
      · rw [if_pos hj] at e
        obtain ⟨x', e2, rr⟩ := E1.sl j sl e
        refine ⟨x', e2, ?_⟩
        cases sl with
        | un => trivial
        | val d => obtain ⟨v, e3, rr⟩ := rr; exact ⟨v, e3, rr.mono kp1⟩
        | own d2 =>
          obtain ⟨p2, e3, rr⟩ := rr
          subst e3
          exact ⟨p2, rfl, rr.keep kp1 fun u qq => by rw [kept j d2 p2 hj e e2]; exact qq⟩
      · rw [if_neg hj] at e
        obtain ⟨k1, k2⟩ := outs hj e
        rw [← k2]
        exact EH.sl j sl k1
    · rw [bget j] at h1
      rw [bget l] at h2
      by_cases hj : j ∈ own
      · rw [if_pos hj] at h1
        by_cases hl' : l ∈ own
        · rw [if_pos hl'] at h2
          exact E1.dj j l a b p h1 h2 h3 h4
        · rw [if_neg hl'] at h2
          exact (apart hj h1 h3 hl' h2 h4).elim
      · rw [if_neg hj] at h1
        by_cases hl' : l ∈ own
        · rw [if_pos hl'] at h2
          exact (apart hl' h2 h4 hj h1 h3).elim
        · rw [if_neg hl'] at h2
          obtain ⟨k1, k2⟩ := outs hj h1
          obtain ⟨k3, k4⟩ := outs hl' h2
          exact EH.dj j l a b p k1 k3 (by rw [k2]; exact h3) (by rw [k4]; exact h4)
  have nDB : ¬ OwnA (backE env1 envF own) σ P := fun z => by
    rcases ownB P z with ⟨j, d, hj, h1, h2⟩ | z
    · exact nD1 ⟨j, d, h1, h2⟩
    · exact nD z
  refine ⟨EB, t1.trans ⟨fun b u e n => fr b u e fun z => n (w2 b z), fun p z => ?_⟩, ⟨P, rfl, ⟨acc, hDa, hacc⟩, nDB⟩, fun d p e1 e2 => ?_⟩
  · rcases ownB p z with ⟨j, d, hj, h1, h2⟩ | z
    · exact .inl ⟨j, d, h1, h2⟩
    · exact (ow p z).imp (w2 p) id
  · cases e2
    exact t1.fresh hP
/-- a turn of the outer clause -/
def lc2F (c : Cl) (own : List Nat) (tg : Tg) (cond : List E) (vs1 : List Nat) (tg1 : Tg) (src1 : E) (cond1 : List E) (elt : E) : D → Env → Option (List D × Env) := fun x env => match bindT (wipeE env own) tg x with
  | none => none
  | some env => match evAnd c cond .t env with
    | some (.dat (.bl true), env) => match PF.ev c src1 .i env with
      | some (.dat (.tup ys), env) => lcLoop (lcF c vs1 tg1 cond1 elt) ys env
      | _ => none
    | some (.dat (.bl false), env) => some ([], env)
    | _ => none
theorem lc2F_inv {own : List Nat} {tg : Tg} {cond : List E} {vs1 : List Nat} {tg1 : Tg} {src1 : E} {cond1 : List E} {elt : E} {x : D} {env : Env} {ds : List D} {env' : Env} (h : lc2F c own tg cond vs1 tg1 src1 cond1 elt x env = some (ds, env')) :
    ∃ env1, bindT (wipeE env own) tg x = some env1 ∧ ((ds = [] ∧ evAnd c cond .t env1 = some (.dat (.bl false), env')) ∨
      ∃ env2 ys env3, evAnd c cond .t env1 = some (.dat (.bl true), env2) ∧ PF.ev c src1 .i env2 = some (.dat (.tup ys), env3) ∧ lcLoop (lcF c vs1 tg1 cond1 elt) ys env3 = some (ds, env')) := by
  unfold lc2F at h
  cases e1 : bindT (wipeE env own) tg x with
  | none => rw [e1] at h; cases h
  | some env1 =>
    rw [e1] at h
    simp only at h
    refine ⟨env1, rfl, ?_⟩
    cases e2 : evAnd c cond .t env1 with
    | none => rw [e2] at h; cases h
    | some oe =>
      obtain ⟨o, env2⟩ := oe
      obtain ⟨b, rfl⟩ := and_bl e2
      rw [e2] at h
      cases b with
      | false => cases h; exact .inl ⟨rfl, rfl⟩
      | true =>
        simp only at h
        cases e3 : PF.ev c src1 .i env2 with
        | none => rw [e3] at h; cases h
        | some oe =>
          obtain ⟨o, env3⟩ := oe
          rw [e3] at h
          cases o with
          | dat d =>
            cases d with
            | tup ys => exact .inr ⟨env2, ys, env3, rfl, e3, h⟩
            | _ => cases h
          | _ => cases h
/-- the reading of a comprehension of two clauses -/
theorem lc2_read {K : PySem.W.Frag} {own : List Nat} {tg : Tg} {cond : List E} {vs1 : List Nat} {tg1 : Tg} {src1 : E} {cond1 : List E} {elt : E} {σ : St} {H0 H1 : Hp} {env0 env1 envF : Env} {xs total : List D} {J : It} {Q : VK}
    (htg : ∀ j ∈ tg.is, j ∈ own) (htg1 : ∀ j ∈ tg1.is, j ∈ vs1) (hv : ∀ j ∈ vs1, j ∈ own)
    (E1 : EnvR K H1 σ env1) (t1 : Tr σ H0 env0 σ H1 env1) (hJ : ItOk K H1 J xs) (hl : lcLoop2 (lc2F c own tg cond vs1 tg1 src1 cond1 elt) xs env1 = some (total, envF)) (hz : total.length ≤ line)
    (q : ∀ v H', Po K σ H0 env0 (.own (.lst total)) (backE env1 envF own) v H' → Q v H') :
    ∀ P, H1 P = none → ∃ W : Nat → Nat → Hp → Prop, (∃ m, W 0 m (upd H1 P (.lst []))) ∧ ∀ i m H, W i m H →
      (J.stop i H ∧ Q (.ref P) H) ∨ (J.go i H ∧ ∃ Nx : Hp → Prop, (∀ H', Nx H' → ∃ m', m' < m ∧ W (i + 1) m' H') ∧ ∀ x H', J.yld i H x H' → gT K tg x (L2.wipe σ own) H' fun σ2 H2 => L2.wipe σ2 own = L2.wipe σ own ∧ tT K (evAnd c cond .t) σ2 H2 fun b H3 =>
        if b = true then tI K (PF.ev c src1 .i) σ2 H3 fun J1 H4 => ∃ W1 : Nat → Nat → Hp → Prop, (∃ m, W1 0 m H4) ∧ ∀ j k H, W1 j k H →
          (J1.stop j H ∧ Nx H) ∨ (J1.go j H ∧ ∃ Nx1 : Hp → Prop, (∀ H', Nx1 H' → ∃ k', k' < k ∧ W1 (j + 1) k' H') ∧ ∀ x H', J1.yld j H x H' → gT K tg1 x (L2.wipe σ2 vs1) H' fun σ3 H5 => L2.wipe σ3 vs1 = L2.wipe σ2 vs1 ∧ tT K (evAnd c cond1 .t) σ3 H5 fun b H6 =>
            if b = true then tD K (fun env => match PF.ev c elt .v env with | none => none | some (o, env) => toD env o) σ3 H6 fun y H7 => ∃ acc, H7 P = some (.lst acc) ∧ acc.length < sizeLine ∧ Nx1 (upd H7 P (.lst (acc ++ [y]))) else Nx1 H6)
        else Nx H3) := by
  intro P hP
  have sD : Same H1 (upd H1 P (.lst [])) := same_new hP
  obtain ⟨w1, w2⟩ := EnvR.wipe (own := own) E1 rfl (fun _ _ => rfl)
  have nD1 : ¬ OwnA env1 σ P := fun z => by
    obtain ⟨u, e, _⟩ := E1.nfrz z
    rw [hP] at e; cases e
  let Z : Nat → Hp → Prop := fun i H => ∃ env accD rest, lcLoop2 (lc2F c own tg cond vs1 tg1 src1 cond1 elt) (xs.drop i) env = some (rest, envF) ∧ LSt K (L2.wipe σ own) own H1 (wipeE env1 own) P (L2.wipe σ own) H (wipeE env own) accD ∧ accD ++ rest = total
  have z0 : Z 0 (upd H1 P (.lst [])) := ⟨env1, [], total, hl, ⟨rfl, fun _ _ => rfl, w1.same sD, ⟨[], upd_same, .nil⟩, ⟨fun b u e _ => sD b u e, fun p z => .inl z⟩, fun z => nD1 (w2 P z)⟩, rfl⟩
  refine ⟨fun i m H => m = xs.length - i ∧ i ≤ xs.length ∧ Z i H, ⟨xs.length, by simp, Nat.zero_le _, z0⟩, ?_⟩
  rintro i m H ⟨rfl, hi, env, accD, rest, hlp, L, htot⟩
  have kp1 : Kp H1 H := L.kp w1
  by_cases hlt : i < xs.length
  · refine .inr ⟨(hJ i H kp1).1 hlt |>.1, Z (i + 1), fun H' p => ⟨xs.length - (i + 1), by omega, rfl, hlt, p⟩, fun x H' y => ?_⟩
    obtain ⟨e, d, hd, rd⟩ := ((hJ i H kp1).1 hlt).2 x H' y
    subst e
    have hdrop : xs.drop i = d :: xs.drop (i + 1) := by
      rw [List.drop_eq_getElem_cons hlt]
      have : xs[i] = d := by rw [List.getElem?_eq_getElem hlt] at hd; exact Option.some.inj hd
      rw [this]
    rw [hdrop] at hlp
    simp only [lcLoop2] at hlp
    cases ef : lc2F c own tg cond vs1 tg1 src1 cond1 elt d env with
    | none => rw [ef] at hlp; cases hlp
    | some re =>
      obtain ⟨ds, envN⟩ := re
      rw [ef] at hlp
      simp only at hlp
      cases er : lcLoop2 (lc2F c own tg cond vs1 tg1 src1 cond1 elt) (xs.drop (i + 1)) envN with
      | none => rw [er] at hlp; cases hlp
      | some rr =>
        obtain ⟨rest', envF'⟩ := rr
        rw [er] at hlp
        simp only [Option.some.injEq, Prod.mk.injEq] at hlp
        obtain ⟨rfl, rfl⟩ := hlp
        obtain ⟨envB, hb, hcase⟩ := lc2F_inv ef
        refine ⟨wipeE env own, d, envB, L.e, rd, hb, fun σ2 E2 l2 s2 o2 => ⟨?_, ?_⟩⟩
        · rw [← wipe_wipe σ own]
          exact wipe_same l2 fun j hj => by rw [wipe_get (L2.wipe σ own), if_neg fun z => hj z.1, s2 j fun z => hj (htg j z)]
        · have hs2 : ∀ j, j ∉ own → σ2[j]? = (L2.wipe σ own)[j]? := fun j hj => s2 j fun z => hj (htg j z)
          have LB := L.bind E2 l2 hs2 o2
          rcases hcase with ⟨rfl, ec⟩ | ⟨envC, ys, envE, ec, ei, el⟩
          · refine ⟨envB, false, envN, E2, ec, fun H3 E3 t3 => ?_⟩
            dsimp only
            rw [if_neg Bool.false_ne_true]
            exact ⟨envN, accD, rest', er, (LB.ev E3 t3).rewipe, by simpa using htot⟩
          · refine ⟨envB, true, envC, E2, ec, fun H3 E3 t3 => ?_⟩
            dsimp only
            rw [if_pos rfl]
            refine ⟨envC, ys, envE, E3, ei, fun J1 H4 E4 t4 hJ1 => ?_⟩
            have LE := (LB.ev E3 t3).ev E4 t4
            let Z1 : Nat → Hp → Prop := fun j H => ∃ env accI rest, lcLoop (lcF c vs1 tg1 cond1 elt) (ys.drop j) env = some (rest, envN) ∧ LSt K (L2.wipe σ own) own H1 (wipeE env1 own) P (L2.wipe σ2 vs1) H (wipeE env vs1) (accD ++ accI) ∧ accI ++ rest = ds ∧ Kp H4 H
            have z1 : Z1 0 H4 := ⟨envE, [], ds, el, by rw [List.append_nil]; exact LE.wipe hv, rfl, .refl _⟩
            refine ⟨fun j k H => k = ys.length - j ∧ j ≤ ys.length ∧ Z1 j H, ⟨ys.length, by simp, Nat.zero_le _, z1⟩, ?_⟩
            rintro j k H5 ⟨rfl, hj, envI, accI, restI, hlI, LI, htI, kI⟩
            by_cases hjl : j < ys.length
            · refine .inr ⟨(hJ1 j H5 kI).1 hjl |>.1, Z1 (j + 1), fun H' p => ⟨ys.length - (j + 1), by omega, rfl, hjl, p⟩, fun x H' y => ?_⟩
              obtain ⟨e, dd, hdd, rdd⟩ := ((hJ1 j H5 kI).1 hjl).2 x H' y
              subst e
              have hdropI : ys.drop j = dd :: ys.drop (j + 1) := by
                rw [List.drop_eq_getElem_cons hjl]
                have : ys[j] = dd := by rw [List.getElem?_eq_getElem hjl] at hdd; exact Option.some.inj hdd
                rw [this]
              rw [hdropI] at hlI
              simp only [lcLoop] at hlI
              cases efI : lcF c vs1 tg1 cond1 elt dd envI with
              | none => rw [efI] at hlI; cases hlI
              | some re =>
                obtain ⟨r, envJ⟩ := re
                rw [efI] at hlI
                obtain ⟨envK, hbI, hcI⟩ := lcF_inv efI
                refine ⟨wipeE envI vs1, dd, envK, LI.e, rdd, hbI, fun σ3 E5 l3 s3 o3 => ?_⟩
                have hs3 : ∀ j, j ∉ vs1 → σ3[j]? = (L2.wipe σ2 vs1)[j]? := fun j hj => s3 j fun z => hj (htg1 j z)
                have hw3 : L2.wipe σ3 vs1 = L2.wipe σ2 vs1 := by
                  rw [← wipe_wipe σ2 vs1]
                  exact wipe_same l3 fun j hj => by rw [wipe_get (L2.wipe σ2 vs1), if_neg fun z => hj z.1, hs3 j hj]
                have LK := LI.bind E5 l3 (fun j hj => hs3 j fun z => hj (hv j z)) o3
                refine ⟨hw3, ?_⟩
                rcases hcI with ⟨rfl, ecI⟩ | ⟨envM, de, rfl, ecI, eeI⟩
                · refine ⟨envK, false, envJ, E5, ecI, fun H6 E6 t6 => ?_⟩
                  dsimp only
                  rw [if_neg Bool.false_ne_true]
                  have L6 := (LK.ev E6 t6).wipe hv
                  rw [hw3] at L6
                  exact ⟨envJ, accI, restI, hlI, L6, htI, kI.trans (t6.kp E5)⟩
                · refine ⟨envK, true, envM, E5, ecI, fun H6 E6 t6 => ?_⟩
                  dsimp only
                  rw [if_pos rfl]
                  refine ⟨envM, de, envJ, E6, eeI, fun y H7 E7 t7 ry => ?_⟩
                  have L7 := (LK.ev E6 t6).ev E7 t7
                  simp only at hlI
                  cases erI : lcLoop (lcF c vs1 tg1 cond1 elt) (ys.drop (j + 1)) envJ with
                  | none => rw [erI] at hlI; cases hlI
                  | some rr =>
                    obtain ⟨restJ, envQ⟩ := rr
                    rw [erI] at hlI
                    simp only [Option.some.injEq, Prod.mk.injEq] at hlI
                    obtain ⟨rfl, rfl⟩ := hlI
                    obtain ⟨acc, hacc, hal, L8, k8⟩ := L7.push hP ry
                    have hla : acc.length < sizeLine := by
                      have h1 : total.length = accD.length + (ds.length + rest'.length) := by rw [← htot, List.length_append, List.length_append]
                      have h2 : ds.length = accI.length + (restJ.length + 1) := by rw [← htI, List.length_append, List.length_cons]
                      rw [List.length_append] at hal
                      rw [hal, ← line_eq]
                      omega
                    refine ⟨acc, hacc, hla, ?_⟩
                    have L9 := L8.wipe hv
                    rw [hw3] at L9
                    exact ⟨envJ, accI ++ [de], restJ, erI, by rw [← List.append_assoc]; exact L9, by rw [← htI]; simp, ((kI.trans (t6.kp E5)).trans (t7.kp E6)).trans k8⟩
            · have e : j = ys.length := by omega
              subst e
              refine .inl ⟨(hJ1 _ H5 kI).2 rfl, ?_⟩
              rw [List.drop_length] at hlI
              simp only [lcLoop, Option.some.injEq, Prod.mk.injEq] at hlI
              obtain ⟨rfl, rfl⟩ := hlI
              rw [List.append_nil] at htI
              subst htI
              have L6 := LI.rewipe
              rw [wipeE_two _ hv] at L6
              exact ⟨envI, accD ++ accI, rest', er, L6, by rw [← htot, List.append_assoc]⟩
  · have e : i = xs.length := by omega
    subst e
    refine .inl ⟨(hJ _ H kp1).2 rfl, ?_⟩
    rw [List.drop_length] at hlp
    simp only [lcLoop2, Option.some.injEq, Prod.mk.injEq] at hlp
    obtain ⟨rfl, rfl⟩ := hlp
    rw [List.append_nil] at htot
    subst htot
    exact q _ H (lc_end E1 t1 hP L)
end
end PF
/-! PF11: all expressions. -/
namespace PF
open PySem PySem.Spec PyProof.Rows L2
section
variable {c : Cl}
theorem own_snd (N : List Str) (own : List Nat) : (ownN N own).map (·.2) = own := by
  unfold ownN
  rw [List.map_map]
  have : ((fun x : Str × Nat => x.2) ∘ fun i => (N.getD i "", i)) = id := rfl
  rw [this, List.map_id]
theorem xok_blk {X : Cx} {G : Ck} (O : XOk X G c) {scope : Scope} (hk : scope.kind = .function) (s : Shared) (H : Hp) (C : Addr) (cl : List (Str × Addr)) (fp : List Addr) : XOk (X.blk s H scope (compEnvC scope cl C X.env) fp) (G.blk scope) c := by
  refine ⟨O.n, O.nd, O.calm, ?_, hk, fun x h => h, O.bn, O.un, fun f n h => ?_, PassesOwn.never⟩
  · show relS scope X.env.scope = relS scope G.sc
    rw [O.sc]
  · obtain ⟨a, fdt, ps, k, m⟩ := (O.fns f n h).ok
    exact ⟨a, fdt, ps, k, m⟩
theorem pts_of {X : Cx} {G : Ck} (O : XOk X G c) {cond : List E} (hs : ∀ e ∈ cond, SE c e) (hl : cond.length ≤ 1) {xs : List Expr} (h : ckEs cond G xs = true) : PTs X xs (tT X.K (evAnd c cond .t)) := by
  match cond, xs, h, hs, hl with
  | [], [], h, hs, hl =>
    refine ⟨fun pins s σ H Q I hw => pts_nil.run pins s σ H Q I ?_⟩
    obtain ⟨env, b, env', E, e, q⟩ := hw
    cases e
    exact q H E .refl
  | [], _ :: _, h, hs, hl => cases h
  | _ :: _, [], h, hs, hl => cases h
  | [e], [x], h, hs, hl =>
    obtain ⟨k1, k2⟩ := and2 (show (ckE e G x && ckEs [] G []) = true from h)
    refine ⟨fun pins s σ H Q I hw => (pts_one (hs e List.mem_cons_self X G O x k1).2).run pins s σ H Q I ?_⟩
    obtain ⟨env, b, env', E, e1, q⟩ := hw
    rcases and_cons e1 with ⟨rfl, e2⟩ | ⟨env1, e2, e3⟩
    · exact ⟨env, _, env', E, e2, q⟩
    · cases e3
      exact ⟨env, _, env', E, e2, q⟩
  | [e], _ :: _ :: _, h, hs, hl => cases (and2 h).2
theorem lc_inv {own : List Nat} {tg : Tg} {src : E} {cond : List E} {elt : E} {env : Env} {o : Opd} {env' : Env} (h : ev c (.lc own tg src cond elt) .v env = some (o, env')) :
    ∃ xs env1 ds envF, ev c src .i env = some (.dat (.tup xs), env1) ∧ lcLoop (lcF c own tg cond elt) xs env1 = some (ds, envF) ∧ ds.length ≤ line ∧ o = .own (.lst ds) ∧ env' = backE env1 envF own := by
  simp only [ev, fin] at h
  cases e1 : ev c src .i env with
  | none => rw [e1] at h; cases h
  | some oe =>
    obtain ⟨so, env1⟩ := oe
    rw [e1] at h
    cases so with
    | dat d =>
      cases d with
      | tup xs =>
        have h' : (match lcLoop (lcF c own tg cond elt) xs env1 with
          | some (ds, env') => if ds.length ≤ line then some (Opd.own (.lst ds), backE env1 env' own) else none
          | none => none) = some (o, env') := h
        cases e2 : lcLoop (lcF c own tg cond elt) xs env1 with
        | none => rw [e2] at h'; cases h'
        | some de =>
          obtain ⟨ds, envF⟩ := de
          rw [e2] at h'
          simp only at h'
          by_cases hz : ds.length ≤ line
          · rw [if_pos hz] at h'
            cases h'
            exact ⟨xs, env1, ds, envF, rfl, e2, hz, rfl, rfl⟩
          · rw [if_neg hz] at h'; cases h'
      | _ => cases h
    | _ => cases h
/-- the pieces of a comprehension -/
structure LcOk (X : Cx) (G : Ck) (own : List Nat) (tg : Tg) (src : E) (cond : List E) (elt : E) (elt' t0 i0 : Expr) (ifs0 : List Expr) (scope : Scope) : Prop where
  blk : BlkOk G.N G.sc scope (ownN G.N own)
  tgs : ckTg (G.blk scope) tg t0 = true
  sub : ∀ j ∈ tg.is, j ∈ own
  src : ckI src G i0 = true
  len : cond.length ≤ 1
  cond : ckEs cond (G.blk scope) ifs0 = true
  elt : ckE elt (G.blk scope) elt' = true
theorem lc_parts {X : Cx} {G : Ck} {own : List Nat} {tg : Tg} {src : E} {cond : List E} {elt : E} {x : Expr} (hx : ckE (.lc own tg src cond elt) G x = true) :
    ∃ elt' t0 i0 ifs0 scope pos, x = .ListComp elt' [⟨t0, i0, ifs0, 0⟩] scope pos ∧ LcOk X G own tg src cond elt elt' t0 i0 ifs0 scope := by
  by_cases hq : ∃ es, src = .rng es
  · obtain ⟨es, rfl⟩ := hq
    unfold ckE at hx
    split at hx <;> first | (cases hx; done) | skip
    all_goals first | (rename_i h; cases h; done) | skip
    · rename_i own' tg' es' cond' elt'' G' elt' t0 x p xs pos' ifs0 scope pos heq
      cases heq
      obtain ⟨a1, a2⟩ := and2 hx
      obtain ⟨a3, a4⟩ := and2 a1
      obtain ⟨a5, a6⟩ := and2 a3
      obtain ⟨a7, a8⟩ := and2 a5
      obtain ⟨a9, a10⟩ := and2 a7
      obtain ⟨a11, a12⟩ := and2 a9
      exact ⟨elt', t0, _, ifs0, scope, pos, rfl, blkOk_by a11, a12, fun j hj => by simpa using List.all_eq_true.mp a10 j hj, a8, of_decide_eq_true a6, a4, a2⟩
    · rename_i heq
      cases heq
      obtain ⟨a1, a2⟩ := and2 hx
      obtain ⟨a3, a4⟩ := and2 a1
      obtain ⟨a5, a6⟩ := and2 a3
      obtain ⟨a7, a8⟩ := and2 a5
      obtain ⟨a9, a10⟩ := and2 a8
      exfalso
      rename_i i0 _ _ _ hn
      cases i0 <;> first | (cases a10; done) | skip
      rename_i f xs kws p
      cases f <;> first | (cases a10; done) | skip
      cases kws <;> first | (cases a10; done) | skip
      exact hn _ _ _ _ _ rfl rfl
  · unfold ckE at hx
    split at hx <;> first | (cases hx; done) | skip
    all_goals first | (rename_i h; cases h; done) | skip
    · rename_i heq
      cases heq
      exact absurd ⟨_, rfl⟩ hq
    · rename_i own' tg' src' cond' elt'' elt' t0 i0 ifs0 scope pos hn heq
      cases heq
      obtain ⟨a1, a2⟩ := and2 hx
      obtain ⟨a3, a4⟩ := and2 a1
      obtain ⟨a5, a6⟩ := and2 a3
      obtain ⟨a7, a8⟩ := and2 a5
      obtain ⟨a9, a10⟩ := and2 a7
      obtain ⟨a11, a12⟩ := and2 a9
      refine ⟨elt', t0, _, ifs0, scope, pos, rfl, blkOk_by a11, a12, fun j hj => by simpa using List.all_eq_true.mp a10 j hj, ?_, of_decide_eq_true a6, a4, a2⟩
      unfold ckI
      split
      · exact absurd ⟨_, rfl⟩ hq
      · exact a8
theorem LcOk.pe {X : Cx} {G : Ck} (O : XOk X G c) {own : List Nat} {tg : Tg} {src : E} {cond : List E} {elt : E} {elt' t0 i0 : Expr} {ifs0 : List Expr} {scope : Scope} (L : LcOk X G own tg src cond elt elt' t0 i0 ifs0 scope)
    (h1 : SE c src) (hr : ∀ es, src = .rng es → ∀ e ∈ es, SE c e) (h2 : ∀ e ∈ cond, SE c e) (h3 : SE c elt) :
    PI X t0 i0 (tI X.K (ev c src .i)) ∧ BlkOk X.N X.env.scope scope (ownN G.N own) ∧
    (∀ (s : Shared) (H : Hp) (C : Addr) (cl : List (Str × Addr)) (fp : List Addr), PG (X.blk s H scope (compEnvC scope cl C X.env) fp) t0 (gT X.K tg)) ∧
    (∀ (s : Shared) (H : Hp) (C : Addr) (cl : List (Str × Addr)) (fp : List Addr), PTs (X.blk s H scope (compEnvC scope cl C X.env) fp) ifs0 (tT X.K (evAnd c cond .t))) ∧
    (∀ (s : Shared) (H : Hp) (C : Addr) (cl : List (Str × Addr)) (fp : List Addr), PE (X.blk s H scope (compEnvC scope cl C X.env) fp) elt' (tD X.K fun env => match ev c elt .v env with | none => none | some (o, env) => toD env o)) := by
  have hk := L.blk.kind
  refine ⟨pi_of O h1 hr L.src t0, by rw [O.n, O.sc]; exact L.blk, fun s H C cl fp => pg_of (xok_blk O hk s H C cl fp) L.tgs, fun s H C cl fp => pts_of (xok_blk O hk s H C cl fp) h2 L.len L.cond, fun s H C cl fp => pe_frz (h3 _ _ (xok_blk O hk s H C cl fp) _ L.elt).1⟩
theorem LcOk.read {X : Cx} {G : Ck} {own : List Nat} {tg : Tg} {src : E} {cond : List E} {elt : E} {elt' t0 i0 : Expr} {ifs0 : List Expr} {scope : Scope} (L : LcOk X G own tg src cond elt elt' t0 i0 ifs0 scope)
    {σ : St} {H : Hp} {Q : VK} (h : tE X.K (ev c (.lc own tg src cond elt) .v) σ H Q) :
    tLc (tI X.K (ev c src .i)) (gT X.K tg) (tT X.K (evAnd c cond .t)) (tD X.K fun env => match ev c elt .v env with | none => none | some (o, env) => toD env o) ((ownN G.N own).map (·.2)) σ H Q := by
  obtain ⟨env, o, env', E, hf, q⟩ := h
  obtain ⟨xs, env1, ds, envF, e1, e2, hz, rfl, rfl⟩ := lc_inv hf
  rw [own_snd]
  exact ⟨env, xs, env1, E, e1, fun J H1 E1 t1 hJ => lc_read L.sub E1 t1 hJ e2 hz q⟩
theorem se_lc {own : List Nat} {tg : Tg} {src : E} {cond : List E} {elt : E} (h1 : SE c src) (hr : ∀ es, src = .rng es → ∀ e ∈ es, SE c e) (h2 : ∀ e ∈ cond, SE c e) (h3 : SE c elt) : SE c (.lc own tg src cond elt) := by
  refine se_of (fun _ => rfl) fun X G O x hx => ?_
  obtain ⟨elt', t0, i0, ifs0, scope, pos, rfl, L⟩ := lc_parts (X := X) hx
  obtain ⟨p1, p2, p3, p4, p5⟩ := L.pe O h1 hr h2 h3
  exact ⟨PE.imp (pe_lc O.calm O.nd p1 p2 p3 p4 p5 (fun x => nofold L.src X.env x)) fun σ H Q h => L.read h, fun _ => rfl⟩
/-! ### two clauses -/
theorem lc2_inv {own : List Nat} {tg : Tg} {src : E} {cond : List E} {vs1 : List Nat} {tg1 : Tg} {src1 : E} {cond1 : List E} {elt : E} {env : Env} {o : Opd} {env' : Env} (h : ev c (.lc2 own tg src cond vs1 tg1 src1 cond1 elt) .v env = some (o, env')) :
    ∃ xs env1 ds envF, ev c src .i env = some (.dat (.tup xs), env1) ∧ lcLoop2 (lc2F c own tg cond vs1 tg1 src1 cond1 elt) xs env1 = some (ds, envF) ∧ ds.length ≤ line ∧ o = .own (.lst ds) ∧ env' = backE env1 envF own := by
  simp only [ev, fin] at h
  cases e1 : ev c src .i env with
  | none => rw [e1] at h; cases h
  | some oe =>
    obtain ⟨so, env1⟩ := oe
    rw [e1] at h
    cases so with
    | dat d =>
      cases d with
      | tup xs =>
        have h' : (match lcLoop2 (lc2F c own tg cond vs1 tg1 src1 cond1 elt) xs env1 with
          | some (ds, env') => if ds.length ≤ line then some (Opd.own (.lst ds), backE env1 env' own) else none
          | none => none) = some (o, env') := h
        cases e2 : lcLoop2 (lc2F c own tg cond vs1 tg1 src1 cond1 elt) xs env1 with
        | none => rw [e2] at h'; cases h'
        | some de =>
          obtain ⟨ds, envF⟩ := de
          rw [e2] at h'
          simp only at h'
          by_cases hz : ds.length ≤ line
          · rw [if_pos hz] at h'
            cases h'
            exact ⟨xs, env1, ds, envF, rfl, e2, hz, rfl, rfl⟩
          · rw [if_neg hz] at h'; cases h'
      | _ => cases h
    | _ => cases h
theorem ckI_of {src : E} {G : Ck} {x : Expr} (h1 : isIteE src = false) (h2 : ckE src G x = true) : ckI src G x = true := by
  unfold ckI
  split
  · exact h2
  · rw [h1, h2]; rfl
/-- the pieces of a comprehension of two clauses -/
structure Lc2Ok (X : Cx) (G : Ck) (own : List Nat) (tg : Tg) (src : E) (cond : List E) (vs1 : List Nat) (tg1 : Tg) (src1 : E) (cond1 : List E) (elt : E) (elt' t0 i0 t1 i1 : Expr) (ifs0 ifs1 : List Expr) (scope : Scope) : Prop where
  blk : BlkOk G.N G.sc scope (ownN G.N own)
  tgs : ckTg (G.blk scope) tg t0 = true
  sub : ∀ j ∈ tg.is, j ∈ own
  tgs1 : ckTg (G.blk scope) tg1 t1 = true
  sub1 : ∀ j ∈ tg1.is, j ∈ vs1
  vs : ∀ j ∈ vs1, j ∈ own
  src : ckI src G i0 = true
  src1 : ckI src1 (G.blk scope) i1 = true
  len : cond.length ≤ 1
  len1 : cond1.length ≤ 1
  cond : ckEs cond (G.blk scope) ifs0 = true
  cond1 : ckEs cond1 (G.blk scope) ifs1 = true
  elt : ckE elt (G.blk scope) elt' = true
theorem lc2_parts {X : Cx} {G : Ck} {own : List Nat} {tg : Tg} {src : E} {cond : List E} {vs1 : List Nat} {tg1 : Tg} {src1 : E} {cond1 : List E} {elt : E} {x : Expr} (hx : ckE (.lc2 own tg src cond vs1 tg1 src1 cond1 elt) G x = true) :
    ∃ elt' t0 i0 ifs0 t1 i1 ifs1 scope pos, x = .ListComp elt' [⟨t0, i0, ifs0, 0⟩, ⟨t1, i1, ifs1, 0⟩] scope pos ∧ Lc2Ok X G own tg src cond vs1 tg1 src1 cond1 elt elt' t0 i0 t1 i1 ifs0 ifs1 scope := by
  unfold ckE at hx
  split at hx <;> first | (cases hx; done) | skip
  all_goals first | (rename_i h; cases h; done) | skip
  rename_i heq
  cases heq
  simp only [Bool.and_eq_true, decide_eq_true_eq, Bool.not_eq_true', List.all_eq_true, List.contains_iff_mem] at hx
  obtain ⟨⟨⟨⟨⟨⟨⟨⟨⟨⟨⟨⟨a1, a2⟩, a3⟩, a4⟩, a5⟩, a6⟩, a7, a8⟩, a9, a10⟩, a11⟩, a12⟩, a13⟩, a14⟩, a15⟩ := hx
  exact ⟨_, _, _, _, _, _, _, _, _, rfl, blkOk_by a1, a2, a3, a4, a5, a6, ckI_of a7 a8, ckI_of a9 a10, a11, a12, a13, a14, a15⟩
theorem Lc2Ok.pe {X : Cx} {G : Ck} (O : XOk X G c) {own : List Nat} {tg : Tg} {src : E} {cond : List E} {vs1 : List Nat} {tg1 : Tg} {src1 : E} {cond1 : List E} {elt : E} {elt' t0 i0 t1 i1 : Expr} {ifs0 ifs1 : List Expr} {scope : Scope} (L : Lc2Ok X G own tg src cond vs1 tg1 src1 cond1 elt elt' t0 i0 t1 i1 ifs0 ifs1 scope)
    (h1 : SE c src) (hr : ∀ es, src = .rng es → ∀ e ∈ es, SE c e) (h2 : ∀ e ∈ cond, SE c e) (k1 : SE c src1) (kr : ∀ es, src1 = .rng es → ∀ e ∈ es, SE c e) (k2 : ∀ e ∈ cond1, SE c e) (h3 : SE c elt) :
    PI X t0 i0 (tI X.K (ev c src .i)) ∧ BlkOk X.N X.env.scope scope (ownN G.N own) ∧ (∀ i ∈ vs1, i ∈ (ownN G.N own).map (·.2)) ∧
    (∀ (s : Shared) (H : Hp) (C : Addr) (cl : List (Str × Addr)) (fp : List Addr), PG (X.blk s H scope (compEnvC scope cl C X.env) fp) t0 (gT X.K tg)) ∧ (∀ (s : Shared) (H : Hp) (C : Addr) (cl : List (Str × Addr)) (fp : List Addr), PTs (X.blk s H scope (compEnvC scope cl C X.env) fp) ifs0 (tT X.K (evAnd c cond .t))) ∧ (∀ (s : Shared) (H : Hp) (C : Addr) (cl : List (Str × Addr)) (fp : List Addr), PI (X.blk s H scope (compEnvC scope cl C X.env) fp) t1 i1 (tI X.K (ev c src1 .i))) ∧ (∀ (s : Shared) (H : Hp) (C : Addr) (cl : List (Str × Addr)) (fp : List Addr), PG (X.blk s H scope (compEnvC scope cl C X.env) fp) t1 (gT X.K tg1)) ∧ (∀ (s : Shared) (H : Hp) (C : Addr) (cl : List (Str × Addr)) (fp : List Addr), PTs (X.blk s H scope (compEnvC scope cl C X.env) fp) ifs1 (tT X.K (evAnd c cond1 .t))) ∧
    (∀ (s : Shared) (H : Hp) (C : Addr) (cl : List (Str × Addr)) (fp : List Addr), PE (X.blk s H scope (compEnvC scope cl C X.env) fp) elt' (tD X.K fun env => match ev c elt .v env with | none => none | some (o, env) => toD env o)) := by
  have hk := L.blk.kind
  exact ⟨pi_of O h1 hr L.src t0, by rw [O.n, O.sc]; exact L.blk, by rw [own_snd]; exact L.vs, fun s H C cl fp => pg_of (xok_blk O hk s H C cl fp) L.tgs, fun s H C cl fp => pts_of (xok_blk O hk s H C cl fp) h2 L.len L.cond,
    fun s H C cl fp => pi_of (xok_blk O hk s H C cl fp) k1 kr L.src1 t1, fun s H C cl fp => pg_of (xok_blk O hk s H C cl fp) L.tgs1, fun s H C cl fp => pts_of (xok_blk O hk s H C cl fp) k2 L.len1 L.cond1, fun s H C cl fp => pe_frz (h3 _ _ (xok_blk O hk s H C cl fp) _ L.elt).1⟩
theorem Lc2Ok.read {X : Cx} {G : Ck} {own : List Nat} {tg : Tg} {src : E} {cond : List E} {vs1 : List Nat} {tg1 : Tg} {src1 : E} {cond1 : List E} {elt : E} {elt' t0 i0 t1 i1 : Expr} {ifs0 ifs1 : List Expr} {scope : Scope} (L : Lc2Ok X G own tg src cond vs1 tg1 src1 cond1 elt elt' t0 i0 t1 i1 ifs0 ifs1 scope)
    {σ : St} {H : Hp} {Q : VK} (h : tE X.K (ev c (.lc2 own tg src cond vs1 tg1 src1 cond1 elt) .v) σ H Q) :
    tLc2 (tI X.K (ev c src .i)) (gT X.K tg) (tT X.K (evAnd c cond .t)) (tI X.K (ev c src1 .i)) (gT X.K tg1) (tT X.K (evAnd c cond1 .t)) (tD X.K fun env => match ev c elt .v env with | none => none | some (o, env) => toD env o) ((ownN G.N own).map (·.2)) vs1 σ H Q := by
  obtain ⟨env, o, env', E, hf, q⟩ := h
  obtain ⟨xs, env1, ds, envF, e1, e2, hz, rfl, rfl⟩ := lc2_inv hf
  rw [own_snd]
  exact ⟨env, xs, env1, E, e1, fun J H1 E1 t1 hJ => lc2_read L.sub L.sub1 L.vs E1 t1 hJ e2 hz q⟩
theorem se_lc2 {own : List Nat} {tg : Tg} {src : E} {cond : List E} {vs1 : List Nat} {tg1 : Tg} {src1 : E} {cond1 : List E} {elt : E} (h1 : SE c src) (hr : ∀ es, src = .rng es → ∀ e ∈ es, SE c e) (h2 : ∀ e ∈ cond, SE c e)
    (k1 : SE c src1) (kr : ∀ es, src1 = .rng es → ∀ e ∈ es, SE c e) (k2 : ∀ e ∈ cond1, SE c e) (h3 : SE c elt) : SE c (.lc2 own tg src cond vs1 tg1 src1 cond1 elt) := by
  refine se_of (fun _ => rfl) fun X G O x hx => ?_
  obtain ⟨elt', t0, i0, ifs0, t1, i1, ifs1, scope, pos, rfl, L⟩ := lc2_parts (X := X) hx
  obtain ⟨p1, p2, p3, p4, p5, p6, p7, p8, p9⟩ := L.pe O h1 hr h2 k1 kr k2 h3
  exact ⟨PE.imp (pe_lc2 O.calm O.nd p1 p2 p3 p4 p5 p6 p7 p8 p9 (fun x => nofold L.src X.env x) (fun env x => nofold L.src1 env x)) fun σ H Q h => L.read h, fun _ => rfl⟩
/-! ### all -/
theorem se_rng {es : List E} : SE c (.rng es) := fun X G O x hx => ⟨⟨fun pins s σ H Q I ⟨env, o, env', E, hf, q⟩ => by simp [ev] at hf⟩, ⟨fun pins s σ H Q I ⟨env, o, env', E, hf, q⟩ => by simp [ev] at hf⟩⟩
def SE2 (c : Cl) (e : E) : Prop := SE c e ∧ ∀ es, e = .rng es → ∀ e' ∈ es, SE c e'
mutual
theorem se2 : ∀ e : E, SE2 c e
  | .var i => ⟨se_var i, fun _ h => nomatch h⟩
  | .int i => ⟨se_int i, fun _ h => nomatch h⟩
  | .bl b => ⟨se_bl b, fun _ h => nomatch h⟩
  | .non => ⟨se_non, fun _ h => nomatch h⟩
  | .str s => ⟨se_str s, fun _ h => nomatch h⟩
  | .tup es => ⟨se_tup (ses es), fun _ h => nomatch h⟩
  | .lst es => ⟨se_lst (ses es), fun _ h => nomatch h⟩
  | .bin op a b => ⟨se_bin (se2 a).1 (se2 b).1, fun _ h => nomatch h⟩
  | .neg a => ⟨se_neg (se2 a).1, fun _ h => nomatch h⟩
  | .not a => ⟨se_not (se2 a).1, fun _ h => nomatch h⟩
  | .cmp op a b => ⟨se_cmp (se2 a).1 (se2 b).1, fun _ h => nomatch h⟩
  | .chain op op2 a b d => ⟨se_chain (se2 a).1 (se2 b).1 (se2 d).1, fun _ h => nomatch h⟩
  | .and es => ⟨se_and (ses es), fun _ h => nomatch h⟩
  | .or es => ⟨se_or (ses es), fun _ h => nomatch h⟩
  | .ite t a b => ⟨se_ite (se2 t).1 (se2 a).1 (se2 b).1, fun _ h => nomatch h⟩
  | .idx a i => ⟨se_idx (se2 a).1 (se2 i).1, fun _ h => nomatch h⟩
  | .slc a lo hi => ⟨se_slc (se2 a).1 (se2 lo).1 (se2 hi).1, fun _ h => nomatch h⟩
  | .rev a => ⟨se_rev (se2 a).1, fun _ h => nomatch h⟩
  | .call f es => ⟨se_call (ses es), fun _ h => nomatch h⟩
  | .blt b es => ⟨se_blt (ses es), fun _ h => nomatch h⟩
  | .isi a t => ⟨se_isi (se2 a).1, fun _ h => nomatch h⟩
  | .mut m i es => ⟨se_mut (ses es), fun _ h => nomatch h⟩
  | .mth m a es => ⟨se_mth (se2 a).1 (ses es), fun _ h => nomatch h⟩
  | .lc own tg src cond elt => ⟨se_lc (se2 src).1 (se2 src).2 (ses cond) (se2 elt).1, fun _ h => nomatch h⟩
  | .lc2 own tg src cond vs1 tg1 src1 cond1 elt => ⟨se_lc2 (se2 src).1 (se2 src).2 (ses cond) (se2 src1).1 (se2 src1).2 (ses cond1) (se2 elt).1, fun _ h => nomatch h⟩
  | .sset a => ⟨se_sset (se2 a).1, fun _ h => nomatch h⟩
  | .rng es => ⟨se_rng, fun es' h => by cases h; exact ses es⟩
theorem ses : ∀ es : List E, ∀ e ∈ es, SE c e
  | [] => fun e h => nomatch h
  | e :: es => List.forall_mem_cons.mpr ⟨(se2 e).1, ses es⟩
end
theorem se (e : E) : SE c e := (se2 e).1
end
end PF
/-! PF12: statements. -/
namespace PF
open PySem PySem.Spec PyProof.Rows L2

def isTupL : Expr → Bool
  | .Tuple vs _ _ => !vs.all (foldedForSure 8)
  | .List _ _ => true
  | _ => false
def isComp : Expr → Bool
  | .ListComp _ _ _ _ => true | .SetComp _ _ _ _ => true | .DictComp _ _ _ _ _ => true | _ => false
mutual
def ckS : S → Ck → List Nat → Stmt → Bool
  | .set i e, G, kp, .Assign [.Name x _] v _ => stOk G i x && !kp.contains i && ckE e G v
  | .unp is e, G, kp, .Assign [.Tuple ts _ _] v _ => ckTs G is ts && (is.all fun i => !kp.contains i) && !isTupL v && ckE e G v
  | .par i j a b, G, kp, .Assign [.Tuple [.Name x px, .Name y py] _ _] (.Tuple [a', b'] _ _) _ => decide (G.N[i]? = some x) && decide (G.N[j]? = some y) && decide (i ≠ j) && !kp.contains i && !kp.contains j && decide (G.sc.names.lookup x = some .local) && decide (G.sc.names.lookup y = some .local) &&
      (px.line == py.line) && decide (x ≠ y) && !([a', b'].all (foldedForSure 8)) && !([a', b'].all (constantsAlone 8)) && ckE a G a' && ckE b G b'
  | .sub i ix e, G, _, .Assign [.Subscript (.Name x _) ix' _] v _ => ldOk G i x && ckE ix G ix' && ckE e G v
  | .aug op i e, G, kp, .AugAssign (.Name x _) o v _ => stOk G i x && !kp.contains i && decide (op.py = o) && (decide (op = .add) || decide (op = .sub)) && ckE e G v
  | .expr e, G, _, .Expr v _ => ckE e G v && !isComp v
  | .ret e, G, _, .Return (some v) _ => ckE e G v
  | .ret .non, _, _, .Return none _ => true
  | .ite t a b, G, kp, .If t' a' b' _ => ckE t G t' && ckSs a G kp a' && ckSs b G kp b'
  | .whl t b, G, kp, .While t' b' [] _ => ckE t G t' && ckSs b G kp b'
  | .for tg src b, G, kp, .For tg' src' b' [] _ => ckTg G tg tg' && (tg.is.all fun i => !kp.contains i) && ckI src G src' && ckSs b G kp b'
  | .brk, _, _, .Break _ => true
  | .pass, _, _, .Pass _ => true
  | .stop, _, _, .Raise _ _ _ => true
  | _, _, _, _ => false
def ckSs : List S → Ck → List Nat → List Stmt → Bool
  | [], _, _, [] => true
  | s :: ss, G, kp, t :: ts => ckS s G kp t && ckSs ss G kp ts
  | _, _, _, _ => false
end

structure PoS (K : PySem.W.Frag) (kp : List Nat) (σ : St) (H : Hp) (env : Env) (σ' : St) (H' : Hp) (env' : Env) : Prop where
  e : EnvR K H' σ' env'
  t : Tr σ H env σ' H' env'
  k : ∀ j ∈ kp, σ'[j]? = σ[j]?
/-- a block's ends -/
def EndR (K : PySem.W.Frag) (kp : List Nat) (σ : St) (H : Hp) (env : Env) (D : Ends) : R → Prop
  | .nx env' => ∀ σ' H', PoS K kp σ H env σ' H' env' → D.nx σ' H'
  | .brk env' => ∀ σ' H', PoS K kp σ H env σ' H' env' → D.bk σ' H'
  | .ret o env' => ∀ v σ' H', PoS K kp σ H env σ' H' env' → OpdR K H' σ' env' o v → (∀ d p, o = .own d → v = .ref p → H p = none ∨ OwnA env σ p) → D.rt v H'
def tS (K : PySem.W.Frag) (kp : List Nat) (f : Env → Option R) : TS := fun D σ H => ∃ env r, EnvR K H σ env ∧ f env = some r ∧ EndR K kp σ H env D r
theorem PoS.trans {K : PySem.W.Frag} {kp : List Nat} {σ σ1 σ2 : St} {H H1 H2 : Hp} {env env1 env2 : Env} (a : PoS K kp σ H env σ1 H1 env1) (b : PoS K kp σ1 H1 env1 σ2 H2 env2) : PoS K kp σ H env σ2 H2 env2 :=
  ⟨b.e, a.t.trans b.t, fun j hj => (b.k j hj).trans (a.k j hj)⟩
theorem PoS.refl {K : PySem.W.Frag} {kp : List Nat} {σ : St} {H : Hp} {env : Env} (E : EnvR K H σ env) : PoS K kp σ H env σ H env := ⟨E, .refl, fun _ _ => rfl⟩
theorem PoS.ex {K : PySem.W.Frag} {kp : List Nat} {σ : St} {H H' : Hp} {env env' : Env} (E : EnvR K H' σ env') (t : Tr σ H env σ H' env') : PoS K kp σ H env σ H' env' := ⟨E, t, fun _ _ => rfl⟩
/-- what is shown of a statement -/
def SS (c : Cl) (W : Nat) (s : S) : Prop := ∀ X G kp, XOk X G c → ∀ x, ckS s G kp x = true → PS X x (tS X.K kp (ex c W s))
def SSs (c : Cl) (W : Nat) (ss : List S) : Prop := ∀ X G kp, XOk X G c → ∀ xs, ckSs ss G kp xs = true → PSs X xs (tS X.K kp (exs c W ss))
section
variable {c : Cl} {W : Nat}
theorem sss_nil : SSs c W [] := fun X G kp O xs hx => by
  cases xs with
  | cons x xs => cases hx
  | nil =>
    refine PSs.imp pss_nil fun D σ H ⟨env, r, E, hf, q⟩ => ?_
    cases hf
    exact q σ H (.refl E)
theorem sss_cons {s : S} {ss : List S} (h1 : SS c W s) (h2 : SSs c W ss) : SSs c W (s :: ss) := fun X G kp O xs hx => by
  cases xs with
  | nil => cases hx
  | cons x xs =>
    obtain ⟨k1, k2⟩ := and2 (show (ckS s G kp x && ckSs ss G kp xs) = true from hx)
    refine PSs.imp (pss_cons (h1 X G kp O x k1) (h2 X G kp O xs k2)) fun D σ H ⟨env, r, E, hf, q⟩ => ?_
    simp only [exs] at hf
    cases e1 : ex c W s env with
    | none => rw [e1] at hf; cases hf
    | some r1 =>
      rw [e1] at hf
      cases r1 with
      | nx env1 =>
        refine ⟨env, .nx env1, E, e1, fun σ1 H1 p1 => ⟨env1, r, p1.e, hf, ?_⟩⟩
        cases r with
        | nx env2 => exact fun σ2 H2 p2 => q σ2 H2 (p1.trans p2)
        | brk env2 => exact fun σ2 H2 p2 => q σ2 H2 (p1.trans p2)
        | ret o env2 =>
          intro v σ2 H2 p2 r n
          refine q v σ2 H2 (p1.trans p2) r fun d p e1 e2 => ?_
          rcases n d p e1 e2 with z | z
          · exact p1.t.fresh z
          · exact (p1.t.s p z).symm
      | brk env1 =>
        cases hf
        exact ⟨env, _, E, e1, q⟩
      | ret o env1 =>
        cases hf
        exact ⟨env, _, E, e1, q⟩
/-- an operand stored at a name -/
theorem store_end {K : PySem.W.Frag} {kp : List Nat} {σ : St} {H H1 : Hp} {env env1 env2 : Env} {o : Opd} {v : V} {i : Nat} (hk : kp.contains i = false) (p : Po K σ H env o env1 v H1) (hs : store env1 i o = some env2) (ho : ∀ j, o ≠ .slot j) :
    PoS K kp σ H env (σ.set i (some v)) H1 env2 := by
  have hk' : ∀ j ∈ kp, j ≠ i := fun j hj z => by
    subst z
    rw [List.contains_iff_mem.mpr hj] at hk
    cases hk
  have main : ∀ {s : Slot}, SlotR K H1 s (some v) → (∀ d q, s = .own d → v = .ref q → ¬ OwnA env1 σ q ∧ (H q = none ∨ OwnA env σ q)) → PoS K kp σ H env (σ.set i (some v)) H1 (env1.set i s) := by
    intro s hr hn
    have get : ∀ {j : Nat} {sl : Slot}, (env1.set i s)[j]? = some sl → (j = i ∧ sl = s ∧ i < σ.length) ∨ (j ≠ i ∧ env1[j]? = some sl) := fun {j sl} e => by
      by_cases hj : i = j
      · subst hj
        rw [List.getElem?_set_self'] at e
        cases hh : env1[i]? with
        | none => rw [hh] at e; cases e
        | some w =>
          rw [hh] at e; cases e
          exact .inl ⟨rfl, rfl, by rw [← p.e.len]; exact (List.getElem?_eq_some_iff.mp hh).1⟩
      · rw [List.getElem?_set_ne hj] at e
        exact .inr ⟨Ne.symm hj, e⟩
    have own : ∀ q, OwnA (env1.set i s) (σ.set i (some v)) q → (∃ d, s = .own d ∧ v = .ref q) ∨ OwnA env1 σ q := fun q ⟨j, d, h1, h2⟩ => by
      rcases get h1 with ⟨rfl, e, hl⟩ | ⟨hj, e⟩
      · rw [List.getElem?_set_self hl] at h2
        cases h2
        exact .inl ⟨d, e.symm, rfl⟩
      · rw [List.getElem?_set_ne (Ne.symm hj)] at h2
        exact .inr ⟨j, d, e, h2⟩
    refine ⟨⟨by rw [List.length_set, List.length_set]; exact p.e.len, fun j sl e => ?_, fun j l a b q h1 h2 h3 h4 => ?_⟩, ⟨p.t.f, fun q z => ?_⟩, fun j hj => by rw [List.getElem?_set_ne (Ne.symm (hk' j hj))]⟩
    · rcases get e with ⟨rfl, rfl, hl⟩ | ⟨hj, e⟩
      · exact ⟨some v, by rw [List.getElem?_set_self hl], hr⟩
      · rw [List.getElem?_set_ne (Ne.symm hj)]
        exact p.e.sl j sl e
    · rcases get h1 with ⟨rfl, e, hl⟩ | ⟨hj, e⟩
      · rw [List.getElem?_set_self hl] at h3
        cases h3
        rcases get h2 with ⟨rfl, e', _⟩ | ⟨hj', e'⟩
        · rfl
        · rw [List.getElem?_set_ne (Ne.symm hj')] at h4
          exact ((hn a q e.symm rfl).1 ⟨l, b, e', h4⟩).elim
      · rw [List.getElem?_set_ne (Ne.symm hj)] at h3
        rcases get h2 with ⟨rfl, e', hl⟩ | ⟨hj', e'⟩
        · rw [List.getElem?_set_self hl] at h4
          cases h4
          exact ((hn b q e'.symm rfl).1 ⟨j, a, e, h3⟩).elim
        · rw [List.getElem?_set_ne (Ne.symm hj')] at h4
          exact p.e.dj j l a b q e e' h3 h4
    · rcases own q z with ⟨d, e1, e2⟩ | z
      · exact (hn d q e1 e2).2.symm
      · exact p.t.s q z
  cases o with
  | dat d => cases hs; exact main ⟨v, rfl, p.r⟩ fun d q z => nomatch z
  | own d =>
    cases hs
    obtain ⟨q, e, oa, no⟩ := p.r
    subst e
    exact main ⟨q, rfl, oa⟩ fun d' q' e1 e2 => by
      cases e2
      exact ⟨no, p.n d q rfl rfl⟩
  | slot j => exact (ho j rfl).elim
/-- an expression whose value is taken: an owned name's list is kept as it is -/
def takeO (env : Env) : Opd → Option (Opd × Env)
  | .slot j => match look env j with | .own (.lst xs) => some (.dat (.lst xs), env.set j (.val (.lst xs))) | _ => none
  | o => some (o, env)
theorem pe_take {X : Cx} {e : Expr} {f : Ev} (h : PE X e (tE X.K f)) : PE X e (tE X.K fun env => match f env with | none => none | some (o, env) => takeO env o) := by
  refine ⟨fun pins s σ H Q I hw => ?_⟩
  obtain ⟨env, o, env', E, hf, q⟩ := hw
  dsimp only at hf
  cases hfe : f env with
  | none => rw [hfe] at hf; cases hf
  | some oe =>
    obtain ⟨o1, env1⟩ := oe
    rw [hfe] at hf
    have hf : takeO env1 o1 = some (o, env') := hf
    cases o1 with
    | dat d => cases hf; exact h.run pins s σ H Q I ⟨env, _, _, E, hfe, q⟩
    | own d => cases hf; exact h.run pins s σ H Q I ⟨env, _, _, E, hfe, q⟩
    | slot j =>
      cases hl : look env1 j with
      | own d0 =>
        cases d0 with
        | lst xs =>
          simp only [takeO, hl] at hf
          cases hf
          exact (pe_frz h).run pins s σ H Q I ⟨env, .lst xs, _, E, by simp only [hfe, toD, hl], fun v H' E' t' r => q v H' (po_dat E' t' r)⟩
        | _ => simp [takeO, hl] at hf
      | un => simp [takeO, hl] at hf
      | val d0 => simp [takeO, hl] at hf
theorem set_inv {i : Nat} {e : E} {env : Env} {r : R} (h : ex c W (.set i e) env = some r) : ∃ o env1 env2, (match ev c e .v env with | none => none | some (o, env) => takeO env o) = some (o, env1) ∧ store env1 i o = some env2 ∧ r = .nx env2 ∧ ∀ j, o ≠ .slot j := by
  simp only [ex] at h
  cases e1 : ev c e .v env with
  | none => rw [e1] at h; cases h
  | some oe =>
    obtain ⟨o, env1⟩ := oe
    rw [e1] at h
    simp only at h
    cases o with
    | dat d => simp only [store] at h; cases h; exact ⟨.dat d, env1, _, rfl, rfl, rfl, fun _ z => nomatch z⟩
    | own d => simp only [store] at h; cases h; exact ⟨.own d, env1, _, rfl, rfl, rfl, fun _ z => nomatch z⟩
    | slot j =>
      cases hl : look env1 j with
      | own d0 =>
        cases d0 with
        | lst xs =>
          simp only [store, hl] at h
          cases h
          exact ⟨.dat (.lst xs), env1.set j (.val (.lst xs)), _, by simp only [takeO, hl], rfl, rfl, fun _ z => nomatch z⟩
        | _ => simp [store, hl] at h
      | un => simp [store, hl] at h
      | val d0 => simp [store, hl] at h
theorem loc_of {X : Cx} {G : Ck} (O : XOk X G c) {i : Nat} {x : Str} (h : stOk G i x = true) : X.N[i]? = some x ∧ L2.Loc X.env.scope x ∧ (X.fn x = true ∨ X.env.scope.names.lookup x = some .local) := by
  obtain ⟨k1, k2⟩ := and2 h
  refine ⟨by rw [O.n]; exact of_decide_eq_true k1, ?_⟩
  unfold L2.Loc
  rw [O.sc]
  unfold locB at k2
  split at k2
  · rename_i e; exact ⟨.inl e, .inr e⟩
  · rename_i e; exact ⟨.inr e, .inl (O.fn x k2)⟩
  · cases k2
theorem nocomp {e : E} {G : Ck} {x : Expr} (h : ckE e G x = true) : (∃ elt gs sc pos, x = .ListComp elt gs sc pos) ∨ (isComp x = false) := by
  cases x <;> first | exact .inr rfl | exact .inl ⟨_, _, _, _, rfl⟩ | (exfalso; cases e <;> first | (cases h; done) | (rename_i src _ _; cases src <;> cases h))
theorem sw_none {x : Expr} {t : Option Expr} {l : Nat} {env : PySem.Env} (h : isComp x = false) : swapsWith x t l env = pure false := by
  cases x <;> first | rfl | cases h
theorem ss_set {i : Nat} {e : E} : SS c W (.set i e) := fun X G kp O x hx => by
  cases x <;> first | (cases hx; done) | skip
  rename_i ts v pos
  match ts, hx with
  | [.Name x p], hx =>
    obtain ⟨k1, k2⟩ := and2 (show (stOk G i x && !kp.contains i && ckE e G v) = true from hx)
    obtain ⟨k3, k4⟩ := and2 k1
    have hk : kp.contains i = false := by simpa using k4
    obtain ⟨n1, n2, n3⟩ := loc_of O k3
    have fin : ∀ {D : Ends} {σ : St} {H : Hp}, tS X.K kp (ex c W (.set i e)) D σ H → tAsg (tE X.K fun env => match ev c e .v env with | none => none | some (o, env) => takeO env o) (gName i) D σ H := by
      rintro D σ H ⟨env, r, E, hf, q⟩
      obtain ⟨o, env1, env2, e1, e2, rfl, ho⟩ := set_inv hf
      exact ⟨env, o, env1, E, e1, fun v H1 p1 => q _ H1 (store_end hk p1 e2 ho)⟩
    rcases nocomp k2 with ⟨elt, gs, sc, cpos, rfl⟩ | hc
    · have hsw : ∃ b, swapsWith (.ListComp elt gs sc cpos) (some (.Name x p)) pos.line X.env = pure b ∧ (b = true → X.env.scope.names.lookup x = some .local) := by
        refine ⟨X.env.blockKind == .function && X.env.kindOf x == some .local && p.line == cpos.line && !(sc.names.any fun (n, k) => n == x && (k == .local || k == .cell)), rfl, fun h => ?_⟩
        simp only [Bool.and_eq_true, beq_iff_eq] at h
        exact h.1.1.2
      obtain ⟨b, hb, hl⟩ := hsw
      cases b with
      | false => exact PS.imp (ps_set O.nd n1 n2 (pe_take (se e X G O _ k2).1) hb n3) fun D σ H h => fin h
      | true =>
        cases e with
        | lc own tg src cond elt0 =>
          obtain ⟨elt', t0, i0, ifs0, scope, pos', hxe, L⟩ := lc_parts (X := X) k2
          cases hxe
          obtain ⟨p1, p2, p3, p4, p5⟩ := L.pe O (se2 src).1 (se2 src).2 (ses cond) (se2 elt0).1
          refine PS.imp (ps_setLc O.calm O.nd n1 (hl rfl) hb p1 p2 p3 p4 p5 (fun x => nofold L.src X.env x)) fun D σ H ⟨env, r, E, hf, q⟩ => ?_
          obtain ⟨o, env1, env2, e1, e2, rfl, ho⟩ := set_inv hf
          refine L.read ⟨env, o, env1, E, ?_, fun v H1 p1 => q _ H1 (store_end hk p1 e2 ho)⟩
          cases e3 : ev c (.lc own tg src cond elt0) .v env with
          | none => rw [e3] at e1; cases e1
          | some oe =>
            obtain ⟨o', env'⟩ := oe
            obtain ⟨_, _, _, _, _, _, _, rfl, _⟩ := lc_inv e3
            rw [e3] at e1
            cases e1
            rfl
        | lc2 own tg src cond vs1 tg1 src1 cond1 elt0 =>
          obtain ⟨elt', t0, i0, ifs0, t1, i1, ifs1, scope, pos', hxe, L⟩ := lc2_parts (X := X) k2
          cases hxe
          obtain ⟨p1, p2, p3, p4, p5, p6, p7, p8, p9⟩ := L.pe O (se2 src).1 (se2 src).2 (ses cond) (se2 src1).1 (se2 src1).2 (ses cond1) (se2 elt0).1
          refine PS.imp (ps_setLc2 O.calm O.nd n1 (hl rfl) hb p1 p2 p3 p4 p5 p6 p7 p8 p9 (fun x => nofold L.src X.env x) (fun env x => nofold L.src1 env x)) fun D σ H ⟨env, r, E, hf, q⟩ => ?_
          obtain ⟨o, env1, env2, e1, e2, rfl, ho⟩ := set_inv hf
          refine L.read ⟨env, o, env1, E, ?_, fun v H1 p1 => q _ H1 (store_end hk p1 e2 ho)⟩
          cases e3 : ev c (.lc2 own tg src cond vs1 tg1 src1 cond1 elt0) .v env with
          | none => rw [e3] at e1; cases e1
          | some oe =>
            obtain ⟨o', env'⟩ := oe
            obtain ⟨_, _, _, _, _, _, _, rfl, _⟩ := lc2_inv e3
            rw [e3] at e1
            cases e1
            rfl
        | _ => cases k2
    · exact PS.imp (ps_set O.nd n1 n2 (pe_take (se e X G O _ k2).1) (sw_none hc) n3) fun D σ H h => fin h
theorem ss_expr {e : E} : SS c W (.expr e) := fun X G kp O x hx => by
  cases x <;> first | (cases hx; done) | skip
  rename_i v pos
  obtain ⟨k1, k2⟩ := and2 hx
  refine PS.imp (ps_expr (se e X G O _ k1).1 (sw_none (by simpa using k2))) fun D σ H ⟨env, r, E, hf, q⟩ => ?_
  simp only [ex] at hf
  cases e1 : ev c e .v env with
  | none => rw [e1] at hf; cases hf
  | some oe =>
    obtain ⟨o, env1⟩ := oe
    rw [e1] at hf
    cases hf
    exact ⟨env, o, _, E, e1, fun v H1 p1 => q σ H1 (.ex p1.e p1.t)⟩
theorem give_inv {env : Env} {o o' : Opd} {env' : Env} (h : giveOut env o = some (o', env')) : (o' = o ∧ env' = env ∧ ∀ j, o ≠ .slot j) ∨ ∃ i d, o = .slot i ∧ look env i = .own d ∧ o' = .own d ∧ env' = env.set i .un := by
  cases o with
  | dat d => cases h; exact .inl ⟨rfl, rfl, fun _ z => nomatch z⟩
  | own d => cases h; exact .inl ⟨rfl, rfl, fun _ z => nomatch z⟩
  | slot i =>
    simp only [giveOut] at h
    cases hl : look env i with
    | own d => rw [hl] at h; cases h; exact .inr ⟨i, d, rfl, hl, rfl, rfl⟩
    | un => rw [hl] at h; cases h
    | val d => rw [hl] at h; cases h
theorem ret_read {X : Cx} {kp : List Nat} {e : E} {D : Ends} {σ : St} {H : Hp} (h : tS X.K kp (ex c W (.ret e)) D σ H) : tE X.K (ev c e .v) σ H D.rt := by
  obtain ⟨env, r, E, hf, q⟩ := h
  simp only [ex] at hf
  cases e1 : ev c e .v env with
  | none => rw [e1] at hf; cases hf
  | some oe =>
    obtain ⟨o, env1⟩ := oe
    rw [e1] at hf
    simp only at hf
    cases e2 : giveOut env1 o with
    | none => rw [e2] at hf; cases hf
    | some oe2 =>
      obtain ⟨o2, env2⟩ := oe2
      rw [e2] at hf
      cases hf
      refine ⟨env, o, env1, E, e1, fun v H1 p1 => ?_⟩
      rcases give_inv e2 with ⟨rfl, rfl, _⟩ | ⟨i, d, rfl, hl, rfl, rfl⟩
      · exact q v σ H1 (.ex p1.e p1.t) p1.r p1.n
      · obtain ⟨p, g1, g2, g3⟩ := p1.e.own hl
        have g4 : σ[i]? = some (some v) := p1.r
        rw [g1] at g4
        cases g4
        obtain ⟨u1, u2, u3⟩ := p1.e.un i
        refine q _ σ H1 ⟨u1, p1.t.trans ⟨fun b u e _ => e, fun p z => .inl (u2 p z)⟩, fun _ _ => rfl⟩ ⟨p, rfl, g2, u3 p g1 ⟨d, look_own hl⟩⟩ fun d' p' e1 e2 => ?_
        cases e2
        exact (p1.t.s _ g3).symm
theorem ss_ret {e : E} : SS c W (.ret e) := fun X G kp O x hx => by
  cases x <;> first | (cases hx; done) | skip
  rename_i v pos
  cases v with
  | some v => exact PS.imp (ps_ret (se e X G O _ hx).1) fun D σ H h => ret_read h
  | none =>
    cases e <;> first | (cases hx; done) | skip
    refine PS.imp ps_retN fun D σ H h => ?_
    obtain ⟨env, o, env', E, hf, q⟩ := ret_read h
    cases hf
    exact q .non H (po_dat E .refl rfl)
theorem ss_brk : SS c W .brk := fun X G kp O x hx => by
  cases x <;> first | (cases hx; done) | skip
  exact PS.imp ps_break fun D σ H ⟨env, r, E, hf, q⟩ => by cases hf; exact q σ H (.refl E)
theorem ss_pass : SS c W .pass := fun X G kp O x hx => by
  cases x <;> first | (cases hx; done) | skip
  exact PS.imp ps_pass fun D σ H ⟨env, r, E, hf, q⟩ => by cases hf; exact q σ H (.refl E)
theorem ss_stop : SS c W .stop := fun X G kp O x hx => by
  exact PS.imp ps_never fun D σ H ⟨env, r, E, hf, q⟩ => by cases hf
/-- a block behind a step -/
theorem tS_from {K : PySem.W.Frag} {kp : List Nat} {f : Env → Option R} {σ σ1 : St} {H H1 : Hp} {env env1 : Env} {r : R} {D : Ends} (p1 : PoS K kp σ H env σ1 H1 env1) (hf : f env1 = some r)
    (q : EndR K kp σ H env D r) : tS K kp f D σ1 H1 := by
  refine ⟨env1, r, p1.e, hf, ?_⟩
  cases r with
  | nx env2 => exact fun σ2 H2 p2 => q σ2 H2 (p1.trans p2)
  | brk env2 => exact fun σ2 H2 p2 => q σ2 H2 (p1.trans p2)
  | ret o env2 =>
    intro v σ2 H2 p2 r n
    refine q v σ2 H2 (p1.trans p2) r fun d p e1 e2 => ?_
    rcases n d p e1 e2 with z | z
    · exact p1.t.fresh z
    · exact (p1.t.s p z).symm
theorem ss_ite {t : E} {a b : List S} (ha : SSs c W a) (hb : SSs c W b) : SS c W (.ite t a b) := fun X G kp O x hx => by
  cases x <;> first | (cases hx; done) | skip
  rename_i t' a' b' pos
  obtain ⟨k1, k2⟩ := and2 hx
  obtain ⟨k3, k4⟩ := and2 k1
  refine PS.imp (ps_if (se t X G O _ k3).2 (ha X G kp O _ k4) (hb X G kp O _ k2)) fun D σ H ⟨env, r, E, hf, q⟩ => ?_
  simp only [ex] at hf
  cases e1 : ev c t .t env with
  | none => rw [e1] at hf; cases hf
  | some oe =>
    obtain ⟨o, env1⟩ := oe
    rw [e1] at hf
    cases o with
    | dat d =>
      cases d with
      | bl k =>
        refine ⟨env, k, env1, E, e1, fun H1 E1 t1 => ?_⟩
        dsimp only
        cases k with
        | true => rw [if_pos rfl]; exact tS_from (.ex E1 t1) hf q
        | false => rw [if_neg Bool.false_ne_true]; exact tS_from (.ex E1 t1) hf q
      | _ => cases hf
    | _ => cases hf
/-! ### stores -/
theorem ss_unp {is : List Nat} {e : E} : SS c W (.unp is e) := fun X G kp O x hx => by
  cases x <;> first | (cases hx; done) | skip
  rename_i ts v pos
  match ts, hx with
  | [.Tuple ts k tp], hx =>
    obtain ⟨k1, k2⟩ := and2 (show (ckTs G is ts && (is.all fun i => !kp.contains i) && !isTupL v && ckE e G v) = true from hx)
    obtain ⟨k3, k4⟩ := and2 k1
    obtain ⟨k5, k6⟩ := and2 k3
    have hs : swapsWithSole [.Tuple ts k tp] v pos.line X.env = pure false := by
      rcases nocomp k2 with ⟨elt, gs, sc, cpos, rfl⟩ | hc
      · rfl
      · unfold swapsWithSole
        exact sw_none hc
    have hw : swappedStores [.Tuple ts k tp] v X.env = pure none := by
      have hv : isTupL v = false := by simpa using k4
      cases v with
      | Tuple vs k' p' =>
        have hall : vs.all (foldedForSure 8) = true := by
          unfold isTupL at hv
          simpa using hv
        unfold swappedStores
        simp only [hall]
        split
        · rfl
        · split
          · rfl
          · split
            · rfl
            · rfl
      | List _ _ => cases hv
      | _ => rfl
    refine PS.imp (ps_asg (pe_frz (se e X G O _ k2).1) (pg_of O (tg := .tp is) (show ckTg G (.tp is) (.Tuple ts k tp) = true from k5)) hs hw rfl) fun D σ H ⟨env, r, E, hf, q⟩ => ?_
    simp only [ex] at hf
    cases e1 : ev c e .v env with
    | none => rw [e1] at hf; cases hf
    | some oe =>
      obtain ⟨o, env1⟩ := oe
      rw [e1] at hf
      simp only at hf
      cases e2 : toD env1 o with
      | none => rw [e2] at hf; cases hf
      | some de =>
        obtain ⟨d, env2⟩ := de
        rw [e2] at hf
        cases d with
        | tup ds =>
          simp only at hf
          cases e3 : setAll env2 is ds with
          | none => rw [e3] at hf; cases hf
          | some env3 =>
            rw [e3] at hf
            cases hf
            refine ⟨env, .tup ds, env2, E, by simp only [e1, e2], fun v H1 E1 t1 r1 => ⟨env2, .tup ds, env3, E1, r1, e3, fun σ' E' l' s' o' => q σ' H1 ⟨E', t1.trans ⟨fun b u e _ => e, fun p z => .inl (o' p z)⟩, fun j hj => s' j fun z => ?_⟩⟩⟩
            have := List.all_eq_true.mp k6 j z
            rw [List.contains_iff_mem.mpr hj] at this
            cases this
        | _ => cases hf
theorem sub_inv {i : Nat} {ix e : E} {env : Env} {r : R} (h : ex c W (.sub i ix e) env = some r) :
    ∃ d env1 k env2 l l' l0, (match ev c e .v env with | none => none | some (o, env) => toD env o) = some (d, env1) ∧ look env1 i = .own l0 ∧ ev c ix .v env1 = some (.dat k, env2) ∧ look env2 i = .own l ∧ setL l k d = some l' ∧ r = .nx (env2.set i (.own l')) := by
  simp only [ex] at h
  cases e1 : ev c e .v env with
  | none => rw [e1] at h; cases h
  | some oe =>
    obtain ⟨o, env1⟩ := oe
    rw [e1] at h
    simp only at h
    cases e2 : toD env1 o with
    | none => rw [e2] at h; cases h
    | some de =>
      obtain ⟨d, env2⟩ := de
      rw [e2] at h
      simp only at h
      cases e0 : look env2 i with
      | un => rw [e0] at h; cases h
      | val _ => rw [e0] at h; cases h
      | own l0 =>
        rw [e0] at h
        simp only at h
        cases e3 : ev c ix .v env2 with
        | none => rw [e3] at h; cases h
        | some ke =>
          obtain ⟨k, env3⟩ := ke
          rw [e3] at h
          cases k with
          | dat k =>
            simp only at h
            cases e4 : look env3 i with
            | own l =>
              rw [e4] at h
              simp only at h
              cases e5 : setL l k d with
              | none => rw [e5] at h; cases h
              | some l' =>
                rw [e5] at h
                cases h
                exact ⟨d, env2, k, env3, l, l', l0, e2, e0, e3, e4, e5, rfl⟩
            | un => rw [e4] at h; cases h
            | val _ => rw [e4] at h; cases h
          | _ => cases h
theorem noslice {e : E} {G : Ck} {l h st : Option Expr} {p : Pos} (k : ckE e G (.Slice l h st p) = true) : False := by
  cases e <;> first | (cases k; done) | (rename_i src _ _; cases src <;> cases k)
theorem ss_sub {i : Nat} {ix e : E} : SS c W (.sub i ix e) := fun X G kp O x hx => by
  cases x <;> first | (cases hx; done) | skip
  rename_i ts v pos
  match ts, hx with
  | [.Subscript (.Name x p) ix' sp], hx =>
    obtain ⟨k1, k2⟩ := and2 (show (ldOk G i x && ckE ix G ix' && ckE e G v) = true from hx)
    obtain ⟨k3, k4⟩ := and2 k1
    have hs : swapsWithSole [.Subscript (.Name x p) ix' sp] v pos.line X.env = pure false := by
      rcases nocomp k2 with ⟨elt, gs, sc, cpos, rfl⟩ | hc
      · rfl
      · unfold swapsWithSole
        exact sw_none hc
    have ha : ∀ v, assign (.Subscript (.Name x p) ix' sp) X.env v = (do
        let ov ← holding [v] (eval (.Name x p) X.env)
        let iv ← holding [v, ov] (eval ix' X.env)
        standAt sp
        holding [v, ov, iv] (setItem ov iv v)
        release [v, ov, iv] []) := by
      intro v
      cases ix' <;> first | rfl | exact (noslice k4).elim
    refine PS.imp (ps_asg (pe_frz (se e X G O _ k2).1) (pg_sub (ld_of O k3) (se ix X G O _ k4).1 set_list ha) hs rfl rfl) fun D σ H ⟨env, r, E, hf, q⟩ => ?_
    obtain ⟨d, env1, k, env2, l, l', l0, e1, e0, e2, e3, e4, rfl⟩ := sub_inv hf
    refine ⟨env, d, env1, E, e1, fun v H1 E1 t1 r1 => ?_⟩
    -- the name's object, at its reading
    have key : ∀ {H2 : Hp}, EnvR X.K H2 σ env2 → Tr σ H1 env1 σ H2 env2 → ∃ p0, σ[i]? = some (some (.ref p0)) ∧ OwnAt X.K H2 l p0 := fun E2 t2 => by
      obtain ⟨p0, g1, g2, _⟩ := E2.own e3
      exact ⟨p0, g1, g2⟩
    have hσ : ∃ x0, σ[i]? = some (some x0) := by
      obtain ⟨p0, g1, _⟩ := E1.own e0
      exact ⟨_, g1⟩
    obtain ⟨x0, hx0⟩ := hσ
    refine ⟨x0, hx0, env1, _, env2, E1, e2, fun kv H2 p2 => ?_⟩
    obtain ⟨p0, g1, g2⟩ := key p2.e p2.t
    rw [hx0] at g1
    cases g1
    cases l with
    | lst ds =>
      cases k with
      | int kk =>
        obtain ⟨j, ej, rfl⟩ := Option.map_eq_some_iff.mp e4
        obtain ⟨vs, hv, rv⟩ := g2
        have hkv : kv = .int kk := p2.r
        have r2 : Rp X.K H2 d v := r1.mono (p2.t.kp E1)
        refine ⟨p0, vs, kk, j, rfl, hkv, hv, by rw [rv.length]; exact ej, ?_⟩
        obtain ⟨kq, oq⟩ := upd_own (p := p0) hv (rv.set r2 j)
        have pe := mut_end (r := .non) (v := .non) p2.e (t1.trans p2.t) e3 hx0 (fun b n => upd_ne n) oq ⟨vs, hv, rv⟩ rfl
        exact q σ _ (.ex pe.e pe.t)
      | _ => cases e4
    | _ => exact g2.elim
end
end PF
/-! PF13: the other statements; loops. -/
namespace PF
open PySem PySem.Spec PyProof.Rows L2
section
variable {c : Cl} {W : Nat}
theorem ss_aug {op : Op2} {i : Nat} {e : E} : SS c W (.aug op i e) := fun X G kp O x hx => by
  cases x <;> first | (cases hx; done) | skip
  rename_i tg o v pos
  cases tg <;> first | (cases hx; done) | skip
  rename_i x p
  obtain ⟨k1, k2⟩ := and2 hx
  obtain ⟨k3, k4⟩ := and2 k1
  obtain ⟨k5, k6⟩ := and2 k3
  obtain ⟨k7, k8⟩ := and2 k5
  have hk : kp.contains i = false := by simpa using k8
  have eo : op.py = o := of_decide_eq_true k6
  subst eo
  obtain ⟨n1, n2, n3⟩ := loc_of O k7
  have inv : ∀ {env : Env} {r : R}, ex c W (.aug op i e) env = some r → ∃ o env1 y x z x1, look env i = .val x1 ∧ ev c e .v env = some (o, env1) ∧ view env1 o = some y ∧ look env1 i = .val x ∧ aug2 op x y = some z ∧ r = .nx (env1.set i (.val z)) := by
    intro env r h
    simp only [ex] at h
    cases e0 : look env i with
    | un => rw [e0] at h; cases h
    | own _ => rw [e0] at h; cases h
    | val x1 =>
      rw [e0] at h
      simp only at h
      cases e1 : ev c e .v env with
      | none => rw [e1] at h; cases h
      | some oe =>
        obtain ⟨o, env1⟩ := oe
        rw [e1] at h
        simp only at h
        cases e2 : view env1 o with
        | none => rw [e2] at h; cases h
        | some y =>
          cases e3 : look env1 i with
          | un => rw [e2, e3] at h; cases h
          | own _ => rw [e2, e3] at h; cases h
          | val x =>
            rw [e2, e3] at h
            simp only at h
            cases e4 : aug2 op x y with
            | none => rw [e4] at h; cases h
            | some z => rw [e4] at h; cases h; exact ⟨o, env1, y, x, z, x1, rfl, rfl, e2, e3, e4, rfl⟩
  have back : ∀ {D : Ends} {σ : St} {H : Hp} {f : Int → Int → Int}, (∀ a b z, aug2 op a b = some z → ∃ m n, a = .int m ∧ b = .int n ∧ z = .int (f m n)) → tS X.K kp (ex c W (.aug op i e)) D σ H → tAug i (tE X.K (ev c e .v)) (ipI f) D σ H := by
    intro D σ H f hf0 h
    obtain ⟨env, r, E, hf, q⟩ := h
    obtain ⟨o, env1, y, x, z, x1, e0, e1, e2, e3, e4, rfl⟩ := inv hf
    obtain ⟨m, n, rfl, rfl, rfl⟩ := hf0 _ _ _ e4
    obtain ⟨x0, hx0, _⟩ := E.val e0
    refine ⟨x0, hx0, env, o, env1, E, e1, fun v H1 p1 => ?_⟩
    obtain ⟨v0, g1, g2⟩ := p1.e.val e3
    rw [hx0] at g1
    cases g1
    refine ⟨m, n, g2, (p1.r.view p1.e e2).int, ?_⟩
    exact q _ _ (store_end hk (po_dat (d := .int (f m n)) p1.e p1.t rfl) rfl fun _ z => nomatch z)
  rw [Bool.or_eq_true, decide_eq_true_eq, decide_eq_true_eq] at k4
  rcases k4 with rfl | rfl
  · refine PS.imp (ps_aug O.nd n1 n2 (se e X G O _ k2).1 ip_add n3) fun D σ H h => back (fun a b z hz => ?_) h
    cases a <;> cases b <;> first | (cases hz; done) | (cases hz; exact ⟨_, _, rfl, rfl, rfl⟩)
  · refine PS.imp (ps_aug O.nd n1 n2 (se e X G O _ k2).1 ip_sub n3) fun D σ H h => back (fun a b z hz => ?_) h
    cases a <;> cases b <;> first | (cases hz; done) | (cases hz; exact ⟨_, _, rfl, rfl, rfl⟩)
def isStar : Expr → Bool
  | .Starred .. => true
  | _ => false
theorem sw_par {env : PySem.Env} {x y : Str} {px py : Pos} {kt k2 : Nat} {pt pt2 : Pos} {a' b' : Expr} (kx : env.kindOf x = some .local) (ky : env.kindOf y = some .local) (hb : env.blockKind = .function) (l1 : (py.line == px.line) = true) (hxy : x ≠ y)
    (s1 : isStar a' = false) (s2 : isStar b' = false) (f0 : ([a', b'].all (foldedForSure 8)) = false) (f1 : ([a', b'].all (constantsAlone 8)) = false) :
    swappedStores [.Tuple [.Name x px, .Name y py] kt pt] (.Tuple [a', b'] k2 pt2) env = pure (some [x, y]) := by
  have e1 : ([a', b'].any fun | .Starred .. => true | _ => false) = false := by
    show (isStar a' || (isStar b' || false)) = false
    rw [s1, s2]; rfl
  have l1' : py.line = px.line := eq_of_beq l1
  have hyx : (y == x) = false := beq_eq_false_iff_ne.mpr (Ne.symm hxy)
  unfold swappedStores
  simp only [hb, f0, f1]
  refine (if_neg (by simp)).trans ?_
  refine (if_neg (fun z => Bool.false_ne_true (e1.symm.trans z))).trans ?_
  simp [kx, ky, l1', Expr.pos, List.eraseDups_cons, hyx]
theorem nostar {e : E} {G : Ck} {x : Expr} (h : ckE e G x = true) : isStar x = false := by
  cases x <;> first | rfl | (exfalso; cases e <;> first | (cases h; done) | (rename_i src _ _; cases src <;> cases h))
theorem ss_par {i j : Nat} {a b : E} : SS c W (.par i j a b) := fun X G kp O x hx => by
  cases x <;> first | (cases hx; done) | skip
  rename_i ts v pos
  match ts, v, hx with
  | [.Tuple [.Name x px, .Name y py] kt pt], .Tuple [a', b'] k2 pt2, hx =>
    obtain ⟨h1, c1⟩ := and2 (show (decide (G.N[i]? = some x) && decide (G.N[j]? = some y) && decide (i ≠ j) && !kp.contains i && !kp.contains j && decide (G.sc.names.lookup x = some .local) && decide (G.sc.names.lookup y = some .local) &&
      (px.line == py.line) && decide (x ≠ y) && !([a', b'].all (foldedForSure 8)) && !([a', b'].all (constantsAlone 8)) && ckE a G a' && ckE b G b') = true from hx)
    obtain ⟨h2, c2⟩ := and2 h1
    obtain ⟨h3, c3⟩ := and2 h2
    obtain ⟨h4, c4⟩ := and2 h3
    obtain ⟨h5, c5⟩ := and2 h4
    obtain ⟨h6, c6⟩ := and2 h5
    obtain ⟨h7, c7⟩ := and2 h6
    obtain ⟨h8, c8⟩ := and2 h7
    obtain ⟨h9, c9⟩ := and2 h8
    obtain ⟨h10, c10⟩ := and2 h9
    obtain ⟨h11, c11⟩ := and2 h10
    obtain ⟨c13, c12⟩ := and2 h11
    have hi : X.N[i]? = some x := by rw [O.n]; exact of_decide_eq_true c13
    have hj : X.N[j]? = some y := by rw [O.n]; exact of_decide_eq_true c12
    have hij : i ≠ j := of_decide_eq_true c11
    have lx : X.env.scope.names.lookup x = some .local := by rw [O.sc]; exact of_decide_eq_true c8
    have ly : X.env.scope.names.lookup y = some .local := by rw [O.sc]; exact of_decide_eq_true c7
    have hxy : x ≠ y := of_decide_eq_true c5
    have hpa : PA X [a', b'] (tDs X.K (evds c [a, b])) := pa_ds O (ses [a, b]) (show ckEs [a, b] G [a', b'] = true by
      show (ckE a G a' && (ckE b G b' && true)) = true
      rw [c2, c1]; rfl)
    have hb : X.env.blockKind = .function := by unfold Env.blockKind; rw [O.sc, O.kd]; rfl
    have l1 : (py.line == px.line) = true := by
      have e : px.line = py.line := eq_of_beq c6
      rw [e]; exact beq_self_eq_true _
    have hw : swappedStores [.Tuple [.Name x px, .Name y py] kt pt] (.Tuple [a', b'] k2 pt2) X.env = pure (some [x, y]) :=
      sw_par lx ly hb l1 hxy (nostar c2) (nostar c1) ((Bool.not_eq_true' _).mp c4) ((Bool.not_eq_true' _).mp c3)
    refine PS.imp (ps_par O.calm O.nd hi hj hij lx ly hpa hw rfl) fun D σ H ⟨env, r, E, hf, q⟩ => ?_
    simp only [ex] at hf
    cases e1 : evds c [a, b] env with
    | none => rw [e1] at hf; cases hf
    | some de =>
      obtain ⟨ds, env1⟩ := de
      rw [e1] at hf
      match ds, hf, e1 with
      | [d, e], hf, e1 =>
        cases hf
        refine ⟨env, [d, e], env1, E, e1, fun vs H1 E1 t1 r1 => ?_⟩
        obtain ⟨v, r, rfl, rv, rr⟩ := r1
        obtain ⟨w, r', rfl, rw', rr'⟩ := rr
        have : r' = [] := rr'
        subst this
        refine ⟨v, w, rfl, q _ H1 ?_⟩
        have p1 := store_end (kp := kp) (i := i) (by simpa using c10) (po_dat E1 t1 rv) rfl fun _ z => nomatch z
        have p2 := store_end (kp := kp) (i := j) (by simpa using c9) (po_dat p1.e .refl rw') rfl fun _ z => nomatch z
        exact p1.trans p2
end
end PF
/-! PF14: loops; all statements; defs. -/
namespace PF
open PySem PySem.Spec PyProof.Rows L2
section
variable {c : Cl} {W : Nat}
/-- a turn of a while -/
def whlF (c : Cl) (W : Nat) (t : E) (b : List S) : Env → Option (Option R × Env) := fun env => match ev c t .t env with
  | some (.dat (.bl false), env) => some (some (.nx env), env)
  | some (.dat (.bl true), env) => match exs c W b env with
    | none => none
    | some (.nx env) => some (none, env)
    | some (.brk env) => some (some (.nx env), env)
    | some (.ret o env) => some (some (.ret o env), env)
  | _ => none
theorem whl_inv {t : E} {b : List S} {m : Nat} {env : Env} {r : R} (h : whlLoop (whlF c W t b) m env = some r) : ∃ m' env1, m = m' + 1 ∧
    ((ev c t .t env = some (.dat (.bl false), env1) ∧ r = .nx env1) ∨ (ev c t .t env = some (.dat (.bl true), env1) ∧ ∃ rb, exs c W b env1 = some rb ∧
      ((∃ env2, rb = .nx env2 ∧ whlLoop (whlF c W t b) m' env2 = some r) ∨ (∃ env2, rb = .brk env2 ∧ r = .nx env2) ∨ ∃ o env2, rb = .ret o env2 ∧ r = .ret o env2))) := by
  cases m with
  | zero => cases h
  | succ m =>
    unfold whlLoop at h
    cases e1 : ev c t .t env with
    | none => simp only [whlF, e1] at h; cases h
    | some oe =>
      obtain ⟨o, env1⟩ := oe
      cases o with
      | dat d =>
        cases d with
        | bl k =>
          cases k with
          | false =>
            simp only [whlF, e1] at h
            cases h
            exact ⟨m, env1, rfl, .inl ⟨rfl, rfl⟩⟩
          | true =>
            cases e2 : exs c W b env1 with
            | none => simp only [whlF, e1, e2] at h; cases h
            | some rb =>
              refine ⟨m, env1, rfl, .inr ⟨rfl, rb, e2, ?_⟩⟩
              cases rb with
              | nx env2 =>
                simp only [whlF, e1, e2] at h
                exact .inl ⟨env2, rfl, h⟩
              | brk env2 =>
                simp only [whlF, e1, e2] at h
                cases h
                exact .inr (.inl ⟨env2, rfl, rfl⟩)
              | ret o env2 =>
                simp only [whlF, e1, e2] at h
                cases h
                exact .inr (.inr ⟨o, env2, rfl, rfl⟩)
        | _ => simp only [whlF, e1] at h; cases h
      | _ => simp only [whlF, e1] at h; cases h
theorem EndR.ret' {K : PySem.W.Frag} {kp : List Nat} {σ σ1 σ2 : St} {H H1 H2 : Hp} {env env1 env2 : Env} {o : Opd} {D : Ends} (q : EndR K kp σ H env D (.ret o env2)) (p1 : PoS K kp σ H env σ1 H1 env1) {v : V} (p2 : PoS K kp σ1 H1 env1 σ2 H2 env2) (r : OpdR K H2 σ2 env2 o v)
    (n : ∀ d p, o = .own d → v = .ref p → H1 p = none ∨ OwnA env1 σ1 p) : D.rt v H2 :=
  q v σ2 H2 (p1.trans p2) r fun d p e1 e2 => by
    rcases n d p e1 e2 with z | z
    · exact p1.t.fresh z
    · exact (p1.t.s p z).symm
theorem ss_whl {t : E} {b : List S} (hb : SSs c W b) : SS c W (.whl t b) := fun X G kp O x hx => by
  cases x <;> first | (cases hx; done) | skip
  rename_i t' b' el pos
  cases el <;> first | (cases hx; done) | skip
  obtain ⟨k1, k2⟩ := and2 hx
  refine PS.imp (ps_while O.px (se t X G O _ k1).2 (hb X G kp O _ k2)) fun D σ H ⟨env, r, E, hf, q⟩ => ?_
  have hf' : whlLoop (whlF c W t b) W env = some r := hf
  refine ⟨fun m σ1 H1 => ∃ env1, whlLoop (whlF c W t b) m env1 = some r ∧ PoS X.K kp σ H env σ1 H1 env1, ⟨W, env, hf', .refl E⟩, ?_⟩
  rintro m σ1 H1 ⟨env1, hl, p1⟩
  obtain ⟨m', env2, rfl, hcase⟩ := whl_inv hl
  rcases hcase with ⟨e1, rfl⟩ | ⟨e1, rb, e2, hcase⟩
  · refine ⟨env1, false, env2, p1.e, e1, fun H2 E2 t2 => ?_⟩
    dsimp only
    rw [if_neg Bool.false_ne_true]
    exact q σ1 H2 (p1.trans (.ex E2 t2))
  · refine ⟨env1, true, env2, p1.e, e1, fun H2 E2 t2 => ?_⟩
    dsimp only
    rw [if_pos rfl]
    have p2 := p1.trans (PoS.ex (kp := kp) E2 t2)
    refine ⟨fun σ' H' => ∃ env', whlLoop (whlF c W t b) m' env' = some r ∧ PoS X.K kp σ H env σ' H' env', fun σ' H' n => ⟨m', Nat.lt_succ_self _, n⟩, env2, rb, E2, e2, ?_⟩
    rcases hcase with ⟨env3, rfl, hl'⟩ | ⟨env3, rfl, rfl⟩ | ⟨o, env3, rfl, rfl⟩
    · exact fun σ' H' p3 => ⟨env3, hl', p2.trans p3⟩
    · exact fun σ' H' p3 => q σ' H' (p2.trans p3)
    · exact fun v σ' H' p3 r n => EndR.ret' q p2 p3 r n
/-- a turn of a for -/
def forF (c : Cl) (W : Nat) (tg : Tg) (b : List S) : D → Env → Option R := fun x env => match bindT env tg x with
  | none => none
  | some env => exs c W b env
theorem for_inv {tg : Tg} {b : List S} {x : D} {xs : List D} {env : Env} {r : R} (h : forLoop (forF c W tg b) (x :: xs) env = some r) :
    ∃ env1 rb, bindT env tg x = some env1 ∧ exs c W b env1 = some rb ∧ ((∃ env2, rb = .nx env2 ∧ forLoop (forF c W tg b) xs env2 = some r) ∨ (∃ env2, rb = .brk env2 ∧ r = .nx env2) ∨ ∃ o env2, rb = .ret o env2 ∧ r = .ret o env2) := by
  unfold forLoop at h
  cases e1 : bindT env tg x with
  | none => simp only [forF, e1] at h; cases h
  | some env1 =>
    cases e2 : exs c W b env1 with
    | none => simp only [forF, e1, e2] at h; cases h
    | some rb =>
      refine ⟨env1, rb, rfl, e2, ?_⟩
      cases rb with
      | nx env2 =>
        simp only [forF, e1, e2] at h
        exact .inl ⟨env2, rfl, h⟩
      | brk env2 =>
        simp only [forF, e1, e2] at h
        cases h
        exact .inr (.inl ⟨env2, rfl, rfl⟩)
      | ret o env2 =>
        simp only [forF, e1, e2] at h
        cases h
        exact .inr (.inr ⟨o, env2, rfl, rfl⟩)
theorem ss_for {tg : Tg} {src : E} {b : List S} (hb : SSs c W b) : SS c W (.for tg src b) := fun X G kp O x hx => by
  cases x <;> first | (cases hx; done) | skip
  rename_i tg' src' b' el pos
  cases el <;> first | (cases hx; done) | skip
  obtain ⟨k1, k2⟩ := and2 hx
  obtain ⟨k3, k4⟩ := and2 k1
  obtain ⟨k5, k6⟩ := and2 k3
  refine PS.imp (ps_for O.px O.calm (pi_of O (se2 src).1 (se2 src).2 k4 tg') (pg_of O k5) (hb X G kp O _ k2) (fun x => nofold k4 X.env x)) fun D σ H ⟨env, r, E, hf, q⟩ => ?_
  have hkp : ∀ j ∈ kp, j ∉ tg.is := fun j hj z => by
    have := List.all_eq_true.mp k6 j z
    rw [List.contains_iff_mem.mpr hj] at this
    cases this
  simp only [ex] at hf
  cases e1 : ev c src .i env with
  | none => rw [e1] at hf; cases hf
  | some oe =>
    obtain ⟨o, env1⟩ := oe
    rw [e1] at hf
    cases o with
    | dat d =>
      cases d with
      | tup xs =>
        have hf' : forLoop (forF c W tg b) xs env1 = some r := hf
        refine ⟨env, xs, env1, E, e1, fun J H1 E1 t1 hJ => ?_⟩
        refine ⟨fun i m σ2 H2 => m = xs.length - i ∧ i ≤ xs.length ∧ ∃ env2, forLoop (forF c W tg b) (xs.drop i) env2 = some r ∧ PoS X.K kp σ H env σ2 H2 env2 ∧ Kp H1 H2, ⟨xs.length, by simp, Nat.zero_le _, env1, hf', .ex E1 t1, Kp.refl _⟩, ?_⟩
        rintro i m σ2 H2 ⟨rfl, hi, env2, hl, p2, kp2⟩
        by_cases hlt : i < xs.length
        · have hdrop : xs.drop i = xs[i] :: xs.drop (i + 1) := List.drop_eq_getElem_cons hlt
          rw [hdrop] at hl
          obtain ⟨env3, rb, e2, e3, hcase⟩ := for_inv hl
          refine .inr ⟨((hJ i H2 kp2).1 hlt).1, fun σ' H' => ∃ env', forLoop (forF c W tg b) (xs.drop (i + 1)) env' = some r ∧ PoS X.K kp σ H env σ' H' env' ∧ Kp H1 H', fun σ' H' ⟨env', n1, n2, n3⟩ => ⟨xs.length - (i + 1), by omega, rfl, hlt, env', n1, n2, n3⟩, fun x H' y => ?_⟩
          obtain ⟨e, d, hd, rd⟩ := ((hJ i H2 kp2).1 hlt).2 x H' y
          subst e
          have ed : xs[i] = d := by rw [List.getElem?_eq_getElem hlt] at hd; exact Option.some.inj hd
          rw [ed] at e2
          refine ⟨env2, d, env3, p2.e, rd, e2, fun σ3 E3 l3 s3 o3 => ?_⟩
          have p3 := p2.trans (⟨E3, ⟨fun b u e _ => e, fun p z => .inl (o3 p z)⟩, fun j hj => s3 j (hkp j hj)⟩ : PoS X.K kp σ2 H' env2 σ3 H' env3)
          refine ⟨env3, rb, E3, e3, ?_⟩
          rcases hcase with ⟨env4, rfl, hl'⟩ | ⟨env4, rfl, rfl⟩ | ⟨o, env4, rfl, rfl⟩
          · exact fun σ' H' p4 => ⟨env4, hl', p3.trans p4, kp2.trans (p4.t.kp E3)⟩
          · exact fun σ' H' p4 => q σ' H' (p3.trans p4)
          · exact fun v σ' H' p4 r n => EndR.ret' q p3 p4 r n
        · have e : i = xs.length := by omega
          subst e
          rw [List.drop_length] at hl
          cases hl
          exact .inl ⟨(hJ _ H2 kp2).2 rfl, q σ2 H2 p2⟩
      | _ => cases hf
    | _ => cases hf
mutual
theorem ss : ∀ s : S, SS c W s
  | .set i e => ss_set
  | .unp is e => ss_unp
  | .par i j a b => ss_par
  | .sub i ix e => ss_sub
  | .aug op i e => ss_aug
  | .expr e => ss_expr
  | .ret e => ss_ret
  | .ite t a b => ss_ite (sss a) (sss b)
  | .whl t b => ss_whl (sss b)
  | .for tg src b => ss_for (sss b)
  | .brk => ss_brk
  | .pass => ss_pass
  | .stop => ss_stop
theorem sss : ∀ l : List S, SSs c W l
  | [] => sss_nil
  | s :: l => sss_cons (ss s) (sss l)
end
end

/-! ### defs -/
/-- what the text says of a def: its statement, its names by slot -/
structure Sg where
  fd : Fd
  N : List Str
  ps : List Str
  st : Stmt
def sgs (l : List Sg) : List (Str × Nat) := l.map fun g => (g.fd.name, g.fd.ps)
def ckOf (bn : List Str) (l : List Sg) (g : Sg) : Ck := { N := g.N, sc := defScope g.st, st := fun _ => true, bn := bn, fns := sgs l }
/-- a def's body is what is told -/
def ckF (bn : List Str) (l : List Sg) (g : Sg) : Bool :=
  ckSs g.fd.body (ckOf bn l g) g.fd.keep (defBody g.st) && decide (g.ps.length = g.fd.ps) && decide (g.N.length = g.fd.n) && (g.fd.keep.all fun j => decide (j < g.fd.ps)) && decide (g.fd.ps ≤ g.fd.n)
/-- a def as it stands behind the top -/
structure FnAt (K : PySem.W.Frag) (mg : Str → Option Value) (g : Sg) : Prop where
  ok : ∃ (f : Addr) (fdt : FuncData), Fun K g.fd.name g.fd.name g.st f fdt ∧ mg g.fd.name = some (.ref f) ∧ Binds K fdt g.ps []
theorem finals_len (fd : Fd) (env : Env) : (finals fd env).length = fd.ps := by
  unfold finals; rw [List.length_map, List.length_range]
theorem callL_inv {prog : List Fd} {W k : Nat} {f : Str} {ss : List Slot} {o : Opd} {fs : List Slot} (h : callL prog W (k + 1) f ss = some (o, fs)) :
    ∃ fd, prog.find? (fun d => d.name == f) = some fd ∧ ss.length = fd.ps ∧ fd.ps ≤ fd.n ∧ ∃ env', fs = finals fd env' ∧ (∀ i, o ≠ .slot i) ∧
      ((o = .dat .non ∧ exs (callL prog W k) W fd.body (ss ++ List.replicate (fd.n - fd.ps) .un) = some (.nx env')) ∨ exs (callL prog W k) W fd.body (ss ++ List.replicate (fd.n - fd.ps) .un) = some (.ret o env')) := by
  simp only [callL] at h
  cases e1 : prog.find? (fun d => d.name == f) with
  | none => rw [e1] at h; cases h
  | some fd =>
    rw [e1] at h
    simp only at h
    by_cases hc : ss.length = fd.ps ∧ fd.ps ≤ fd.n
    · rw [if_pos hc] at h
      refine ⟨fd, rfl, hc.1, hc.2, ?_⟩
      cases e2 : exs (callL prog W k) W fd.body (ss ++ List.replicate (fd.n - fd.ps) .un) with
      | none => rw [e2] at h; cases h
      | some r =>
        rw [e2] at h
        cases r with
        | nx env' => cases h; exact ⟨env', rfl, (fun _ z => nomatch z), .inl ⟨rfl, rfl⟩⟩
        | brk env' => cases h
        | ret o' env' =>
          cases o' with
          | dat d => cases h; exact ⟨env', rfl, (fun _ z => nomatch z), .inr rfl⟩
          | own d => cases h; exact ⟨env', rfl, (fun _ z => nomatch z), .inr rfl⟩
          | slot i => cases h
    · rw [if_neg hc] at h; cases h
end PF
/-! PF15: the defs of a text keep what the evaluator tells. -/
namespace PF
open PySem PySem.Spec PyProof.Rows L2
section
variable {K : PySem.W.Frag} {H : Hp} {σ : St} {ss : Env}
theorem pad_get {m i : Nat} {s : Slot} (h : (ss ++ List.replicate m Slot.un)[i]? = some s) : (i < ss.length ∧ ss[i]? = some s) ∨ (ss.length ≤ i ∧ i < ss.length + m ∧ s = .un) := by
  by_cases hi : i < ss.length
  · rw [List.getElem?_append_left hi] at h; exact .inl ⟨hi, h⟩
  · rw [List.getElem?_append_right (by omega), List.getElem?_replicate] at h
    split at h
    · cases h; exact .inr ⟨by omega, by omega, rfl⟩
    · cases h
theorem pad_own {m : Nat} (hl : ss.length = σ.length) {p : Addr} : OwnA (ss ++ List.replicate m .un) (σ ++ List.replicate m none) p ↔ OwnA ss σ p := by
  constructor
  · rintro ⟨i, d, h1, h2⟩
    rcases pad_get h1 with ⟨hi, e⟩ | ⟨_, _, e⟩
    · rw [List.getElem?_append_left (by omega)] at h2
      exact ⟨i, d, e, h2⟩
    · cases e
  · rintro ⟨i, d, h1, h2⟩
    have hi : i < ss.length := (List.getElem?_eq_some_iff.mp h1).1
    exact ⟨i, d, by rw [List.getElem?_append_left hi]; exact h1, by rw [List.getElem?_append_left (by omega)]; exact h2⟩
theorem EnvR.pad (E : EnvR K H σ ss) (m : Nat) : EnvR K H (σ ++ List.replicate m none) (ss ++ List.replicate m .un) := by
  refine ⟨by rw [List.length_append, List.length_append, List.length_replicate, List.length_replicate, E.len], fun i s e => ?_, fun i j d e p h1 h2 h3 h4 => ?_⟩
  · rcases pad_get e with ⟨hi, e⟩ | ⟨h1, h2, rfl⟩
    · obtain ⟨x, e2, r⟩ := E.sl i s e
      exact ⟨x, by rw [List.getElem?_append_left (by rw [← E.len]; exact hi)]; exact e2, r⟩
    · have hl := E.len
      exact ⟨none, by rw [List.getElem?_append_right (by omega), List.getElem?_replicate, if_pos (by omega)], trivial⟩
  · have hl := E.len
    rcases pad_get h1 with ⟨hi, e1⟩ | ⟨_, _, e1⟩
    · rcases pad_get h2 with ⟨hj, e2⟩ | ⟨_, _, e2⟩
      · rw [List.getElem?_append_left (by omega)] at h3 h4
        exact E.dj i j d e p e1 e2 h3 h4
      · cases e2
    · cases e1
end
/-- the parameters at the end -/
theorem fin_ok {K : PySem.W.Frag} {fd : Fd} {vs : List V} {m : Nat} {H H' : Hp} {env0 env' : Env} {σ' : St} (hl : vs.length = fd.ps) (hk : ∀ j ∈ fd.keep, j < fd.ps) (p : PoS K fd.keep (vs.map some ++ List.replicate m none) H env0 σ' H' env') :
    EnvR K H' (vs.map some) (finals fd env') ∧ ∀ q, OwnA (finals fd env') (vs.map some) q → OwnA env' σ' q := by
  have get : ∀ {j : Nat} {s : Slot}, (finals fd env')[j]? = some s → j < fd.ps ∧ (s = .un ∨ (j ∈ fd.keep ∧ s = look env' j)) := fun {j s} e => by
    unfold finals at e
    rw [List.getElem?_map] at e
    cases h : (List.range fd.ps)[j]? with
    | none => rw [h] at e; cases e
    | some k =>
      rw [h] at e
      have hlt : j < fd.ps := by
        obtain ⟨q, _⟩ := List.getElem?_eq_some_iff.mp h
        rw [List.length_range] at q; exact q
      have hk' : k = j := by rw [List.getElem?_range hlt] at h; exact (Option.some.inj h).symm
      subst hk'
      refine ⟨hlt, ?_⟩
      simp only [Option.map_some, Option.some.injEq] at e
      by_cases hc : fd.keep.contains k = true
      · rw [if_pos hc] at e
        exact .inr ⟨List.contains_iff_mem.mp hc, e.symm⟩
      · rw [if_neg hc] at e
        exact .inl e.symm
  have kept : ∀ {j : Nat}, j ∈ fd.keep → σ'[j]? = (vs.map some)[j]? := fun {j} hj => by
    rw [p.k j hj, List.getElem?_append_left (by rw [List.length_map, hl]; exact hk j hj)]
  have own : ∀ {j : Nat} {d : D}, (finals fd env')[j]? = some (.own d) → j ∈ fd.keep ∧ env'[j]? = some (.own d) := fun {j d} e => by
    rcases (get e).2 with z | ⟨z1, z2⟩
    · cases z
    · exact ⟨z1, look_own z2.symm⟩
  refine ⟨⟨by rw [finals_len, List.length_map, hl], fun j s e => ?_, fun i j d e q h1 h2 h3 h4 => ?_⟩, fun q ⟨j, d, h1, h2⟩ => ?_⟩
  · obtain ⟨hlt, hs⟩ := get e
    have hv : j < (vs.map some).length := by rw [List.length_map, hl]; exact hlt
    rcases hs with rfl | ⟨hj, rfl⟩
    · exact ⟨_, List.getElem?_eq_getElem hv, trivial⟩
    · refine ⟨_, List.getElem?_eq_getElem hv, ?_⟩
      have e2 : σ'[j]? = some (vs.map some)[j] := by rw [kept hj]; exact List.getElem?_eq_getElem hv
      cases hs : look env' j with
      | un => trivial
      | val d =>
        obtain ⟨v, g1, g2⟩ := p.e.val hs
        rw [e2] at g1
        exact ⟨v, Option.some.inj g1, g2⟩
      | own d =>
        obtain ⟨v, g1, g2, _⟩ := p.e.own hs
        rw [e2] at g1
        exact ⟨v, Option.some.inj g1, g2⟩
  · obtain ⟨a1, a2⟩ := own h1
    obtain ⟨b1, b2⟩ := own h2
    rw [← kept a1] at h3
    rw [← kept b1] at h4
    exact p.e.dj i j d e q a2 b2 h3 h4
  · obtain ⟨a1, a2⟩ := own h1
    rw [← kept a1] at h2
    exact ⟨j, d, a2, h2⟩
section
variable {P : Program} {w : World} {K : PySem.W.Frag} {mg : Str → Option Value} {base : Heap}
/-- all that is asked of a text -/
structure TxtOk (K : PySem.W.Frag) (mg : Str → Option Value) (bn : List Str) (l : List Sg) : Prop where
  at_ : ∀ g ∈ l, FnAt K mg g
  sc : ∀ g ∈ l, FnScope g.N g.ps (defScope g.st)
  ck : ∀ g ∈ l, ckF bn l g = true
  nm : ∀ g ∈ l, (l.map (·.fd)).find? (fun d => d.name == g.fd.name) = some g.fd
  bn : ∀ x ∈ bn, mg x = none
theorem start_eq {N : List Str} {vs : List V} : L2.start N vs = vs.map some ++ List.replicate (N.length - vs.length) none := rfl
theorem fns_ok {bn : List Str} {l : List Sg} {W : Nat} (T : TxtOk K mg bn l) : ∀ (k : Nat), ∀ g ∈ l, ∃ (f : Addr) (fdt : FuncData), Fun K g.fd.name g.fd.name g.st f fdt ∧ mg g.fd.name = some (.ref f) ∧ PySem.W.keepIn K (.ref f) = true ∧ Binds K fdt g.ps [] ∧
    FnOk P w K mg base CX0 k f fdt g.ps (spC K (callL (l.map (·.fd)) W k) g.fd.name)
  | 0, g, hg => by
    obtain ⟨f, fdt, F, m, b⟩ := (T.at_ g hg).ok
    refine ⟨f, fdt, F, m, F.kp, b, ⟨fun vs H Q E h => ?_, fun A outer s H args us vs Q E hr e0 hb hv h => ?_⟩⟩
    · obtain ⟨ss, r, fs, _, e, _⟩ := h
      cases e
    · obtain ⟨ss, r, fs, _, e, _⟩ := h
      cases e
  | k + 1, g, hg => by
    obtain ⟨f, fdt, F, m, b⟩ := (T.at_ g hg).ok
    have S := T.sc g hg
    have hck := T.ck g hg
    obtain ⟨c1, c2⟩ := and2 hck
    obtain ⟨c3, c4⟩ := and2 c1
    obtain ⟨c5, c6⟩ := and2 c3
    obtain ⟨c7, c8⟩ := and2 c5
    have hps : g.ps.length = g.fd.ps := of_decide_eq_true c8
    have hN : g.N.length = g.fd.n := of_decide_eq_true c6
    have hkeep : ∀ j ∈ g.fd.keep, j < g.fd.ps := fun j hj => of_decide_eq_true (List.all_eq_true.mp c4 j hj)
    have hle : g.fd.ps ≤ g.fd.n := of_decide_eq_true c2
    refine ⟨f, fdt, F, m, F.kp, b, F.ok S (fun vs H Q E h => ?_) fun cdv A outer s H vs Q E hr h => ?_⟩
    · obtain ⟨ss, r, fs, E0, e, _⟩ := h
      obtain ⟨fd, e1, e2, _⟩ := callL_inv e
      rw [T.nm g hg] at e1
      cases e1
      have := E0.len
      rw [List.length_map] at this
      omega
    · obtain ⟨ss, r, fs, E0, e, q⟩ := h
      obtain ⟨fd, e1, e2, e3, env', rfl, hns, hend⟩ := callL_inv e
      rw [T.nm g hg] at e1
      cases e1
      have hvl : vs.length = g.fd.ps := by
        have := E0.len
        rw [List.length_map] at this
        omega
      have O : XOk (cxOf CX0 P w K mg base g.N g.fd.name (defScope g.st) f cdv A outer s H E).nox (ckOf bn l g) (callL (l.map (·.fd)) W k) := by
        refine ⟨rfl, S.nd, rfl, rfl, S.kind, fun _ _ => rfl, T.bn, ?_, fun f' n hf => ?_, PassesOwn.never⟩
        · have := hr.un
          show (A.deeper (envOfC g.fd.name (defScope g.st) s.heap.objs.size f cdv)).units + 65 < cLine
          omega
        · obtain ⟨g', hg', eg⟩ := List.mem_map.mp hf
          cases eg
          obtain ⟨f2, fdt2, _, m2, k2, b2, ok2⟩ := fns_ok T k g' hg'
          have hck' := T.ck g' hg'
          have hps' : g'.ps.length = g'.fd.ps := of_decide_eq_true (and2 (and2 (and2 (and2 hck').1).1).1).2
          exact ⟨f2, fdt2, g'.ps, k, m2, k2, b2, ok2, hr, hps'⟩
      refine ⟨_, sss (W := W) g.fd.body _ (ckOf bn l g) g.fd.keep O (defBody g.st) c7, ?_⟩
      have hm : g.N.length - vs.length = g.fd.n - g.fd.ps := by omega
      have E1 := E0.pad (g.fd.n - g.fd.ps)
      have st : L2.start g.N vs = vs.map some ++ List.replicate (g.fd.n - g.fd.ps) none := by rw [start_eq, hm]
      rw [st]
      have hl0 : ss.length = (vs.map some).length := E0.len
      have tr : ∀ {σ' : St} {H' : Hp}, PoS K g.fd.keep (vs.map some ++ List.replicate (g.fd.n - g.fd.ps) none) H (ss ++ List.replicate (g.fd.n - g.fd.ps) .un) σ' H' env' →
          EnvR K H' (vs.map some) (finals g.fd env') ∧ Tr (vs.map some) H ss (vs.map some) H' (finals g.fd env') ∧ ∀ q, OwnA (finals g.fd env') (vs.map some) q → OwnA env' σ' q := fun {σ' H'} p => by
        obtain ⟨f1, f2⟩ := fin_ok hvl hkeep p
        refine ⟨f1, ⟨fun b u e n => p.t.f b u e fun z => n ((pad_own hl0).mp z), fun q z => (p.t.s q (f2 q z)).imp (pad_own hl0).mp id⟩, f2⟩
      rcases hend with ⟨rfl, hend⟩ | hend
      · refine ⟨_, _, E1, hend, fun σ' H' p => ?_⟩
        obtain ⟨f1, f2, _⟩ := tr p
        exact q .non H' f1 f2 rfl hns fun _ _ z => nomatch z
      · refine ⟨_, _, E1, hend, fun v σ' H' p ro nr => ?_⟩
        obtain ⟨f1, f2, f3⟩ := tr p
        refine q v H' f1 f2 ?_ hns fun d p' e1 e2 => (nr d p' e1 e2).imp id (pad_own hl0).mp
        cases r with
        | dat d => exact ro
        | own d =>
          obtain ⟨p', e, oa, no⟩ := ro
          exact ⟨p', e, oa, fun z => no (f3 p' z)⟩
        | slot i => exact (hns i rfl).elim
end
end PF
/-! PF16: the head by data, the law's end. -/
namespace PF
open PySem PySem.Spec PyProof.Rows L2
/-! ### no list stands in the written part -/
def noList (K : PySem.W.Frag) : Bool := K.all fun p => match p.2.cls with
  | .type c => !decide (c = "list")
  | _ => true
theorem look_mem : ∀ {K : PySem.W.Frag} {a : Addr} {o : Obj}, K.lookup a = some o → (a, o) ∈ K
  | [], _, _, e => nomatch e
  | (b, p) :: r, a, o, e => by
    rw [List.lookup_cons] at e
    split at e
    · rename_i h
      cases e
      rw [show a = b from beq_iff_eq.mp h]
      exact List.mem_cons_self
    · exact List.mem_cons_of_mem _ (look_mem e)
theorem noList_no {K : PySem.W.Frag} (h : noList K = true) {a : Addr} {o : Obj} (e : K.lookup a = some o) (c : o.cls = .type "list") : False := by
  have h2 := List.all_eq_true.mp h _ (look_mem e)
  dsimp only at h2
  rw [c] at h2
  simp at h2
open He in
def hookN (n : Nat) (fa : List Fa) (fn : List DefD) : PySem.W.Hook where
  α := Bool × AlD
  obs := fun s => (noList (frG s.heap.get? (asD s.heap.get? n)), obsDG n fa fn s.heap.get?)
  val := fun _ => (true, valD fn)
  says := fun _ h => ∃ K : PySem.W.Frag, K.In h ∧ noList K = true ∧ SaysD fa fn K
  of := fun _ _ e => ⟨_, frG_in, congrArg (fun z : Bool × AlD => z.1) e, congrArg (fun z : Bool × AlD => z.2) e⟩
  keeps := fun _ _ _ ⟨K, hK, c⟩ k => ⟨K, PySem.W.Frag.In.keeps hK k, c⟩
open He in
def obN (n : Nat) (fa : List Fa) (fn : List DefD) (s : PySem.W.SharedT) : Bool × AlD := (noList (frG (HandSHeadRun.getT s) (asD (HandSHeadRun.getT s) n)), obsDG n fa fn (HandSHeadRun.getT s))
open He in
theorem obN_eq (n : Nat) (fa : List Fa) (fn : List DefD) (s : PySem.W.SharedT) : obN n fa fn s = (hookN n fa fn).obs s.abs := by
  have e : HandSHeadRun.getT s = s.abs.heap.get? := funext (HandSHeadRun.getT_eq s)
  unfold obN
  rw [e] <;> rfl
/-! ### the data of a text -/
def Sg.dfd (g : Sg) : He.DefD := ⟨(g.fd.name, none), g.fd.name, g.fd.name, defArgs g.st, defBody g.st, defScope g.st, [], []⟩
def fnL (l : List Sg) : List He.DefD := l.map Sg.dfd
def faL (bn : List Str) (l : List Sg) : List He.Fa := (l.map fun g => .glo g.fd.name) ++ bn.map .free
def BindH (g : Sg) : Prop := ∀ (kV doc pm : Value) (an : Option Addr) (cdv ct : Value) (us : List Value), us.length = g.ps.length →
  bindArgs (PySem.W.fnOf g.fd.name g.fd.name (defArgs g.st) (defBody g.st) (defScope g.st) .none kV doc pm an cdv ct) ⟨us, []⟩ = pure (g.ps.zip us)
structure GOk (bn : List Str) (l : List Sg) (g : Sg) : Prop where
  sc : FnScope g.N g.ps (defScope g.st)
  ck : ckF bn l g = true
  nm : (l.map (·.fd)).find? (fun d => d.name == g.fd.name) = some g.fd
  bd : BindH g
section
variable {K : PySem.W.Frag} {h : Heap} {mg : Str → Option Value} {bn : List Str} {l : List Sg}
theorem fnAt_of (X : K.In h) (G : h.Ns mainGlobals mg) (c : He.SaysD (faL bn l) (fnL l) K) (B : ∀ g ∈ l, BindH g) {g : Sg} (hg : g ∈ l) : FnAt K mg g := by
  obtain ⟨i, hi⟩ := List.mem_iff_getElem?.mp hg
  have lt : i < l.length := (List.getElem?_eq_some_iff.mp hi).1
  obtain ⟨fdt, F⟩ := c.def_ i (d := g.dfd) (by unfold fnL; rw [List.getElem?_map, hi]; rfl)
  have gl := He.glo_ok X G (c.fact i (f := .glo g.fd.name) (by unfold faL; rw [List.getElem?_append_left (by rw [List.length_map]; exact lt), List.getElem?_map, hi]; rfl))
  obtain ⟨oc, od, dV, kV, doc, pm, an, cdv, ct, osl, e, lk, hcd, hD, hK⟩ := F.ex
  have e0 : dV = .none := by
    rcases hD with ⟨_, z⟩ | ⟨z, _⟩
    · exact z
    · exact absurd rfl z
  subst e0
  exact ⟨_, fdt, ⟨⟨oc, od, kV, doc, pm, an, cdv, ct, osl, e, lk, hcd⟩, F.kp⟩, gl, F.bindsN (B g hg)⟩
theorem bn_of (X : K.In h) (G : h.Ns mainGlobals mg) (c : He.SaysD (faL bn l) (fnL l) K) {x : Str} (hx : x ∈ bn) : mg x = none := by
  obtain ⟨i, hi⟩ := List.mem_iff_getElem?.mp hx
  exact He.free_ok X G (c.fact (l.length + i) (f := .free x) (by unfold faL; rw [List.getElem?_append_right (by rw [List.length_map]; omega), List.length_map, Nat.add_sub_cancel_left, List.getElem?_map, hi]; rfl))
end
/-- THE END: the law answers True wherever the evaluator does -/
theorem pf_walk {rl : PySem.W.OpenLaw} {n k W : Nat} {q : Program} {loose : List Str} {XP : (Str → Option Value) → Heap → Prop} {d : DefRec} {bn : List Str} {l : List Sg} {law : Sg} {x : Str}
    (hn : rl.most = some n) (hn2 : n ≤ sizeLine) (hdf : d.params.defaults = []) (hr : Room k callerA) (T : ∀ g ∈ l, GOk bn l g) (hl : law ∈ l) (hx : law.ps = [x]) (hd : d.name = law.fd.name)
    (main : ∀ ns : List Int, ns.length ≤ n → ∃ fs, callL (l.map (·.fd)) W k law.fd.name [.val (.lst (ns.map .int))] = some (.dat (.bl true), fs)) :
    PySem.W.WalkO q loose XP (hookN 4 (faL bn l) (fnL l)).says rl.row.toRowW d [] (fun f vs => PySem.call f vs) := by
  refine L2.walk_ofE (n := n) (k := k) (x := x) (CX := L2.CX0) hn hn2 hdf hr ?F (fun _ _ _ _ z => z)
  intro w mg fa h Y G hmg0
  obtain ⟨K, KX, nl, c⟩ := Y
  have hmg : mg law.fd.name = some (.ref fa) := by rw [← hd]; exact hmg0
  obtain ⟨f, fdt, F, m, _⟩ := fnAt_of KX G c (fun g hg => (T g hg).bd) hl
  have hf : f = fa := by rw [m] at hmg; cases hmg; rfl
  subst hf
  obtain ⟨oc, od, kV, doc, pm, an, cdv, ct, osl, e, lk, hcd⟩ := F.ex
  refine ⟨K, fdt, spC K (callL (l.map (·.fd)) W k) law.fd.name, KX, fun s u => ?_, fun H a ns hlen hO hS => ?_, fun base hK hN => ?_⟩
  · subst e
    have := (T law hl).bd kV doc pm an cdv ct [u] (by rw [hx]; rfl)
    rw [hx] at this
    exact .of_eq this
  · obtain ⟨fs, hc⟩ := main ns hlen
    have ha : ∃ o, H a = some (.frz o (.lst (ns.map V.int))) := by
      rcases hS with (h1 | h1) | ⟨o, its, n, h1, h2, _⟩
      · rcases hO a with z | ⟨o, xs, z⟩
        · rw [z] at h1; cases h1
        · rw [z] at h1; cases h1
      · exact h1
      · exact (noList_no nl h1 h2).elim
    obtain ⟨o, ha⟩ := ha
    refine ⟨_, _, _, ⟨rfl, fun i s e => ?_, fun i j d e p h1 _ _ _ => ?_⟩, hc, fun v H' _ _ r _ _ => r⟩
    · cases i with
      | zero =>
        cases e
        exact ⟨_, rfl, .ref a, rfl, a, o, _, rfl, ha, Rps.of_ints ns⟩
      | succ i => cases i <;> cases e
    · cases i with
      | zero => cases h1
      | succ i => cases i <;> cases h1
  · obtain ⟨f2, fdt2, F2, m2, k2, b2, ok⟩ := fns_ok (P := rl.prog) (w := w) (base := base) (bn := bn) (W := W) (K := K) (mg := mg) (l := l)
      ⟨fun g hg => fnAt_of hK hN c (fun g hg => (T g hg).bd) hg, fun g hg => (T g hg).sc, fun g hg => (T g hg).ck, fun g hg => (T g hg).nm, fun x hx => bn_of hK hN c hx⟩ k law hl
    have e1 : f2 = f := by rw [m] at m2; cases m2; rfl
    subst e1
    obtain ⟨oc', od', kV', doc', pm', an', cdv', ct', osl', e', lk', hcd'⟩ := F2.ex
    have e2 : fdt2 = fdt := by rw [lk] at lk'; cases lk'; rfl
    subst e2
    rw [hx] at ok
    exact ok
end PF
/-! PFX: tools for reasoning over the evaluator. -/
namespace PF
open PySem
theorem shp_int (i : Int) : shp (.int i) = true := by rfl
theorem shp_bl (i : Bool) : shp (.bl i) = true := by rfl
theorem shp_non : shp .non = true := by rfl
theorem deq_int (i j : Int) : deq (.int i) (.int j) = decide (i = j) := by
  simp only [deq, D.py, PyData.eqv]; by_cases h : i = j <;> simp [h]
theorem deq_bl (i j : Bool) : deq (.bl i) (.bl j) = decide (i = j) := by
  cases i <;> cases j <;> rfl
theorem ev_rng {c : Cl} {es : List E} {ds xs : List D} {env env1 : Env} (h : evds c es env = some (ds, env1)) (hr : rngD ds = some xs) : ev c (.rng es) .i env = some (.dat (.tup xs), env1) := by
  simp only [ev, h, hr]
theorem ln1 : (1 ≤ line) = True := by simp [line]
theorem ln2 : (2 ≤ line) = True := by simp [line]
theorem ln3 : (3 ≤ line) = True := by simp [line]
theorem ln4 : (4 ≤ line) = True := by simp [line]
theorem rg1 : List.range 1 = [0] := rfl
theorem rg2 : List.range 2 = [0, 1] := rfl
theorem rg3 : List.range 3 = [0, 1, 2] := rfl
theorem rg4 : List.range 4 = [0, 1, 2, 3] := rfl
/-- a suite comes to an end that is wanted -/
@[irreducible] def Goes (c : Cl) (W : Nat) (ss : List S) (env : Env) (Φ : R → Prop) : Prop := match exs c W ss env with | some r => Φ r | none => False
def Turn (P B : Env → Prop) (Φ : R → Prop) : R → Prop
  | .nx env => P env
  | .brk env => B env
  | .ret o env => Φ (.ret o env)
def outR (fd : Fd) : R → Option (Opd × List Slot)
  | .ret (.dat d) env => some (Opd.dat d, finals fd env)
  | .ret (.own d) env => some (Opd.own d, finals fd env)
  | .nx env => some (Opd.dat .non, finals fd env)
  | _ => none
theorem callL_at {prog : List Fd} {W k : Nat} {f : Str} {ss : List Slot} (fd : Fd) (h : prog.find? (fun d => d.name == f) = some fd) (hl : (decide (ss.length = fd.ps) && decide (fd.ps ≤ fd.n)) = true) {Ψ : Opd → List Slot → Prop}
    (hb : Goes (callL prog W k) W fd.body (ss ++ List.replicate (fd.n - fd.ps) .un) (fun r => match outR fd r with | some (o, fs) => Ψ o fs | none => False)) : ∃ o fs, callL prog W (k + 1) f ss = some (o, fs) ∧ Ψ o fs := by
  simp only [Bool.and_eq_true, decide_eq_true_eq] at hl
  simp only [callL, h, if_pos hl]
  unfold Goes at hb
  cases e : exs (callL prog W k) W fd.body (ss ++ List.replicate (fd.n - fd.ps) .un) with
  | none => rw [e] at hb; exact hb.elim
  | some r =>
    rw [e] at hb
    dsimp only at hb
    cases r with
    | nx env => exact ⟨_, _, rfl, hb⟩
    | brk env => exact hb.elim
    | ret o env => cases o with
      | dat d => exact ⟨_, _, rfl, hb⟩
      | own d => exact ⟨_, _, rfl, hb⟩
      | slot i => exact hb.elim
theorem callL_eq {prog : List Fd} {W k : Nat} {f : Str} {ss : List Slot} (fd : Fd) (h : prog.find? (fun d => d.name == f) = some fd) (hl : (decide (ss.length = fd.ps) && decide (fd.ps ≤ fd.n)) = true) {o : Opd} {fs : List Slot}
    (hb : Goes (callL prog W k) W fd.body (ss ++ List.replicate (fd.n - fd.ps) .un) (fun r => outR fd r = some (o, fs))) : callL prog W (k + 1) f ss = some (o, fs) := by
  obtain ⟨o', fs', e, h1, h2⟩ := callL_at (W := W) (k := k) (prog := prog) (ss := ss) (Ψ := fun o' fs' => o' = o ∧ fs' = fs) fd h hl (by
    unfold Goes at hb ⊢
    split at hb
    · rename_i r er
      show match outR fd r with | some (o_1, fs_1) => o_1 = o ∧ fs_1 = fs | none => False
      rw [show outR fd r = some (o, fs) from hb]; exact ⟨rfl, rfl⟩
    · exact hb.elim)
  rw [e, h1, h2]
section
variable {c : Cl} {W : Nat} {ss : List S} {env : Env} {Φ : R → Prop}
theorem go_nil (h : Φ (.nx env)) : Goes c W [] env Φ := by
  unfold Goes; simp only [exs]; exact h
theorem go_step {s : S} (env1 : Env) (e : ex c W s env = some (.nx env1)) (h : Goes c W ss env1 Φ) : Goes c W (s :: ss) env Φ := by
  unfold Goes at h ⊢; simp only [exs, e]; exact h
theorem Goes.imp {Ψ : R → Prop} (h : Goes c W ss env Ψ) (i : ∀ r, Ψ r → Φ r) : Goes c W ss env Φ := by
  unfold Goes at h ⊢
  split at h
  · exact i _ h
  · exact h
theorem exs_app {c : Cl} {W : Nat} : ∀ (a b : List S) (env : Env), exs c W (a ++ b) env = match exs c W a env with | some (.nx env) => exs c W b env | r => r
  | [], b, env => by simp only [List.nil_append, exs]
  | s :: a, b, env => by
    simp only [List.cons_append, exs]
    cases e : ex c W s env with
    | none => rfl
    | some r => cases r with
      | nx env1 => simp only; exact exs_app a b env1
      | brk env1 => rfl
      | ret o env1 => rfl
theorem go_ite {t : E} {a b : List S} (bb : Bool) (env1 : Env) (e : ev c t .t env = some (.dat (.bl bb), env1)) (h1 : bb = true → Goes c W (a ++ ss) env1 Φ) (h2 : bb = false → Goes c W (b ++ ss) env1 Φ) : Goes c W (.ite t a b :: ss) env Φ := by
  unfold Goes at h1 h2 ⊢
  simp only [exs, ex, e]
  rw [exs_app] at h1 h2
  cases bb with
  | true => exact h1 rfl
  | false => exact h2 rfl
/-- a suite in a loop's turn -/
theorem goes_turn {b : List S} {P B : Env → Prop} (h : Goes c W b env (Turn P B Φ)) : (∃ env', exs c W b env = some (.nx env') ∧ P env') ∨ (∃ env', exs c W b env = some (.brk env') ∧ B env') ∨ ∃ o env', exs c W b env = some (.ret o env') ∧ Φ (.ret o env') := by
  unfold Goes at h
  cases e : exs c W b env with
  | none => rw [e] at h; exact h.elim
  | some r =>
    rw [e] at h
    cases r with
    | nx env' => exact .inl ⟨env', rfl, h⟩
    | brk env' => exact .inr (.inl ⟨env', rfl, h⟩)
    | ret o env' => exact .inr (.inr ⟨o, env', rfl, h⟩)
theorem go_for {tg : Tg} {src : E} {b : List S} (xs : List D) (env0 : Env) (P : Nat → Env → Prop) (e : ev c src .i env = some (.dat (.tup xs), env0)) (h0 : P 0 env0)
    (hs : ∀ i x env, xs[i]? = some x → P i env → ∃ env1, bindT env tg x = some env1 ∧ Goes c W b env1 (Turn (P (i + 1)) (fun env => Goes c W ss env Φ) Φ)) (hq : ∀ env, P xs.length env → Goes c W ss env Φ) : Goes c W (.for tg src b :: ss) env Φ := by
  have H : ∀ (xs : List D) (P : Nat → Env → Prop) (env0 : Env), P 0 env0 → (∀ i x env, xs[i]? = some x → P i env → ∃ env1, bindT env tg x = some env1 ∧ Goes c W b env1 (Turn (P (i + 1)) (fun env => Goes c W ss env Φ) Φ)) → (∀ env, P xs.length env → Goes c W ss env Φ) →
      match forLoop (fun x env => match bindT env tg x with | none => none | some env => exs c W b env) xs env0 with
      | some (.nx env) => Goes c W ss env Φ
      | some (.brk _) => False
      | some (.ret o env) => Φ (.ret o env)
      | none => False := by
    intro xs
    induction xs with
    | nil => intro P env0 h0 _ hq; exact hq _ h0
    | cons x xs ih =>
      intro P env0 h0 hs hq
      obtain ⟨env1, e1, h1⟩ := hs 0 x env0 rfl h0
      rcases goes_turn h1 with ⟨env', e2, p⟩ | ⟨env', e2, p⟩ | ⟨o, env', e2, p⟩
      · simp only [forLoop, e1, e2]
        exact ih (fun i => P (i + 1)) env' p (fun i y env hy hp => hs (i + 1) y env (by simpa using hy) hp) hq
      · simp only [forLoop, e1, e2]; exact p
      · simp only [forLoop, e1, e2]; exact p
  have := H xs P env0 h0 hs hq
  unfold Goes
  simp only [exs, ex, e]
  cases e2 : forLoop (fun x env => match bindT env tg x with | none => none | some env => exs c W b env) xs env0 with
  | none => rw [e2] at this; exact this.elim
  | some r =>
    rw [e2] at this
    cases r with
    | nx env' =>
      have t2 : Goes c W ss env' Φ := this
      unfold Goes at t2
      exact t2
    | brk env' => exact this.elim
    | ret o env' => exact this
def wF (c : Cl) (W : Nat) (t : E) (b : List S) : Env → Option (Option R × Env) := fun env => match ev c t .t env with
  | some (.dat (.bl false), env) => some (some (.nx env), env)
  | some (.dat (.bl true), env) => match exs c W b env with
    | none => none
    | some (.nx env) => some (none, env)
    | some (.brk env) => some (some (.nx env), env)
    | some (.ret o env) => some (some (.ret o env), env)
  | _ => none
theorem ex_whl {t : E} {b : List S} : ex c W (.whl t b) env = whlLoop (wF c W t b) W env := by
  simp only [ex]; rfl
theorem go_whl {t : E} {b : List S} (P : Nat → Env → Prop) (m : Nat) (hm : m < W) (h0 : P m env)
    (hs : ∀ m env, P m env → ∃ bb env1, ev c t .t env = some (.dat (.bl bb), env1) ∧ (bb = true → Goes c W b env1 (Turn (fun env' => ∃ m', m' < m ∧ P m' env') (fun env => Goes c W ss env Φ) Φ)) ∧ (bb = false → Goes c W ss env1 Φ)) : Goes c W (.whl t b :: ss) env Φ := by
  have H : ∀ (V m : Nat) (env : Env), m < V → P m env →
      match whlLoop (wF c W t b) V env with
      | some (.nx env) => Goes c W ss env Φ
      | some (.brk _) => False
      | some (.ret o env) => Φ (.ret o env)
      | none => False := by
    intro V
    induction V with
    | zero => intro m env h; omega
    | succ V ih =>
      intro m env hV hp
      obtain ⟨bb, env1, e1, h1, h2⟩ := hs m env hp
      cases bb with
      | false => simp only [whlLoop, wF, e1]; exact h2 rfl
      | true =>
        rcases goes_turn (h1 rfl) with ⟨env', e2, m', lt, p⟩ | ⟨env', e2, p⟩ | ⟨o, env', e2, p⟩
        · simp only [whlLoop, wF, e1, e2]; exact ih m' env' (by omega) p
        · simp only [whlLoop, wF, e1, e2]; exact p
        · simp only [whlLoop, wF, e1, e2]; exact p
  have := H W m env hm h0
  unfold Goes
  simp only [exs, ex_whl]
  split at this
  · rename_i e2; rw [e2]; unfold Goes at this; exact this
  · exact this.elim
  · rename_i e2; rw [e2]; exact this
  · exact this.elim
end
theorem lcT_inv {f : D → Env → Option (Option D × Env)} (P : Nat → List D → Env → Prop) : ∀ {xs : List D} {env : Env}, P 0 [] env → (∀ i x ds env, xs[i]? = some x → P i ds env → ∃ r env', f x env = some (r, env') ∧ P (i + 1) (ds ++ r.toList) env') →
    ∃ ds env', lcLoop f xs env = some (ds, env') ∧ P xs.length ds env' := by
  suffices H : ∀ (xs : List D) (P : Nat → List D → Env → Prop) (env : Env), P 0 [] env → (∀ i x ds env, xs[i]? = some x → P i ds env → ∃ r env', f x env = some (r, env') ∧ P (i + 1) (ds ++ r.toList) env') →
    ∃ ds env', lcLoop f xs env = some (ds, env') ∧ P xs.length ds env' from fun {xs env} => H xs P env
  intro xs
  induction xs with
  | nil => intro P env h0 _; exact ⟨[], env, rfl, h0⟩
  | cons x xs ih =>
    intro P env h0 hs
    obtain ⟨r, env1, e1, h1⟩ := hs 0 x [] env rfl h0
    rw [List.nil_append] at h1
    obtain ⟨ds, env2, e2, h2⟩ := ih (fun i ds env => P (i + 1) (r.toList ++ ds) env) env1 (by simpa using h1) fun i y ds env hy hp => by
      obtain ⟨r2, env', e, q⟩ := hs (i + 1) y (r.toList ++ ds) env (by simpa using hy) hp
      exact ⟨r2, env', e, by simpa using q⟩
    refine ⟨r.toList ++ ds, env2, ?_, by simpa using h2⟩
    cases r with
    | none => simp only [lcLoop, e1]; simpa using e2
    | some d => simp only [lcLoop, e1, e2]; rfl
/-- a comprehension's turn -/
def lcT (c : Cl) (own : List Nat) (tg : Tg) (cond : List E) (elt : E) : D → Env → Option (Option D × Env) := fun x env => match bindT (wipeE env own) tg x with
  | none => none
  | some env => match evAnd c cond .t env with
    | some (.dat (.bl true), env) => match ev c elt .v env with
      | none => none
      | some (o, env) => match toD env o with
        | some (d, env) => some (some d, env)
        | none => none
    | some (.dat (.bl false), env) => some (none, env)
    | _ => none
theorem ev_lc0 {c : Cl} {own : List Nat} {tg : Tg} {src elt : E} {cond : List E} {env : Env} : ev c (.lc own tg src cond elt) .v env = match ev c src .i env with
    | some (.dat (.tup xs), env) => match lcLoop (lcT c own tg cond elt) xs env with
      | some (ds, env') => if ds.length ≤ line then some (.own (.lst ds), backE env env' own) else none
      | none => none
    | _ => none := by
  simp only [ev, fin]; rfl
theorem ev_lc {c : Cl} {own : List Nat} {tg : Tg} {src elt : E} {cond : List E} {env : Env} (xs : List D) (env0 : Env) (P : Nat → List D → Env → Prop) (e : ev c src .i env = some (.dat (.tup xs), env0)) (h0 : P 0 [] env0)
    (hs : ∀ i x ds env, xs[i]? = some x → P i ds env → ∃ r env', lcT c own tg cond elt x env = some (r, env') ∧ P (i + 1) (ds ++ r.toList) env') :
    ∃ ds env', P xs.length ds env' ∧ (ds.length ≤ line → ev c (.lc own tg src cond elt) .v env = some (.own (.lst ds), backE env0 env' own)) := by
  obtain ⟨ds, env', h1, h2⟩ := lcT_inv P h0 hs
  refine ⟨ds, env', h2, fun hl => ?_⟩
  rw [ev_lc0]
  simp only [e, h1, if_pos hl]
end PF
/-! PFY: put together what expressions give. -/
namespace PF
open PySem
section
variable {c : Cl} {W : Nat} {ss : List S} {env env1 env2 : Env} {Φ : R → Prop} {e : E} {d : D}
theorem go_ret (h : ev c e .v env = some (.dat d, env1)) (q : Φ (.ret (.dat d) env1)) : Goes c W (.ret e :: ss) env Φ := by
  unfold Goes; simp only [exs, ex, h, giveOut]; exact q
theorem go_retO (h : ev c e .v env = some (.own d, env1)) (q : Φ (.ret (.own d) env1)) : Goes c W (.ret e :: ss) env Φ := by
  unfold Goes; simp only [exs, ex, h, giveOut]; exact q
theorem go_setD {i : Nat} (h : ev c e .v env = some (.dat d, env1)) (q : Goes c W ss (env1.set i (.val d)) Φ) : Goes c W (.set i e :: ss) env Φ :=
  go_step _ (by simp only [ex, h, store]) q
theorem go_setO {i : Nat} (h : ev c e .v env = some (.own d, env1)) (q : Goes c W ss (env1.set i (.own d)) Φ) : Goes c W (.set i e :: ss) env Φ :=
  go_step _ (by simp only [ex, h, store]) q
/-- a test that raises no alarm -/
theorem go_pass {t : E} {a : List S} (h : ev c t .t env = some (.dat (.bl false), env1)) (q : Goes c W ss env1 Φ) : Goes c W (.ite t a [] :: ss) env Φ :=
  go_ite false env1 h (fun z => nomatch z) fun _ => q
theorem ev_tuple {xs : List D} (h : ev c e .v env = some (.own (.lst xs), env1)) : ev c (.blt .tuple [e]) .v env = some (.dat (.tup xs), env1) := by
  simp only [ev, evs, h, fin, views, view, bltD]
theorem ev_list {xs : List D} (h : ev c e .v env = some (.dat (.tup xs), env1)) : ev c (.blt .list [e]) .v env = some (.own (.lst xs), env1) := by
  simp only [ev, evs, h, fin, views, view, bltD]
theorem ev_sum {xs : List D} {ns : List Int} (h : ev c e .v env = some (.own (.lst xs), env1)) (hn : intsD xs = some ns) : ev c (.blt .sum [e]) .v env = some (.dat (.int ns.sum), env1) := by
  simp only [ev, evs, h, fin, views, view, bltD, hn, Option.map_some]
theorem ev_max {xs : List D} {n : Int} {ns : List Int} (h : ev c e .v env = some (.own (.lst xs), env1)) (hn : intsD xs = some (n :: ns)) : ev c (.blt .max [e]) .v env = some (.dat (.int (maxI n ns)), env1) := by
  simp only [ev, evs, h, fin, views, view, bltD, hn]
theorem ev_len {xs : List D} (h : ev c e .v env = some (.dat (.tup xs), env1)) : ev c (.blt .len [e]) .v env = some (.dat (.int xs.length), env1) := by
  simp only [ev, evs, h, fin, views, view, bltD]
theorem ev_lenO {xs : List D} (h : ev c e .v env = some (.own (.lst xs), env1)) : ev c (.blt .len [e]) .v env = some (.dat (.int xs.length), env1) := by
  simp only [ev, evs, h, fin, views, view, bltD]
/-- [0] + a list -/
theorem ev_cons0 {xs : List D} {i : Int} (h : ev c e .v env = some (.own (.lst xs), env1)) (hl : xs.length + 1 ≤ line) : ev c (.bin .add (.lst [.int i]) e) .v env = some (.own (.lst (.int i :: xs)), env1) := by
  have l1 : 1 ≤ line := by unfold line; omega
  have l2 : 1 + xs.length ≤ line := by omega
  simp [ev, evds, fin, h, view, op2, toD, l1, l2]
theorem ev_call1 {f : Str} {o : Opd} {fs : List Slot} (h : ev c e .v env = some (.dat d, env1)) (hc : c f [.val d] = some (o, fs)) : ev c (.call f [e]) .v env = some (o, env1) := by
  simp only [ev, evs, h, lend, hc, fin]
  cases fs <;> rfl
theorem ev_call1O {f : Str} {o : Opd} {fs : List Slot} (h : ev c e .v env = some (.own d, env1)) (hc : c f [.own d] = some (o, fs)) : ev c (.call f [e]) .v env = some (o, env1) := by
  simp only [ev, evs, h, lend, hc, fin]
  cases fs <;> rfl
theorem ev_call2 {f : Str} {e' : E} {d' : D} {o : Opd} {fs : List Slot} (h : ev c e .v env = some (.dat d, env1)) (h' : ev c e' .v env1 = some (.dat d', env2)) (hc : c f [.val d, .val d'] = some (o, fs)) : ev c (.call f [e, e']) .v env = some (o, env2) := by
  simp only [ev, evs, h, h', lend, hc, fin]
  match fs with
  | [] => rfl
  | [_] => rfl
  | _ :: _ :: _ => rfl
theorem ev_call3 {f : Str} {e' e2 : E} {d' d2 : D} {env3 : Env} {o : Opd} {fs : List Slot} (h : ev c e .v env = some (.dat d, env1)) (h' : ev c e' .v env1 = some (.dat d', env2)) (h2 : ev c e2 .v env2 = some (.dat d2, env3)) (hc : c f [.val d, .val d', .val d2] = some (o, fs)) : ev c (.call f [e, e', e2]) .v env = some (o, env3) := by
  simp only [ev, evs, h, h', h2, lend, hc, fin]
  match fs with
  | [] => rfl
  | [_] => rfl
  | [_, _] => rfl
  | _ :: _ :: _ :: _ => rfl
/-- a call that is lent the list of a name -/
theorem ev_callS2 {f : Str} {i : Nat} {d d' : D} {o : Opd} {s : Slot} {fs : List Slot} (hi : look env i = .own d) (h' : ev c e .v env = some (.dat d', env1)) (hi1 : look env1 i = .own d) (hc : c f [.own d, .val d'] = some (o, s :: fs)) : ev c (.call f [.var i, e]) .v env = some (o, (env1.set i .un).set i s) := by
  simp only [ev, evs, hi, h', lend, hi1, hc, fin]
  cases fs <;> rfl
theorem ev_not {b : Bool} (h : ev c e .t env = some (.dat (.bl b), env1)) : ev c (.not e) .t env = some (.dat (.bl (!b)), env1) := by
  simp [ev, fin, h, view, truth]
theorem ev_tv (hv : ev c e .v env = some (.dat (.bl true), env1)) (ht : ev c e .t env = fin .t (ev c e .v env)) : ev c e .t env = some (.dat (.bl true), env1) := by
  rw [ht, hv]; rfl
theorem call_t {f : Str} {es : List E} (h : ev c (.call f es) .v env = some (.dat (.bl true), env1)) : ev c (.call f es) .t env = some (.dat (.bl true), env1) := by
  have : ev c (.call f es) .t env = fin .t (ev c (.call f es) .v env) := by simp only [ev, fin]
  rw [this, h]; rfl
theorem call_n {f : Str} {es : List E} (h : ev c (.call f es) .v env = some (.dat (.bl true), env1)) : ev c (.not (.call f es)) .t env = some (.dat (.bl false), env1) := ev_not (call_t h)
theorem or_two {a b : E} (ha : ev c a .t env = some (.dat (.bl false), env1)) (hb : ev c b .t env1 = some (.dat (.bl false), env2)) : ev c (.or [a, b]) .t env = some (.dat (.bl false), env2) := by
  simp [ev, evOr, ha, hb, fin, view, truth, Md.tv]
theorem or_three {a b g : E} {env3 : Env} (ha : ev c a .t env = some (.dat (.bl false), env1)) (hb : ev c b .t env1 = some (.dat (.bl false), env2)) (hg : ev c g .t env2 = some (.dat (.bl false), env3)) : ev c (.or [a, b, g]) .t env = some (.dat (.bl false), env3) := by
  simp [ev, evOr, ha, hb, hg, fin, view, truth, Md.tv]
end
section
variable {c : Cl} {env env1 env2 : Env}
theorem ev_var {i : Nat} {d : D} (h : look env i = .val d) : ev c (.var i) .v env = some (.dat d, env) := by simp only [ev, fin, h]
theorem ev_ci {i : Int} : ev c (.int i) .v env = some (.dat (.int i), env) := by simp only [ev, fin]
theorem ev_bin {op : Op2} {a b : E} {d d' : D} {r : Opd} (ha : ev c a .v env = some (.dat d, env1)) (hb : ev c b .v env1 = some (.dat d', env2)) (ho : op2 op d d' = some r) : ev c (.bin op a b) .v env = some (r, env2) := by
  simp only [ev, fin, ha, hb, view, ho]
theorem ev_cmp {op : Cm} {a b : E} {d d' : D} {r : Bool} (ha : ev c a .v env = some (.dat d, env1)) (hb : ev c b .v env1 = some (.dat d', env2)) (ho : cm op d d' = some r) : ev c (.cmp op a b) .v env = some (.dat (.bl r), env2) := by
  simp only [ev, fin, ha, hb, view, ho]
theorem ev_cmpT {op : Cm} {a b : E} {d d' : D} {r : Bool} (ha : ev c a .v env = some (.dat d, env1)) (hb : ev c b .v env1 = some (.dat d', env2)) (ho : cm op d d' = some r) : ev c (.cmp op a b) .t env = some (.dat (.bl r), env2) := by
  simp only [ev, fin, ha, hb, view, ho, truth]
theorem ev_andV {a b : E} {p q : Bool} (ha : ev c a .v env = some (.dat (.bl p), env)) (hb : ev c b .v env = some (.dat (.bl q), env)) : ev c (.and [a, b]) .v env = some (.dat (.bl (p && q)), env) := by
  cases p <;> cases q <;> simp [ev, evAnd, ha, hb, fin, Md.tv]
theorem ev_orV {a b : E} {p q : Bool} (ha : ev c a .v env = some (.dat (.bl p), env)) (hb : ev c b .v env = some (.dat (.bl q), env)) : ev c (.or [a, b]) .v env = some (.dat (.bl (p || q)), env) := by
  cases p <;> cases q <;> simp [ev, evOr, ha, hb, fin, Md.tv]
theorem ev_idx {a b : E} {d d' r : D} (ha : ev c a .v env = some (.dat d, env1)) (hb : ev c b .v env1 = some (.dat d', env2)) (ho : idxD d d' = some r) : ev c (.idx a b) .v env = some (.dat r, env2) := by
  simp only [ev, fin, ha, hb, view, ho]
theorem ev_int1 {a : E} {i : Int} (ha : ev c a .v env = some (.dat (.int i), env1)) : ev c (.blt .int [a]) .v env = some (.dat (.int i), env1) := by
  simp only [ev, evs, fin, ha, views, view, bltD]
theorem ev_walk {i : Nat} {xs : List D} (h : look env i = .val (.lst xs)) : ev c (.var i) .i env = some (.dat (.tup xs), env) := by simp only [ev, fin, h, itemsOf, toD]
theorem ev_walkT {i : Nat} {xs : List D} (h : look env i = .val (.tup xs)) : ev c (.var i) .i env = some (.dat (.tup xs), env) := by simp only [ev, fin, h, itemsOf, toD]
theorem ev_walkO {i : Nat} {xs : List D} (h : look env i = .own (.lst xs)) : ev c (.var i) .i env = some (.dat (.tup xs), env.set i (.val (.lst xs))) := by simp only [ev, fin, h, itemsOf, toD]
end
/-! ### comprehensions -/
theorem lcT_wipe {c : Cl} {own : List Nat} {tg : Tg} {cond : List E} {elt : E} {x : D} {env env0 : Env} (h : wipeE env own = wipeE env0 own) : lcT c own tg cond elt x env = lcT c own tg cond elt x env0 := by
  unfold lcT; rw [h]
theorem back1 {env0 env' : Env} {i : Nat} (h : wipeE env' [i] = wipeE env0 [i]) : backE env0 env' [i] = env0 := by
  simp only [wipeE, backE] at h ⊢
  have e : env'.set i (look env0 i) = (env'.set i .un).set i (look env0 i) := by rw [List.set_set]
  rw [e, h, List.set_set]
  apply List.ext_getElem?
  intro j
  rw [List.getElem?_set]
  by_cases hj : i = j
  · subst hj
    by_cases hl : i < env0.length
    · simp [hl, look]
    · simp [hl]
  · simp [hj]
/-- a comprehension over one name that changes nothing else -/
theorem ev_lc1 {c : Cl} {i : Nat} {src elt : E} {cond : List E} {env : Env} (xs : List D) (env0 : Env) (g : D → Option D) (e : ev c src .i env = some (.dat (.tup xs), env0)) (hl : xs.length ≤ line)
    (h : ∀ x ∈ xs, lcT c [i] (.nm i) cond elt x env0 = some (g x, env0.set i (.val x))) : ev c (.lc [i] (.nm i) src cond elt) .v env = some (.own (.lst (xs.filterMap g)), env0) := by
  have key : ∀ (ys : List D) (env1 : Env), (∀ x ∈ ys, x ∈ xs) → wipeE env1 [i] = wipeE env0 [i] → ∃ env', lcLoop (lcT c [i] (.nm i) cond elt) ys env1 = some (ys.filterMap g, env') ∧ wipeE env' [i] = wipeE env0 [i] := by
    intro ys
    induction ys with
    | nil => intro env1 _ hw; exact ⟨env1, rfl, hw⟩
    | cons y ys ih =>
      intro env1 hm hw
      have e1 := (lcT_wipe (x := y) hw).trans (h y (hm y List.mem_cons_self))
      obtain ⟨env', h1, h2⟩ := ih (env0.set i (.val y)) (fun x hx => hm x (List.mem_cons_of_mem _ hx)) (by simp [wipeE])
      refine ⟨env', ?_, h2⟩
      cases hg : g y with
      | none => rw [hg] at e1; simp only [lcLoop, e1, h1, List.filterMap_cons, hg]
      | some d => rw [hg] at e1; simp only [lcLoop, e1, h1, List.filterMap_cons, hg]
  obtain ⟨env', h1, h2⟩ := key xs env0 (fun _ h => h) rfl
  rw [ev_lc0]
  simp only [e, h1, if_pos (Nat.le_trans (List.length_filterMap_le _ _) hl), back1 h2]
theorem ev_lcm {c : Cl} {i : Nat} {src elt : E} {env : Env} {α : Type} (as : List α) (enc f : α → D) (env0 : Env) (e : ev c src .i env = some (.dat (.tup (as.map enc)), env0)) (hl : as.length ≤ line)
    (h : ∀ a ∈ as, lcT c [i] (.nm i) [] elt (enc a) env0 = some (some (f a), env0.set i (.val (enc a)))) : ev c (.lc [i] (.nm i) src [] elt) .v env = some (.own (.lst (as.map f)), env0) := by
  have key : ∀ (ys : List α) (env1 : Env), (∀ x ∈ ys, x ∈ as) → wipeE env1 [i] = wipeE env0 [i] → ∃ env', lcLoop (lcT c [i] (.nm i) [] elt) (ys.map enc) env1 = some (ys.map f, env') ∧ wipeE env' [i] = wipeE env0 [i] := by
    intro ys
    induction ys with
    | nil => intro env1 _ hw; exact ⟨env1, rfl, hw⟩
    | cons y ys ih =>
      intro env1 hm hw
      have e1 := (lcT_wipe (x := enc y) hw).trans (h y (hm y List.mem_cons_self))
      obtain ⟨env', h1, h2⟩ := ih (env0.set i (.val (enc y))) (fun x hx => hm x (List.mem_cons_of_mem _ hx)) (by simp [wipeE])
      exact ⟨env', by simp only [List.map_cons, lcLoop, e1, h1], h2⟩
  obtain ⟨env', h1, h2⟩ := key as env0 (fun _ h => h) rfl
  rw [ev_lc0]
  simp only [e, h1, List.length_map, if_pos hl, back1 h2]
/-- a comprehension with a state -/
theorem ev_lcP {c : Cl} {i : Nat} {src elt : E} {env : Env} {α : Type} (as : List α) (enc f : α → D) (env0 : Env) (P : Env → Prop) (e : ev c src .i env = some (.dat (.tup (as.map enc)), env0)) (hl : as.length ≤ line) (h0 : P env0)
    (h : ∀ a ∈ as, ∀ env, P env → ∃ env', lcT c [i] (.nm i) [] elt (enc a) env = some (some (f a), env') ∧ P env') : ∃ env', P env' ∧ ev c (.lc [i] (.nm i) src [] elt) .v env = some (.own (.lst (as.map f)), backE env0 env' [i]) := by
  have key : ∀ (ys : List α) (env1 : Env), (∀ x ∈ ys, x ∈ as) → P env1 → ∃ env', lcLoop (lcT c [i] (.nm i) [] elt) (ys.map enc) env1 = some (ys.map f, env') ∧ P env' := by
    intro ys
    induction ys with
    | nil => intro env1 _ hw; exact ⟨env1, rfl, hw⟩
    | cons y ys ih =>
      intro env1 hm hw
      obtain ⟨env2, e1, p2⟩ := h y (hm y List.mem_cons_self) env1 hw
      obtain ⟨env', h1, h2⟩ := ih env2 (fun x hx => hm x (List.mem_cons_of_mem _ hx)) p2
      exact ⟨env', by simp only [List.map_cons, lcLoop, e1, h1], h2⟩
  obtain ⟨env', h1, h2⟩ := key as env0 (fun _ h => h) h0
  refine ⟨env', h2, ?_⟩
  rw [ev_lc0]
  simp only [e, h1, List.length_map, if_pos hl]
/-- one turn with no test -/
theorem lcT1 {c : Cl} {i : Nat} {elt : E} {x d : D} {env0 : Env} (h : ev c elt .v (env0.set i (.val x)) = some (.dat d, env0.set i (.val x))) : lcT c [i] (.nm i) [] elt x env0 = some (some d, env0.set i (.val x)) := by
  simp only [lcT, wipeE, bindT, List.set_set, evAnd, h, toD]
theorem lcT_t {c : Cl} {i : Nat} {t elt : E} {x d : D} {env env1 env' : Env} (hc : ev c t .t (env.set i (.val x)) = some (.dat (.bl true), env1)) (h : ev c elt .v env1 = some (.dat d, env')) : lcT c [i] (.nm i) [t] elt x env = some (some d, env') := by
  simp only [lcT, wipeE, bindT, List.set_set, evAnd, hc, h, toD]
theorem lcT_f {c : Cl} {i : Nat} {t elt : E} {x : D} {env env1 : Env} (hc : ev c t .t (env.set i (.val x)) = some (.dat (.bl false), env1)) : lcT c [i] (.nm i) [t] elt x env = some (none, env1) := by
  simp only [lcT, wipeE, bindT, List.set_set, evAnd, hc]
theorem lcT2 {c : Cl} {i : Nat} {elt : E} {x d : D} {env env' : Env} (h : ev c elt .v (env.set i (.val x)) = some (.dat d, env')) : lcT c [i] (.nm i) [] elt x env = some (some d, env') := by
  simp only [lcT, wipeE, bindT, List.set_set, evAnd, h, toD]
theorem ev_lc2_0 {c : Cl} {own vs1 : List Nat} {tg tg1 : Tg} {src src1 elt : E} {cond cond1 : List E} {env : Env} : ev c (.lc2 own tg src cond vs1 tg1 src1 cond1 elt) .v env = match ev c src .i env with
    | some (.dat (.tup xs), env) => match lcLoop2 (fun x env => match bindT (wipeE env own) tg x with
        | none => none
        | some env => match evAnd c cond .t env with
          | some (.dat (.bl true), env) => match ev c src1 .i env with
            | some (.dat (.tup ys), env) => lcLoop (lcT c vs1 tg1 cond1 elt) ys env
            | _ => none
          | some (.dat (.bl false), env) => some ([], env)
          | _ => none) xs env with
      | some (ds, env') => if ds.length ≤ line then some (.own (.lst ds), backE env env' own) else none
      | none => none
    | _ => none := by
  simp only [ev, fin]; rfl
end PF
namespace K01
open PySem PF
def d_digits_of : Fd := { name := Str.ofString "digits_of", ps := 1, n := 2, keep := [], body := [.set 1 (.lst []), .whl (.cmp .gt (.var 0) (.int 0)) [.expr (.mut .append 1 [(.bin .mod (.var 0) (.int 2))]), .set 0 (.bin .fdiv (.var 0) (.int 2))], .ret (.blt .tuple [(.var 1)])] }
def d_number_of : Fd := { name := Str.ofString "number_of", ps := 1, n := 3, keep := [0], body := [.set 1 (.int 0), .for (.nm 2) (.rev (.var 0)) [.set 1 (.bin .add (.bin .mul (.int 2) (.var 1)) (.var 2))], .ret (.var 1)] }
def d_digit_there : Fd := { name := Str.ofString "digit_there", ps := 2, n := 2, keep := [0, 1], body := [.ret (.ite (.cmp .lt (.var 1) (.blt .len [(.var 0)])) (.idx (.var 0) (.var 1)) (.int 0))] }
def d_letters_for : Fd := { name := Str.ofString "letters_for", ps := 1, n := 1, keep := [0], body := [.ret (.bin .shl (.int 1) (.var 0))] }
def d_digits_in : Fd := { name := Str.ofString "digits_in", ps := 2, n := 3, keep := [0, 1], body := [.ret (.blt .tuple [(.lc [2] (.nm 2) (.rng [(.var 1)]) [] (.bin .mod (.bin .shr (.var 0) (.var 2)) (.int 2)))])] }
def d_letter_of : Fd := { name := Str.ofString "letter_of", ps := 1, n := 2, keep := [0], body := [.ret (.blt .sum [(.lc [1] (.nm 1) (.rng [(.blt .len [(.var 0)])]) [] (.bin .shl (.idx (.var 0) (.var 1)) (.var 1)))])] }
def d_picked_letter : Fd := { name := Str.ofString "picked_letter", ps := 2, n := 3, keep := [0, 1], body := [.ret (.call (Str.ofString "letter_of") [(.blt .tuple [(.lc [2] (.nm 2) (.var 1) [] (.bin .mod (.bin .shr (.var 0) (.var 2)) (.int 2)))])])] }
def d_letter_with : Fd := { name := Str.ofString "letter_with", ps := 3, n := 4, keep := [0, 1, 2], body := [.set 3 (.bin .shl (.int 1) (.var 1)), .ret (.bin .add (.bin .add (.bin .mod (.var 0) (.var 3)) (.bin .mul (.var 2) (.var 3))) (.bin .mul (.bin .mul (.bin .fdiv (.var 0) (.var 3)) (.var 3)) (.int 2)))] }
def d_letter_without : Fd := { name := Str.ofString "letter_without", ps := 2, n := 3, keep := [0, 1], body := [.set 2 (.bin .shl (.int 1) (.var 1)), .ret (.bin .add (.bin .mod (.var 0) (.var 2)) (.bin .mul (.bin .fdiv (.var 0) (.bin .mul (.int 2) (.var 2))) (.var 2)))] }
def d_word_of : Fd := { name := Str.ofString "word_of", ps := 1, n := 6, keep := [0], body := [.set 1 (.lc [2] (.nm 2) (.var 0) [] (.call (Str.ofString "digits_of") [(.var 2)])), .set 3 (.blt .max [(.bin .add (.lst [(.int 0)]) (.lc [4] (.nm 4) (.var 1) [] (.blt .len [(.var 4)])))]), .ret (.blt .tuple [(.lc [5] (.nm 5) (.rng [(.var 3)]) [] (.call (Str.ofString "letter_of") [(.blt .tuple [(.lc [4] (.nm 4) (.var 1) [] (.call (Str.ofString "digit_there") [(.var 4), (.var 5)]))])]))])] }
def d_row_of : Fd := { name := Str.ofString "row_of", ps := 2, n := 6, keep := [0, 1], body := [.set 2 (.lc [3] (.nm 3) (.var 0) [] (.call (Str.ofString "digits_in") [(.var 3), (.var 1)])), .ret (.blt .tuple [(.lc [4] (.nm 4) (.rng [(.var 1)]) [] (.call (Str.ofString "number_of") [(.blt .tuple [(.lc [5] (.nm 5) (.var 2) [] (.idx (.var 5) (.var 4)))])]))])] }
def d_shortened_word : Fd := { name := Str.ofString "shortened_word", ps := 1, n := 2, keep := [0], body := [.set 1 (.blt .len [(.var 0)]), .whl (.and [(.cmp .gt (.var 1) (.int 0)), (.cmp .eq (.idx (.var 0) (.bin .sub (.var 1) (.int 1))) (.int 0))]) [.aug .sub 1 (.int 1)], .ret (.slc (.var 0) .non (.var 1))] }
def d_lengthened_word : Fd := { name := Str.ofString "lengthened_word", ps := 2, n := 2, keep := [0, 1], body := [.ret (.bin .add (.var 0) (.bin .mul (.tup [(.int 0)]) (.bin .sub (.var 1) (.blt .len [(.var 0)]))))] }
def d_tell_one_row : Fd := { name := Str.ofString "tell_one_row", ps := 2, n := 2, keep := [0, 1], body := [.ret (.cmp .eq (.call (Str.ofString "shortened_word") [(.var 0)]) (.call (Str.ofString "shortened_word") [(.var 1)]))] }
def d_words_of_length : Fd := { name := Str.ofString "words_of_length", ps := 2, n := 6, keep := [0, 1], body := [.set 2 (.lst [(.tup [])]), .for (.nm 3) (.rng [(.var 1)]) [.set 2 (.lc2 [4, 5] (.nm 4) (.var 2) [] [5] (.nm 5) (.rng [(.call (Str.ofString "letters_for") [(.var 0)])]) [] (.bin .add (.var 4) (.tup [(.var 5)])))], .ret (.blt .tuple [(.var 2)])] }
def d_key_of_word : Fd := { name := Str.ofString "key_of_word", ps := 1, n := 1, keep := [0], body := [.ret (.tup [(.blt .len [(.var 0)]), (.var 0)])] }
def d_is_word_before : Fd := { name := Str.ofString "is_word_before", ps := 2, n := 2, keep := [0, 1], body := [.ret (.cmp .lt (.call (Str.ofString "key_of_word") [(.var 0)]) (.call (Str.ofString "key_of_word") [(.var 1)]))] }
def d__law_draws : Fd := { name := Str.ofString "_law_draws", ps := 2, n := 9, keep := [0, 1], body := [.set 2 (.lc [3] (.nm 3) (.var 0) [] (.blt .int [(.var 3)])), .ite (.cmp .eq (.blt .len [(.var 2)]) (.int 0)) [.expr (.mut .append 2 [(.int 0)])] [], .set 4 (.blt .list [(.var 2)]), .set 5 (.lst []), .for (.nm 6) (.rng [(.var 1)]) [.set 7 (.bin .mod (.var 6) (.blt .len [(.var 2)])), .ite (.and [(.cmp .ge (.idx (.var 2) (.var 7)) (.bin .pow (.int 10) (.int 18))), (.cmp .gt (.idx (.var 4) (.var 7)) (.int 0))]) [.expr (.mut .append 5 [(.bin .mod (.blt .int [(.idx (.var 4) (.var 7))]) (.int 1000))]), .sub 4 (.var 7) (.bin .fdiv (.idx (.var 4) (.var 7)) (.int 1000))] [.set 8 (.bin .mod (.blt .int [(.bin .add (.bin .add (.bin .mul (.idx (.var 2) (.var 7)) (.int 48271)) (.bin .mul (.var 6) (.int 69621))) (.int 11))]) (.int 2147483647)), .expr (.mut .append 5 [(.bin .mod (.blt .int [(.bin .add (.bin .add (.bin .mul (.var 8) (.var 8)) (.bin .mul (.int 3) (.var 8))) (.var 6))]) (.int 1000003))])]], .expr (.mut .reverse 5 []), .ret (.var 5)] }
def d__law_take : Fd := { name := Str.ofString "_law_take", ps := 2, n := 2, keep := [0, 1], body := [.ite (.cmp .eq (.blt .len [(.var 0)]) (.int 0)) [.ret (.int 0)] [], .ret (.bin .mod (.blt .int [(.mut .pop 0 [])]) (.var 1))] }
def d__law_cell : Fd := { name := Str.ofString "_law_cell", ps := 1, n := 2, keep := [0], body := [.ite (.cmp .eq (.blt .len [(.var 0)]) (.int 0)) [.ret (.int 0)] [], .set 1 (.blt .int [(.idx (.var 0) (.bin .mod (.bin .mod (.blt .int [(.bin .sub (.blt .len [(.var 0)]) (.int 1))]) (.int 7)) (.blt .len [(.var 0)])))]), .ite (.cmp .lt (.var 1) (.int 0)) [.ret (.neg (.bin .mod (.blt .int [(.neg (.var 1))]) (.bin .pow (.int 10) (.int 60))))] [], .ret (.bin .mod (.blt .int [(.var 1)]) (.bin .pow (.int 10) (.int 60)))] }
def d__law_same : Fd := { name := Str.ofString "_law_same", ps := 2, n := 3, keep := [0, 1], body := [.ite (.isi (.var 1) .bool) [.ret (.and [(.isi (.var 0) .bool), (.cmp .eq (.var 0) (.var 1))])] [], .ite (.isi (.var 1) .int) [.ret (.and [(.isi (.var 0) .int), (.not (.isi (.var 0) .bool)), (.cmp .eq (.var 0) (.var 1))])] [], .ite (.isi (.var 1) .str) [.ret (.and [(.isi (.var 0) .str), (.cmp .eq (.var 0) (.var 1))])] [], .ite (.cmp .is (.var 1) .non) [.ret (.cmp .is (.var 0) .non)] [], .ite (.or [(.not (.isi (.var 0) .tuple)), (.cmp .ne (.blt .len [(.var 0)]) (.blt .len [(.var 1)]))]) [.ret (.bl false)] [], .for (.nm 2) (.rng [(.blt .len [(.var 1)])]) [.ite (.not (.call (Str.ofString "_law_same") [(.idx (.var 0) (.var 2)), (.idx (.var 1) (.var 2))])) [.ret (.bl false)] []], .ret (.bl true)] }
def d__law_number : Fd := { name := Str.ofString "_law_number", ps := 2, n := 3, keep := [0, 1], body := [.set 2 (.call (Str.ofString "_law_take") [(.var 0), (.int 12)]), .ite (.cmp .eq (.var 2) (.int 0)) [.ret (.blt .abs [(.var 1)])] [], .ret (.call (Str.ofString "_law_take") [(.var 0), (.idx (.lst [(.int 3), (.int 7), (.int 20)]) (.blt .int [(.bin .mod (.var 2) (.int 3))]))])] }
def d__law_long : Fd := { name := Str.ofString "_law_long", ps := 1, n := 2, keep := [0], body := [.for (.nm 1) (.rng [(.int 900)]) [.ite (.cmp .eq (.bin .shr (.var 0) (.var 1)) (.int 0)) [.ret (.var 1)] []], .ret (.int 900)] }
def d__law_letter : Fd := { name := Str.ofString "_law_letter", ps := 2, n := 3, keep := [0, 1], body := [.ret (.blt .sum [(.bin .add (.lst [(.int 0)]) (.lc [2] (.nm 2) (.rng [(.blt .len [(.var 0)])]) [] (.bin .shl (.bin .mod (.blt .int [(.bin .shr (.idx (.var 0) (.var 2)) (.var 1))]) (.int 2)) (.var 2))))])] }
def d__law_word : Fd := { name := Str.ofString "_law_word", ps := 1, n := 4, keep := [0], body := [.set 1 (.blt .max [(.bin .add (.lst [(.int 0)]) (.lc [2] (.nm 2) (.var 0) [] (.call (Str.ofString "_law_long") [(.var 2)])))]), .ret (.blt .tuple [(.lc [3] (.nm 3) (.rng [(.var 1)]) [] (.call (Str.ofString "_law_letter") [(.var 0), (.var 3)]))])] }
def d__law_row : Fd := { name := Str.ofString "_law_row", ps := 2, n := 4, keep := [0, 1], body := [.ret (.blt .tuple [(.lc [2] (.nm 2) (.rng [(.var 1)]) [] (.blt .sum [(.bin .add (.lst [(.int 0)]) (.lc [3] (.nm 3) (.rng [(.blt .len [(.var 0)])]) [] (.bin .shl (.bin .mod (.bin .shr (.idx (.var 0) (.var 3)) (.var 2)) (.int 2)) (.var 3))))]))])] }
def d__law_are_letters_right : Fd := { name := Str.ofString "_law_are_letters_right", ps := 2, n := 11, keep := [0, 1], body := [.ite (.not (.call (Str.ofString "_law_same") [(.call (Str.ofString "letters_for") [(.var 1)]), (.idx (.lst [(.int 1), (.int 2), (.int 4), (.int 8), (.int 16)]) (.var 1))])) [.ret (.bl false)] [], .set 2 (.call (Str.ofString "_law_take") [(.var 0), (.bin .shl (.int 1) (.var 1))]), .set 3 (.blt .tuple [(.lc [4] (.nm 4) (.rng [(.var 1)]) [] (.bin .mod (.bin .fdiv (.var 2) (.bin .shl (.int 1) (.var 4))) (.int 2)))]), .ite (.or [(.not (.call (Str.ofString "_law_same") [(.call (Str.ofString "digits_in") [(.var 2), (.var 1)]), (.var 3)])), (.not (.call (Str.ofString "_law_same") [(.call (Str.ofString "letter_of") [(.var 3)]), (.var 2)]))]) [.ret (.bl false)] [], .set 5 (.call (Str.ofString "_law_take") [(.var 0), (.bin .add (.var 1) (.int 1))]), .set 6 (.call (Str.ofString "_law_take") [(.var 0), (.int 2)]), .set 7 (.call (Str.ofString "letter_with") [(.var 2), (.var 5), (.var 6)]), .ite (.or [(.not (.call (Str.ofString "_law_same") [(.call (Str.ofString "digits_in") [(.var 7), (.bin .add (.var 1) (.int 1))]), (.bin .add (.bin .add (.slc (.var 3) .non (.var 5)) (.tup [(.var 6)])) (.slc (.var 3) (.var 5) .non))])), (.not (.call (Str.ofString "_law_same") [(.call (Str.ofString "letter_without") [(.var 7), (.var 5)]), (.var 2)]))]) [.ret (.bl false)] [], .set 8 (.blt .tuple [(.lc [9] (.nm 9) (.rng [(.call (Str.ofString "_law_take") [(.var 0), (.int 4)])]) [(.cmp .gt (.var 1) (.int 0))] (.call (Str.ofString "_law_take") [(.var 0), (.var 1)]))]), .ret (.call (Str.ofString "_law_same") [(.call (Str.ofString "digits_in") [(.call (Str.ofString "picked_letter") [(.var 2), (.var 8)]), (.blt .len [(.var 8)])]), (.blt .tuple [(.lc [10] (.nm 10) (.var 8) [] (.idx (.var 3) (.var 10)))])])] }
def d__law_are_words_right : Fd := { name := Str.ofString "_law_are_words_right", ps := 2, n := 10, keep := [0, 1], body := [.set 2 (.blt .len [(.var 1)]), .set 3 (.call (Str.ofString "_law_word") [(.var 1)]), .ite (.or [(.not (.call (Str.ofString "_law_same") [(.call (Str.ofString "word_of") [(.var 1)]), (.var 3)])), (.not (.call (Str.ofString "_law_same") [(.call (Str.ofString "row_of") [(.var 3), (.var 2)]), (.var 1)])), (.not (.call (Str.ofString "_law_same") [(.call (Str.ofString "word_of") [(.var 1)]), (.var 3)]))]) [.ret (.bl false)] [], .set 4 (.call (Str.ofString "_law_take") [(.var 0), (.int 4)]), .set 5 (.bin .add (.var 3) (.bin .mul (.tup [(.int 0)]) (.var 4))), .ite (.or [(.not (.call (Str.ofString "_law_same") [(.call (Str.ofString "row_of") [(.var 5), (.var 2)]), (.var 1)])), (.not (.call (Str.ofString "_law_same") [(.call (Str.ofString "shortened_word") [(.var 5)]), (.var 3)])), (.not (.call (Str.ofString "_law_same") [(.call (Str.ofString "tell_one_row") [(.var 5), (.var 3)]), (.bl true)]))]) [.ret (.bl false)] [], .ite (.or [(.not (.call (Str.ofString "_law_same") [(.call (Str.ofString "lengthened_word") [(.var 3), (.bin .add (.blt .len [(.var 3)]) (.var 4))]), (.var 5)])), (.not (.call (Str.ofString "_law_same") [(.call (Str.ofString "lengthened_word") [(.var 5), (.blt .len [(.var 3)])]), (.var 5)]))]) [.ret (.bl false)] [], .set 6 (.bin .add (.var 5) (.tup [(.call (Str.ofString "_law_take") [(.var 0), (.bin .shl (.int 1) (.var 2))])])), .ite (.or [(.not (.call (Str.ofString "_law_same") [(.call (Str.ofString "tell_one_row") [(.var 6), (.var 3)]), (.cmp .eq (.idx (.var 6) (.blt .len [(.var 5)])) (.int 0))])), (.not (.call (Str.ofString "_law_same") [(.call (Str.ofString "row_of") [(.var 6), (.var 2)]), (.call (Str.ofString "_law_row") [(.var 6), (.var 2)])]))]) [.ret (.bl false)] [], .set 7 (.blt .tuple [(.lc [8] (.nm 8) (.rng [(.call (Str.ofString "_law_take") [(.var 0), (.int 4)])]) [] (.call (Str.ofString "_law_take") [(.var 0), (.bin .shl (.int 1) (.var 2))]))]), .set 9 (.or [(.cmp .lt (.blt .len [(.var 7)]) (.blt .len [(.var 3)])), (.and [(.cmp .eq (.blt .len [(.var 7)]) (.blt .len [(.var 3)])), (.cmp .lt (.var 7) (.var 3))])]), .ret (.and [(.call (Str.ofString "_law_same") [(.call (Str.ofString "is_word_before") [(.var 7), (.var 3)]), (.var 9)]), (.call (Str.ofString "_law_same") [(.call (Str.ofString "is_word_before") [(.var 3), (.var 3)]), (.bl false)])])] }
def d_law : Fd := { name := Str.ofString "law", ps := 1, n := 11, keep := [0], body := [.set 1 (.call (Str.ofString "_law_draws") [(.var 0), (.int 160)]), .set 2 (.call (Str.ofString "_law_cell") [(.var 0)]), .for (.nm 3) (.rng [(.int 4)]) [.set 4 (.call (Str.ofString "_law_take") [(.var 1), (.int 5)]), .set 5 (.blt .tuple [(.lc [6] (.nm 6) (.rng [(.var 4)]) [] (.call (Str.ofString "_law_number") [(.var 1), (.var 2)]))]), .ite (.or [(.not (.call (Str.ofString "_law_are_letters_right") [(.var 1), (.var 4)])), (.not (.call (Str.ofString "_law_are_words_right") [(.var 1), (.var 5)]))]) [.ret (.bl false)] []], .set 4 (.call (Str.ofString "_law_take") [(.var 1), (.int 3)]), .set 7 (.call (Str.ofString "_law_take") [(.var 1), (.int 3)]), .set 8 (.call (Str.ofString "words_of_length") [(.var 4), (.var 7)]), .ite (.or [(.cmp .ne (.blt .len [(.var 8)]) (.idx (.lst [(.int 1), (.bin .shl (.int 1) (.var 4)), (.bin .mul (.bin .shl (.int 1) (.var 4)) (.bin .shl (.int 1) (.var 4)))]) (.var 7))), (.cmp .ne (.blt .list [(.var 8)]) (.sset (.var 8)))]) [.ret (.bl false)] [], .ite (.cmp .gt (.blt .len [(.lc [9] (.nm 9) (.var 8) [(.or [(.cmp .ne (.blt .len [(.var 9)]) (.var 7)), (.cmp .gt (.blt .len [(.lc [10] (.nm 10) (.var 9) [(.or [(.cmp .lt (.var 10) (.int 0)), (.cmp .ge (.var 10) (.bin .shl (.int 1) (.var 4)))])] (.var 10))]) (.int 0))])] (.var 9))]) (.int 0)) [.ret (.bl false)] [], .ite (.or [(.not (.call (Str.ofString "_law_same") [(.call (Str.ofString "word_of") [(.tup [(.int 5), (.int 2)])]), (.tup [(.int 1), (.int 2), (.int 1)])])), (.not (.call (Str.ofString "_law_same") [(.call (Str.ofString "row_of") [(.tup [(.int 1), (.int 2), (.int 1), (.int 0)]), (.int 2)]), (.tup [(.int 5), (.int 2)])])), (.not (.call (Str.ofString "_law_same") [(.call (Str.ofString "word_of") [(.tup [])]), (.tup [])])), (.not (.call (Str.ofString "_law_same") [(.call (Str.ofString "row_of") [(.tup [(.int 0), (.int 0)]), (.int 0)]), (.tup [])]))]) [.ret (.bl false)] [], .ite (.or [(.not (.call (Str.ofString "_law_same") [(.call (Str.ofString "words_of_length") [(.int 1), (.int 2)]), (.tup [(.tup [(.int 0), (.int 0)]), (.tup [(.int 0), (.int 1)]), (.tup [(.int 1), (.int 0)]), (.tup [(.int 1), (.int 1)])])])), (.not (.call (Str.ofString "_law_same") [(.call (Str.ofString "words_of_length") [(.int 0), (.int 3)]), (.tup [(.tup [(.int 0), (.int 0), (.int 0)])])])), (.not (.call (Str.ofString "_law_same") [(.call (Str.ofString "words_of_length") [(.int 2), (.int 0)]), (.tup [(.tup [])])]))]) [.ret (.bl false)] [], .ret (.and [(.call (Str.ofString "_law_same") [(.call (Str.ofString "picked_letter") [(.int 6), (.tup [(.int 2), (.int 0), (.int 2)])]), (.int 5)]), (.call (Str.ofString "_law_same") [(.call (Str.ofString "letter_with") [(.int 3), (.int 1), (.int 0)]), (.int 5)]), (.call (Str.ofString "_law_same") [(.call (Str.ofString "letter_without") [(.int 5), (.int 1)]), (.int 3)]), (.call (Str.ofString "_law_same") [(.call (Str.ofString "is_word_before") [(.tup [(.int 3)]), (.tup [(.int 0), (.int 0)])]), (.bl true)])])] }
def prog : List Fd := [d_digits_of, d_number_of, d_digit_there, d_letters_for, d_digits_in, d_letter_of, d_picked_letter, d_letter_with, d_letter_without, d_word_of, d_row_of, d_shortened_word, d_lengthened_word, d_tell_one_row, d_words_of_length, d_key_of_word, d_is_word_before, d__law_draws, d__law_take, d__law_cell, d__law_same, d__law_number, d__law_long, d__law_letter, d__law_word, d__law_row, d__law_are_letters_right, d__law_are_words_right, d_law]
theorem f_digits_of : prog.find? (fun d => d.name == Str.ofString "digits_of") = some d_digits_of := by rfl
theorem c_digits_of {W k : Nat} {x0 : Slot} {o : Opd} {fs : List Slot} (hb : Goes (callL prog W k) W [.set 1 (.lst []), .whl (.cmp .gt (.var 0) (.int 0)) [.expr (.mut .append 1 [(.bin .mod (.var 0) (.int 2))]), .set 0 (.bin .fdiv (.var 0) (.int 2))], .ret (.blt .tuple [(.var 1)])] [x0, .un] (fun r => outR d_digits_of r = some (o, fs))) : callL prog W (k + 1) (Str.ofString "digits_of") [x0] = some (o, fs) := callL_eq d_digits_of f_digits_of rfl hb
theorem e_digits_of {W k : Nat} {x0 : Slot} {Ψ : Opd → List Slot → Prop} (hb : Goes (callL prog W k) W [.set 1 (.lst []), .whl (.cmp .gt (.var 0) (.int 0)) [.expr (.mut .append 1 [(.bin .mod (.var 0) (.int 2))]), .set 0 (.bin .fdiv (.var 0) (.int 2))], .ret (.blt .tuple [(.var 1)])] [x0, .un] (fun r => match outR d_digits_of r with | some (o, fs) => Ψ o fs | none => False)) : ∃ o fs, callL prog W (k + 1) (Str.ofString "digits_of") [x0] = some (o, fs) ∧ Ψ o fs := callL_at d_digits_of f_digits_of rfl hb
theorem f_number_of : prog.find? (fun d => d.name == Str.ofString "number_of") = some d_number_of := by rfl
theorem c_number_of {W k : Nat} {x0 : Slot} {o : Opd} {fs : List Slot} (hb : Goes (callL prog W k) W [.set 1 (.int 0), .for (.nm 2) (.rev (.var 0)) [.set 1 (.bin .add (.bin .mul (.int 2) (.var 1)) (.var 2))], .ret (.var 1)] [x0, .un, .un] (fun r => outR d_number_of r = some (o, fs))) : callL prog W (k + 1) (Str.ofString "number_of") [x0] = some (o, fs) := callL_eq d_number_of f_number_of rfl hb
theorem e_number_of {W k : Nat} {x0 : Slot} {Ψ : Opd → List Slot → Prop} (hb : Goes (callL prog W k) W [.set 1 (.int 0), .for (.nm 2) (.rev (.var 0)) [.set 1 (.bin .add (.bin .mul (.int 2) (.var 1)) (.var 2))], .ret (.var 1)] [x0, .un, .un] (fun r => match outR d_number_of r with | some (o, fs) => Ψ o fs | none => False)) : ∃ o fs, callL prog W (k + 1) (Str.ofString "number_of") [x0] = some (o, fs) ∧ Ψ o fs := callL_at d_number_of f_number_of rfl hb
theorem f_digit_there : prog.find? (fun d => d.name == Str.ofString "digit_there") = some d_digit_there := by rfl
theorem c_digit_there {W k : Nat} {x0 x1 : Slot} {o : Opd} {fs : List Slot} (hb : Goes (callL prog W k) W [.ret (.ite (.cmp .lt (.var 1) (.blt .len [(.var 0)])) (.idx (.var 0) (.var 1)) (.int 0))] [x0, x1] (fun r => outR d_digit_there r = some (o, fs))) : callL prog W (k + 1) (Str.ofString "digit_there") [x0, x1] = some (o, fs) := callL_eq d_digit_there f_digit_there rfl hb
theorem e_digit_there {W k : Nat} {x0 x1 : Slot} {Ψ : Opd → List Slot → Prop} (hb : Goes (callL prog W k) W [.ret (.ite (.cmp .lt (.var 1) (.blt .len [(.var 0)])) (.idx (.var 0) (.var 1)) (.int 0))] [x0, x1] (fun r => match outR d_digit_there r with | some (o, fs) => Ψ o fs | none => False)) : ∃ o fs, callL prog W (k + 1) (Str.ofString "digit_there") [x0, x1] = some (o, fs) ∧ Ψ o fs := callL_at d_digit_there f_digit_there rfl hb
theorem f_letters_for : prog.find? (fun d => d.name == Str.ofString "letters_for") = some d_letters_for := by rfl
theorem c_letters_for {W k : Nat} {x0 : Slot} {o : Opd} {fs : List Slot} (hb : Goes (callL prog W k) W [.ret (.bin .shl (.int 1) (.var 0))] [x0] (fun r => outR d_letters_for r = some (o, fs))) : callL prog W (k + 1) (Str.ofString "letters_for") [x0] = some (o, fs) := callL_eq d_letters_for f_letters_for rfl hb
theorem e_letters_for {W k : Nat} {x0 : Slot} {Ψ : Opd → List Slot → Prop} (hb : Goes (callL prog W k) W [.ret (.bin .shl (.int 1) (.var 0))] [x0] (fun r => match outR d_letters_for r with | some (o, fs) => Ψ o fs | none => False)) : ∃ o fs, callL prog W (k + 1) (Str.ofString "letters_for") [x0] = some (o, fs) ∧ Ψ o fs := callL_at d_letters_for f_letters_for rfl hb
theorem f_digits_in : prog.find? (fun d => d.name == Str.ofString "digits_in") = some d_digits_in := by rfl
theorem c_digits_in {W k : Nat} {x0 x1 : Slot} {o : Opd} {fs : List Slot} (hb : Goes (callL prog W k) W [.ret (.blt .tuple [(.lc [2] (.nm 2) (.rng [(.var 1)]) [] (.bin .mod (.bin .shr (.var 0) (.var 2)) (.int 2)))])] [x0, x1, .un] (fun r => outR d_digits_in r = some (o, fs))) : callL prog W (k + 1) (Str.ofString "digits_in") [x0, x1] = some (o, fs) := callL_eq d_digits_in f_digits_in rfl hb
theorem e_digits_in {W k : Nat} {x0 x1 : Slot} {Ψ : Opd → List Slot → Prop} (hb : Goes (callL prog W k) W [.ret (.blt .tuple [(.lc [2] (.nm 2) (.rng [(.var 1)]) [] (.bin .mod (.bin .shr (.var 0) (.var 2)) (.int 2)))])] [x0, x1, .un] (fun r => match outR d_digits_in r with | some (o, fs) => Ψ o fs | none => False)) : ∃ o fs, callL prog W (k + 1) (Str.ofString "digits_in") [x0, x1] = some (o, fs) ∧ Ψ o fs := callL_at d_digits_in f_digits_in rfl hb
theorem f_letter_of : prog.find? (fun d => d.name == Str.ofString "letter_of") = some d_letter_of := by rfl
theorem c_letter_of {W k : Nat} {x0 : Slot} {o : Opd} {fs : List Slot} (hb : Goes (callL prog W k) W [.ret (.blt .sum [(.lc [1] (.nm 1) (.rng [(.blt .len [(.var 0)])]) [] (.bin .shl (.idx (.var 0) (.var 1)) (.var 1)))])] [x0, .un] (fun r => outR d_letter_of r = some (o, fs))) : callL prog W (k + 1) (Str.ofString "letter_of") [x0] = some (o, fs) := callL_eq d_letter_of f_letter_of rfl hb
theorem e_letter_of {W k : Nat} {x0 : Slot} {Ψ : Opd → List Slot → Prop} (hb : Goes (callL prog W k) W [.ret (.blt .sum [(.lc [1] (.nm 1) (.rng [(.blt .len [(.var 0)])]) [] (.bin .shl (.idx (.var 0) (.var 1)) (.var 1)))])] [x0, .un] (fun r => match outR d_letter_of r with | some (o, fs) => Ψ o fs | none => False)) : ∃ o fs, callL prog W (k + 1) (Str.ofString "letter_of") [x0] = some (o, fs) ∧ Ψ o fs := callL_at d_letter_of f_letter_of rfl hb
theorem f_picked_letter : prog.find? (fun d => d.name == Str.ofString "picked_letter") = some d_picked_letter := by rfl
theorem c_picked_letter {W k : Nat} {x0 x1 : Slot} {o : Opd} {fs : List Slot} (hb : Goes (callL prog W k) W [.ret (.call (Str.ofString "letter_of") [(.blt .tuple [(.lc [2] (.nm 2) (.var 1) [] (.bin .mod (.bin .shr (.var 0) (.var 2)) (.int 2)))])])] [x0, x1, .un] (fun r => outR d_picked_letter r = some (o, fs))) : callL prog W (k + 1) (Str.ofString "picked_letter") [x0, x1] = some (o, fs) := callL_eq d_picked_letter f_picked_letter rfl hb
theorem e_picked_letter {W k : Nat} {x0 x1 : Slot} {Ψ : Opd → List Slot → Prop} (hb : Goes (callL prog W k) W [.ret (.call (Str.ofString "letter_of") [(.blt .tuple [(.lc [2] (.nm 2) (.var 1) [] (.bin .mod (.bin .shr (.var 0) (.var 2)) (.int 2)))])])] [x0, x1, .un] (fun r => match outR d_picked_letter r with | some (o, fs) => Ψ o fs | none => False)) : ∃ o fs, callL prog W (k + 1) (Str.ofString "picked_letter") [x0, x1] = some (o, fs) ∧ Ψ o fs := callL_at d_picked_letter f_picked_letter rfl hb
theorem f_letter_with : prog.find? (fun d => d.name == Str.ofString "letter_with") = some d_letter_with := by rfl
theorem c_letter_with {W k : Nat} {x0 x1 x2 : Slot} {o : Opd} {fs : List Slot} (hb : Goes (callL prog W k) W [.set 3 (.bin .shl (.int 1) (.var 1)), .ret (.bin .add (.bin .add (.bin .mod (.var 0) (.var 3)) (.bin .mul (.var 2) (.var 3))) (.bin .mul (.bin .mul (.bin .fdiv (.var 0) (.var 3)) (.var 3)) (.int 2)))] [x0, x1, x2, .un] (fun r => outR d_letter_with r = some (o, fs))) : callL prog W (k + 1) (Str.ofString "letter_with") [x0, x1, x2] = some (o, fs) := callL_eq d_letter_with f_letter_with rfl hb
theorem e_letter_with {W k : Nat} {x0 x1 x2 : Slot} {Ψ : Opd → List Slot → Prop} (hb : Goes (callL prog W k) W [.set 3 (.bin .shl (.int 1) (.var 1)), .ret (.bin .add (.bin .add (.bin .mod (.var 0) (.var 3)) (.bin .mul (.var 2) (.var 3))) (.bin .mul (.bin .mul (.bin .fdiv (.var 0) (.var 3)) (.var 3)) (.int 2)))] [x0, x1, x2, .un] (fun r => match outR d_letter_with r with | some (o, fs) => Ψ o fs | none => False)) : ∃ o fs, callL prog W (k + 1) (Str.ofString "letter_with") [x0, x1, x2] = some (o, fs) ∧ Ψ o fs := callL_at d_letter_with f_letter_with rfl hb
theorem f_letter_without : prog.find? (fun d => d.name == Str.ofString "letter_without") = some d_letter_without := by rfl
theorem c_letter_without {W k : Nat} {x0 x1 : Slot} {o : Opd} {fs : List Slot} (hb : Goes (callL prog W k) W [.set 2 (.bin .shl (.int 1) (.var 1)), .ret (.bin .add (.bin .mod (.var 0) (.var 2)) (.bin .mul (.bin .fdiv (.var 0) (.bin .mul (.int 2) (.var 2))) (.var 2)))] [x0, x1, .un] (fun r => outR d_letter_without r = some (o, fs))) : callL prog W (k + 1) (Str.ofString "letter_without") [x0, x1] = some (o, fs) := callL_eq d_letter_without f_letter_without rfl hb
theorem e_letter_without {W k : Nat} {x0 x1 : Slot} {Ψ : Opd → List Slot → Prop} (hb : Goes (callL prog W k) W [.set 2 (.bin .shl (.int 1) (.var 1)), .ret (.bin .add (.bin .mod (.var 0) (.var 2)) (.bin .mul (.bin .fdiv (.var 0) (.bin .mul (.int 2) (.var 2))) (.var 2)))] [x0, x1, .un] (fun r => match outR d_letter_without r with | some (o, fs) => Ψ o fs | none => False)) : ∃ o fs, callL prog W (k + 1) (Str.ofString "letter_without") [x0, x1] = some (o, fs) ∧ Ψ o fs := callL_at d_letter_without f_letter_without rfl hb
theorem f_word_of : prog.find? (fun d => d.name == Str.ofString "word_of") = some d_word_of := by rfl
theorem c_word_of {W k : Nat} {x0 : Slot} {o : Opd} {fs : List Slot} (hb : Goes (callL prog W k) W [.set 1 (.lc [2] (.nm 2) (.var 0) [] (.call (Str.ofString "digits_of") [(.var 2)])), .set 3 (.blt .max [(.bin .add (.lst [(.int 0)]) (.lc [4] (.nm 4) (.var 1) [] (.blt .len [(.var 4)])))]), .ret (.blt .tuple [(.lc [5] (.nm 5) (.rng [(.var 3)]) [] (.call (Str.ofString "letter_of") [(.blt .tuple [(.lc [4] (.nm 4) (.var 1) [] (.call (Str.ofString "digit_there") [(.var 4), (.var 5)]))])]))])] [x0, .un, .un, .un, .un, .un] (fun r => outR d_word_of r = some (o, fs))) : callL prog W (k + 1) (Str.ofString "word_of") [x0] = some (o, fs) := callL_eq d_word_of f_word_of rfl hb
theorem e_word_of {W k : Nat} {x0 : Slot} {Ψ : Opd → List Slot → Prop} (hb : Goes (callL prog W k) W [.set 1 (.lc [2] (.nm 2) (.var 0) [] (.call (Str.ofString "digits_of") [(.var 2)])), .set 3 (.blt .max [(.bin .add (.lst [(.int 0)]) (.lc [4] (.nm 4) (.var 1) [] (.blt .len [(.var 4)])))]), .ret (.blt .tuple [(.lc [5] (.nm 5) (.rng [(.var 3)]) [] (.call (Str.ofString "letter_of") [(.blt .tuple [(.lc [4] (.nm 4) (.var 1) [] (.call (Str.ofString "digit_there") [(.var 4), (.var 5)]))])]))])] [x0, .un, .un, .un, .un, .un] (fun r => match outR d_word_of r with | some (o, fs) => Ψ o fs | none => False)) : ∃ o fs, callL prog W (k + 1) (Str.ofString "word_of") [x0] = some (o, fs) ∧ Ψ o fs := callL_at d_word_of f_word_of rfl hb
theorem f_row_of : prog.find? (fun d => d.name == Str.ofString "row_of") = some d_row_of := by rfl
theorem c_row_of {W k : Nat} {x0 x1 : Slot} {o : Opd} {fs : List Slot} (hb : Goes (callL prog W k) W [.set 2 (.lc [3] (.nm 3) (.var 0) [] (.call (Str.ofString "digits_in") [(.var 3), (.var 1)])), .ret (.blt .tuple [(.lc [4] (.nm 4) (.rng [(.var 1)]) [] (.call (Str.ofString "number_of") [(.blt .tuple [(.lc [5] (.nm 5) (.var 2) [] (.idx (.var 5) (.var 4)))])]))])] [x0, x1, .un, .un, .un, .un] (fun r => outR d_row_of r = some (o, fs))) : callL prog W (k + 1) (Str.ofString "row_of") [x0, x1] = some (o, fs) := callL_eq d_row_of f_row_of rfl hb
theorem e_row_of {W k : Nat} {x0 x1 : Slot} {Ψ : Opd → List Slot → Prop} (hb : Goes (callL prog W k) W [.set 2 (.lc [3] (.nm 3) (.var 0) [] (.call (Str.ofString "digits_in") [(.var 3), (.var 1)])), .ret (.blt .tuple [(.lc [4] (.nm 4) (.rng [(.var 1)]) [] (.call (Str.ofString "number_of") [(.blt .tuple [(.lc [5] (.nm 5) (.var 2) [] (.idx (.var 5) (.var 4)))])]))])] [x0, x1, .un, .un, .un, .un] (fun r => match outR d_row_of r with | some (o, fs) => Ψ o fs | none => False)) : ∃ o fs, callL prog W (k + 1) (Str.ofString "row_of") [x0, x1] = some (o, fs) ∧ Ψ o fs := callL_at d_row_of f_row_of rfl hb
theorem f_shortened_word : prog.find? (fun d => d.name == Str.ofString "shortened_word") = some d_shortened_word := by rfl
theorem c_shortened_word {W k : Nat} {x0 : Slot} {o : Opd} {fs : List Slot} (hb : Goes (callL prog W k) W [.set 1 (.blt .len [(.var 0)]), .whl (.and [(.cmp .gt (.var 1) (.int 0)), (.cmp .eq (.idx (.var 0) (.bin .sub (.var 1) (.int 1))) (.int 0))]) [.aug .sub 1 (.int 1)], .ret (.slc (.var 0) .non (.var 1))] [x0, .un] (fun r => outR d_shortened_word r = some (o, fs))) : callL prog W (k + 1) (Str.ofString "shortened_word") [x0] = some (o, fs) := callL_eq d_shortened_word f_shortened_word rfl hb
theorem e_shortened_word {W k : Nat} {x0 : Slot} {Ψ : Opd → List Slot → Prop} (hb : Goes (callL prog W k) W [.set 1 (.blt .len [(.var 0)]), .whl (.and [(.cmp .gt (.var 1) (.int 0)), (.cmp .eq (.idx (.var 0) (.bin .sub (.var 1) (.int 1))) (.int 0))]) [.aug .sub 1 (.int 1)], .ret (.slc (.var 0) .non (.var 1))] [x0, .un] (fun r => match outR d_shortened_word r with | some (o, fs) => Ψ o fs | none => False)) : ∃ o fs, callL prog W (k + 1) (Str.ofString "shortened_word") [x0] = some (o, fs) ∧ Ψ o fs := callL_at d_shortened_word f_shortened_word rfl hb
theorem f_lengthened_word : prog.find? (fun d => d.name == Str.ofString "lengthened_word") = some d_lengthened_word := by rfl
theorem c_lengthened_word {W k : Nat} {x0 x1 : Slot} {o : Opd} {fs : List Slot} (hb : Goes (callL prog W k) W [.ret (.bin .add (.var 0) (.bin .mul (.tup [(.int 0)]) (.bin .sub (.var 1) (.blt .len [(.var 0)]))))] [x0, x1] (fun r => outR d_lengthened_word r = some (o, fs))) : callL prog W (k + 1) (Str.ofString "lengthened_word") [x0, x1] = some (o, fs) := callL_eq d_lengthened_word f_lengthened_word rfl hb
theorem e_lengthened_word {W k : Nat} {x0 x1 : Slot} {Ψ : Opd → List Slot → Prop} (hb : Goes (callL prog W k) W [.ret (.bin .add (.var 0) (.bin .mul (.tup [(.int 0)]) (.bin .sub (.var 1) (.blt .len [(.var 0)]))))] [x0, x1] (fun r => match outR d_lengthened_word r with | some (o, fs) => Ψ o fs | none => False)) : ∃ o fs, callL prog W (k + 1) (Str.ofString "lengthened_word") [x0, x1] = some (o, fs) ∧ Ψ o fs := callL_at d_lengthened_word f_lengthened_word rfl hb
theorem f_tell_one_row : prog.find? (fun d => d.name == Str.ofString "tell_one_row") = some d_tell_one_row := by rfl
theorem c_tell_one_row {W k : Nat} {x0 x1 : Slot} {o : Opd} {fs : List Slot} (hb : Goes (callL prog W k) W [.ret (.cmp .eq (.call (Str.ofString "shortened_word") [(.var 0)]) (.call (Str.ofString "shortened_word") [(.var 1)]))] [x0, x1] (fun r => outR d_tell_one_row r = some (o, fs))) : callL prog W (k + 1) (Str.ofString "tell_one_row") [x0, x1] = some (o, fs) := callL_eq d_tell_one_row f_tell_one_row rfl hb
theorem e_tell_one_row {W k : Nat} {x0 x1 : Slot} {Ψ : Opd → List Slot → Prop} (hb : Goes (callL prog W k) W [.ret (.cmp .eq (.call (Str.ofString "shortened_word") [(.var 0)]) (.call (Str.ofString "shortened_word") [(.var 1)]))] [x0, x1] (fun r => match outR d_tell_one_row r with | some (o, fs) => Ψ o fs | none => False)) : ∃ o fs, callL prog W (k + 1) (Str.ofString "tell_one_row") [x0, x1] = some (o, fs) ∧ Ψ o fs := callL_at d_tell_one_row f_tell_one_row rfl hb
theorem f_words_of_length : prog.find? (fun d => d.name == Str.ofString "words_of_length") = some d_words_of_length := by rfl
theorem c_words_of_length {W k : Nat} {x0 x1 : Slot} {o : Opd} {fs : List Slot} (hb : Goes (callL prog W k) W [.set 2 (.lst [(.tup [])]), .for (.nm 3) (.rng [(.var 1)]) [.set 2 (.lc2 [4, 5] (.nm 4) (.var 2) [] [5] (.nm 5) (.rng [(.call (Str.ofString "letters_for") [(.var 0)])]) [] (.bin .add (.var 4) (.tup [(.var 5)])))], .ret (.blt .tuple [(.var 2)])] [x0, x1, .un, .un, .un, .un] (fun r => outR d_words_of_length r = some (o, fs))) : callL prog W (k + 1) (Str.ofString "words_of_length") [x0, x1] = some (o, fs) := callL_eq d_words_of_length f_words_of_length rfl hb
theorem e_words_of_length {W k : Nat} {x0 x1 : Slot} {Ψ : Opd → List Slot → Prop} (hb : Goes (callL prog W k) W [.set 2 (.lst [(.tup [])]), .for (.nm 3) (.rng [(.var 1)]) [.set 2 (.lc2 [4, 5] (.nm 4) (.var 2) [] [5] (.nm 5) (.rng [(.call (Str.ofString "letters_for") [(.var 0)])]) [] (.bin .add (.var 4) (.tup [(.var 5)])))], .ret (.blt .tuple [(.var 2)])] [x0, x1, .un, .un, .un, .un] (fun r => match outR d_words_of_length r with | some (o, fs) => Ψ o fs | none => False)) : ∃ o fs, callL prog W (k + 1) (Str.ofString "words_of_length") [x0, x1] = some (o, fs) ∧ Ψ o fs := callL_at d_words_of_length f_words_of_length rfl hb
theorem f_key_of_word : prog.find? (fun d => d.name == Str.ofString "key_of_word") = some d_key_of_word := by rfl
theorem c_key_of_word {W k : Nat} {x0 : Slot} {o : Opd} {fs : List Slot} (hb : Goes (callL prog W k) W [.ret (.tup [(.blt .len [(.var 0)]), (.var 0)])] [x0] (fun r => outR d_key_of_word r = some (o, fs))) : callL prog W (k + 1) (Str.ofString "key_of_word") [x0] = some (o, fs) := callL_eq d_key_of_word f_key_of_word rfl hb
theorem e_key_of_word {W k : Nat} {x0 : Slot} {Ψ : Opd → List Slot → Prop} (hb : Goes (callL prog W k) W [.ret (.tup [(.blt .len [(.var 0)]), (.var 0)])] [x0] (fun r => match outR d_key_of_word r with | some (o, fs) => Ψ o fs | none => False)) : ∃ o fs, callL prog W (k + 1) (Str.ofString "key_of_word") [x0] = some (o, fs) ∧ Ψ o fs := callL_at d_key_of_word f_key_of_word rfl hb
theorem f_is_word_before : prog.find? (fun d => d.name == Str.ofString "is_word_before") = some d_is_word_before := by rfl
theorem c_is_word_before {W k : Nat} {x0 x1 : Slot} {o : Opd} {fs : List Slot} (hb : Goes (callL prog W k) W [.ret (.cmp .lt (.call (Str.ofString "key_of_word") [(.var 0)]) (.call (Str.ofString "key_of_word") [(.var 1)]))] [x0, x1] (fun r => outR d_is_word_before r = some (o, fs))) : callL prog W (k + 1) (Str.ofString "is_word_before") [x0, x1] = some (o, fs) := callL_eq d_is_word_before f_is_word_before rfl hb
theorem e_is_word_before {W k : Nat} {x0 x1 : Slot} {Ψ : Opd → List Slot → Prop} (hb : Goes (callL prog W k) W [.ret (.cmp .lt (.call (Str.ofString "key_of_word") [(.var 0)]) (.call (Str.ofString "key_of_word") [(.var 1)]))] [x0, x1] (fun r => match outR d_is_word_before r with | some (o, fs) => Ψ o fs | none => False)) : ∃ o fs, callL prog W (k + 1) (Str.ofString "is_word_before") [x0, x1] = some (o, fs) ∧ Ψ o fs := callL_at d_is_word_before f_is_word_before rfl hb
theorem f__law_draws : prog.find? (fun d => d.name == Str.ofString "_law_draws") = some d__law_draws := by rfl
theorem c__law_draws {W k : Nat} {x0 x1 : Slot} {o : Opd} {fs : List Slot} (hb : Goes (callL prog W k) W [.set 2 (.lc [3] (.nm 3) (.var 0) [] (.blt .int [(.var 3)])), .ite (.cmp .eq (.blt .len [(.var 2)]) (.int 0)) [.expr (.mut .append 2 [(.int 0)])] [], .set 4 (.blt .list [(.var 2)]), .set 5 (.lst []), .for (.nm 6) (.rng [(.var 1)]) [.set 7 (.bin .mod (.var 6) (.blt .len [(.var 2)])), .ite (.and [(.cmp .ge (.idx (.var 2) (.var 7)) (.bin .pow (.int 10) (.int 18))), (.cmp .gt (.idx (.var 4) (.var 7)) (.int 0))]) [.expr (.mut .append 5 [(.bin .mod (.blt .int [(.idx (.var 4) (.var 7))]) (.int 1000))]), .sub 4 (.var 7) (.bin .fdiv (.idx (.var 4) (.var 7)) (.int 1000))] [.set 8 (.bin .mod (.blt .int [(.bin .add (.bin .add (.bin .mul (.idx (.var 2) (.var 7)) (.int 48271)) (.bin .mul (.var 6) (.int 69621))) (.int 11))]) (.int 2147483647)), .expr (.mut .append 5 [(.bin .mod (.blt .int [(.bin .add (.bin .add (.bin .mul (.var 8) (.var 8)) (.bin .mul (.int 3) (.var 8))) (.var 6))]) (.int 1000003))])]], .expr (.mut .reverse 5 []), .ret (.var 5)] [x0, x1, .un, .un, .un, .un, .un, .un, .un] (fun r => outR d__law_draws r = some (o, fs))) : callL prog W (k + 1) (Str.ofString "_law_draws") [x0, x1] = some (o, fs) := callL_eq d__law_draws f__law_draws rfl hb
theorem e__law_draws {W k : Nat} {x0 x1 : Slot} {Ψ : Opd → List Slot → Prop} (hb : Goes (callL prog W k) W [.set 2 (.lc [3] (.nm 3) (.var 0) [] (.blt .int [(.var 3)])), .ite (.cmp .eq (.blt .len [(.var 2)]) (.int 0)) [.expr (.mut .append 2 [(.int 0)])] [], .set 4 (.blt .list [(.var 2)]), .set 5 (.lst []), .for (.nm 6) (.rng [(.var 1)]) [.set 7 (.bin .mod (.var 6) (.blt .len [(.var 2)])), .ite (.and [(.cmp .ge (.idx (.var 2) (.var 7)) (.bin .pow (.int 10) (.int 18))), (.cmp .gt (.idx (.var 4) (.var 7)) (.int 0))]) [.expr (.mut .append 5 [(.bin .mod (.blt .int [(.idx (.var 4) (.var 7))]) (.int 1000))]), .sub 4 (.var 7) (.bin .fdiv (.idx (.var 4) (.var 7)) (.int 1000))] [.set 8 (.bin .mod (.blt .int [(.bin .add (.bin .add (.bin .mul (.idx (.var 2) (.var 7)) (.int 48271)) (.bin .mul (.var 6) (.int 69621))) (.int 11))]) (.int 2147483647)), .expr (.mut .append 5 [(.bin .mod (.blt .int [(.bin .add (.bin .add (.bin .mul (.var 8) (.var 8)) (.bin .mul (.int 3) (.var 8))) (.var 6))]) (.int 1000003))])]], .expr (.mut .reverse 5 []), .ret (.var 5)] [x0, x1, .un, .un, .un, .un, .un, .un, .un] (fun r => match outR d__law_draws r with | some (o, fs) => Ψ o fs | none => False)) : ∃ o fs, callL prog W (k + 1) (Str.ofString "_law_draws") [x0, x1] = some (o, fs) ∧ Ψ o fs := callL_at d__law_draws f__law_draws rfl hb
theorem f__law_take : prog.find? (fun d => d.name == Str.ofString "_law_take") = some d__law_take := by rfl
theorem c__law_take {W k : Nat} {x0 x1 : Slot} {o : Opd} {fs : List Slot} (hb : Goes (callL prog W k) W [.ite (.cmp .eq (.blt .len [(.var 0)]) (.int 0)) [.ret (.int 0)] [], .ret (.bin .mod (.blt .int [(.mut .pop 0 [])]) (.var 1))] [x0, x1] (fun r => outR d__law_take r = some (o, fs))) : callL prog W (k + 1) (Str.ofString "_law_take") [x0, x1] = some (o, fs) := callL_eq d__law_take f__law_take rfl hb
theorem e__law_take {W k : Nat} {x0 x1 : Slot} {Ψ : Opd → List Slot → Prop} (hb : Goes (callL prog W k) W [.ite (.cmp .eq (.blt .len [(.var 0)]) (.int 0)) [.ret (.int 0)] [], .ret (.bin .mod (.blt .int [(.mut .pop 0 [])]) (.var 1))] [x0, x1] (fun r => match outR d__law_take r with | some (o, fs) => Ψ o fs | none => False)) : ∃ o fs, callL prog W (k + 1) (Str.ofString "_law_take") [x0, x1] = some (o, fs) ∧ Ψ o fs := callL_at d__law_take f__law_take rfl hb
theorem f__law_cell : prog.find? (fun d => d.name == Str.ofString "_law_cell") = some d__law_cell := by rfl
theorem c__law_cell {W k : Nat} {x0 : Slot} {o : Opd} {fs : List Slot} (hb : Goes (callL prog W k) W [.ite (.cmp .eq (.blt .len [(.var 0)]) (.int 0)) [.ret (.int 0)] [], .set 1 (.blt .int [(.idx (.var 0) (.bin .mod (.bin .mod (.blt .int [(.bin .sub (.blt .len [(.var 0)]) (.int 1))]) (.int 7)) (.blt .len [(.var 0)])))]), .ite (.cmp .lt (.var 1) (.int 0)) [.ret (.neg (.bin .mod (.blt .int [(.neg (.var 1))]) (.bin .pow (.int 10) (.int 60))))] [], .ret (.bin .mod (.blt .int [(.var 1)]) (.bin .pow (.int 10) (.int 60)))] [x0, .un] (fun r => outR d__law_cell r = some (o, fs))) : callL prog W (k + 1) (Str.ofString "_law_cell") [x0] = some (o, fs) := callL_eq d__law_cell f__law_cell rfl hb
theorem e__law_cell {W k : Nat} {x0 : Slot} {Ψ : Opd → List Slot → Prop} (hb : Goes (callL prog W k) W [.ite (.cmp .eq (.blt .len [(.var 0)]) (.int 0)) [.ret (.int 0)] [], .set 1 (.blt .int [(.idx (.var 0) (.bin .mod (.bin .mod (.blt .int [(.bin .sub (.blt .len [(.var 0)]) (.int 1))]) (.int 7)) (.blt .len [(.var 0)])))]), .ite (.cmp .lt (.var 1) (.int 0)) [.ret (.neg (.bin .mod (.blt .int [(.neg (.var 1))]) (.bin .pow (.int 10) (.int 60))))] [], .ret (.bin .mod (.blt .int [(.var 1)]) (.bin .pow (.int 10) (.int 60)))] [x0, .un] (fun r => match outR d__law_cell r with | some (o, fs) => Ψ o fs | none => False)) : ∃ o fs, callL prog W (k + 1) (Str.ofString "_law_cell") [x0] = some (o, fs) ∧ Ψ o fs := callL_at d__law_cell f__law_cell rfl hb
theorem f__law_same : prog.find? (fun d => d.name == Str.ofString "_law_same") = some d__law_same := by rfl
theorem c__law_same {W k : Nat} {x0 x1 : Slot} {o : Opd} {fs : List Slot} (hb : Goes (callL prog W k) W [.ite (.isi (.var 1) .bool) [.ret (.and [(.isi (.var 0) .bool), (.cmp .eq (.var 0) (.var 1))])] [], .ite (.isi (.var 1) .int) [.ret (.and [(.isi (.var 0) .int), (.not (.isi (.var 0) .bool)), (.cmp .eq (.var 0) (.var 1))])] [], .ite (.isi (.var 1) .str) [.ret (.and [(.isi (.var 0) .str), (.cmp .eq (.var 0) (.var 1))])] [], .ite (.cmp .is (.var 1) .non) [.ret (.cmp .is (.var 0) .non)] [], .ite (.or [(.not (.isi (.var 0) .tuple)), (.cmp .ne (.blt .len [(.var 0)]) (.blt .len [(.var 1)]))]) [.ret (.bl false)] [], .for (.nm 2) (.rng [(.blt .len [(.var 1)])]) [.ite (.not (.call (Str.ofString "_law_same") [(.idx (.var 0) (.var 2)), (.idx (.var 1) (.var 2))])) [.ret (.bl false)] []], .ret (.bl true)] [x0, x1, .un] (fun r => outR d__law_same r = some (o, fs))) : callL prog W (k + 1) (Str.ofString "_law_same") [x0, x1] = some (o, fs) := callL_eq d__law_same f__law_same rfl hb
theorem e__law_same {W k : Nat} {x0 x1 : Slot} {Ψ : Opd → List Slot → Prop} (hb : Goes (callL prog W k) W [.ite (.isi (.var 1) .bool) [.ret (.and [(.isi (.var 0) .bool), (.cmp .eq (.var 0) (.var 1))])] [], .ite (.isi (.var 1) .int) [.ret (.and [(.isi (.var 0) .int), (.not (.isi (.var 0) .bool)), (.cmp .eq (.var 0) (.var 1))])] [], .ite (.isi (.var 1) .str) [.ret (.and [(.isi (.var 0) .str), (.cmp .eq (.var 0) (.var 1))])] [], .ite (.cmp .is (.var 1) .non) [.ret (.cmp .is (.var 0) .non)] [], .ite (.or [(.not (.isi (.var 0) .tuple)), (.cmp .ne (.blt .len [(.var 0)]) (.blt .len [(.var 1)]))]) [.ret (.bl false)] [], .for (.nm 2) (.rng [(.blt .len [(.var 1)])]) [.ite (.not (.call (Str.ofString "_law_same") [(.idx (.var 0) (.var 2)), (.idx (.var 1) (.var 2))])) [.ret (.bl false)] []], .ret (.bl true)] [x0, x1, .un] (fun r => match outR d__law_same r with | some (o, fs) => Ψ o fs | none => False)) : ∃ o fs, callL prog W (k + 1) (Str.ofString "_law_same") [x0, x1] = some (o, fs) ∧ Ψ o fs := callL_at d__law_same f__law_same rfl hb
theorem f__law_number : prog.find? (fun d => d.name == Str.ofString "_law_number") = some d__law_number := by rfl
theorem c__law_number {W k : Nat} {x0 x1 : Slot} {o : Opd} {fs : List Slot} (hb : Goes (callL prog W k) W [.set 2 (.call (Str.ofString "_law_take") [(.var 0), (.int 12)]), .ite (.cmp .eq (.var 2) (.int 0)) [.ret (.blt .abs [(.var 1)])] [], .ret (.call (Str.ofString "_law_take") [(.var 0), (.idx (.lst [(.int 3), (.int 7), (.int 20)]) (.blt .int [(.bin .mod (.var 2) (.int 3))]))])] [x0, x1, .un] (fun r => outR d__law_number r = some (o, fs))) : callL prog W (k + 1) (Str.ofString "_law_number") [x0, x1] = some (o, fs) := callL_eq d__law_number f__law_number rfl hb
theorem e__law_number {W k : Nat} {x0 x1 : Slot} {Ψ : Opd → List Slot → Prop} (hb : Goes (callL prog W k) W [.set 2 (.call (Str.ofString "_law_take") [(.var 0), (.int 12)]), .ite (.cmp .eq (.var 2) (.int 0)) [.ret (.blt .abs [(.var 1)])] [], .ret (.call (Str.ofString "_law_take") [(.var 0), (.idx (.lst [(.int 3), (.int 7), (.int 20)]) (.blt .int [(.bin .mod (.var 2) (.int 3))]))])] [x0, x1, .un] (fun r => match outR d__law_number r with | some (o, fs) => Ψ o fs | none => False)) : ∃ o fs, callL prog W (k + 1) (Str.ofString "_law_number") [x0, x1] = some (o, fs) ∧ Ψ o fs := callL_at d__law_number f__law_number rfl hb
theorem f__law_long : prog.find? (fun d => d.name == Str.ofString "_law_long") = some d__law_long := by rfl
theorem c__law_long {W k : Nat} {x0 : Slot} {o : Opd} {fs : List Slot} (hb : Goes (callL prog W k) W [.for (.nm 1) (.rng [(.int 900)]) [.ite (.cmp .eq (.bin .shr (.var 0) (.var 1)) (.int 0)) [.ret (.var 1)] []], .ret (.int 900)] [x0, .un] (fun r => outR d__law_long r = some (o, fs))) : callL prog W (k + 1) (Str.ofString "_law_long") [x0] = some (o, fs) := callL_eq d__law_long f__law_long rfl hb
theorem e__law_long {W k : Nat} {x0 : Slot} {Ψ : Opd → List Slot → Prop} (hb : Goes (callL prog W k) W [.for (.nm 1) (.rng [(.int 900)]) [.ite (.cmp .eq (.bin .shr (.var 0) (.var 1)) (.int 0)) [.ret (.var 1)] []], .ret (.int 900)] [x0, .un] (fun r => match outR d__law_long r with | some (o, fs) => Ψ o fs | none => False)) : ∃ o fs, callL prog W (k + 1) (Str.ofString "_law_long") [x0] = some (o, fs) ∧ Ψ o fs := callL_at d__law_long f__law_long rfl hb
theorem f__law_letter : prog.find? (fun d => d.name == Str.ofString "_law_letter") = some d__law_letter := by rfl
theorem c__law_letter {W k : Nat} {x0 x1 : Slot} {o : Opd} {fs : List Slot} (hb : Goes (callL prog W k) W [.ret (.blt .sum [(.bin .add (.lst [(.int 0)]) (.lc [2] (.nm 2) (.rng [(.blt .len [(.var 0)])]) [] (.bin .shl (.bin .mod (.blt .int [(.bin .shr (.idx (.var 0) (.var 2)) (.var 1))]) (.int 2)) (.var 2))))])] [x0, x1, .un] (fun r => outR d__law_letter r = some (o, fs))) : callL prog W (k + 1) (Str.ofString "_law_letter") [x0, x1] = some (o, fs) := callL_eq d__law_letter f__law_letter rfl hb
theorem e__law_letter {W k : Nat} {x0 x1 : Slot} {Ψ : Opd → List Slot → Prop} (hb : Goes (callL prog W k) W [.ret (.blt .sum [(.bin .add (.lst [(.int 0)]) (.lc [2] (.nm 2) (.rng [(.blt .len [(.var 0)])]) [] (.bin .shl (.bin .mod (.blt .int [(.bin .shr (.idx (.var 0) (.var 2)) (.var 1))]) (.int 2)) (.var 2))))])] [x0, x1, .un] (fun r => match outR d__law_letter r with | some (o, fs) => Ψ o fs | none => False)) : ∃ o fs, callL prog W (k + 1) (Str.ofString "_law_letter") [x0, x1] = some (o, fs) ∧ Ψ o fs := callL_at d__law_letter f__law_letter rfl hb
theorem f__law_word : prog.find? (fun d => d.name == Str.ofString "_law_word") = some d__law_word := by rfl
theorem c__law_word {W k : Nat} {x0 : Slot} {o : Opd} {fs : List Slot} (hb : Goes (callL prog W k) W [.set 1 (.blt .max [(.bin .add (.lst [(.int 0)]) (.lc [2] (.nm 2) (.var 0) [] (.call (Str.ofString "_law_long") [(.var 2)])))]), .ret (.blt .tuple [(.lc [3] (.nm 3) (.rng [(.var 1)]) [] (.call (Str.ofString "_law_letter") [(.var 0), (.var 3)]))])] [x0, .un, .un, .un] (fun r => outR d__law_word r = some (o, fs))) : callL prog W (k + 1) (Str.ofString "_law_word") [x0] = some (o, fs) := callL_eq d__law_word f__law_word rfl hb
theorem e__law_word {W k : Nat} {x0 : Slot} {Ψ : Opd → List Slot → Prop} (hb : Goes (callL prog W k) W [.set 1 (.blt .max [(.bin .add (.lst [(.int 0)]) (.lc [2] (.nm 2) (.var 0) [] (.call (Str.ofString "_law_long") [(.var 2)])))]), .ret (.blt .tuple [(.lc [3] (.nm 3) (.rng [(.var 1)]) [] (.call (Str.ofString "_law_letter") [(.var 0), (.var 3)]))])] [x0, .un, .un, .un] (fun r => match outR d__law_word r with | some (o, fs) => Ψ o fs | none => False)) : ∃ o fs, callL prog W (k + 1) (Str.ofString "_law_word") [x0] = some (o, fs) ∧ Ψ o fs := callL_at d__law_word f__law_word rfl hb
theorem f__law_row : prog.find? (fun d => d.name == Str.ofString "_law_row") = some d__law_row := by rfl
theorem c__law_row {W k : Nat} {x0 x1 : Slot} {o : Opd} {fs : List Slot} (hb : Goes (callL prog W k) W [.ret (.blt .tuple [(.lc [2] (.nm 2) (.rng [(.var 1)]) [] (.blt .sum [(.bin .add (.lst [(.int 0)]) (.lc [3] (.nm 3) (.rng [(.blt .len [(.var 0)])]) [] (.bin .shl (.bin .mod (.bin .shr (.idx (.var 0) (.var 3)) (.var 2)) (.int 2)) (.var 3))))]))])] [x0, x1, .un, .un] (fun r => outR d__law_row r = some (o, fs))) : callL prog W (k + 1) (Str.ofString "_law_row") [x0, x1] = some (o, fs) := callL_eq d__law_row f__law_row rfl hb
theorem e__law_row {W k : Nat} {x0 x1 : Slot} {Ψ : Opd → List Slot → Prop} (hb : Goes (callL prog W k) W [.ret (.blt .tuple [(.lc [2] (.nm 2) (.rng [(.var 1)]) [] (.blt .sum [(.bin .add (.lst [(.int 0)]) (.lc [3] (.nm 3) (.rng [(.blt .len [(.var 0)])]) [] (.bin .shl (.bin .mod (.bin .shr (.idx (.var 0) (.var 3)) (.var 2)) (.int 2)) (.var 3))))]))])] [x0, x1, .un, .un] (fun r => match outR d__law_row r with | some (o, fs) => Ψ o fs | none => False)) : ∃ o fs, callL prog W (k + 1) (Str.ofString "_law_row") [x0, x1] = some (o, fs) ∧ Ψ o fs := callL_at d__law_row f__law_row rfl hb
theorem f__law_are_letters_right : prog.find? (fun d => d.name == Str.ofString "_law_are_letters_right") = some d__law_are_letters_right := by rfl
theorem c__law_are_letters_right {W k : Nat} {x0 x1 : Slot} {o : Opd} {fs : List Slot} (hb : Goes (callL prog W k) W [.ite (.not (.call (Str.ofString "_law_same") [(.call (Str.ofString "letters_for") [(.var 1)]), (.idx (.lst [(.int 1), (.int 2), (.int 4), (.int 8), (.int 16)]) (.var 1))])) [.ret (.bl false)] [], .set 2 (.call (Str.ofString "_law_take") [(.var 0), (.bin .shl (.int 1) (.var 1))]), .set 3 (.blt .tuple [(.lc [4] (.nm 4) (.rng [(.var 1)]) [] (.bin .mod (.bin .fdiv (.var 2) (.bin .shl (.int 1) (.var 4))) (.int 2)))]), .ite (.or [(.not (.call (Str.ofString "_law_same") [(.call (Str.ofString "digits_in") [(.var 2), (.var 1)]), (.var 3)])), (.not (.call (Str.ofString "_law_same") [(.call (Str.ofString "letter_of") [(.var 3)]), (.var 2)]))]) [.ret (.bl false)] [], .set 5 (.call (Str.ofString "_law_take") [(.var 0), (.bin .add (.var 1) (.int 1))]), .set 6 (.call (Str.ofString "_law_take") [(.var 0), (.int 2)]), .set 7 (.call (Str.ofString "letter_with") [(.var 2), (.var 5), (.var 6)]), .ite (.or [(.not (.call (Str.ofString "_law_same") [(.call (Str.ofString "digits_in") [(.var 7), (.bin .add (.var 1) (.int 1))]), (.bin .add (.bin .add (.slc (.var 3) .non (.var 5)) (.tup [(.var 6)])) (.slc (.var 3) (.var 5) .non))])), (.not (.call (Str.ofString "_law_same") [(.call (Str.ofString "letter_without") [(.var 7), (.var 5)]), (.var 2)]))]) [.ret (.bl false)] [], .set 8 (.blt .tuple [(.lc [9] (.nm 9) (.rng [(.call (Str.ofString "_law_take") [(.var 0), (.int 4)])]) [(.cmp .gt (.var 1) (.int 0))] (.call (Str.ofString "_law_take") [(.var 0), (.var 1)]))]), .ret (.call (Str.ofString "_law_same") [(.call (Str.ofString "digits_in") [(.call (Str.ofString "picked_letter") [(.var 2), (.var 8)]), (.blt .len [(.var 8)])]), (.blt .tuple [(.lc [10] (.nm 10) (.var 8) [] (.idx (.var 3) (.var 10)))])])] [x0, x1, .un, .un, .un, .un, .un, .un, .un, .un, .un] (fun r => outR d__law_are_letters_right r = some (o, fs))) : callL prog W (k + 1) (Str.ofString "_law_are_letters_right") [x0, x1] = some (o, fs) := callL_eq d__law_are_letters_right f__law_are_letters_right rfl hb
theorem e__law_are_letters_right {W k : Nat} {x0 x1 : Slot} {Ψ : Opd → List Slot → Prop} (hb : Goes (callL prog W k) W [.ite (.not (.call (Str.ofString "_law_same") [(.call (Str.ofString "letters_for") [(.var 1)]), (.idx (.lst [(.int 1), (.int 2), (.int 4), (.int 8), (.int 16)]) (.var 1))])) [.ret (.bl false)] [], .set 2 (.call (Str.ofString "_law_take") [(.var 0), (.bin .shl (.int 1) (.var 1))]), .set 3 (.blt .tuple [(.lc [4] (.nm 4) (.rng [(.var 1)]) [] (.bin .mod (.bin .fdiv (.var 2) (.bin .shl (.int 1) (.var 4))) (.int 2)))]), .ite (.or [(.not (.call (Str.ofString "_law_same") [(.call (Str.ofString "digits_in") [(.var 2), (.var 1)]), (.var 3)])), (.not (.call (Str.ofString "_law_same") [(.call (Str.ofString "letter_of") [(.var 3)]), (.var 2)]))]) [.ret (.bl false)] [], .set 5 (.call (Str.ofString "_law_take") [(.var 0), (.bin .add (.var 1) (.int 1))]), .set 6 (.call (Str.ofString "_law_take") [(.var 0), (.int 2)]), .set 7 (.call (Str.ofString "letter_with") [(.var 2), (.var 5), (.var 6)]), .ite (.or [(.not (.call (Str.ofString "_law_same") [(.call (Str.ofString "digits_in") [(.var 7), (.bin .add (.var 1) (.int 1))]), (.bin .add (.bin .add (.slc (.var 3) .non (.var 5)) (.tup [(.var 6)])) (.slc (.var 3) (.var 5) .non))])), (.not (.call (Str.ofString "_law_same") [(.call (Str.ofString "letter_without") [(.var 7), (.var 5)]), (.var 2)]))]) [.ret (.bl false)] [], .set 8 (.blt .tuple [(.lc [9] (.nm 9) (.rng [(.call (Str.ofString "_law_take") [(.var 0), (.int 4)])]) [(.cmp .gt (.var 1) (.int 0))] (.call (Str.ofString "_law_take") [(.var 0), (.var 1)]))]), .ret (.call (Str.ofString "_law_same") [(.call (Str.ofString "digits_in") [(.call (Str.ofString "picked_letter") [(.var 2), (.var 8)]), (.blt .len [(.var 8)])]), (.blt .tuple [(.lc [10] (.nm 10) (.var 8) [] (.idx (.var 3) (.var 10)))])])] [x0, x1, .un, .un, .un, .un, .un, .un, .un, .un, .un] (fun r => match outR d__law_are_letters_right r with | some (o, fs) => Ψ o fs | none => False)) : ∃ o fs, callL prog W (k + 1) (Str.ofString "_law_are_letters_right") [x0, x1] = some (o, fs) ∧ Ψ o fs := callL_at d__law_are_letters_right f__law_are_letters_right rfl hb
theorem f__law_are_words_right : prog.find? (fun d => d.name == Str.ofString "_law_are_words_right") = some d__law_are_words_right := by rfl
theorem c__law_are_words_right {W k : Nat} {x0 x1 : Slot} {o : Opd} {fs : List Slot} (hb : Goes (callL prog W k) W [.set 2 (.blt .len [(.var 1)]), .set 3 (.call (Str.ofString "_law_word") [(.var 1)]), .ite (.or [(.not (.call (Str.ofString "_law_same") [(.call (Str.ofString "word_of") [(.var 1)]), (.var 3)])), (.not (.call (Str.ofString "_law_same") [(.call (Str.ofString "row_of") [(.var 3), (.var 2)]), (.var 1)])), (.not (.call (Str.ofString "_law_same") [(.call (Str.ofString "word_of") [(.var 1)]), (.var 3)]))]) [.ret (.bl false)] [], .set 4 (.call (Str.ofString "_law_take") [(.var 0), (.int 4)]), .set 5 (.bin .add (.var 3) (.bin .mul (.tup [(.int 0)]) (.var 4))), .ite (.or [(.not (.call (Str.ofString "_law_same") [(.call (Str.ofString "row_of") [(.var 5), (.var 2)]), (.var 1)])), (.not (.call (Str.ofString "_law_same") [(.call (Str.ofString "shortened_word") [(.var 5)]), (.var 3)])), (.not (.call (Str.ofString "_law_same") [(.call (Str.ofString "tell_one_row") [(.var 5), (.var 3)]), (.bl true)]))]) [.ret (.bl false)] [], .ite (.or [(.not (.call (Str.ofString "_law_same") [(.call (Str.ofString "lengthened_word") [(.var 3), (.bin .add (.blt .len [(.var 3)]) (.var 4))]), (.var 5)])), (.not (.call (Str.ofString "_law_same") [(.call (Str.ofString "lengthened_word") [(.var 5), (.blt .len [(.var 3)])]), (.var 5)]))]) [.ret (.bl false)] [], .set 6 (.bin .add (.var 5) (.tup [(.call (Str.ofString "_law_take") [(.var 0), (.bin .shl (.int 1) (.var 2))])])), .ite (.or [(.not (.call (Str.ofString "_law_same") [(.call (Str.ofString "tell_one_row") [(.var 6), (.var 3)]), (.cmp .eq (.idx (.var 6) (.blt .len [(.var 5)])) (.int 0))])), (.not (.call (Str.ofString "_law_same") [(.call (Str.ofString "row_of") [(.var 6), (.var 2)]), (.call (Str.ofString "_law_row") [(.var 6), (.var 2)])]))]) [.ret (.bl false)] [], .set 7 (.blt .tuple [(.lc [8] (.nm 8) (.rng [(.call (Str.ofString "_law_take") [(.var 0), (.int 4)])]) [] (.call (Str.ofString "_law_take") [(.var 0), (.bin .shl (.int 1) (.var 2))]))]), .set 9 (.or [(.cmp .lt (.blt .len [(.var 7)]) (.blt .len [(.var 3)])), (.and [(.cmp .eq (.blt .len [(.var 7)]) (.blt .len [(.var 3)])), (.cmp .lt (.var 7) (.var 3))])]), .ret (.and [(.call (Str.ofString "_law_same") [(.call (Str.ofString "is_word_before") [(.var 7), (.var 3)]), (.var 9)]), (.call (Str.ofString "_law_same") [(.call (Str.ofString "is_word_before") [(.var 3), (.var 3)]), (.bl false)])])] [x0, x1, .un, .un, .un, .un, .un, .un, .un, .un] (fun r => outR d__law_are_words_right r = some (o, fs))) : callL prog W (k + 1) (Str.ofString "_law_are_words_right") [x0, x1] = some (o, fs) := callL_eq d__law_are_words_right f__law_are_words_right rfl hb
theorem e__law_are_words_right {W k : Nat} {x0 x1 : Slot} {Ψ : Opd → List Slot → Prop} (hb : Goes (callL prog W k) W [.set 2 (.blt .len [(.var 1)]), .set 3 (.call (Str.ofString "_law_word") [(.var 1)]), .ite (.or [(.not (.call (Str.ofString "_law_same") [(.call (Str.ofString "word_of") [(.var 1)]), (.var 3)])), (.not (.call (Str.ofString "_law_same") [(.call (Str.ofString "row_of") [(.var 3), (.var 2)]), (.var 1)])), (.not (.call (Str.ofString "_law_same") [(.call (Str.ofString "word_of") [(.var 1)]), (.var 3)]))]) [.ret (.bl false)] [], .set 4 (.call (Str.ofString "_law_take") [(.var 0), (.int 4)]), .set 5 (.bin .add (.var 3) (.bin .mul (.tup [(.int 0)]) (.var 4))), .ite (.or [(.not (.call (Str.ofString "_law_same") [(.call (Str.ofString "row_of") [(.var 5), (.var 2)]), (.var 1)])), (.not (.call (Str.ofString "_law_same") [(.call (Str.ofString "shortened_word") [(.var 5)]), (.var 3)])), (.not (.call (Str.ofString "_law_same") [(.call (Str.ofString "tell_one_row") [(.var 5), (.var 3)]), (.bl true)]))]) [.ret (.bl false)] [], .ite (.or [(.not (.call (Str.ofString "_law_same") [(.call (Str.ofString "lengthened_word") [(.var 3), (.bin .add (.blt .len [(.var 3)]) (.var 4))]), (.var 5)])), (.not (.call (Str.ofString "_law_same") [(.call (Str.ofString "lengthened_word") [(.var 5), (.blt .len [(.var 3)])]), (.var 5)]))]) [.ret (.bl false)] [], .set 6 (.bin .add (.var 5) (.tup [(.call (Str.ofString "_law_take") [(.var 0), (.bin .shl (.int 1) (.var 2))])])), .ite (.or [(.not (.call (Str.ofString "_law_same") [(.call (Str.ofString "tell_one_row") [(.var 6), (.var 3)]), (.cmp .eq (.idx (.var 6) (.blt .len [(.var 5)])) (.int 0))])), (.not (.call (Str.ofString "_law_same") [(.call (Str.ofString "row_of") [(.var 6), (.var 2)]), (.call (Str.ofString "_law_row") [(.var 6), (.var 2)])]))]) [.ret (.bl false)] [], .set 7 (.blt .tuple [(.lc [8] (.nm 8) (.rng [(.call (Str.ofString "_law_take") [(.var 0), (.int 4)])]) [] (.call (Str.ofString "_law_take") [(.var 0), (.bin .shl (.int 1) (.var 2))]))]), .set 9 (.or [(.cmp .lt (.blt .len [(.var 7)]) (.blt .len [(.var 3)])), (.and [(.cmp .eq (.blt .len [(.var 7)]) (.blt .len [(.var 3)])), (.cmp .lt (.var 7) (.var 3))])]), .ret (.and [(.call (Str.ofString "_law_same") [(.call (Str.ofString "is_word_before") [(.var 7), (.var 3)]), (.var 9)]), (.call (Str.ofString "_law_same") [(.call (Str.ofString "is_word_before") [(.var 3), (.var 3)]), (.bl false)])])] [x0, x1, .un, .un, .un, .un, .un, .un, .un, .un] (fun r => match outR d__law_are_words_right r with | some (o, fs) => Ψ o fs | none => False)) : ∃ o fs, callL prog W (k + 1) (Str.ofString "_law_are_words_right") [x0, x1] = some (o, fs) ∧ Ψ o fs := callL_at d__law_are_words_right f__law_are_words_right rfl hb
theorem f_law : prog.find? (fun d => d.name == Str.ofString "law") = some d_law := by rfl
theorem c_law {W k : Nat} {x0 : Slot} {o : Opd} {fs : List Slot} (hb : Goes (callL prog W k) W [.set 1 (.call (Str.ofString "_law_draws") [(.var 0), (.int 160)]), .set 2 (.call (Str.ofString "_law_cell") [(.var 0)]), .for (.nm 3) (.rng [(.int 4)]) [.set 4 (.call (Str.ofString "_law_take") [(.var 1), (.int 5)]), .set 5 (.blt .tuple [(.lc [6] (.nm 6) (.rng [(.var 4)]) [] (.call (Str.ofString "_law_number") [(.var 1), (.var 2)]))]), .ite (.or [(.not (.call (Str.ofString "_law_are_letters_right") [(.var 1), (.var 4)])), (.not (.call (Str.ofString "_law_are_words_right") [(.var 1), (.var 5)]))]) [.ret (.bl false)] []], .set 4 (.call (Str.ofString "_law_take") [(.var 1), (.int 3)]), .set 7 (.call (Str.ofString "_law_take") [(.var 1), (.int 3)]), .set 8 (.call (Str.ofString "words_of_length") [(.var 4), (.var 7)]), .ite (.or [(.cmp .ne (.blt .len [(.var 8)]) (.idx (.lst [(.int 1), (.bin .shl (.int 1) (.var 4)), (.bin .mul (.bin .shl (.int 1) (.var 4)) (.bin .shl (.int 1) (.var 4)))]) (.var 7))), (.cmp .ne (.blt .list [(.var 8)]) (.sset (.var 8)))]) [.ret (.bl false)] [], .ite (.cmp .gt (.blt .len [(.lc [9] (.nm 9) (.var 8) [(.or [(.cmp .ne (.blt .len [(.var 9)]) (.var 7)), (.cmp .gt (.blt .len [(.lc [10] (.nm 10) (.var 9) [(.or [(.cmp .lt (.var 10) (.int 0)), (.cmp .ge (.var 10) (.bin .shl (.int 1) (.var 4)))])] (.var 10))]) (.int 0))])] (.var 9))]) (.int 0)) [.ret (.bl false)] [], .ite (.or [(.not (.call (Str.ofString "_law_same") [(.call (Str.ofString "word_of") [(.tup [(.int 5), (.int 2)])]), (.tup [(.int 1), (.int 2), (.int 1)])])), (.not (.call (Str.ofString "_law_same") [(.call (Str.ofString "row_of") [(.tup [(.int 1), (.int 2), (.int 1), (.int 0)]), (.int 2)]), (.tup [(.int 5), (.int 2)])])), (.not (.call (Str.ofString "_law_same") [(.call (Str.ofString "word_of") [(.tup [])]), (.tup [])])), (.not (.call (Str.ofString "_law_same") [(.call (Str.ofString "row_of") [(.tup [(.int 0), (.int 0)]), (.int 0)]), (.tup [])]))]) [.ret (.bl false)] [], .ite (.or [(.not (.call (Str.ofString "_law_same") [(.call (Str.ofString "words_of_length") [(.int 1), (.int 2)]), (.tup [(.tup [(.int 0), (.int 0)]), (.tup [(.int 0), (.int 1)]), (.tup [(.int 1), (.int 0)]), (.tup [(.int 1), (.int 1)])])])), (.not (.call (Str.ofString "_law_same") [(.call (Str.ofString "words_of_length") [(.int 0), (.int 3)]), (.tup [(.tup [(.int 0), (.int 0), (.int 0)])])])), (.not (.call (Str.ofString "_law_same") [(.call (Str.ofString "words_of_length") [(.int 2), (.int 0)]), (.tup [(.tup [])])]))]) [.ret (.bl false)] [], .ret (.and [(.call (Str.ofString "_law_same") [(.call (Str.ofString "picked_letter") [(.int 6), (.tup [(.int 2), (.int 0), (.int 2)])]), (.int 5)]), (.call (Str.ofString "_law_same") [(.call (Str.ofString "letter_with") [(.int 3), (.int 1), (.int 0)]), (.int 5)]), (.call (Str.ofString "_law_same") [(.call (Str.ofString "letter_without") [(.int 5), (.int 1)]), (.int 3)]), (.call (Str.ofString "_law_same") [(.call (Str.ofString "is_word_before") [(.tup [(.int 3)]), (.tup [(.int 0), (.int 0)])]), (.bl true)])])] [x0, .un, .un, .un, .un, .un, .un, .un, .un, .un, .un] (fun r => outR d_law r = some (o, fs))) : callL prog W (k + 1) (Str.ofString "law") [x0] = some (o, fs) := callL_eq d_law f_law rfl hb
theorem e_law {W k : Nat} {x0 : Slot} {Ψ : Opd → List Slot → Prop} (hb : Goes (callL prog W k) W [.set 1 (.call (Str.ofString "_law_draws") [(.var 0), (.int 160)]), .set 2 (.call (Str.ofString "_law_cell") [(.var 0)]), .for (.nm 3) (.rng [(.int 4)]) [.set 4 (.call (Str.ofString "_law_take") [(.var 1), (.int 5)]), .set 5 (.blt .tuple [(.lc [6] (.nm 6) (.rng [(.var 4)]) [] (.call (Str.ofString "_law_number") [(.var 1), (.var 2)]))]), .ite (.or [(.not (.call (Str.ofString "_law_are_letters_right") [(.var 1), (.var 4)])), (.not (.call (Str.ofString "_law_are_words_right") [(.var 1), (.var 5)]))]) [.ret (.bl false)] []], .set 4 (.call (Str.ofString "_law_take") [(.var 1), (.int 3)]), .set 7 (.call (Str.ofString "_law_take") [(.var 1), (.int 3)]), .set 8 (.call (Str.ofString "words_of_length") [(.var 4), (.var 7)]), .ite (.or [(.cmp .ne (.blt .len [(.var 8)]) (.idx (.lst [(.int 1), (.bin .shl (.int 1) (.var 4)), (.bin .mul (.bin .shl (.int 1) (.var 4)) (.bin .shl (.int 1) (.var 4)))]) (.var 7))), (.cmp .ne (.blt .list [(.var 8)]) (.sset (.var 8)))]) [.ret (.bl false)] [], .ite (.cmp .gt (.blt .len [(.lc [9] (.nm 9) (.var 8) [(.or [(.cmp .ne (.blt .len [(.var 9)]) (.var 7)), (.cmp .gt (.blt .len [(.lc [10] (.nm 10) (.var 9) [(.or [(.cmp .lt (.var 10) (.int 0)), (.cmp .ge (.var 10) (.bin .shl (.int 1) (.var 4)))])] (.var 10))]) (.int 0))])] (.var 9))]) (.int 0)) [.ret (.bl false)] [], .ite (.or [(.not (.call (Str.ofString "_law_same") [(.call (Str.ofString "word_of") [(.tup [(.int 5), (.int 2)])]), (.tup [(.int 1), (.int 2), (.int 1)])])), (.not (.call (Str.ofString "_law_same") [(.call (Str.ofString "row_of") [(.tup [(.int 1), (.int 2), (.int 1), (.int 0)]), (.int 2)]), (.tup [(.int 5), (.int 2)])])), (.not (.call (Str.ofString "_law_same") [(.call (Str.ofString "word_of") [(.tup [])]), (.tup [])])), (.not (.call (Str.ofString "_law_same") [(.call (Str.ofString "row_of") [(.tup [(.int 0), (.int 0)]), (.int 0)]), (.tup [])]))]) [.ret (.bl false)] [], .ite (.or [(.not (.call (Str.ofString "_law_same") [(.call (Str.ofString "words_of_length") [(.int 1), (.int 2)]), (.tup [(.tup [(.int 0), (.int 0)]), (.tup [(.int 0), (.int 1)]), (.tup [(.int 1), (.int 0)]), (.tup [(.int 1), (.int 1)])])])), (.not (.call (Str.ofString "_law_same") [(.call (Str.ofString "words_of_length") [(.int 0), (.int 3)]), (.tup [(.tup [(.int 0), (.int 0), (.int 0)])])])), (.not (.call (Str.ofString "_law_same") [(.call (Str.ofString "words_of_length") [(.int 2), (.int 0)]), (.tup [(.tup [])])]))]) [.ret (.bl false)] [], .ret (.and [(.call (Str.ofString "_law_same") [(.call (Str.ofString "picked_letter") [(.int 6), (.tup [(.int 2), (.int 0), (.int 2)])]), (.int 5)]), (.call (Str.ofString "_law_same") [(.call (Str.ofString "letter_with") [(.int 3), (.int 1), (.int 0)]), (.int 5)]), (.call (Str.ofString "_law_same") [(.call (Str.ofString "letter_without") [(.int 5), (.int 1)]), (.int 3)]), (.call (Str.ofString "_law_same") [(.call (Str.ofString "is_word_before") [(.tup [(.int 3)]), (.tup [(.int 0), (.int 0)])]), (.bl true)])])] [x0, .un, .un, .un, .un, .un, .un, .un, .un, .un, .un] (fun r => match outR d_law r with | some (o, fs) => Ψ o fs | none => False)) : ∃ o fs, callL prog W (k + 1) (Str.ofString "law") [x0] = some (o, fs) ∧ Ψ o fs := callL_at d_law f_law rfl hb
end K01
namespace K01
open PySem PF
variable {W : Nat}
abbrev nt (n : Nat) : D := .int (n : Int)
abbrev bits (ds : List Nat) : List D := ds.map nt
def dg : Nat → List Nat
  | 0 => []
  | n + 1 => (n + 1) % 2 :: dg ((n + 1) / 2)
decreasing_by omega
def val : List Nat → Nat
  | [] => 0
  | d :: ds => d + 2 * val ds
theorem dg_pos {n : Nat} (h : 0 < n) : dg n = n % 2 :: dg (n / 2) := by
  cases n with
  | zero => omega
  | succ n => rw [dg]
theorem val_dg (n : Nat) : val (dg n) = n := by
  induction n using Nat.strongRecOn with
  | ind n ih =>
    by_cases h : 0 < n
    · rw [dg_pos h, val, ih (n / 2) (by omega)]; omega
    · rw [show n = 0 by omega]; simp [dg, val]
theorem dg_bit (n : Nat) : ∀ d ∈ dg n, d < 2 := by
  induction n using Nat.strongRecOn with
  | ind n ih =>
    by_cases h : 0 < n
    · rw [dg_pos h]
      intro d hd
      rcases List.mem_cons.mp hd with rfl | hd
      · omega
      · exact ih (n / 2) (by omega) d hd
    · rw [show n = 0 by omega]; simp [dg]
theorem dg_len (m : Nat) : ∀ n, n < 2 ^ m → (dg n).length ≤ m := by
  induction m with
  | zero => intro n h; rw [show n = 0 by simpa using h]; simp [dg]
  | succ m ih =>
    intro n h
    by_cases h0 : 0 < n
    · rw [dg_pos h0, List.length_cons]
      have := ih (n / 2) (by rw [Nat.pow_succ] at h; omega)
      omega
    · rw [show n = 0 by omega]; simp [dg]
theorem r2 : List.range 2 = [0, 1] := rfl
theorem atD_bits {ds : List Nat} {p : Nat} (h : p < ds.length) : atD (bits ds) (p : Int) = some (nt (ds[p]?.getD 0)) := by
  simp [atD, L2.atI, L2.ixN, h]
theorem dt_ok (k : Nat) (ds : List Nat) (p : Nat) : callL prog W (k + 1) (Str.ofString "digit_there") [.val (.tup (bits ds)), .val (nt p)] = some (.dat (nt (ds[p]?.getD 0)), [.val (.tup (bits ds)), .val (nt p)]) := by
  refine c_digit_there ?_
  by_cases h : p < ds.length
  · have := atD_bits h
    simp [d_digit_there, Goes, outR, r2, exs, ex, ev, evds, evs, evAnd, evOr, look, fin, view, views, cm, truth, mutD, toD, op2, store, aug2, giveOut, finals, lend, PF.giveBack, bltD, isiD, kd, isK, idxD, mthD, b2i, itemsOf, bindT, Md.tv, setAll, revD, part, slcD, shp_int, shp_bl, deq_int, deq_bl, shp_non, rg1, rg2, rg3, rg4, ln1, ln2, ln3, ln4, h, this]
  · have : (ds.length : Int) ≤ p := by omega
    simp [d_digit_there, Goes, outR, r2, exs, ex, ev, evds, evs, evAnd, evOr, look, fin, view, views, cm, truth, mutD, toD, op2, store, aug2, giveOut, finals, lend, PF.giveBack, bltD, isiD, kd, isK, idxD, mthD, b2i, itemsOf, bindT, Md.tv, setAll, revD, part, slcD, shp_int, shp_bl, deq_int, deq_bl, shp_non, rg1, rg2, rg3, rg4, ln1, ln2, ln3, ln4, h, this]
theorem do_ok (k : Nat) (n : Nat) (h : n < 2 ^ 900) (hW : 1000 ≤ W) : callL prog W (k + 1) (Str.ofString "digits_of") [.val (nt n)] = some (.dat (.tup (bits (dg n))), [.un]) := by
  refine c_digits_of ?_
  refine go_step [.val (nt n), .own (.lst (bits []))] (by simp [d_digits_of, exs, ex, ev, evds, evs, evAnd, evOr, look, fin, view, views, cm, truth, mutD, toD, op2, store, aug2, giveOut, finals, lend, PF.giveBack, bltD, isiD, kd, isK, idxD, mthD, b2i, itemsOf, bindT, Md.tv, setAll, revD, part, slcD, shp_int, shp_bl, deq_int, deq_bl, shp_non, rg1, rg2, rg3, rg4, ln1, ln2, ln3, ln4]) ?_
  refine go_whl (fun m env => ∃ (a : Nat) (ds : List Nat), env = [.val (nt a), .own (.lst (bits ds))] ∧ ds ++ dg a = dg n ∧ a < 2 ^ m ∧ ds.length + m ≤ 900) 900 (by omega) ⟨n, [], rfl, rfl, h, by simp⟩ fun m env ⟨a, ds, he, h1, h2, h3⟩ => ?_
  subst he
  refine ⟨decide (0 < a), [.val (nt a), .own (.lst (bits ds))], by simp [exs, ex, ev, evds, evs, evAnd, evOr, look, fin, view, views, cm, truth, mutD, toD, op2, store, aug2, giveOut, finals, lend, PF.giveBack, bltD, isiD, kd, isK, idxD, mthD, b2i, itemsOf, bindT, Md.tv, setAll, revD, part, slcD, shp_int, shp_bl, deq_int, deq_bl, shp_non, rg1, rg2, rg3, rg4, ln1, ln2, ln3, ln4], fun hb => ?_, fun hb => ?_⟩
  · have h0 : 0 < a := by simpa using hb
    have : ds.length < line := by unfold line; omega
    have hm : ∃ m', m = m' + 1 := by
      cases m with
      | zero => simp at h2; omega
      | succ m => exact ⟨m, rfl⟩
    obtain ⟨m', rfl⟩ := hm
    simp [Goes, Turn, exs, ex, ev, evds, evs, evAnd, evOr, look, fin, view, views, cm, truth, mutD, toD, op2, store, aug2, giveOut, finals, lend, PF.giveBack, bltD, isiD, kd, isK, idxD, mthD, b2i, itemsOf, bindT, Md.tv, setAll, revD, part, slcD, shp_int, shp_bl, deq_int, deq_bl, shp_non, rg1, rg2, rg3, rg4, ln1, ln2, ln3, ln4, this]
    refine ⟨m', by omega, a / 2, ds ++ [a % 2], by simp, ?_, by rw [Nat.pow_succ] at h2; omega, by simp; omega⟩
    rw [← h1, dg_pos h0]; simp
  · have h0 : a = 0 := by
      have : ¬ 0 < a := by simpa using hb
      omega
    subst h0
    rw [dg, List.append_nil] at h1
    subst h1
    simp [Goes, outR, exs, ex, ev, evds, evs, evAnd, evOr, look, fin, view, views, cm, truth, mutD, toD, op2, store, aug2, giveOut, finals, lend, PF.giveBack, bltD, isiD, kd, isK, idxD, mthD, b2i, itemsOf, bindT, Md.tv, setAll, revD, part, slcD, shp_int, shp_bl, deq_int, deq_bl, shp_non, rg1, rg2, rg3, rg4, ln1, ln2, ln3, ln4]
    simp [d_digits_of]
theorem ints_bits (ds : List Nat) : intsD (bits ds) = some (ds.map Int.ofNat) := by
  induction ds with
  | nil => rfl
  | cons d ds ih => simp only [bits, List.map_cons, intsD]; rw [show intsD (List.map nt ds) = _ from ih]; rfl
theorem sum_nat (ds : List Nat) : (ds.map Int.ofNat).sum = (ds.sum : Nat) := by
  induction ds with
  | nil => rfl
  | cons d ds ih => simp [ih]
theorem no_ok (k : Nat) (ds : List Nat) : callL prog W (k + 1) (Str.ofString "number_of") [.val (.tup (bits ds))] = some (.dat (nt (val ds)), [.val (.tup (bits ds))]) := by
  refine c_number_of ?_
  refine go_step [.val (.tup (bits ds)), .val (nt 0), .un] (by simp [d_number_of, exs, ex, ev, evds, evs, evAnd, evOr, look, fin, view, views, cm, truth, mutD, toD, op2, store, aug2, giveOut, finals, lend, PF.giveBack, bltD, isiD, kd, isK, idxD, mthD, b2i, itemsOf, bindT, Md.tv, setAll, revD, part, slcD, shp_int, shp_bl, deq_int, deq_bl, shp_non, rg1, rg2, rg3, rg4, ln1, ln2, ln3, ln4]) ?_
  refine go_for (bits ds).reverse [.val (.tup (bits ds)), .val (nt 0), .un] (fun i env => ∃ x, env = [.val (.tup (bits ds)), .val (nt (val (ds.drop (ds.length - i)))), x]) (by simp [exs, ex, ev, evds, evs, evAnd, evOr, look, fin, view, views, cm, truth, mutD, toD, op2, store, aug2, giveOut, finals, lend, PF.giveBack, bltD, isiD, kd, isK, idxD, mthD, b2i, itemsOf, bindT, Md.tv, setAll, revD, part, slcD, shp_int, shp_bl, deq_int, deq_bl, shp_non, rg1, rg2, rg3, rg4, ln1, ln2, ln3, ln4]) ⟨.un, by simp [val]⟩ (fun i x env hx ⟨y, he⟩ => ?_) fun env ⟨y, he⟩ => ?_
  · subst he
    have hi : i < ds.length := by
      obtain ⟨q, _⟩ := List.getElem?_eq_some_iff.mp hx
      simpa using q
    have hx2 : x = nt (ds[ds.length - 1 - i]'(by omega)) := by
      rw [List.getElem?_reverse (by simpa using hi)] at hx
      simp at hx
      rw [List.getElem?_eq_getElem (by omega)] at hx
      obtain ⟨a, h, rfl⟩ := hx
      cases h; rfl
    subst hx2
    refine ⟨_, rfl, ?_⟩
    have e : val (ds.drop (ds.length - (i + 1))) = ds[ds.length - 1 - i]'(by omega) + 2 * val (ds.drop (ds.length - i)) := by
      rw [show ds.length - (i + 1) = ds.length - 1 - i by omega, List.drop_eq_getElem_cons (by omega), val]
      rw [show ds.length - 1 - i + 1 = ds.length - i by omega]
    simp [Goes, Turn, exs, ex, ev, evds, evs, evAnd, evOr, look, fin, view, views, cm, truth, mutD, toD, op2, store, aug2, giveOut, finals, lend, PF.giveBack, bltD, isiD, kd, isK, idxD, mthD, b2i, itemsOf, bindT, Md.tv, setAll, revD, part, slcD, shp_int, shp_bl, deq_int, deq_bl, shp_non, rg1, rg2, rg3, rg4, ln1, ln2, ln3, ln4, small64]
    rw [e]; push_cast; omega
  · subst he
    simp [Goes, outR, exs, ex, ev, evds, evs, evAnd, evOr, look, fin, view, views, cm, truth, mutD, toD, op2, store, aug2, giveOut, finals, lend, PF.giveBack, bltD, isiD, kd, isK, idxD, mthD, b2i, itemsOf, bindT, Md.tv, setAll, revD, part, slcD, shp_int, shp_bl, deq_int, deq_bl, shp_non, rg1, rg2, rg3, rg4, ln1, ln2, ln3, ln4, d_number_of]
theorem val_append (a b : List Nat) : val (a ++ b) = val a + 2 ^ a.length * val b := by
  induction a with
  | nil => simp [val]
  | cons d a ih => simp only [List.cons_append, val, ih, List.length_cons, Nat.pow_succ]; rw [Nat.mul_add, ← Nat.mul_assoc, Nat.mul_comm 2 (2 ^ a.length)]; omega
theorem val_zeros (n : Nat) : val (List.replicate n 0) = 0 := by
  induction n with
  | zero => rfl
  | succ n ih => rw [List.replicate_succ, val, ih]
theorem ge_bits {ds : List Nat} {p : Nat} (h : p < ds.length) : ds[p]?.getD 0 = ds[p] := by simp [h]
theorem cut_bits (ds : List Nat) (l : Nat) (h : l ≤ ds.length) : cut (bits ds) none (some (l : Int)) = bits (ds.take l) := by
  unfold cut
  have e : sIx (bits ds).length (bits ds).length (some (l : Int)) = min l (bits ds).length := HT.sIx_nat _ _ _
  rw [e]
  have e2 : sIx (bits ds).length 0 none = 0 := rfl
  rw [e2]
  simp [bits, List.map_take, Nat.min_eq_left h]
theorem max_nat (a b : Nat) : (if a < b then (b : Int) else (a : Int)) = ((max a b : Nat) : Int) := by
  split <;> omega
theorem rng_nat (n : Nat) (h : n < 2 ^ 60) : rngD [.int (n : Int)] = some ((List.range n).map nt) := by
  have e1 : okR (n : Int) = true := by
    have : (n : Int) < 2 ^ 62 := by omega
    have h2 : -(2 ^ 62) ≤ (n : Int) := by omega
    simp only [okR, Bool.and_eq_true, decide_eq_true_eq]
    exact ⟨h2, this⟩
  have e2 : (((n : Int) - 0 + 1 - 1) / 1).toNat = n := by simp
  simp only [rngD, e1, if_true, rngL]
  rw [if_pos (by decide), e2]
  refine congrArg some (List.map_congr_left fun k _ => ?_)
  show D.int _ = D.int _
  refine congrArg D.int ?_
  omega
theorem xs_at {n i : Nat} {x : D} (h : ((List.range n).map nt)[i]? = some x) : i < n ∧ x = nt i := by
  rw [List.getElem?_map] at h
  by_cases hi : i < n
  · rw [List.getElem?_range hi] at h; simp at h; exact ⟨hi, h.symm⟩
  · rw [List.getElem?_eq_none (by simpa using hi)] at h; simp at h
theorem lt60 {n : Nat} (h : n < 100000) : n < 2 ^ 60 := Nat.lt_trans h (by decide)
theorem val_lt : ∀ {ds : List Nat}, (∀ d ∈ ds, d < 2) → val ds < 2 ^ ds.length
  | [], _ => by simp [val]
  | d :: ds, h => by
    have := val_lt fun x hx => h x (List.mem_cons_of_mem _ hx)
    have := h d (List.mem_cons_self ..)
    rw [val, List.length_cons, Nat.pow_succ]; omega
theorem val_snoc (a : List Nat) (d : Nat) : val (a ++ [d]) = val a + 2 ^ a.length * d := by
  rw [val_append]; simp [val]
theorem ge_bit {ds : List Nat} (h : ∀ d ∈ ds, d < 2) (i : Nat) : ds[i]?.getD 0 < 2 := by
  by_cases hi : i < ds.length
  · rw [List.getElem?_eq_getElem hi]; exact h _ (List.getElem_mem hi)
  · rw [List.getElem?_eq_none (by omega)]; decide
theorem rep_bits (i : Nat) : (List.replicate i [D.int 0]).flatten = bits (List.replicate i 0) := by
  induction i with
  | zero => rfl
  | succ i ih => rw [List.replicate_succ, List.flatten_cons, ih]; rfl
theorem bits_app (a b : List Nat) : bits (a ++ b) = bits a ++ bits b := by simp [bits]
theorem pow_le2 {a b : Nat} (h : a ≤ b) : 2 ^ a ≤ 2 ^ b := Nat.pow_le_pow_right (by decide) h
theorem shp_bits (ds : List Nat) : shp (.tup (bits ds)) = true := by
  have h1 : ∀ ds : List Nat, PyData.canLayAll0 (D.pys (bits ds)) = true := by
    intro ds
    induction ds with
    | nil => rfl
    | cons d ds ih => simp only [bits, List.map_cons, D.pys, D.py, PyData.canLayAll0, PyData.canLay0, Bool.true_and]; exact ih
  have h2 : ∀ ds : List Nat, PyData.depthAll (D.pys (bits ds)) = 0 := by
    intro ds
    induction ds with
    | nil => rfl
    | cons d ds ih =>
      simp only [bits, List.map_cons, D.pys, D.py, PyData.depthAll, PyData.depth]
      rw [show PyData.depthAll (D.pys (List.map nt ds)) = 0 from ih]; rfl
  unfold shp SeqAt.shaped
  simp [D.py, PyData.canLay0, PyData.depth, h1 ds, h2 ds]
theorem mem_bits (x : Nat) (L : List Nat) : memD (nt x) (bits L) = decide (x ∈ L) := by
  unfold memD
  rw [bits, List.any_map]
  induction L with
  | nil => rfl
  | cons y L ih =>
    rw [List.any_cons, ih]
    simp only [Function.comp, nt, deq_int, List.mem_cons]
    by_cases h : x = y
    · simp [h]
    · have h2 : ¬ ((y : Int) = (x : Int)) := by omega
      simp [h, h2]
theorem same_int (k : Nat) (n : Int) : callL prog W (k + 1) (Str.ofString "_law_same") [.val (.int n), .val (.int n)] = some (.dat (.bl true), [.val (.int n), .val (.int n)]) := by
  refine c__law_same ?_
  simp [Goes, outR, exs, ex, ev, evds, evs, evAnd, evOr, look, fin, view, views, cm, truth, mutD, toD, op2, store, aug2, giveOut, finals, lend, PF.giveBack, bltD, isiD, kd, isK, idxD, mthD, b2i, itemsOf, bindT, Md.tv, setAll, revD, part, slcD, shp_int, shp_bl, deq_int, deq_bl, shp_non, rg1, rg2, rg3, rg4, ln1, ln2, ln3, ln4, d__law_same]
theorem same_bl (k : Nat) (n : Bool) : callL prog W (k + 1) (Str.ofString "_law_same") [.val (.bl n), .val (.bl n)] = some (.dat (.bl true), [.val (.bl n), .val (.bl n)]) := by
  refine c__law_same ?_
  simp [Goes, outR, exs, ex, ev, evds, evs, evAnd, evOr, look, fin, view, views, cm, truth, mutD, toD, op2, store, aug2, giveOut, finals, lend, PF.giveBack, bltD, isiD, kd, isK, idxD, mthD, b2i, itemsOf, bindT, Md.tv, setAll, revD, part, slcD, shp_int, shp_bl, deq_int, deq_bl, shp_non, rg1, rg2, rg3, rg4, ln1, ln2, ln3, ln4, d__law_same]
theorem same_tup (k : Nat) (ds : List Nat) (hl : ds.length < 100000) : callL prog W (k + 2) (Str.ofString "_law_same") [.val (.tup (bits ds)), .val (.tup (bits ds))] = some (.dat (.bl true), [.val (.tup (bits ds)), .val (.tup (bits ds))]) := by
  refine c__law_same ?_
  refine go_step [.val (.tup (bits ds)), .val (.tup (bits ds)), .un] (by simp [exs, ex, ev, evds, evs, evAnd, evOr, look, fin, view, views, cm, truth, mutD, toD, op2, store, aug2, giveOut, finals, lend, PF.giveBack, bltD, isiD, kd, isK, idxD, mthD, b2i, itemsOf, bindT, Md.tv, setAll, revD, part, slcD, shp_int, shp_bl, deq_int, deq_bl, shp_non, rg1, rg2, rg3, rg4, ln1, ln2, ln3, ln4]) ?_
  refine go_step [.val (.tup (bits ds)), .val (.tup (bits ds)), .un] (by simp [exs, ex, ev, evds, evs, evAnd, evOr, look, fin, view, views, cm, truth, mutD, toD, op2, store, aug2, giveOut, finals, lend, PF.giveBack, bltD, isiD, kd, isK, idxD, mthD, b2i, itemsOf, bindT, Md.tv, setAll, revD, part, slcD, shp_int, shp_bl, deq_int, deq_bl, shp_non, rg1, rg2, rg3, rg4, ln1, ln2, ln3, ln4]) ?_
  refine go_step [.val (.tup (bits ds)), .val (.tup (bits ds)), .un] (by simp [exs, ex, ev, evds, evs, evAnd, evOr, look, fin, view, views, cm, truth, mutD, toD, op2, store, aug2, giveOut, finals, lend, PF.giveBack, bltD, isiD, kd, isK, idxD, mthD, b2i, itemsOf, bindT, Md.tv, setAll, revD, part, slcD, shp_int, shp_bl, deq_int, deq_bl, shp_non, rg1, rg2, rg3, rg4, ln1, ln2, ln3, ln4]) ?_
  refine go_step [.val (.tup (bits ds)), .val (.tup (bits ds)), .un] (by simp [exs, ex, ev, evds, evs, evAnd, evOr, look, fin, view, views, cm, truth, mutD, toD, op2, store, aug2, giveOut, finals, lend, PF.giveBack, bltD, isiD, kd, isK, idxD, mthD, b2i, itemsOf, bindT, Md.tv, setAll, revD, part, slcD, shp_int, shp_bl, deq_int, deq_bl, shp_non, rg1, rg2, rg3, rg4, ln1, ln2, ln3, ln4, D.isNon]) ?_
  refine go_step [.val (.tup (bits ds)), .val (.tup (bits ds)), .un] (by simp [exs, ex, ev, evds, evs, evAnd, evOr, look, fin, view, views, cm, truth, mutD, toD, op2, store, aug2, giveOut, finals, lend, PF.giveBack, bltD, isiD, kd, isK, idxD, mthD, b2i, itemsOf, bindT, Md.tv, setAll, revD, part, slcD, shp_int, shp_bl, deq_int, deq_bl, shp_non, rg1, rg2, rg3, rg4, ln1, ln2, ln3, ln4]) ?_
  refine go_for ((List.range ds.length).map nt) [.val (.tup (bits ds)), .val (.tup (bits ds)), .un]
    (fun i env => ∃ (x : Slot), env = [.val (.tup (bits ds)), .val (.tup (bits ds)), x])
    (ev_rng (ds := [nt ds.length]) (by simp [exs, ex, ev, evds, evs, evAnd, evOr, look, fin, view, views, cm, truth, mutD, toD, op2, store, aug2, giveOut, finals, lend, PF.giveBack, bltD, isiD, kd, isK, idxD, mthD, b2i, itemsOf, bindT, Md.tv, setAll, revD, part, slcD, shp_int, shp_bl, deq_int, deq_bl, shp_non, rg1, rg2, rg3, rg4, ln1, ln2, ln3, ln4, nt]) (rng_nat _ (lt60 (by omega))))
    ⟨.un, rfl⟩ (fun i x env hx ⟨y, he⟩ => ?_) fun env ⟨y, he⟩ => ?_
  · obtain ⟨hi, rfl⟩ := xs_at hx
    subst he
    refine ⟨_, rfl, ?_⟩
    have e := atD_bits hi
    simp [Goes, Turn, exs, ex, ev, evds, evs, evAnd, evOr, look, fin, view, views, cm, truth, mutD, toD, op2, store, aug2, giveOut, finals, lend, PF.giveBack, bltD, isiD, kd, isK, idxD, mthD, b2i, itemsOf, bindT, Md.tv, setAll, revD, part, slcD, shp_int, shp_bl, deq_int, deq_bl, shp_non, rg1, rg2, rg3, rg4, ln1, ln2, ln3, ln4, e, same_int]
  · subst he
    simp [Goes, outR, exs, ex, ev, evds, evs, evAnd, evOr, look, fin, view, views, cm, truth, mutD, toD, op2, store, aug2, giveOut, finals, lend, PF.giveBack, bltD, isiD, kd, isK, idxD, mthD, b2i, itemsOf, bindT, Md.tv, setAll, revD, part, slcD, shp_int, shp_bl, deq_int, deq_bl, shp_non, rg1, rg2, rg3, rg4, ln1, ln2, ln3, ln4, d__law_same]
theorem take_ok (k : Nat) (l : List Int) (m : Nat) (hm : 0 < m) : ∃ (v : Nat) (l' : List Int), v < m ∧ callL prog W (k + 1) (Str.ofString "_law_take") [.own (.lst (l.map .int)), .val (nt m)] = some (.dat (nt v), [.own (.lst (l'.map .int)), .val (nt m)]) := by
  cases h : l.getLast? with
  | none =>
    have : l = [] := List.getLast?_eq_none_iff.mp h
    subst this
    refine ⟨0, [], hm, ?_⟩
    refine c__law_take ?_
    simp [Goes, outR, exs, ex, ev, evds, evs, evAnd, evOr, look, fin, view, views, cm, truth, mutD, toD, op2, store, aug2, giveOut, finals, lend, PF.giveBack, bltD, isiD, kd, isK, idxD, mthD, b2i, itemsOf, bindT, Md.tv, setAll, revD, part, slcD, shp_int, shp_bl, deq_int, deq_bl, shp_non, rg1, rg2, rg3, rg4, ln1, ln2, ln3, ln4, d__law_take]
  | some y =>
    have hne : l ≠ [] := fun z => by subst z; cases h
    have hlen : ¬ ((l.length : Int) = 0) := by
      have := List.length_pos_iff.mpr hne; omega
    refine ⟨(y % m).toNat, l.dropLast, ?_, ?_⟩
    · have := Int.emod_lt_of_pos y (show (0 : Int) < m by omega)
      omega
    · refine c__law_take ?_
      have e : (((y % m).toNat : Nat) : Int) = y % m := by
        have := Int.emod_nonneg y (show (m : Int) ≠ 0 by omega)
        omega
      simp [Goes, outR, exs, ex, ev, evds, evs, evAnd, evOr, look, fin, view, views, cm, truth, mutD, toD, op2, store, aug2, giveOut, finals, lend, PF.giveBack, bltD, isiD, kd, isK, idxD, mthD, b2i, itemsOf, bindT, Md.tv, setAll, revD, part, slcD, shp_int, shp_bl, deq_int, deq_bl, shp_non, rg1, rg2, rg3, rg4, ln1, ln2, ln3, ln4, d__law_take, hne, h, hm, e, List.map_dropLast]
theorem take_z (k : Nat) (l : List Int) (m : Int) (hm : 0 < m) : ∃ (v : Nat) (l' : List Int), (v : Int) < m ∧ callL prog W (k + 1) (Str.ofString "_law_take") [.own (.lst (l.map .int)), .val (.int m)] = some (.dat (.int v), [.own (.lst (l'.map .int)), .val (.int m)]) := by
  obtain ⟨v, l', h1, h2⟩ := take_ok (W := W) k l m.toNat (by omega)
  have e : ((m.toNat : Nat) : Int) = m := by omega
  refine ⟨v, l', by omega, ?_⟩
  rw [nt, e] at h2
  exact h2
abbrev zs (l : List Int) : List D := l.map .int
theorem number_ok (k : Nat) (l : List Int) (cell : Int) : ∃ (v : Nat) (l' : List Int), (v < 20 ∨ (v : Int) = (if cell < 0 then -cell else cell)) ∧ callL prog W (k + 2) (Str.ofString "_law_number") [.own (.lst (zs l)), .val (.int cell)] = some (.dat (nt v), [.own (.lst (zs l')), .val (.int cell)]) := by
  obtain ⟨p, l1, hp, e1⟩ := take_z (W := W) k l 12 (by decide)
  by_cases h0 : p = 0
  · subst h0
    refine ⟨(if cell < 0 then -cell else cell).toNat, l1, .inr (by split <;> omega), ?_⟩
    refine c__law_number ?_
    have e2 : max (if cell < 0 then -cell else cell) 0 = (if cell < 0 then -cell else cell) := by split <;> omega
    simp [Goes, outR, exs, ex, ev, evds, evs, evAnd, evOr, look, fin, view, views, cm, truth, mutD, toD, op2, store, aug2, giveOut, finals, lend, PF.giveBack, bltD, isiD, kd, isK, idxD, mthD, b2i, itemsOf, bindT, Md.tv, setAll, revD, part, slcD, shp_int, shp_bl, deq_int, deq_bl, shp_non, rg1, rg2, rg3, rg4, ln1, ln2, ln3, ln4, d__law_number, e1, e2]
  · have fin3 : ∀ m : Int, 0 < m → m ≤ 20 → (∀ i : Int, i = (p : Int) % 3 → atD [D.int 3, .int 7, .int 20] i = some (.int m)) → ∃ (v : Nat) (l' : List Int), (v < 20 ∨ (v : Int) = (if cell < 0 then -cell else cell)) ∧ callL prog W (k + 2) (Str.ofString "_law_number") [.own (.lst (zs l)), .val (.int cell)] = some (.dat (nt v), [.own (.lst (zs l')), .val (.int cell)]) := by
      intro m hm hm2 ha
      obtain ⟨v, l2, hv, e2⟩ := take_z (W := W) k l1 m hm
      refine ⟨v, l2, .inl (by omega), ?_⟩
      refine c__law_number ?_
      have h0' : ¬ (p : Int) = 0 := by omega
      have ha := ha _ rfl
      simp [Goes, outR, exs, ex, ev, evds, evs, evAnd, evOr, look, fin, view, views, cm, truth, mutD, toD, op2, store, aug2, giveOut, finals, lend, PF.giveBack, bltD, isiD, kd, isK, idxD, mthD, b2i, itemsOf, bindT, Md.tv, setAll, revD, part, slcD, shp_int, shp_bl, deq_int, deq_bl, shp_non, rg1, rg2, rg3, rg4, ln1, ln2, ln3, ln4, d__law_number, e1, h0, h0', ha, e2]
    have hc : p % 3 = 0 ∨ p % 3 = 1 ∨ p % 3 = 2 := by omega
    rcases hc with hc | hc | hc
    · exact fin3 3 (by decide) (by decide) fun i hi => by rw [show i = 0 by omega]; rfl
    · exact fin3 7 (by decide) (by decide) fun i hi => by rw [show i = 1 by omega]; rfl
    · exact fin3 20 (by decide) (by decide) fun i hi => by rw [show i = 2 by omega]; rfl
theorem lt_pow_len (n : Nat) : n < 2 ^ (dg n).length := by
  have := val_lt (dg_bit n)
  rwa [val_dg] at this
theorem long_ok (k : Nat) (n : Nat) (h : n < 2 ^ 900) : callL prog W (k + 1) (Str.ofString "_law_long") [.val (nt n)] = some (.dat (nt (dg n).length), [.val (nt n)]) := by
  have hlen := dg_len 900 n h
  refine c__law_long ?_
  refine go_for ((List.range 900).map nt) [.val (nt n), .un] (fun i env => ∃ (x : Slot), env = [.val (nt n), x] ∧ i ≤ (dg n).length) (ev_rng (ds := [nt 900]) (by simp [exs, ex, ev, evds, evs, evAnd, evOr, look, fin, view, views, cm, truth, mutD, toD, op2, store, aug2, giveOut, finals, lend, PF.giveBack, bltD, isiD, kd, isK, idxD, mthD, b2i, itemsOf, bindT, Md.tv, setAll, revD, part, slcD, shp_int, shp_bl, deq_int, deq_bl, shp_non, rg1, rg2, rg3, rg4, ln1, ln2, ln3, ln4, nt]) (rng_nat _ (by decide)))
    ⟨.un, rfl, by omega⟩ (fun i x env hx ⟨y, he, hi2⟩ => ?_) fun env ⟨y, he, hi2⟩ => ?_
  · obtain ⟨hi, rfl⟩ := xs_at hx
    subst he
    refine ⟨_, rfl, ?_⟩
    have hz : ((n : Int) / 2 ^ i = 0) ↔ n < 2 ^ i := by
      have e : ((n : Int) / 2 ^ i) = ((n / 2 ^ i : Nat) : Int) := by simp
      rw [e]
      have := Nat.div_eq_zero_iff (a := n) (b := 2 ^ i)
      have p : 0 < 2 ^ i := Nat.two_pow_pos i
      omega
    by_cases hq : n < 2 ^ i
    · have hz2 := hz.mpr hq
      have hle := dg_len i n hq
      have he : (dg n).length = i := by omega
      simp [Goes, Turn, exs, ex, ev, evds, evs, evAnd, evOr, look, fin, view, views, cm, truth, mutD, toD, op2, store, aug2, giveOut, finals, lend, PF.giveBack, bltD, isiD, kd, isK, idxD, mthD, b2i, itemsOf, bindT, Md.tv, setAll, revD, part, slcD, shp_int, shp_bl, deq_int, deq_bl, shp_non, rg1, rg2, rg3, rg4, ln1, ln2, ln3, ln4, hz2, outR, d__law_long, he]
    · have hz2 : ¬ ((n : Int) / 2 ^ i = 0) := fun z => hq (hz.mp z)
      have hne : (dg n).length ≠ i := fun z => hq (by have := lt_pow_len n; rw [z] at this; exact this)
      simp [Goes, Turn, exs, ex, ev, evds, evs, evAnd, evOr, look, fin, view, views, cm, truth, mutD, toD, op2, store, aug2, giveOut, finals, lend, PF.giveBack, bltD, isiD, kd, isK, idxD, mthD, b2i, itemsOf, bindT, Md.tv, setAll, revD, part, slcD, shp_int, shp_bl, deq_int, deq_bl, shp_non, rg1, rg2, rg3, rg4, ln1, ln2, ln3, ln4, hz2]
      omega
  · subst he
    have e : (dg n).length = 900 := by
      simp at hi2; omega
    simp [Goes, outR, exs, ex, ev, evds, evs, evAnd, evOr, look, fin, view, views, cm, truth, mutD, toD, op2, store, aug2, giveOut, finals, lend, PF.giveBack, bltD, isiD, kd, isK, idxD, mthD, b2i, itemsOf, bindT, Md.tv, setAll, revD, part, slcD, shp_int, shp_bl, deq_int, deq_bl, shp_non, rg1, rg2, rg3, rg4, ln1, ln2, ln3, ln4, d__law_long, e]
theorem dg_get (n i : Nat) : (dg n)[i]?.getD 0 = n / 2 ^ i % 2 := by
  induction i generalizing n with
  | zero =>
    by_cases h : 0 < n
    · rw [dg_pos h]; simp
    · rw [show n = 0 by omega]; simp [dg]
  | succ i ih =>
    by_cases h : 0 < n
    · rw [dg_pos h, List.getElem?_cons_succ, ih, Nat.div_div_eq_div_mul, Nat.pow_succ, Nat.mul_comm (2 ^ i)]
    · rw [show n = 0 by omega]; simp [dg]
theorem cell_ok (k : Nat) (ns : List Int) : ∃ c : Int, (-(10 ^ 60) < c ∧ c < 10 ^ 60) ∧ callL prog W (k + 1) (Str.ofString "_law_cell") [.val (.lst (zs ns))] = some (.dat (.int c), [.val (.lst (zs ns))]) := by
  cases ns with
  | nil =>
    refine ⟨0, by decide, ?_⟩
    refine c__law_cell ?_
    simp [Goes, outR, exs, ex, ev, evds, evs, evAnd, evOr, look, fin, view, views, cm, truth, mutD, toD, op2, store, aug2, giveOut, finals, lend, PF.giveBack, bltD, isiD, kd, isK, idxD, mthD, b2i, itemsOf, bindT, Md.tv, setAll, revD, part, slcD, shp_int, shp_bl, deq_int, deq_bl, shp_non, rg1, rg2, rg3, rg4, ln1, ln2, ln3, ln4, d__law_cell]
  | cons n0 ns =>
    have hj : (((n0 :: ns).length : Int) - 1) % 7 % ((n0 :: ns).length : Int) = ((((n0 :: ns).length - 1) % 7 % (n0 :: ns).length : Nat) : Int) := by simp
    have hlt : ((n0 :: ns).length - 1) % 7 % (n0 :: ns).length < (n0 :: ns).length := Nat.mod_lt _ (by simp)
    generalize hL : n0 :: ns = L at *
    have hpos : 0 < L.length := by rw [← hL]; simp
    generalize (L.length - 1) % 7 % L.length = j at *
    have ha : atD (zs L) (j : Int) = some (.int (L[j]'hlt)) := by simp [atD, L2.atI, L2.ixN, hlt]
    have hn : ¬ ((L.length : Int) = 0) := by omega
    have hne : ¬ (L = []) := by rw [← hL]; simp
    have hp : (0 : Int) < L.length := by omega
    generalize L[j]'hlt = v at *
    by_cases hv : v < 0
    · refine ⟨-(-v % 10 ^ 60), ?_, ?_⟩
      · have h1 := Int.emod_nonneg (-v) (show (10 : Int) ^ 60 ≠ 0 by decide)
        have h2 := Int.emod_lt_of_pos (-v) (show (0 : Int) < 10 ^ 60 by decide)
        omega
      · refine c__law_cell ?_
        simp [Goes, outR, exs, ex, ev, evds, evs, evAnd, evOr, look, fin, view, views, cm, truth, mutD, toD, op2, store, aug2, giveOut, finals, lend, PF.giveBack, bltD, isiD, kd, isK, idxD, mthD, b2i, itemsOf, bindT, Md.tv, setAll, revD, part, slcD, shp_int, shp_bl, deq_int, deq_bl, shp_non, rg1, rg2, rg3, rg4, ln1, ln2, ln3, ln4, d__law_cell, hj, ha, hn, hne, hp, hv, hpos]
    · refine ⟨v % 10 ^ 60, ?_, ?_⟩
      · have h1 := Int.emod_nonneg v (show (10 : Int) ^ 60 ≠ 0 by decide)
        have h2 := Int.emod_lt_of_pos v (show (0 : Int) < 10 ^ 60 by decide)
        omega
      · refine c__law_cell ?_
        simp [Goes, outR, exs, ex, ev, evds, evs, evAnd, evOr, look, fin, view, views, cm, truth, mutD, toD, op2, store, aug2, giveOut, finals, lend, PF.giveBack, bltD, isiD, kd, isK, idxD, mthD, b2i, itemsOf, bindT, Md.tv, setAll, revD, part, slcD, shp_int, shp_bl, deq_int, deq_bl, shp_non, rg1, rg2, rg3, rg4, ln1, ln2, ln3, ln4, d__law_cell, hj, ha, hn, hne, hp, hv, hpos]
theorem atD_zs {l : List Int} {j : Nat} (h : j < l.length) : atD (zs l) (j : Int) = some (.int (l[j]?.getD 0)) := by simp [atD, L2.atI, L2.ixN, h]
theorem setL_zs {l : List Int} {j : Nat} (h : j < l.length) (v : Int) : setL (.lst (zs l)) (.int (j : Int)) (.int v) = some (.lst (zs (l.set j v))) := by simp [setL, ixn, L2.ixN, h, List.map_set]
theorem small_mod (v : Int) : small64 (v % 2147483647) = true := by
  have h1 := Int.emod_lt_of_pos v (show (0 : Int) < 2147483647 by decide)
  have h2 := Int.emod_nonneg v (show (2147483647 : Int) ≠ 0 by decide)
  simp only [small64, Bool.and_eq_true, decide_eq_true_eq]
  omega
theorem ex8 (c : Cl) (p q r m cv iv jv : Int) (C : List D) (s0 s1 s3 s4 s5 x8 : Slot) (hp : small64 p = true) (hq : small64 q = true) (hm : 0 < m) (a1 : atD C jv = some (.int cv)) :
    ex c W (.set 8 (.bin .mod (.blt .int [(.bin .add (.bin .add (.bin .mul (.idx (.var 2) (.var 7)) (.int p)) (.bin .mul (.var 6) (.int q))) (.int r))]) (.int m))) [s0, s1, .own (.lst C), s3, s4, s5, .val (.int iv), .val (.int jv), x8] =
      some (.nx [s0, s1, .own (.lst C), s3, s4, s5, .val (.int iv), .val (.int jv), .val (.int ((cv * p + iv * q + r) % m))]) := by
  simp [exs, ex, ev, evds, evs, evAnd, evOr, look, fin, view, views, cm, truth, mutD, toD, op2, store, aug2, giveOut, finals, lend, PF.giveBack, bltD, isiD, kd, isK, idxD, mthD, b2i, itemsOf, bindT, Md.tv, setAll, revD, part, slcD, shp_int, shp_bl, deq_int, deq_bl, shp_non, rg1, rg2, rg3, rg4, ln1, ln2, ln3, ln4, a1, hp, hq, hm]
theorem draws_ok (k : Nat) (ns : List Int) (hl : ns.length ≤ 63) : ∃ l : List Int, callL prog W (k + 1) (Str.ofString "_law_draws") [.val (.lst (zs ns)), .val (.int 160)] = some (.own (.lst (zs l)), [.val (.lst (zs ns)), .val (.int 160)]) := by
  suffices H : ∃ o fs, callL prog W (k + 1) (Str.ofString "_law_draws") [.val (.lst (zs ns)), .val (.int 160)] = some (o, fs) ∧ ∃ l : List Int, o = .own (.lst (zs l)) ∧ fs = [.val (.lst (zs ns)), .val (.int 160)] by
    obtain ⟨o, fs, e, l, rfl, rfl⟩ := H
    exact ⟨l, e⟩
  refine e__law_draws ?_
  obtain ⟨ds, env', ⟨x, rfl, hds⟩, e⟩ := ev_lc (c := callL prog W k) (own := [3]) (tg := .nm 3) (src := .var 0) (elt := (.blt .int [(.var 3)])) (cond := []) (env := [.val (.lst (zs ns)), .val (.int 160), .un, .un, .un, .un, .un, .un, .un])
    (zs ns) [.val (.lst (zs ns)), .val (.int 160), .un, .un, .un, .un, .un, .un, .un] (fun i ds env => ∃ x, env = [.val (.lst (zs ns)), .val (.int 160), .un, x, .un, .un, .un, .un, .un] ∧ ds = zs (ns.take i))
    (by simp [exs, ex, ev, evds, evs, evAnd, evOr, look, fin, view, views, cm, truth, mutD, toD, op2, store, aug2, giveOut, finals, lend, PF.giveBack, bltD, isiD, kd, isK, idxD, mthD, b2i, itemsOf, bindT, Md.tv, setAll, revD, part, slcD, shp_int, shp_bl, deq_int, deq_bl, shp_non, rg1, rg2, rg3, rg4, ln1, ln2, ln3, ln4]) ⟨.un, rfl, by simp⟩ (fun i x ds env hx ⟨y, he, hd⟩ => by
      rw [List.getElem?_map] at hx
      have hi : i < ns.length := by
        by_cases hi : i < ns.length
        · exact hi
        · rw [List.getElem?_eq_none (by omega)] at hx; cases hx
      rw [List.getElem?_eq_getElem hi] at hx
      cases hx
      subst he
      subst hd
      refine ⟨some (.int ns[i]), _, ?_, .val (.int ns[i]), rfl, ?_⟩
      · simp [lcT, wipeE, exs, ex, ev, evds, evs, evAnd, evOr, look, fin, view, views, cm, truth, mutD, toD, op2, store, aug2, giveOut, finals, lend, PF.giveBack, bltD, isiD, kd, isK, idxD, mthD, b2i, itemsOf, bindT, Md.tv, setAll, revD, part, slcD, shp_int, shp_bl, deq_int, deq_bl, shp_non, rg1, rg2, rg3, rg4, ln1, ln2, ln3, ln4]
      · show (ns.take i).map D.int ++ [D.int ns[i]] = (ns.take (i + 1)).map D.int
        rw [List.take_add_one, List.getElem?_eq_getElem hi, List.map_append]; rfl)
  have hln : ds.length ≤ line := by rw [hds]; simp; unfold line; omega
  have e2 := e hln
  rw [hds] at e2
  simp at e2
  refine go_step [.val (.lst (zs ns)), .val (.int 160), .own (.lst (zs ns)), .un, .un, .un, .un, .un, .un] (by
    generalize E.lc [3] (.nm 3) (.var 0) [] (.blt .int [(.var 3)]) = q at e2 ⊢
    simp [exs, ex, ev, evds, evs, evAnd, evOr, look, fin, view, views, cm, truth, mutD, toD, op2, store, aug2, giveOut, finals, lend, PF.giveBack, bltD, isiD, kd, isK, idxD, mthD, b2i, itemsOf, bindT, Md.tv, setAll, revD, part, slcD, shp_int, shp_bl, deq_int, deq_bl, shp_non, rg1, rg2, rg3, rg4, ln1, ln2, ln3, ln4, e2, backE]) ?_
  have key : ∀ C : List Int, C ≠ [] → Goes (callL prog W k) W [.set 4 (.blt .list [(.var 2)]), .set 5 (.lst []), .for (.nm 6) (.rng [(.var 1)]) [.set 7 (.bin .mod (.var 6) (.blt .len [(.var 2)])), .ite (.and [(.cmp .ge (.idx (.var 2) (.var 7)) (.bin .pow (.int 10) (.int 18))), (.cmp .gt (.idx (.var 4) (.var 7)) (.int 0))]) [.expr (.mut .append 5 [(.bin .mod (.blt .int [(.idx (.var 4) (.var 7))]) (.int 1000))]), .sub 4 (.var 7) (.bin .fdiv (.idx (.var 4) (.var 7)) (.int 1000))] [.set 8 (.bin .mod (.blt .int [(.bin .add (.bin .add (.bin .mul (.idx (.var 2) (.var 7)) (.int 48271)) (.bin .mul (.var 6) (.int 69621))) (.int 11))]) (.int 2147483647)), .expr (.mut .append 5 [(.bin .mod (.blt .int [(.bin .add (.bin .add (.bin .mul (.var 8) (.var 8)) (.bin .mul (.int 3) (.var 8))) (.var 6))]) (.int 1000003))])]], .expr (.mut .reverse 5 []), .ret (.var 5)]
      [.val (.lst (zs ns)), .val (.int 160), .own (.lst (zs C)), .un, .un, .un, .un, .un, .un] (fun r => match outR d__law_draws r with | some (o, fs) => ∃ l : List Int, o = .own (.lst (zs l)) ∧ fs = [.val (.lst (zs ns)), .val (.int 160)] | none => False) := by
    intro C hC
    have hCl : 0 < C.length := List.length_pos_iff.mpr hC
    refine go_step [.val (.lst (zs ns)), .val (.int 160), .own (.lst (zs C)), .un, .own (.lst (zs C)), .un, .un, .un, .un] (by simp [exs, ex, ev, evds, evs, evAnd, evOr, look, fin, view, views, cm, truth, mutD, toD, op2, store, aug2, giveOut, finals, lend, PF.giveBack, bltD, isiD, kd, isK, idxD, mthD, b2i, itemsOf, bindT, Md.tv, setAll, revD, part, slcD, shp_int, shp_bl, deq_int, deq_bl, shp_non, rg1, rg2, rg3, rg4, ln1, ln2, ln3, ln4]) ?_
    refine go_step [.val (.lst (zs ns)), .val (.int 160), .own (.lst (zs C)), .un, .own (.lst (zs C)), .own (.lst (zs [])), .un, .un, .un] (by simp [exs, ex, ev, evds, evs, evAnd, evOr, look, fin, view, views, cm, truth, mutD, toD, op2, store, aug2, giveOut, finals, lend, PF.giveBack, bltD, isiD, kd, isK, idxD, mthD, b2i, itemsOf, bindT, Md.tv, setAll, revD, part, slcD, shp_int, shp_bl, deq_int, deq_bl, shp_non, rg1, rg2, rg3, rg4, ln1, ln2, ln3, ln4]) ?_
    refine go_for ((List.range 160).map nt) [.val (.lst (zs ns)), .val (.int 160), .own (.lst (zs C)), .un, .own (.lst (zs C)), .own (.lst (zs [])), .un, .un, .un]
      (fun i env => ∃ (R Dd : List Int) (x6 x7 x8 : Slot), env = [.val (.lst (zs ns)), .val (.int 160), .own (.lst (zs C)), .un, .own (.lst (zs R)), .own (.lst (zs Dd)), x6, x7, x8] ∧ R.length = C.length ∧ Dd.length = i)
      (ev_rng (ds := [nt 160]) (by simp [exs, ex, ev, evds, evs, evAnd, evOr, look, fin, view, views, cm, truth, mutD, toD, op2, store, aug2, giveOut, finals, lend, PF.giveBack, bltD, isiD, kd, isK, idxD, mthD, b2i, itemsOf, bindT, Md.tv, setAll, revD, part, slcD, shp_int, shp_bl, deq_int, deq_bl, shp_non, rg1, rg2, rg3, rg4, ln1, ln2, ln3, ln4, nt]) (rng_nat _ (by decide))) ⟨C, [], .un, .un, .un, rfl, rfl, rfl⟩ (fun i x env hx ⟨R, Dd, x6, x7, x8, he, h1, h2⟩ => ?_) fun env ⟨R, Dd, x6, x7, x8, he, h1, h2⟩ => ?_
    · obtain ⟨hi, rfl⟩ := xs_at hx
      subst he
      refine ⟨_, rfl, ?_⟩
      have hj : i % C.length < C.length := Nat.mod_lt _ hCl
      have hj2 : i % C.length < R.length := by omega
      have hp : (0 : Int) < C.length := by omega
      have hln : Dd.length < line := by unfold line; omega
      refine go_step [.val (.lst (zs ns)), .val (.int 160), .own (.lst (zs C)), .un, .own (.lst (zs R)), .own (.lst (zs Dd)), .val (nt i), .val (nt (i % C.length)), x8] (by simp [exs, ex, ev, evds, evs, evAnd, evOr, look, fin, view, views, cm, truth, mutD, toD, op2, store, aug2, giveOut, finals, lend, PF.giveBack, bltD, isiD, kd, isK, idxD, mthD, b2i, itemsOf, bindT, Md.tv, setAll, revD, part, slcD, shp_int, shp_bl, deq_int, deq_bl, shp_non, rg1, rg2, rg3, rg4, ln1, ln2, ln3, ln4, hCl]) ?_
      generalize i % C.length = j at *
      have a1 := atD_zs hj
      have a2 := atD_zs hj2
      generalize C[j]?.getD 0 = cv at *
      generalize hrv : R[j]?.getD 0 = rv at *
      have other : Goes (callL prog W k) W [.set 8 (.bin .mod (.blt .int [(.bin .add (.bin .add (.bin .mul (.idx (.var 2) (.var 7)) (.int 48271)) (.bin .mul (.var 6) (.int 69621))) (.int 11))]) (.int 2147483647)), .expr (.mut .append 5 [(.bin .mod (.blt .int [(.bin .add (.bin .add (.bin .mul (.var 8) (.var 8)) (.bin .mul (.int 3) (.var 8))) (.var 6))]) (.int 1000003))])]
          [.val (.lst (zs ns)), .val (.int 160), .own (.lst (zs C)), .un, .own (.lst (zs R)), .own (.lst (zs Dd)), .val (nt i), .val (nt j), x8] (fun r => ∃ (D2 : List Int) (x8 : Slot), r = .nx [.val (.lst (zs ns)), .val (.int 160), .own (.lst (zs C)), .un, .own (.lst (zs R)), .own (.lst (zs D2)), .val (nt i), .val (nt j), x8] ∧ D2.length = i + 1) := by
        have hs := small_mod (cv * 48271 + i * 69621 + 11)
        refine go_step [.val (.lst (zs ns)), .val (.int 160), .own (.lst (zs C)), .un, .own (.lst (zs R)), .own (.lst (zs Dd)), .val (nt i), .val (nt j), .val (.int ((cv * 48271 + i * 69621 + 11) % 2147483647))] (ex8 _ 48271 69621 11 2147483647 cv i j _ _ _ _ _ _ _ (by decide) (by decide) (by decide) a1) ?_
        generalize (cv * 48271 + i * 69621 + 11) % 2147483647 = o at *
        simp [Goes, exs, ex, ev, evds, evs, evAnd, evOr, look, fin, view, views, cm, truth, mutD, toD, op2, store, aug2, giveOut, finals, lend, PF.giveBack, bltD, isiD, kd, isK, idxD, mthD, b2i, itemsOf, bindT, Md.tv, setAll, revD, part, slcD, shp_int, shp_bl, deq_int, deq_bl, shp_non, rg1, rg2, rg3, rg4, ln1, ln2, ln3, ln4, hs, hln, show small64 3 = true by decide]
        exact ⟨Dd ++ [(o * o + 3 * o + i) % 1000003], by simp, by simp [h2]⟩
      by_cases hc1 : (1000000000000000000 : Int) ≤ cv
      · by_cases hc2 : 0 < rv
        · have s1 := setL_zs hj2 (rv / 1000)
          refine go_ite true [.val (.lst (zs ns)), .val (.int 160), .own (.lst (zs C)), .un, .own (.lst (zs R)), .own (.lst (zs Dd)), .val (nt i), .val (nt j), x8] (by simp [exs, ex, ev, evds, evs, evAnd, evOr, look, fin, view, views, cm, truth, mutD, toD, op2, store, aug2, giveOut, finals, lend, PF.giveBack, bltD, isiD, kd, isK, idxD, mthD, b2i, itemsOf, bindT, Md.tv, setAll, revD, part, slcD, shp_int, shp_bl, deq_int, deq_bl, shp_non, rg1, rg2, rg3, rg4, ln1, ln2, ln3, ln4, a1, a2, hc1, hc2]) (fun _ => ?_) (fun h => absurd h (by simp))
          simp [Goes, Turn, exs, ex, ev, evds, evs, evAnd, evOr, look, fin, view, views, cm, truth, mutD, toD, op2, store, aug2, giveOut, finals, lend, PF.giveBack, bltD, isiD, kd, isK, idxD, mthD, b2i, itemsOf, bindT, Md.tv, setAll, revD, part, slcD, shp_int, shp_bl, deq_int, deq_bl, shp_non, rg1, rg2, rg3, rg4, ln1, ln2, ln3, ln4, a1, a2, hln, s1]
          exact ⟨R.set j (rv / 1000), Dd ++ [rv % 1000], ⟨by simp [List.map_set], by simp⟩, by simp [h1], by simp [h2]⟩
        · refine go_ite false [.val (.lst (zs ns)), .val (.int 160), .own (.lst (zs C)), .un, .own (.lst (zs R)), .own (.lst (zs Dd)), .val (nt i), .val (nt j), x8] (by simp [exs, ex, ev, evds, evs, evAnd, evOr, look, fin, view, views, cm, truth, mutD, toD, op2, store, aug2, giveOut, finals, lend, PF.giveBack, bltD, isiD, kd, isK, idxD, mthD, b2i, itemsOf, bindT, Md.tv, setAll, revD, part, slcD, shp_int, shp_bl, deq_int, deq_bl, shp_non, rg1, rg2, rg3, rg4, ln1, ln2, ln3, ln4, a1, a2, hc1, hc2]) (fun h => absurd h (by simp)) (fun _ => ?_)
          rw [List.append_nil]
          exact other.imp fun r ⟨D2, x8, e, h⟩ => by subst e; exact ⟨R, D2, _, _, _, rfl, h1, h⟩
      · refine go_ite false [.val (.lst (zs ns)), .val (.int 160), .own (.lst (zs C)), .un, .own (.lst (zs R)), .own (.lst (zs Dd)), .val (nt i), .val (nt j), x8] (by simp [exs, ex, ev, evds, evs, evAnd, evOr, look, fin, view, views, cm, truth, mutD, toD, op2, store, aug2, giveOut, finals, lend, PF.giveBack, bltD, isiD, kd, isK, idxD, mthD, b2i, itemsOf, bindT, Md.tv, setAll, revD, part, slcD, shp_int, shp_bl, deq_int, deq_bl, shp_non, rg1, rg2, rg3, rg4, ln1, ln2, ln3, ln4, a1, a2, hc1]) (fun h => absurd h (by simp)) (fun _ => ?_)
        rw [List.append_nil]
        exact other.imp fun r ⟨D2, x8, e, h⟩ => by subst e; exact ⟨R, D2, _, _, _, rfl, h1, h⟩
    · subst he
      simp [Goes, outR, exs, ex, ev, evds, evs, evAnd, evOr, look, fin, view, views, cm, truth, mutD, toD, op2, store, aug2, giveOut, finals, lend, PF.giveBack, bltD, isiD, kd, isK, idxD, mthD, b2i, itemsOf, bindT, Md.tv, setAll, revD, part, slcD, shp_int, shp_bl, deq_int, deq_bl, shp_non, rg1, rg2, rg3, rg4, ln1, ln2, ln3, ln4, d__law_draws]
      exact ⟨Dd.reverse, by simp⟩
  cases ns with
  | nil =>
    refine go_ite true [.val (.lst (zs [])), .val (.int 160), .own (.lst (zs [])), .un, .un, .un, .un, .un, .un] (by simp [exs, ex, ev, evds, evs, evAnd, evOr, look, fin, view, views, cm, truth, mutD, toD, op2, store, aug2, giveOut, finals, lend, PF.giveBack, bltD, isiD, kd, isK, idxD, mthD, b2i, itemsOf, bindT, Md.tv, setAll, revD, part, slcD, shp_int, shp_bl, deq_int, deq_bl, shp_non, rg1, rg2, rg3, rg4, ln1, ln2, ln3, ln4]) (fun _ => ?_) (fun h => absurd h (by simp))
    refine go_step [.val (.lst (zs [])), .val (.int 160), .own (.lst (zs [0])), .un, .un, .un, .un, .un, .un] (by simp [exs, ex, ev, evds, evs, evAnd, evOr, look, fin, view, views, cm, truth, mutD, toD, op2, store, aug2, giveOut, finals, lend, PF.giveBack, bltD, isiD, kd, isK, idxD, mthD, b2i, itemsOf, bindT, Md.tv, setAll, revD, part, slcD, shp_int, shp_bl, deq_int, deq_bl, shp_non, rg1, rg2, rg3, rg4, ln1, ln2, ln3, ln4, show 0 < line by decide]) ?_
    exact key [0] (by simp)
  | cons n0 ns =>
    have hn : ¬ (((ns.length : Int) + 1) = 0) := by omega
    refine go_ite false [.val (.lst (zs (n0 :: ns))), .val (.int 160), .own (.lst (zs (n0 :: ns))), .un, .un, .un, .un, .un, .un] (by simp [exs, ex, ev, evds, evs, evAnd, evOr, look, fin, view, views, cm, truth, mutD, toD, op2, store, aug2, giveOut, finals, lend, PF.giveBack, bltD, isiD, kd, isK, idxD, mthD, b2i, itemsOf, bindT, Md.tv, setAll, revD, part, slcD, shp_int, shp_bl, deq_int, deq_bl, shp_non, rg1, rg2, rg3, rg4, ln1, ln2, ln3, ln4, hn]) (fun h => absurd h (by simp)) (fun _ => ?_)
    exact key (n0 :: ns) (by simp)
theorem ints0 (ds : List Nat) : intsD (D.int 0 :: bits ds) = some (0 :: ds.map Int.ofNat) := by simp [intsD, ints_bits]
theorem pad_eq (n t : Nat) (ht : t < 3) : op2 .mul (.tup [.int 0]) (.int (t : Int)) = some (.dat (.tup (bits (List.replicate t 0)))) := by
  have : t ≤ line := by unfold line; omega
  have h2 : -9223372036854775808 ≤ (t : Int) ∧ (t : Int) < 9223372036854775808 := by omega
  simp [op2, this, h2, bits]
end K01
namespace K01
open PySem PF
variable {W : Nat}
def low (ds : List Nat) (i : Nat) : Nat := val (ds.take i)
theorem low_succ (ds : List Nat) (i : Nat) : low ds (i + 1) = low ds i + ds[i]?.getD 0 * 2 ^ i := by
  unfold low
  by_cases h : i < ds.length
  · rw [List.take_succ, val_append]; simp [h, val, Nat.min_eq_left (Nat.le_of_lt h), Nat.mul_comm]
  · rw [List.take_of_length_le (by omega), List.take_of_length_le (by omega)]; simp [List.getElem?_eq_none (show ds.length ≤ i by omega)]
theorem low_sum (ds : List Nat) (n : Nat) : ((List.range n).map fun i => ds[i]?.getD 0 * 2 ^ i).sum = low ds n := by
  induction n with
  | zero => simp [low, val]
  | succ n ih => rw [List.range_succ, List.map_append, List.sum_append, ih, low_succ]; simp
theorem sum_val (ds : List Nat) : ((List.range ds.length).map fun i => ds[i]?.getD 0 * 2 ^ i).sum = val ds := by
  rw [low_sum, low, List.take_of_length_le (Nat.le_refl _)]
theorem intsM {α : Type} (as : List α) (f : α → Nat) : intsD (as.map fun a => nt (f a)) = some ((as.map f).map Int.ofNat) := by
  have := ints_bits (as.map f)
  rwa [bits, List.map_map] at this
theorem mapB {α : Type} (as : List α) (f : α → Nat) : (as.map fun a => nt (f a)) = bits (as.map f) := by simp [bits]
theorem sumB {α : Type} (as : List α) (f : α → Nat) : ((as.map f).map Int.ofNat).sum = ((as.map f).sum : Nat) := sum_nat _
theorem shl_bit {b j : Nat} (hb : b < 2) (hj : j < 100000) : op2 .shl (nt b) (nt j) = some (.dat (nt (b * 2 ^ j))) := by
  have h1 : (Builtin.Int.intBits 0 : Nat) = 0 := by decide
  have h2 : (Builtin.Int.intBits 1 : Nat) = 1 := by decide
  have hb2 : b = 0 ∨ b = 1 := by omega
  rcases hb2 with rfl | rfl
  · have : ((Builtin.Int.intBits ((0 : Nat) : Int) : Int) + (j : Int) ≤ 2 ^ 27) := by
      rw [show Builtin.Int.intBits ((0 : Nat) : Int) = 0 from h1]; omega
    simp only [op2, nt]
    rw [if_pos ⟨by omega, this⟩]
    simp
  · have : ((Builtin.Int.intBits ((1 : Nat) : Int) : Int) + (j : Int) ≤ 2 ^ 27) := by
      rw [show Builtin.Int.intBits ((1 : Nat) : Int) = 1 from h2]; omega
    simp only [op2, nt]
    rw [if_pos ⟨by omega, this⟩]
    simp
theorem shr_nt (n j : Nat) : op2 .shr (nt n) (nt j) = some (.dat (nt (n / 2 ^ j))) := by simp [op2, nt]
theorem mod_nt (n m : Nat) (h : 0 < m) : op2 .mod (nt n) (nt m) = some (.dat (nt (n % m))) := by simp [op2, nt, h]
theorem fdiv_nt (n m : Nat) (h : 0 < m) (h2 : m < 1073741824) : op2 .fdiv (nt n) (nt m) = some (.dat (nt (n / m))) := by
  simp only [op2, nt]; rw [if_pos ⟨by omega, .inl (by omega)⟩]; simp
theorem add_nt (n m : Nat) : op2 .add (nt n) (nt m) = some (.dat (nt (n + m))) := by simp [op2, nt]
theorem mul_nt (n m : Nat) (h : n < 1000000) : op2 .mul (nt n) (nt m) = some (.dat (nt (n * m))) := by
  have : small64 (n : Int) = true := by simp only [small64, Bool.and_eq_true, decide_eq_true_eq]; omega
  simp only [op2, nt, this, Bool.true_or, if_true]; simp
theorem ev_two {c : Cl} {env : PF.Env} : ev c (.int 2) .v env = some (.dat (nt 2), env) := by simp only [ev, fin, nt]; rfl
theorem ev_one {c : Cl} {env : PF.Env} : ev c (.int 1) .v env = some (.dat (nt 1), env) := by simp only [ev, fin, nt]; rfl
/-- x >> y % 2 -/
theorem ev_bit {c : Cl} {env : PF.Env} {a b : E} {n j : Nat} (ha : ev c a .v env = some (.dat (nt n), env)) (hb : ev c b .v env = some (.dat (nt j), env)) : ev c (.bin .mod (.bin .shr a b) (.int 2)) .v env = some (.dat (nt (n / 2 ^ j % 2)), env) :=
  ev_bin (ev_bin ha hb (shr_nt n j)) ev_two (mod_nt _ _ (by decide))
theorem ev_biti {c : Cl} {env : PF.Env} {a b : E} {n j : Nat} (ha : ev c a .v env = some (.dat (nt n), env)) (hb : ev c b .v env = some (.dat (nt j), env)) : ev c (.bin .mod (.blt .int [.bin .shr a b]) (.int 2)) .v env = some (.dat (nt (n / 2 ^ j % 2)), env) :=
  ev_bin (ev_int1 (ev_bin ha hb (shr_nt n j))) ev_two (mod_nt _ _ (by decide))
theorem ev_pow2 {c : Cl} {env : PF.Env} {b : E} {j : Nat} (hj : j < 100000) (hb : ev c b .v env = some (.dat (nt j), env)) : ev c (.bin .shl (.int 1) b) .v env = some (.dat (nt (2 ^ j)), env) := by
  have := ev_bin (c := c) ev_one hb (shl_bit (b := 1) (by decide) hj)
  rwa [Nat.one_mul] at this
theorem ln_of {n : Nat} (h : n < 100000) : n ≤ line := by unfold line; omega
theorem ev_range {c : Cl} {env env1 : PF.Env} {e : E} {n : Nat} (hn : n < 100000) (h : ev c e .v env = some (.dat (nt n), env1)) : ev c (.rng [e]) .i env = some (.dat (.tup ((List.range n).map nt)), env1) :=
  ev_rng (ds := [nt n]) (by simp only [evds, h, toD]) (rng_nat n (lt60 hn))
theorem lf_ok (k t : Nat) (ht : t < 100000) : callL prog W (k + 1) (Str.ofString "letters_for") [.val (nt t)] = some (.dat (nt (2 ^ t)), [.val (nt t)]) :=
  c_letters_for (go_ret (ev_pow2 ht (ev_var rfl)) rfl)
def dgs (l t : Nat) : List Nat := (List.range t).map fun i => l / 2 ^ i % 2
theorem di_ok (k l t : Nat) (ht : t < 100000) : callL prog W (k + 1) (Str.ofString "digits_in") [.val (nt l), .val (nt t)] = some (.dat (.tup (bits (dgs l t))), [.val (nt l), .val (nt t)]) := by
  have e := ev_lcm (c := callL prog W k) (i := 2) (src := .rng [.var 1]) (elt := .bin .mod (.bin .shr (.var 0) (.var 2)) (.int 2)) (List.range t) nt (fun i => nt (l / 2 ^ i % 2)) [.val (nt l), .val (nt t), .un]
    (ev_range ht (ev_var rfl)) (by rw [List.length_range]; exact ln_of ht) fun i hi => lcT1 (ev_bit (ev_var rfl) (ev_var rfl))
  rw [mapB] at e
  exact c_digits_in (go_ret (ev_tuple e) rfl)
theorem lo_ok (k : Nat) (ds : List Nat) (hb : ∀ d ∈ ds, d < 2) (hl : ds.length < 100000) : callL prog W (k + 1) (Str.ofString "letter_of") [.val (.tup (bits ds))] = some (.dat (nt (val ds)), [.val (.tup (bits ds))]) := by
  have e := ev_lcm (c := callL prog W k) (i := 1) (src := .rng [.blt .len [.var 0]]) (elt := .bin .shl (.idx (.var 0) (.var 1)) (.var 1)) (List.range ds.length) nt (fun i => nt (ds[i]?.getD 0 * 2 ^ i)) [.val (.tup (bits ds)), .un]
    (ev_range hl (by have := ev_len (c := callL prog W k) (e := .var 0) (xs := bits ds) (env := [.val (.tup (bits ds)), .un]) (ev_var rfl); rwa [show ((bits ds).length : Int) = (ds.length : Int) by simp] at this)) (by rw [List.length_range]; exact ln_of hl)
    fun i hi => lcT1 (ev_bin (ev_idx (ev_var rfl) (ev_var rfl) (atD_bits (List.mem_range.mp hi))) (ev_var rfl) (shl_bit (ge_bit hb i) (by have := List.mem_range.mp hi; omega)))
  have e2 := ev_sum e (intsM _ _)
  rw [sumB, sum_val] at e2
  exact c_letter_of (go_ret e2 rfl)
theorem pl_ok (k l : Nat) (ps : List Nat) (hl : ps.length < 100000) : callL prog W (k + 2) (Str.ofString "picked_letter") [.val (nt l), .val (.tup (bits ps))] = some (.dat (nt (val (ps.map fun p => l / 2 ^ p % 2))), [.val (nt l), .val (.tup (bits ps))]) := by
  have e := ev_lcm (c := callL prog W (k + 1)) (i := 2) (src := .var 1) (elt := .bin .mod (.bin .shr (.var 0) (.var 2)) (.int 2)) ps nt (fun p => nt (l / 2 ^ p % 2)) [.val (nt l), .val (.tup (bits ps)), .un]
    (ev_walkT rfl) (ln_of hl) fun i hi => lcT1 (ev_bit (ev_var rfl) (ev_var rfl))
  rw [mapB] at e
  exact c_picked_letter (go_ret (ev_call1 (ev_tuple e) (lo_ok k _ (fun d hd => by obtain ⟨p, _, rfl⟩ := List.mem_map.mp hd; omega) (by simpa using hl))) rfl)
theorem lw_ok (k l p g : Nat) (hl : l < 1000) (hp : p < 10) (hg : g < 2) : callL prog W (k + 1) (Str.ofString "letter_with") [.val (nt l), .val (nt p), .val (nt g)] = some (.dat (nt (l % 2 ^ p + g * 2 ^ p + l / 2 ^ p * 2 ^ p * 2)), [.val (nt l), .val (nt p), .val (nt g)]) := by
  have h0 : 0 < 2 ^ p := Nat.pow_pos (by decide)
  have h1 : 2 ^ p < 1024 := Nat.pow_lt_pow_right (by decide) hp
  have h2 : l / 2 ^ p ≤ l := Nat.div_le_self _ _
  have h3 : l / 2 ^ p * 2 ^ p ≤ l := Nat.div_mul_le_self _ _
  refine c_letter_with (go_setD (ev_pow2 (by omega) (ev_var rfl)) (go_ret (ev_bin (ev_bin (ev_bin (ev_var rfl) (ev_var rfl) (mod_nt _ _ h0)) (ev_bin (ev_var rfl) (ev_var rfl) (mul_nt _ _ (by omega))) (add_nt _ _)) (ev_bin (ev_bin (ev_bin (ev_var rfl) (ev_var rfl) (fdiv_nt _ _ h0 (by omega))) (ev_var rfl) (mul_nt _ _ (by omega))) ev_two (mul_nt _ _ (by omega))) (add_nt _ _)) rfl))
theorem lwo_ok (k l p : Nat) (hl : l < 10000) (hp : p < 10) : callL prog W (k + 1) (Str.ofString "letter_without") [.val (nt l), .val (nt p)] = some (.dat (nt (l % 2 ^ p + l / (2 * 2 ^ p) * 2 ^ p)), [.val (nt l), .val (nt p)]) := by
  have h0 : 0 < 2 ^ p := Nat.pow_pos (by decide)
  have h1 : 2 ^ p < 1024 := Nat.pow_lt_pow_right (by decide) hp
  have h2 : l / (2 * 2 ^ p) ≤ l := Nat.div_le_self _ _
  refine c_letter_without (go_setD (ev_pow2 (by omega) (ev_var rfl)) (go_ret (ev_bin (ev_bin (ev_var rfl) (ev_var rfl) (mod_nt _ _ h0)) (ev_bin (ev_bin (ev_var rfl) (ev_bin ev_two (ev_var rfl) (mul_nt _ _ (by omega))) (fdiv_nt _ _ (by omega) (by omega))) (ev_var rfl) (mul_nt _ _ (by omega))) (add_nt _ _)) rfl))
end K01
namespace K01
open PySem PF
variable {W : Nat}
def lett (row : List Nat) (p : Nat) : Nat := val (row.map fun n => n / 2 ^ p % 2)
def mxl (row : List Nat) : Nat := (row.map fun n => (dg n).length).foldl max 0
def wd (row : List Nat) : List Nat := (List.range (mxl row)).map (lett row)
def rw' (word : List Nat) (t : Nat) : List Nat := (List.range t).map fun j => val (word.map fun l => l / 2 ^ j % 2)
theorem maxI_nat : ∀ (ds : List Nat) (m : Nat), maxI (m : Int) (ds.map Int.ofNat) = (ds.foldl max m : Nat)
  | [], m => rfl
  | d :: ds, m => by
    have e : (if (Int.ofNat d) > (m : Int) then Int.ofNat d else (m : Int)) = ((max m d : Nat) : Int) := by
      simp only [Int.ofNat_eq_natCast]; split <;> omega
    simp only [List.map_cons, maxI, List.foldl_cons]
    rw [e, maxI_nat ds]
theorem fold_ge : ∀ (ds : List Nat) (m : Nat), m ≤ ds.foldl max m ∧ ∀ d ∈ ds, d ≤ ds.foldl max m
  | [], m => ⟨Nat.le_refl _, fun _ h => nomatch h⟩
  | d :: ds, m => by
    obtain ⟨h1, h2⟩ := fold_ge ds (max m d)
    rw [List.foldl_cons]
    refine ⟨by omega, fun x hx => ?_⟩
    rcases List.mem_cons.mp hx with rfl | hx
    · omega
    · exact h2 x hx
theorem fold_le : ∀ (ds : List Nat) (m b : Nat), m ≤ b → (∀ d ∈ ds, d ≤ b) → ds.foldl max m ≤ b
  | [], m, b, h, _ => h
  | d :: ds, m, b, h, h2 => by
    rw [List.foldl_cons]
    exact fold_le ds _ b (Nat.max_le.mpr ⟨h, h2 d List.mem_cons_self⟩) fun x hx => h2 x (List.mem_cons_of_mem _ hx)
theorem fold_in : ∀ (ds : List Nat) (m : Nat), ds.foldl max m = m ∨ ds.foldl max m ∈ ds
  | [], m => .inl rfl
  | d :: ds, m => by
    rw [List.foldl_cons]
    rcases fold_in ds (max m d) with h | h
    · by_cases hm : m ≤ d
      · rw [Nat.max_eq_right hm] at h; rw [Nat.max_eq_right hm, h]; exact .inr List.mem_cons_self
      · rw [Nat.max_eq_left (by omega)] at h; rw [Nat.max_eq_left (by omega), h]; exact .inl rfl
    · exact .inr (List.mem_cons_of_mem _ h)
theorem mxl_le {row : List Nat} {m : Nat} (h : ∀ n ∈ row, n < 2 ^ m) : mxl row ≤ m := fold_le _ _ _ (Nat.zero_le _) fun d hd => by
  obtain ⟨n, hn, rfl⟩ := List.mem_map.mp hd
  exact dg_len m n (h n hn)
theorem mxl_ge {row : List Nat} {n : Nat} (h : n ∈ row) : (dg n).length ≤ mxl row := (fold_ge _ _).2 _ (List.mem_map.mpr ⟨n, h, rfl⟩)
theorem ev_sum0 {c : Cl} {env env1 : PF.Env} {e : E} {α : Type} {as : List α} {f : α → Nat} {n : Nat} (hl : as.length < 100000) (h : ev c e .v env = some (.own (.lst (as.map fun a => nt (f a))), env1)) (hn : (as.map f).sum = n) :
    ev c (.blt .sum [.bin .add (.lst [.int 0]) e]) .v env = some (.dat (nt n), env1) := by
  have e2 := ev_sum (ev_cons0 (i := 0) h (by rw [List.length_map]; unfold line; omega)) (ns := 0 :: (as.map f).map Int.ofNat) (by simp only [intsD]; rw [intsM]; rfl)
  have h3 : ((0 : Int) :: (as.map f).map Int.ofNat).sum = (n : Int) := by rw [List.sum_cons, sumB, hn]; simp
  rw [e2, h3]
/-- walking [0] + the lengths -/
theorem ev_maxl {c : Cl} {env : PF.Env} {e : E} {row : List Nat} (hl : row.length < 100000) (h : ev c e .v env = some (.own (.lst (row.map fun n => nt (dg n).length)), env)) : ev c (.blt .max [.bin .add (.lst [.int 0]) e]) .v env = some (.dat (nt (mxl row)), env) := by
  have e2 := ev_max (ev_cons0 (i := 0) h (by rw [List.length_map]; unfold line; omega)) (n := 0) (ns := (row.map fun n => (dg n).length).map Int.ofNat) (by simp only [intsD]; rw [intsM]; rfl)
  have e3 := maxI_nat (row.map fun n => (dg n).length) 0
  rw [show ((0 : Nat) : Int) = 0 from rfl] at e3
  rw [e3] at e2
  exact e2
theorem wo_ok (k : Nat) (row : List Nat) (hl : row.length < 100) (hb : ∀ n ∈ row, n < 2 ^ 900) (hW : 10000 < W) : callL prog W (k + 2) (Str.ofString "word_of") [.val (.tup (bits row))] = some (.dat (.tup (bits (wd row))), [.val (.tup (bits row))]) := by
  have hm := mxl_le hb
  have e1 := ev_lcm (c := callL prog W (k + 1)) (i := 2) (src := .var 0) (elt := .call (Str.ofString "digits_of") [.var 2]) row nt (fun n => .tup (bits (dg n))) [.val (.tup (bits row)), .un, .un, .un, .un, .un]
    (ev_walkT rfl) (ln_of (by omega)) fun n hn => lcT1 (ev_call1 (ev_var rfl) (do_ok k n (hb n hn) (by omega)))
  have e2 := ev_lcm (c := callL prog W (k + 1)) (i := 4) (src := .var 1) (elt := .blt .len [.var 4]) (env := [.val (.tup (bits row)), .own (.lst (row.map fun n => .tup (bits (dg n)))), .un, .un, .un, .un]) row (fun n => .tup (bits (dg n))) (fun n => nt (dg n).length)
    [.val (.tup (bits row)), .val (.lst (row.map fun n => .tup (bits (dg n)))), .un, .un, .un, .un] (ev_walkO rfl) (ln_of (by omega)) fun n hn => lcT1 (by
      have := ev_len (c := callL prog W (k + 1)) (e := .var 4) (xs := bits (dg n)) (env := [.val (.tup (bits row)), .val (.lst (row.map fun n => .tup (bits (dg n)))), .un, .un, .val (.tup (bits (dg n))), .un]) (ev_var rfl)
      rwa [show ((bits (dg n)).length : Int) = ((dg n).length : Int) by simp] at this)
  have e2' : ev (callL prog W (k + 1)) (.blt .max [.bin .add (.lst [.int 0]) (.lc [4] (.nm 4) (.var 1) [] (.blt .len [.var 4]))]) .v [.val (.tup (bits row)), .own (.lst (row.map fun n => .tup (bits (dg n)))), .un, .un, .un, .un] = some (.dat (nt (mxl row)), [.val (.tup (bits row)), .val (.lst (row.map fun n => .tup (bits (dg n)))), .un, .un, .un, .un]) := by
    have q := ev_max (ev_cons0 (i := 0) e2 (by rw [List.length_map]; unfold line; omega)) (n := 0) (ns := (row.map fun n => (dg n).length).map Int.ofNat) (by simp only [intsD]; rw [intsM]; rfl)
    have e3 := maxI_nat (row.map fun n => (dg n).length) 0
    rw [show ((0 : Nat) : Int) = 0 from rfl] at e3
    rw [e3] at q
    exact q
  have e3 := ev_lcm (c := callL prog W (k + 1)) (i := 5) (src := .rng [.var 3]) (elt := .call (Str.ofString "letter_of") [.blt .tuple [.lc [4] (.nm 4) (.var 1) [] (.call (Str.ofString "digit_there") [.var 4, .var 5])]]) (List.range (mxl row)) nt (fun p => nt (lett row p))
    [.val (.tup (bits row)), .val (.lst (row.map fun n => .tup (bits (dg n)))), .un, .val (nt (mxl row)), .un, .un] (ev_range (by omega) (ev_var rfl)) (by rw [List.length_range]; exact ln_of (by omega)) fun p hp => lcT1 (by
      have q := ev_lcm (c := callL prog W (k + 1)) (i := 4) (src := .var 1) (elt := .call (Str.ofString "digit_there") [.var 4, .var 5]) row (fun n => .tup (bits (dg n))) (fun n => nt ((dg n)[p]?.getD 0))
        [.val (.tup (bits row)), .val (.lst (row.map fun n => .tup (bits (dg n)))), .un, .val (nt (mxl row)), .un, .val (nt p)] (ev_walk rfl) (ln_of (by omega)) fun n hn => lcT1 (ev_call2 (ev_var rfl) (ev_var rfl) (dt_ok k (dg n) p))
      rw [mapB] at q
      have q2 := ev_call1 (ev_tuple q) (lo_ok (W := W) k _ (fun d hd => by obtain ⟨n, _, rfl⟩ := List.mem_map.mp hd; exact ge_bit (dg_bit n) p) (by simp; omega))
      rw [show (row.map fun n => (dg n)[p]?.getD 0) = row.map (fun n => n / 2 ^ p % 2) from List.map_congr_left fun n _ => dg_get n p] at q2
      exact q2)
  rw [mapB] at e3
  exact c_word_of (go_setO e1 (go_setD e2' (go_ret (ev_tuple e3) rfl)))
theorem ro_ok (k : Nat) (word : List Nat) (t : Nat) (hl : word.length < 10000) (ht : t < 10000) : callL prog W (k + 2) (Str.ofString "row_of") [.val (.tup (bits word)), .val (nt t)] = some (.dat (.tup (bits (rw' word t))), [.val (.tup (bits word)), .val (nt t)]) := by
  have e1 := ev_lcm (c := callL prog W (k + 1)) (i := 3) (src := .var 0) (elt := .call (Str.ofString "digits_in") [.var 3, .var 1]) word nt (fun l => .tup (bits (dgs l t))) [.val (.tup (bits word)), .val (nt t), .un, .un, .un, .un]
    (ev_walkT rfl) (ln_of (by omega)) fun l hl => lcT1 (ev_call2 (ev_var rfl) (ev_var rfl) (di_ok k l t (by omega)))
  obtain ⟨env', ⟨z, x4, x5, rfl, hz⟩, e2⟩ := ev_lcP (c := callL prog W (k + 1)) (i := 4) (src := .rng [.var 1]) (elt := .call (Str.ofString "number_of") [.blt .tuple [.lc [5] (.nm 5) (.var 2) [] (.idx (.var 5) (.var 4))]]) (List.range t) nt (fun j => nt (val (word.map fun l => l / 2 ^ j % 2)))
    [.val (.tup (bits word)), .val (nt t), .own (.lst (word.map fun l => .tup (bits (dgs l t)))), .un, .un, .un] (fun env => ∃ z x4 x5, env = [.val (.tup (bits word)), .val (nt t), z, .un, x4, x5] ∧ (z = .own (.lst (word.map fun l => .tup (bits (dgs l t)))) ∨ z = .val (.lst (word.map fun l => .tup (bits (dgs l t))))))
    (ev_range (by omega) (ev_var rfl)) (by rw [List.length_range]; exact ln_of (by omega)) ⟨_, _, _, rfl, .inl rfl⟩ (fun j hj env ⟨z, x4, x5, he, hz⟩ => by
      subst he
      have hj' := List.mem_range.mp hj
      have src : ev (callL prog W (k + 1)) (.var 2) .i [.val (.tup (bits word)), .val (nt t), z, .un, .val (nt j), x5] = some (.dat (.tup (word.map fun l => .tup (bits (dgs l t)))), [.val (.tup (bits word)), .val (nt t), .val (.lst (word.map fun l => .tup (bits (dgs l t)))), .un, .val (nt j), x5]) := by
        rcases hz with rfl | rfl
        · exact ev_walkO rfl
        · exact ev_walk rfl
      have q := ev_lcm (c := callL prog W (k + 1)) (i := 5) (src := .var 2) (elt := .idx (.var 5) (.var 4)) word (fun l => .tup (bits (dgs l t))) (fun l => nt (l / 2 ^ j % 2)) _ src (ln_of (by omega)) fun l hl => lcT1 (ev_idx (ev_var rfl) (ev_var rfl) (by
          show atD (bits (dgs l t)) (j : Int) = _
          rw [atD_bits (by simpa [dgs] using hj')]
          simp [dgs, hj']))
      rw [mapB] at q
      exact ⟨_, lcT2 (ev_call1 (ev_tuple q) (no_ok k _)), _, _, _, rfl, .inr rfl⟩)
  rw [mapB] at e2
  exact c_row_of (go_setO e1 (go_ret (ev_tuple e2) rfl))
theorem ll_ok (k : Nat) (row : List Nat) (p : Nat) (hl : row.length < 100) : callL prog W (k + 1) (Str.ofString "_law_letter") [.val (.tup (bits row)), .val (nt p)] = some (.dat (nt (lett row p)), [.val (.tup (bits row)), .val (nt p)]) := by
  have e := ev_lcm (c := callL prog W k) (i := 2) (src := .rng [.blt .len [.var 0]]) (elt := .bin .shl (.bin .mod (.blt .int [.bin .shr (.idx (.var 0) (.var 2)) (.var 1)]) (.int 2)) (.var 2)) (List.range row.length) nt (fun j => nt (row[j]?.getD 0 / 2 ^ p % 2 * 2 ^ j)) [.val (.tup (bits row)), .val (nt p), .un]
    (ev_range (by omega) (by have := ev_len (c := callL prog W k) (e := .var 0) (xs := bits row) (env := [.val (.tup (bits row)), .val (nt p), .un]) (ev_var rfl); rwa [show ((bits row).length : Int) = (row.length : Int) by simp] at this)) (by rw [List.length_range]; exact ln_of (by omega))
    fun j hj => lcT1 (ev_bin (ev_biti (ev_idx (ev_var rfl) (ev_var rfl) (atD_bits (List.mem_range.mp hj))) (ev_var rfl)) (ev_var rfl) (shl_bit (by omega) (by have := List.mem_range.mp hj; omega)))
  have h := sum_val (row.map fun n => n / 2 ^ p % 2)
  rw [List.length_map] at h
  have h2 : ((List.range row.length).map fun j => row[j]?.getD 0 / 2 ^ p % 2 * 2 ^ j).sum = lett row p := by
    rw [lett, ← h]
    exact congrArg List.sum (List.map_congr_left fun j hj => by
      have hj := List.mem_range.mp hj
      simp [hj])
  exact c__law_letter (go_ret (ev_sum0 (by rw [List.length_range]; omega) e h2) rfl)
theorem lwd_ok (k : Nat) (row : List Nat) (hl : row.length < 100) (hb : ∀ n ∈ row, n < 2 ^ 900) : callL prog W (k + 2) (Str.ofString "_law_word") [.val (.tup (bits row))] = some (.dat (.tup (bits (wd row))), [.val (.tup (bits row))]) := by
  have hm := mxl_le hb
  have e1 := ev_lcm (c := callL prog W (k + 1)) (i := 2) (src := .var 0) (elt := .call (Str.ofString "_law_long") [.var 2]) row nt (fun n => nt (dg n).length) [.val (.tup (bits row)), .un, .un, .un]
    (ev_walkT rfl) (ln_of (by omega)) fun n hn => lcT1 (ev_call1 (ev_var rfl) (long_ok k n (hb n hn)))
  have e2 := ev_lcm (c := callL prog W (k + 1)) (i := 3) (src := .rng [.var 1]) (elt := .call (Str.ofString "_law_letter") [.var 0, .var 3]) (List.range (mxl row)) nt (fun p => nt (lett row p)) [.val (.tup (bits row)), .val (nt (mxl row)), .un, .un]
    (ev_range (by omega) (ev_var rfl)) (by rw [List.length_range]; exact ln_of (by omega)) fun p hp => lcT1 (ev_call2 (ev_var rfl) (ev_var rfl) (ll_ok k row p hl))
  rw [mapB] at e2
  exact c__law_word (go_setD (ev_maxl (by omega) e1) (go_ret (ev_tuple e2) rfl))
theorem lr_ok (k : Nat) (word : List Nat) (t : Nat) (hl : word.length < 10000) (ht : t < 10000) : callL prog W (k + 1) (Str.ofString "_law_row") [.val (.tup (bits word)), .val (nt t)] = some (.dat (.tup (bits (rw' word t))), [.val (.tup (bits word)), .val (nt t)]) := by
  have e := ev_lcm (c := callL prog W k) (i := 2) (src := .rng [.var 1]) (elt := .blt .sum [.bin .add (.lst [.int 0]) (.lc [3] (.nm 3) (.rng [.blt .len [.var 0]]) [] (.bin .shl (.bin .mod (.bin .shr (.idx (.var 0) (.var 3)) (.var 2)) (.int 2)) (.var 3)))]) (List.range t) nt (fun j => nt (val (word.map fun l => l / 2 ^ j % 2)))
    [.val (.tup (bits word)), .val (nt t), .un, .un] (ev_range (by omega) (ev_var rfl)) (by rw [List.length_range]; exact ln_of (by omega)) fun j hj => lcT1 (by
      have e := ev_lcm (c := callL prog W k) (i := 3) (src := .rng [.blt .len [.var 0]]) (elt := .bin .shl (.bin .mod (.bin .shr (.idx (.var 0) (.var 3)) (.var 2)) (.int 2)) (.var 3)) (List.range word.length) nt (fun q => nt (word[q]?.getD 0 / 2 ^ j % 2 * 2 ^ q)) [.val (.tup (bits word)), .val (nt t), .val (nt j), .un]
        (ev_range (by omega) (by have := ev_len (c := callL prog W k) (e := .var 0) (xs := bits word) (env := [.val (.tup (bits word)), .val (nt t), .val (nt j), .un]) (ev_var rfl); rwa [show ((bits word).length : Int) = (word.length : Int) by simp] at this)) (by rw [List.length_range]; exact ln_of (by omega))
        fun q hq => lcT1 (ev_bin (ev_bit (ev_idx (ev_var rfl) (ev_var rfl) (atD_bits (List.mem_range.mp hq))) (ev_var rfl)) (ev_var rfl) (shl_bit (by omega) (by have := List.mem_range.mp hq; omega)))
      have h := sum_val (word.map fun n => n / 2 ^ j % 2)
      rw [List.length_map] at h
      have h2 : ((List.range word.length).map fun q => word[q]?.getD 0 / 2 ^ j % 2 * 2 ^ q).sum = val (word.map fun l => l / 2 ^ j % 2) := by
        rw [← h]
        exact congrArg List.sum (List.map_congr_left fun j hj => by
          have hj := List.mem_range.mp hj
          simp [hj])
      exact ev_sum0 (by rw [List.length_range]; omega) e h2)
  rw [mapB] at e
  exact c__law_row (go_ret (ev_tuple e) rfl)
end K01
namespace K01
open PySem PF
variable {W : Nat}
/-! ### order and equality of rows of numbers -/
theorem eqv_bits : ∀ (a b : List Nat), PyData.eqvAll (D.pys (bits a)) (D.pys (bits b)) = decide (a = b)
  | [], [] => by simp [D.pys, PyData.eqvAll]
  | [], y :: ys => by simp [D.pys, PyData.eqvAll]
  | x :: xs, [] => by simp [D.pys, PyData.eqvAll]
  | x :: xs, y :: ys => by
    simp only [List.map_cons, D.pys, PyData.eqvAll]
    rw [eqv_bits xs ys, show PyData.eqv (nt x).py (nt y).py = deq (nt x) (nt y) from rfl, deq_int]
    by_cases h : x = y <;> simp [h] <;> omega
theorem deq_bits (a b : List Nat) : deq (.tup (bits a)) (.tup (bits b)) = decide (a = b) := by
  unfold deq; simp only [D.py, PyData.eqv]; exact eqv_bits a b
theorem alike_bits : ∀ (a b : List Nat), PySem.W.alikeAll (D.pys (bits a)) (D.pys (bits b)) = true
  | [], _ => by simp [D.pys, PySem.W.alikeAll]
  | x :: xs, [] => by simp [D.pys, PySem.W.alikeAll]
  | x :: xs, y :: ys => by
    simp only [List.map_cons, D.pys, PySem.W.alikeAll, D.py, PySem.W.alike, Bool.true_and]
    exact alike_bits xs ys
abbrev lx (a b : List Nat) : Bool := lexI (a.map Int.ofNat) (b.map Int.ofNat)
theorem dlt_bits : ∀ (a b : List Nat), PyProof.Rows.lexLt PyProof.Rows.itemOrd (PySem.W.keyToksAll (D.pys (bits a))) (PySem.W.keyToksAll (D.pys (bits b))) = lx a b
  | [], [] => rfl
  | [], y :: ys => rfl
  | x :: xs, [] => rfl
  | x :: xs, y :: ys => by
    have al : PySem.W.alike (PyData.int (x : Int)) (PyData.int (y : Int)) = true := by simp [PySem.W.alike]
    have ev : PyData.eqv (PyData.int (x : Int)) (PyData.int (y : Int)) = decide ((x : Int) = y) := deq_int x y
    show PyProof.Rows.lexLt PyProof.Rows.itemOrd (PySem.W.keyToksAll (PyData.int (x : Int) :: D.pys (bits xs))) (PySem.W.keyToksAll (PyData.int (y : Int) :: D.pys (bits ys))) = if (x : Int) = y then lx xs ys else decide ((x : Int) < y)
    by_cases h : (x : Int) = y
    · rw [if_pos h, PySem.W.dataLt_all_yes al (by rw [ev, decide_eq_true h]), dlt_bits xs ys]
    · rw [if_neg h, PySem.W.dataLt_all_no al (by rw [ev, decide_eq_false h]), PySem.W.dataLt_int]
theorem ltD_bits (a b : List Nat) : ltD (.tup (bits a)) (.tup (bits b)) = lx a b := by
  unfold ltD; simp only [D.py]; rw [PySem.W.dataLt_tuple]; exact dlt_bits a b
theorem lx_self : ∀ a : List Nat, lx a a = false
  | [] => rfl
  | x :: xs => by show (if (x : Int) = x then lx xs xs else _) = false; rw [if_pos rfl]; exact lx_self xs
/-- the key of a word -/
abbrev key (w : List Nat) : D := .tup [nt w.length, .tup (bits w)]
theorem lay_bits : ∀ ds : List Nat, PyData.canLayAll0 (D.pys (bits ds)) = true
  | [] => rfl
  | d :: ds => by simp only [List.map_cons, D.pys, D.py, PyData.canLayAll0, PyData.canLay0, Bool.true_and]; exact lay_bits ds
theorem dep_bits : ∀ ds : List Nat, PyData.depthAll (D.pys (bits ds)) = 0
  | [] => rfl
  | d :: ds => by simp only [List.map_cons, D.pys, D.py, PyData.depthAll, PyData.depth]; rw [dep_bits ds]; rfl
theorem alk_key (a b : List Nat) : alk (key a) (key b) = true := by
  unfold alk
  rw [Bool.and_eq_true]
  constructor
  · simp only [D.py, D.pys, PySem.W.alike, PySem.W.alikeAll, alike_bits, Bool.true_and]
  · unfold shp SeqAt.shaped
    simp [D.py, D.pys, PyData.canLay0, PyData.canLayAll0, PyData.depth, PyData.depthAll, lay_bits, dep_bits]
theorem ltD_key (a b : List Nat) : ltD (key a) (key b) = if a.length = b.length then lx a b else decide (a.length < b.length) := by
  have al : PySem.W.alike (PyData.int (a.length : Int)) (PyData.int (b.length : Int)) = true := by simp [PySem.W.alike]
  have al2 : PySem.W.alike (PyData.tuple (D.pys (bits a))) (PyData.tuple (D.pys (bits b))) = true := by simp only [PySem.W.alike]; exact alike_bits a b
  have ev : PyData.eqv (PyData.int (a.length : Int)) (PyData.int (b.length : Int)) = decide ((a.length : Int) = b.length) := deq_int _ _
  unfold ltD
  show PySem.W.dataLt (.tuple [PyData.int (a.length : Int), PyData.tuple (D.pys (bits a))]) (.tuple [PyData.int (b.length : Int), PyData.tuple (D.pys (bits b))]) = _
  rw [PySem.W.dataLt_tuple]
  by_cases h : a.length = b.length
  · rw [if_pos h, PySem.W.dataLt_all_yes al (by rw [ev, decide_eq_true (by omega)])]
    have ev2 : PyData.eqv (PyData.tuple (D.pys (bits a))) (PyData.tuple (D.pys (bits b))) = decide (a = b) := by simp only [PyData.eqv]; exact eqv_bits a b
    by_cases hab : a = b
    · rw [PySem.W.dataLt_all_yes al2 (by rw [ev2, decide_eq_true hab]), hab, lx_self]; rfl
    · rw [PySem.W.dataLt_all_no al2 (by rw [ev2, decide_eq_false hab]), PySem.W.dataLt_tuple]; exact dlt_bits a b
  · rw [if_neg h, PySem.W.dataLt_all_no al (by rw [ev, decide_eq_false (by omega)]), PySem.W.dataLt_int]
    congr 1; simp
/-! ### words -/
def sl (w : List Nat) : Nat → Nat
  | 0 => 0
  | n + 1 => if w[n]?.getD 0 = 0 then sl w n else n + 1
def sh (w : List Nat) : List Nat := w.take (sl w w.length)
theorem sl_le (w : List Nat) : ∀ n, sl w n ≤ n
  | 0 => Nat.le_refl _
  | n + 1 => by unfold sl; split; exact Nat.le_succ_of_le (sl_le w n); exact Nat.le_refl _
theorem sw_ok (k : Nat) (w : List Nat) (hl : w.length < W) : callL prog W (k + 1) (Str.ofString "shortened_word") [.val (.tup (bits w))] = some (.dat (.tup (bits (sh w))), [.val (.tup (bits w))]) := by
  refine c_shortened_word ?_
  refine go_step [.val (.tup (bits w)), .val (nt w.length)] (by simp [exs, ex, ev, evds, evs, evAnd, evOr, look, fin, view, views, cm, truth, mutD, toD, op2, store, aug2, giveOut, finals, lend, PF.giveBack, bltD, isiD, kd, isK, idxD, mthD, b2i, itemsOf, bindT, Md.tv, setAll, revD, part, slcD, shp_int, shp_bl, deq_int, deq_bl, shp_non, rg1, rg2, rg3, rg4, ln1, ln2, ln3, ln4]) ?_
  refine go_whl (fun m env => env = [.val (.tup (bits w)), .val (nt m)] ∧ m ≤ w.length ∧ sl w m = sl w w.length) w.length hl ⟨rfl, Nat.le_refl _, rfl⟩ fun m env ⟨he, h1, h2⟩ => ?_
  subst he
  have hfin : sl w m = m → Goes (callL prog W k) W [.ret (.slc (.var 0) .non (.var 1))] [.val (.tup (bits w)), .val (nt m)] (fun r => outR d_shortened_word r = some (.dat (.tup (bits (sh w))), [.val (.tup (bits w))])) := fun z => by
    have e : cut (bits w) none (some (m : Int)) = bits (sh w) := by rw [cut_bits w m h1, sh, ← h2, z]
    simp [Goes, outR, exs, ex, ev, evds, evs, evAnd, evOr, look, fin, view, views, cm, truth, mutD, toD, op2, store, aug2, giveOut, finals, lend, PF.giveBack, bltD, isiD, kd, isK, idxD, mthD, b2i, itemsOf, bindT, Md.tv, setAll, revD, part, slcD, shp_int, shp_bl, deq_int, deq_bl, shp_non, rg1, rg2, rg3, rg4, ln1, ln2, ln3, ln4, d_shortened_word, e]
  cases m with
  | zero =>
    refine ⟨false, _, ?_, fun z => absurd z (by simp), fun _ => hfin rfl⟩
    simp [exs, ex, ev, evds, evs, evAnd, evOr, look, fin, view, views, cm, truth, mutD, toD, op2, store, aug2, giveOut, finals, lend, PF.giveBack, bltD, isiD, kd, isK, idxD, mthD, b2i, itemsOf, bindT, Md.tv, setAll, revD, part, slcD, shp_int, shp_bl, deq_int, deq_bl, shp_non, rg1, rg2, rg3, rg4, ln1, ln2, ln3, ln4]
  | succ m =>
    have hlt : m < w.length := by omega
    have ha := atD_bits hlt
    refine ⟨decide (w[m]?.getD 0 = 0), [.val (.tup (bits w)), .val (nt (m + 1))], ?_, fun z => ?_, fun z => hfin ?_⟩
    · have hs2 : (m : Int) + 1 - 1 = m := by omega
      by_cases z : w[m]?.getD 0 = 0 <;> simp [exs, ex, ev, evds, evs, evAnd, evOr, look, fin, view, views, cm, truth, mutD, toD, op2, store, aug2, giveOut, finals, lend, PF.giveBack, bltD, isiD, kd, isK, idxD, mthD, b2i, itemsOf, bindT, Md.tv, setAll, revD, part, slcD, shp_int, shp_bl, deq_int, deq_bl, shp_non, rg1, rg2, rg3, rg4, ln1, ln2, ln3, ln4, hs2, ha, z]
    · have z : w[m]?.getD 0 = 0 := by simpa using z
      simp [Goes, Turn, exs, ex, ev, evds, evs, evAnd, evOr, look, fin, view, views, cm, truth, mutD, toD, op2, store, aug2, giveOut, finals, lend, PF.giveBack, bltD, isiD, kd, isK, idxD, mthD, b2i, itemsOf, bindT, Md.tv, setAll, revD, part, slcD, shp_int, shp_bl, deq_int, deq_bl, shp_non, rg1, rg2, rg3, rg4, ln1, ln2, ln3, ln4]
      refine ⟨m, by omega, rfl, by omega, ?_⟩
      rw [← h2, sl, if_pos z]
    · have z : ¬ w[m]?.getD 0 = 0 := by simpa using z
      rw [sl, if_neg z]
theorem lg_ok (k : Nat) (w : List Nat) (n : Nat) (hl : w.length < 100000) (hn : n < 100000) : callL prog W (k + 1) (Str.ofString "lengthened_word") [.val (.tup (bits w)), .val (nt n)] = some (.dat (.tup (bits (w ++ List.replicate (n - w.length) 0))), [.val (.tup (bits w)), .val (nt n)]) := by
  have h0 : ev (callL prog W k) (.blt .len [.var 0]) .v [.val (.tup (bits w)), .val (nt n)] = some (.dat (nt w.length), [.val (.tup (bits w)), .val (nt n)]) := by
    have := ev_len (c := callL prog W k) (e := .var 0) (xs := bits w) (env := [.val (.tup (bits w)), .val (nt n)]) (ev_var rfl)
    rwa [show ((bits w).length : Int) = (w.length : Int) by simp] at this
  have h1 : ev (callL prog W k) (.tup [.int 0]) .v [.val (.tup (bits w)), .val (nt n)] = some (.dat (.tup [.int 0]), [.val (.tup (bits w)), .val (nt n)]) := by simp [exs, ex, ev, evds, evs, evAnd, evOr, look, fin, view, views, cm, truth, mutD, toD, op2, store, aug2, giveOut, finals, lend, PF.giveBack, bltD, isiD, kd, isK, idxD, mthD, b2i, itemsOf, bindT, Md.tv, setAll, revD, part, slcD, shp_int, shp_bl, deq_int, deq_bl, shp_non, rg1, rg2, rg3, rg4, ln1, ln2, ln3, ln4]
  have ht : ((n : Int) - (w.length : Int)).toNat = n - w.length := by omega
  refine c_lengthened_word (go_ret (ev_bin (ev_var rfl) (ev_bin h1 (ev_bin (ev_var rfl) h0 (r := .dat (.int ((n : Int) - (w.length : Int)))) (by simp [op2, nt])) (r := .dat (.tup (bits (List.replicate (n - w.length) 0)))) ?_) (r := .dat (.tup (bits (w ++ List.replicate (n - w.length) 0)))) ?_) rfl)
  · simp only [op2, ht, List.length_singleton, Nat.one_mul]
    rw [if_pos ⟨by unfold line; omega, by omega, by omega⟩, rep_bits]
  · have : (bits w).length + (bits (List.replicate (n - w.length) 0)).length ≤ line := by simp; unfold line; omega
    simp only [op2]
    rw [if_pos this]
    simp [bits]
theorem to_ok (k : Nat) (a b : List Nat) (ha : a.length < W) (hb : b.length < W) : callL prog W (k + 2) (Str.ofString "tell_one_row") [.val (.tup (bits a)), .val (.tup (bits b))] = some (.dat (.bl (decide (sh a = sh b))), [.val (.tup (bits a)), .val (.tup (bits b))]) :=
  c_tell_one_row (go_ret (ev_cmp (ev_call1 (ev_var rfl) (sw_ok k a ha)) (ev_call1 (ev_var rfl) (sw_ok k b hb)) (by simp only [cm, shp_bits, Bool.and_self, if_true, deq_bits])) rfl)
theorem kw_ok (k : Nat) (w : List Nat) : callL prog W (k + 1) (Str.ofString "key_of_word") [.val (.tup (bits w))] = some (.dat (key w), [.val (.tup (bits w))]) := by
  refine c_key_of_word (go_ret (d := key w) (env1 := [.val (.tup (bits w))]) ?_ rfl)
  simp [exs, ex, ev, evds, evs, evAnd, evOr, look, fin, view, views, cm, truth, mutD, toD, op2, store, aug2, giveOut, finals, lend, PF.giveBack, bltD, isiD, kd, isK, idxD, mthD, b2i, itemsOf, bindT, Md.tv, setAll, revD, part, slcD, shp_int, shp_bl, deq_int, deq_bl, shp_non, rg1, rg2, rg3, rg4, ln1, ln2, ln3, ln4]
theorem wb_ok (k : Nat) (a b : List Nat) : callL prog W (k + 2) (Str.ofString "is_word_before") [.val (.tup (bits a)), .val (.tup (bits b))] = some (.dat (.bl (if a.length = b.length then lx a b else decide (a.length < b.length))), [.val (.tup (bits a)), .val (.tup (bits b))]) :=
  c_is_word_before (go_ret (ev_cmp (ev_call1 (ev_var rfl) (kw_ok k a)) (ev_call1 (ev_var rfl) (kw_ok k b)) (by
    have : cm .lt (key a) (key b) = some (ltD (key a) (key b)) := by simp only [cm, intsD, Option.map_none, alk_key, if_true]
    rw [this, ltD_key])) rfl)
end K01
namespace K01
open PySem PF
variable {W : Nat}
/-! ### plain facts -/
theorem val_bit : ∀ {ds : List Nat}, (∀ d ∈ ds, d < 2) → ∀ j, val ds / 2 ^ j % 2 = ds[j]?.getD 0
  | [], _, j => by simp [val]
  | d :: ds, h, 0 => by have := h d List.mem_cons_self; simp [val]; omega
  | d :: ds, h, j + 1 => by
    have hd := h d List.mem_cons_self
    have e : val (d :: ds) / 2 ^ (j + 1) = val ds / 2 ^ j := by
      rw [Nat.pow_succ, Nat.mul_comm, ← Nat.div_div_eq_div_mul, val, show (d + 2 * val ds) / 2 = val ds by omega]
    rw [e, val_bit (fun x hx => h x (List.mem_cons_of_mem _ hx)) j]; simp
theorem dgs_succ (n L : Nat) : dgs n (L + 1) = n % 2 :: dgs (n / 2) L := by
  unfold dgs
  rw [List.range_succ_eq_map, List.map_cons, List.map_map]
  simp only [Nat.pow_zero, Nat.div_one, List.cons.injEq, true_and]
  refine List.map_congr_left fun i _ => ?_
  simp only [Function.comp, Nat.succ_eq_add_one, Nat.pow_succ]
  rw [Nat.mul_comm, ← Nat.div_div_eq_div_mul]
theorem val_dgs : ∀ (L n : Nat), n < 2 ^ L → val (dgs n L) = n
  | 0, n, h => by rw [show n = 0 by simpa using h]; rfl
  | L + 1, n, h => by rw [dgs_succ, val, val_dgs L (n / 2) (by rw [Nat.pow_succ] at h; omega)]; omega
theorem dgs_len (n L : Nat) : (dgs n L).length = L := by simp [dgs]
theorem dgs_bit (n L : Nat) : ∀ d ∈ dgs n L, d < 2 := fun d hd => by
  obtain ⟨p, _, rfl⟩ := List.mem_map.mp hd; omega
theorem dgs_get {n L i : Nat} (h : i < L) : (dgs n L)[i]?.getD 0 = n / 2 ^ i % 2 := by simp [dgs, h]
theorem map_bit (row : List Nat) (p : Nat) : ∀ d ∈ row.map (fun n => n / 2 ^ p % 2), d < 2 := fun d hd => by
  obtain ⟨n, _, rfl⟩ := List.mem_map.mp hd; omega
theorem eq_range (row : List Nat) : row = (List.range row.length).map fun j => row[j]?.getD 0 := by
  apply List.ext_getElem?
  intro i
  by_cases h : i < row.length
  · simp [h]
  · simp [h]
theorem dgs_val {ds : List Nat} (h : ∀ d ∈ ds, d < 2) : dgs (val ds) ds.length = ds := by
  exact (List.map_congr_left fun i _ => val_bit h i).trans (eq_range ds).symm
theorem rw_wd {row : List Nat} : rw' (wd row) row.length = row := by
  conv => rhs; rw [eq_range row]
  unfold rw'
  refine List.map_congr_left fun j hj => ?_
  have hj := List.mem_range.mp hj
  have e : (wd row).map (fun l => l / 2 ^ j % 2) = dgs (row[j]?.getD 0) (mxl row) := by
    unfold wd dgs
    rw [List.map_map]
    refine List.map_congr_left fun p _ => ?_
    show lett row p / 2 ^ j % 2 = _
    rw [lett, val_bit (map_bit row p)]
    simp [hj]
  rw [e]
  have hm : row[j]?.getD 0 ∈ row := by simp [hj]
  exact val_dgs _ _ (Nat.lt_of_lt_of_le (lt_pow_len _) (pow_le2 (mxl_ge hm)))
theorem rw_pad (w : List Nat) (m t : Nat) : rw' (w ++ List.replicate m 0) t = rw' w t := by
  unfold rw'
  refine List.map_congr_left fun j _ => ?_
  rw [List.map_append, val_append, List.map_replicate]
  simp [val_zeros]
theorem rw_len (w : List Nat) (t : Nat) : (rw' w t).length = t := by simp [rw']
theorem wd_len (row : List Nat) : (wd row).length = mxl row := by simp [wd]
theorem wd_can (row : List Nat) : sl (wd row) (wd row).length = (wd row).length := by
  rw [wd_len]
  cases e : mxl row with
  | zero => rfl
  | succ L =>
    have hm : ∃ n ∈ row, (dg n).length = L + 1 := by
      rcases fold_in (row.map fun n => (dg n).length) 0 with h | h
      · rw [mxl, h] at e; cases e
      · rw [← e]
        obtain ⟨n, hn, q⟩ := List.mem_map.mp h
        exact ⟨n, hn, q⟩
    obtain ⟨n, hn, hL⟩ := hm
    have h1 : ¬ n < 2 ^ L := fun z => by have := dg_len L n z; omega
    have h2 := lt_pow_len n
    rw [hL, Nat.pow_succ] at h2
    have h3 : n / 2 ^ L = 1 := Nat.div_eq_of_lt_le (by omega) (by omega)
    have g : (wd row)[L]?.getD 0 = lett row L := by simp [wd, e]
    have nz : lett row L ≠ 0 := by
      intro z
      obtain ⟨i, hi⟩ := List.mem_iff_getElem?.mp hn
      have q := val_bit (map_bit row L) i
      rw [← lett, z] at q
      simp [hi, h3] at q
    rw [sl, g, if_neg nz]
theorem sl_app (w v : List Nat) : ∀ n, n ≤ w.length → sl (w ++ v) n = sl w n
  | 0, _ => rfl
  | n + 1, h => by
    unfold sl
    rw [List.getElem?_append_left (by omega), sl_app w v n (by omega)]
theorem sl_pad (w : List Nat) : ∀ m, sl (w ++ List.replicate m 0) (w.length + m) = sl w w.length
  | 0 => by simp
  | m + 1 => by
    have q : (w ++ List.replicate (m + 1) 0)[w.length + m]?.getD 0 = 0 := by
      rw [List.getElem?_append_right (by omega)]; simp
    show sl (w ++ List.replicate (m + 1) 0) (w.length + m + 1) = _
    rw [sl, if_pos q]
    have e : w ++ List.replicate (m + 1) 0 = (w ++ List.replicate m 0) ++ [0] := by rw [List.append_assoc, ← List.replicate_succ']
    rw [e, sl_app _ _ _ (by simp), sl_pad w m]
theorem sh_pad {w : List Nat} (h : sl w w.length = w.length) (m : Nat) : sh (w ++ List.replicate m 0) = w := by
  unfold sh
  rw [List.length_append, List.length_replicate, sl_pad, h, List.take_left]
theorem sh_self {w : List Nat} (h : sl w w.length = w.length) : sh w = w := by unfold sh; rw [h, List.take_length]
theorem sh_bent {w : List Nat} (h : sl w w.length = w.length) (m b : Nat) : decide (sh (w ++ List.replicate m 0 ++ [b]) = sh w) = decide (b = 0) := by
  rw [sh_self h]
  by_cases hb : b = 0
  · subst hb
    rw [List.append_assoc, ← List.replicate_succ', sh_pad h]; simp
  · have e : sh (w ++ List.replicate m 0 ++ [b]) = w ++ List.replicate m 0 ++ [b] := by
      refine sh_self ?_
      rw [List.length_append, List.length_singleton, sl, if_neg (by simp [hb])]
    rw [e]
    have : ¬ (w ++ List.replicate m 0 ++ [b] = w) := fun z => by
      have := congrArg List.length z
      simp at this
    simp [hb, this]
/-- a letter with a digit put in -/
def lwith (l p g : Nat) : Nat := l % 2 ^ p + g * 2 ^ p + l / 2 ^ p * 2 ^ p * 2
theorem with_all : ∀ t : Fin 5, ∀ l : Fin 16, ∀ p : Fin 5, ∀ g : Fin 2, l.val < 2 ^ t.val → p.val < t.val + 1 →
    dgs (lwith l p g) (t.val + 1) = ((dgs l t).take p ++ [g.val]) ++ (dgs l t).drop p ∧ lwith l p g % 2 ^ p.val + lwith l p g / (2 * 2 ^ p.val) * 2 ^ p.val = l ∧ lwith l p g < 100 := by decide +kernel
theorem with_ok {t l p g : Nat} (ht : t < 5) (hl : l < 2 ^ t) (hp : p < t + 1) (hg : g < 2) :
    dgs (lwith l p g) (t + 1) = ((dgs l t).take p ++ [g]) ++ (dgs l t).drop p ∧ lwith l p g % 2 ^ p + lwith l p g / (2 * 2 ^ p) * 2 ^ p = l ∧ lwith l p g < 100 := by
  have h16 : l < 16 := Nat.lt_of_lt_of_le hl (show 2 ^ t ≤ 2 ^ 4 from Nat.pow_le_pow_right (by decide) (by omega))
  exact with_all ⟨t, ht⟩ ⟨l, h16⟩ ⟨p, by omega⟩ ⟨g, hg⟩ hl hp
/-! ### checks -/
section
variable {k : Nat} {env env1 env2 : PF.Env} {a b : E}
theorem chkT {ds : List Nat} (hl : ds.length < 100000) (ha : ev (callL prog W (k + 2)) a .v env = some (.dat (.tup (bits ds)), env1)) (hb : ev (callL prog W (k + 2)) b .v env1 = some (.dat (.tup (bits ds)), env2)) :
    ev (callL prog W (k + 2)) (.not (.call (Str.ofString "_law_same") [a, b])) .t env = some (.dat (.bl false), env2) := call_n (ev_call2 ha hb (same_tup k ds hl))
theorem chkI {n : Nat} (ha : ev (callL prog W (k + 1)) a .v env = some (.dat (nt n), env1)) (hb : ev (callL prog W (k + 1)) b .v env1 = some (.dat (nt n), env2)) :
    ev (callL prog W (k + 1)) (.not (.call (Str.ofString "_law_same") [a, b])) .t env = some (.dat (.bl false), env2) := call_n (ev_call2 ha hb (same_int k n))
theorem chkB {n : Bool} (ha : ev (callL prog W (k + 1)) a .v env = some (.dat (.bl n), env1)) (hb : ev (callL prog W (k + 1)) b .v env1 = some (.dat (.bl n), env2)) :
    ev (callL prog W (k + 1)) (.not (.call (Str.ofString "_law_same") [a, b])) .t env = some (.dat (.bl false), env2) := call_n (ev_call2 ha hb (same_bl k n))
theorem sameT {ds : List Nat} (hl : ds.length < 100000) (ha : ev (callL prog W (k + 2)) a .v env = some (.dat (.tup (bits ds)), env1)) (hb : ev (callL prog W (k + 2)) b .v env1 = some (.dat (.tup (bits ds)), env2)) :
    ev (callL prog W (k + 2)) (.call (Str.ofString "_law_same") [a, b]) .v env = some (.dat (.bl true), env2) := ev_call2 ha hb (same_tup k ds hl)
theorem sameB {n : Bool} (ha : ev (callL prog W (k + 1)) a .v env = some (.dat (.bl n), env1)) (hb : ev (callL prog W (k + 1)) b .v env1 = some (.dat (.bl n), env2)) :
    ev (callL prog W (k + 1)) (.call (Str.ofString "_law_same") [a, b]) .v env = some (.dat (.bl true), env2) := ev_call2 ha hb (same_bl k n)
theorem ev_take {i m : Nat} {l : List Int} (hm : 0 < m) (h0 : look env i = .own (.lst (zs l))) (ha : ev (callL prog W (k + 1)) a .v env = some (.dat (nt m), env)) :
    ∃ (v : Nat) (l' : List Int), v < m ∧ ev (callL prog W (k + 1)) (.call (Str.ofString "_law_take") [.var i, a]) .v env = some (.dat (nt v), env.set i (.own (.lst (zs l')))) := by
  obtain ⟨v, l', hv, e⟩ := take_ok (W := W) k l m hm
  refine ⟨v, l', hv, ?_⟩
  have := ev_callS2 h0 ha h0 e
  rwa [List.set_set] at this
theorem ev_nlen {c : Cl} {ds : List Nat} (h : ev c a .v env = some (.dat (.tup (bits ds)), env1)) : ev c (.blt .len [a]) .v env = some (.dat (nt ds.length), env1) := by
  have := ev_len h
  rwa [show ((bits ds).length : Int) = (ds.length : Int) by simp] at this
end
theorem and_two {c : Cl} {env env1 env2 : PF.Env} {a b : E} (ha : ev c a .v env = some (.dat (.bl true), env1)) (hb : ev c b .v env1 = some (.dat (.bl true), env2)) : ev c (.and [a, b]) .v env = some (.dat (.bl true), env2) := by
  simp [ev, evAnd, ha, hb, fin, Md.tv]
/-- a comprehension that draws -/
theorem ev_lcTk {c : Cl} {i : Nat} {src elt : E} {cond : List E} {env : PF.Env} (xs : List D) (E : List Int → Slot → PF.Env) (l0 : List Int) (x0 : Slot) (m : Nat) (hsrc : ev c src .i env = some (.dat (.tup xs), E l0 x0)) (hl : xs.length ≤ 100)
    (h : ∀ x ∈ xs, ∀ l w, ∃ r l' w', lcT c [i] (.nm i) cond elt x (E l w) = some (r, E l' w') ∧ ∀ d, r = some d → ∃ v : Nat, v < m ∧ d = nt v) (hb : ∀ l w, backE (E l0 x0) (E l w) [i] = E l x0) :
    ∃ (vs : List Nat) (l' : List Int), vs.length ≤ xs.length ∧ (∀ v ∈ vs, v < m) ∧ ev c (.lc [i] (.nm i) src cond elt) .v env = some (.own (.lst (bits vs)), E l' x0) := by
  have key : ∀ (ys : List D), (∀ x ∈ ys, x ∈ xs) → ∀ l w, ∃ (vs : List Nat) (l' : List Int) (w' : Slot), vs.length ≤ ys.length ∧ (∀ v ∈ vs, v < m) ∧ lcLoop (lcT c [i] (.nm i) cond elt) ys (E l w) = some (bits vs, E l' w') := by
    intro ys
    induction ys with
    | nil => intro _ l w; exact ⟨[], l, w, Nat.le_refl _, (fun _ h => nomatch h), rfl⟩
    | cons y ys ih =>
      intro hm l w
      obtain ⟨r, l1, w1, e1, q1⟩ := h y (hm y List.mem_cons_self) l w
      obtain ⟨vs, l2, w2, h1, h2, h3⟩ := ih (fun x hx => hm x (List.mem_cons_of_mem _ hx)) l1 w1
      cases r with
      | none => exact ⟨vs, l2, w2, by simp; omega, h2, by simp only [lcLoop, e1, h3]⟩
      | some d =>
        obtain ⟨v, hv, rfl⟩ := q1 d rfl
        refine ⟨v :: vs, l2, w2, by simp; omega, fun z hz => ?_, by simp only [lcLoop, e1, h3, bits, List.map_cons]⟩
        rcases List.mem_cons.mp hz with rfl | hz
        · exact hv
        · exact h2 z hz
  obtain ⟨vs, l', w', h1, h2, h3⟩ := key xs (fun _ h => h) l0 x0
  refine ⟨vs, l', h1, h2, ?_⟩
  rw [ev_lc0]
  have : (bits vs).length ≤ line := by simp; unfold line; omega
  simp only [hsrc, h3, if_pos this, hb]
end K01
namespace K01
open PySem PF
variable {W : Nat}
theorem cut_from (ds : List Nat) (l : Nat) (h : l ≤ ds.length) : cut (bits ds) (some (l : Int)) none = bits (ds.drop l) := by
  have e : sIx (bits ds).length 0 (some (l : Int)) = l := by
    simp only [sIx, HT.sIx, List.length_map]
    rw [if_neg (by omega)]
    omega
  have e2 : sIx (bits ds).length (bits ds).length none = ds.length := by simp [sIx, HT.sIx]
  unfold cut
  rw [e, e2, bits, ← List.map_drop, ← List.map_take, List.take_of_length_le (by simp)]
theorem addT (a b : List Nat) (h : a.length + b.length ≤ 1000) : op2 .add (.tup (bits a)) (.tup (bits b)) = some (.dat (.tup (bits (a ++ b)))) := by
  have : (bits a).length + (bits b).length ≤ line := by simp; unfold line; omega
  simp only [op2]
  rw [if_pos this]
  simp [bits]
theorem addT1 (a : List Nat) (b : Nat) (h : a.length + 1 ≤ 1000) : op2 .add (.tup (bits a)) (.tup [nt b]) = some (.dat (.tup (bits (a ++ [b])))) := addT a [b] h
theorem map_bit' (v : Nat) (ps : List Nat) : ∀ d ∈ ps.map (fun p => v / 2 ^ p % 2), d < 2 := fun d hd => by
  obtain ⟨n, _, rfl⟩ := List.mem_map.mp hd; omega
def nonE : E → Bool
  | .non => true
  | _ => false
theorem ev_one1 {c : Cl} {env env1 : PF.Env} {a : E} {n : Nat} (h : ev c a .v env = some (.dat (nt n), env1)) : ev c (.tup [a]) .v env = some (.dat (.tup [nt n]), env1) := by
  simp [ev, evds, h, fin, toD, line]
theorem ev_upto {c : Cl} {env env1 env2 : PF.Env} {a b : E} {ds : List Nat} {n : Nat} (hb' : nonE b = false) (hn : n ≤ ds.length) (ha : ev c a .v env = some (.dat (.tup (bits ds)), env1)) (hb : ev c b .v env1 = some (.dat (nt n), env2)) : ev c (.slc a .non b) .v env = some (.dat (.tup (bits (ds.take n))), env2) := by
  have p1 : part b (nt n) = some (some (n : Int)) := by cases b <;> first | rfl | cases hb'
  have e : cut (bits ds) none (some (n : Int)) = bits (ds.take n) := cut_bits ds n hn
  have hn' : ev c .non .v env1 = some (.dat .non, env1) := rfl
  have p0 : ∀ d, part E.non d = some none := fun _ => rfl
  simp only [ev, ha, hb, fin, view, p0, p1, slcD, e]
theorem ev_from {c : Cl} {env env1 env2 : PF.Env} {a b : E} {ds : List Nat} {n : Nat} (hb' : nonE b = false) (hn : n ≤ ds.length) (ha : ev c a .v env = some (.dat (.tup (bits ds)), env1)) (hb : ev c b .v env1 = some (.dat (nt n), env2)) : ev c (.slc a b .non) .v env = some (.dat (.tup (bits (ds.drop n))), env2) := by
  have p1 : part b (nt n) = some (some (n : Int)) := by cases b <;> first | rfl | cases hb'
  have e : cut (bits ds) (some (n : Int)) none = bits (ds.drop n) := cut_from ds n hn
  have p0 : ∀ d, part E.non d = some none := fun _ => rfl
  simp only [ev, ha, hb, fin, view, p0, p1, slcD, e]
theorem pows5 {c : Cl} {env : PF.Env} {t : Nat} (ht : t < 5) (h : look env 1 = .val (nt t)) : ev c (.idx (.lst [.int 1, .int 2, .int 4, .int 8, .int 16]) (.var 1)) .v env = some (.dat (nt (2 ^ t)), env) := by
  have l5 : 5 ≤ line := by decide
  have hi : ∀ t < 5, idxD (.lst [.int 1, .int 2, .int 4, .int 8, .int 16]) (nt t) = some (nt (2 ^ t)) := by
    intro t ht
    have : t = 0 ∨ t = 1 ∨ t = 2 ∨ t = 3 ∨ t = 4 := by omega
    rcases this with rfl | rfl | rfl | rfl | rfl <;> rfl
  simp [ev, evds, fin, h, toD, l5, view, hi t ht]
theorem letters_ok (k : Nat) (l : List Int) (t : Nat) (ht : t < 5) : ∃ l' : List Int, callL prog W (k + 4) (Str.ofString "_law_are_letters_right") [.own (.lst (zs l)), .val (nt t)] = some (.dat (.bl true), [.own (.lst (zs l')), .val (nt t)]) := by
  suffices H : ∃ o fs, callL prog W (k + 4) (Str.ofString "_law_are_letters_right") [.own (.lst (zs l)), .val (nt t)] = some (o, fs) ∧ ∃ l' : List Int, o = .dat (.bl true) ∧ fs = [.own (.lst (zs l')), .val (nt t)] by
    obtain ⟨o, fs, e, l', rfl, rfl⟩ := H
    exact ⟨l', e⟩
  refine e__law_are_letters_right ?_
  have hp : 0 < 2 ^ t := Nat.pow_pos (by decide)
  have h16 : 2 ^ t ≤ 16 := show 2 ^ t ≤ 2 ^ 4 from Nat.pow_le_pow_right (by decide) (by omega)
  refine go_pass (chkI (k := k + 2) (ev_call1 (ev_var rfl) (lf_ok _ t (by omega))) (pows5 ht rfl)) ?_
  obtain ⟨v, l1, hv, e1⟩ := ev_take (W := W) (k := k + 2) (i := 0) (l := l) (a := .bin .shl (.int 1) (.var 1)) (env := [.own (.lst (zs l)), .val (nt t), .un, .un, .un, .un, .un, .un, .un, .un, .un]) hp rfl (ev_pow2 (by omega) (ev_var rfl))
  refine go_setD e1 ?_
  show Goes _ _ _ [.own (.lst (zs l1)), .val (nt t), .val (nt v), .un, .un, .un, .un, .un, .un, .un, .un] _
  have e2 := ev_lcm (c := callL prog W (k + 3)) (i := 4) (src := .rng [.var 1]) (elt := .bin .mod (.bin .fdiv (.var 2) (.bin .shl (.int 1) (.var 4))) (.int 2)) (List.range t) nt (fun i => nt (v / 2 ^ i % 2)) [.own (.lst (zs l1)), .val (nt t), .val (nt v), .un, .un, .un, .un, .un, .un, .un, .un]
    (ev_range (by omega) (ev_var rfl)) (by rw [List.length_range]; exact ln_of (by omega)) fun i hi => lcT1 (ev_bin (ev_bin (ev_var rfl) (ev_pow2 (by have := List.mem_range.mp hi; omega) (ev_var rfl)) (fdiv_nt _ _ (Nat.pow_pos (by decide)) (by
      have hi := List.mem_range.mp hi
      have : 2 ^ i ≤ 2 ^ 4 := Nat.pow_le_pow_right (by decide) (by omega)
      omega))) ev_two (mod_nt _ _ (by decide)))
  rw [mapB] at e2
  refine go_setD (ev_tuple e2) ?_
  show Goes _ _ _ [.own (.lst (zs l1)), .val (nt t), .val (nt v), .val (.tup (bits (dgs v t))), .un, .un, .un, .un, .un, .un, .un] _
  have lv := lo_ok (W := W) (k + 2) (dgs v t) (dgs_bit v t) (by rw [dgs_len]; omega)
  rw [val_dgs t v hv] at lv
  refine go_pass (or_two (chkT (k := k + 1) (by rw [dgs_len]; omega) (ev_call2 (ev_var rfl) (ev_var rfl) (di_ok _ v t (by omega))) (ev_var rfl)) (chkI (k := k + 2) (ev_call1 (ev_var rfl) lv) (ev_var rfl))) ?_
  obtain ⟨p, l2, hpl, e3⟩ := ev_take (W := W) (k := k + 2) (i := 0) (l := l1) (m := t + 1) (a := .bin .add (.var 1) (.int 1)) (env := [.own (.lst (zs l1)), .val (nt t), .val (nt v), .val (.tup (bits (dgs v t))), .un, .un, .un, .un, .un, .un, .un]) (by omega) rfl (ev_bin (ev_var rfl) ev_one (add_nt _ _))
  refine go_setD e3 ?_
  show Goes _ _ _ [.own (.lst (zs l2)), .val (nt t), .val (nt v), .val (.tup (bits (dgs v t))), .un, .val (nt p), .un, .un, .un, .un, .un] _
  obtain ⟨g, l3, hg, e4⟩ := ev_take (W := W) (k := k + 2) (i := 0) (l := l2) (m := 2) (a := .int 2) (env := [.own (.lst (zs l2)), .val (nt t), .val (nt v), .val (.tup (bits (dgs v t))), .un, .val (nt p), .un, .un, .un, .un, .un]) (by omega) rfl ev_two
  refine go_setD e4 ?_
  show Goes _ _ _ [.own (.lst (zs l3)), .val (nt t), .val (nt v), .val (.tup (bits (dgs v t))), .un, .val (nt p), .val (nt g), .un, .un, .un, .un] _
  obtain ⟨w1, w2, w3⟩ := with_ok ht hv hpl hg
  refine go_setD (ev_call3 (ev_var rfl) (ev_var rfl) (ev_var rfl) (lw_ok _ v p g (by omega) (by omega) hg)) ?_
  show Goes _ _ _ [.own (.lst (zs l3)), .val (nt t), .val (nt v), .val (.tup (bits (dgs v t))), .un, .val (nt p), .val (nt g), .val (nt (lwith v p g)), .un, .un, .un] _
  have lw := lwo_ok (W := W) (k + 2) (lwith v p g) p (by omega) (by omega)
  rw [w2] at lw
  have dl := di_ok (W := W) (k + 2) (lwith v p g) (t + 1) (by omega)
  have dn := dgs_len v t
  rw [w1] at dl
  refine go_pass (or_two (chkT (k := k + 1) (ds := ((dgs v t).take p ++ [g]) ++ (dgs v t).drop p) (by simp [dn]; omega) (ev_call2 (ev_var rfl) (ev_bin (ev_var rfl) ev_one (add_nt _ _)) dl)
    (ev_bin (ev_bin (ev_upto rfl (by omega) (ev_var rfl) (ev_var rfl)) (ev_one1 (ev_var rfl)) (addT1 _ _ (by simp [dn]; omega))) (ev_from rfl (by omega) (ev_var rfl) (ev_var rfl)) (addT _ _ (by simp [dn]; omega)))) (chkI (k := k + 2) (ev_call2 (ev_var rfl) (ev_var rfl) lw) (ev_var rfl))) ?_
  obtain ⟨n, l4, hn, e5⟩ := ev_take (W := W) (k := k + 2) (i := 0) (l := l3) (m := 4) (a := .int 4) (env := [.own (.lst (zs l3)), .val (nt t), .val (nt v), .val (.tup (bits (dgs v t))), .un, .val (nt p), .val (nt g), .val (nt (lwith v p g)), .un, .un, .un]) (by omega) rfl (by simp only [ev, fin, nt]; rfl)
  have e5' := ev_range (by omega) e5
  obtain ⟨ps, l5, q1, q2, e6⟩ := ev_lcTk (c := callL prog W (k + 3)) (i := 9) (src := .rng [.call (Str.ofString "_law_take") [.var 0, .int 4]]) (elt := .call (Str.ofString "_law_take") [.var 0, .var 1]) (cond := [.cmp .gt (.var 1) (.int 0)]) ((List.range n).map nt)
    (fun l w => [.own (.lst (zs l)), .val (nt t), .val (nt v), .val (.tup (bits (dgs v t))), .un, .val (nt p), .val (nt g), .val (nt (lwith v p g)), .un, w, .un]) l4 .un t e5' (by simp; omega)
    (fun x hx l w => by
      by_cases h0 : 0 < t
      · obtain ⟨u, l6, hu, e7⟩ := ev_take (W := W) (k := k + 2) (i := 0) (l := l) (m := t) (a := .var 1) (env := [.own (.lst (zs l)), .val (nt t), .val (nt v), .val (.tup (bits (dgs v t))), .un, .val (nt p), .val (nt g), .val (nt (lwith v p g)), .un, .val x, .un]) h0 rfl (ev_var rfl)
        refine ⟨some (nt u), l6, .val x, ?_, fun d hd => ⟨u, hu, by cases hd; rfl⟩⟩
        have e7' : ev (callL prog W (k + 3)) (.call (Str.ofString "_law_take") [.var 0, .var 1]) .v [.own (.lst (zs l)), .val (nt t), .val (nt v), .val (.tup (bits (dgs v t))), .un, .val (nt p), .val (nt g), .val (nt (lwith v p g)), .un, .val x, .un] = some (.dat (nt u), [.own (.lst (zs l6)), .val (nt t), .val (nt v), .val (.tup (bits (dgs v t))), .un, .val (nt p), .val (nt g), .val (nt (lwith v p g)), .un, .val x, .un]) := e7
        exact lcT_t (ev_cmpT (ev_var rfl) ev_ci (show cm .gt (nt t) (.int 0) = some true by simp [cm, nt, h0])) e7'
      · refine ⟨none, l, .val x, ?_, fun d hd => nomatch hd⟩
        have ht0 : t = 0 := by omega
        subst ht0
        simp [lcT, wipeE, exs, ex, ev, evds, evs, evAnd, evOr, look, fin, view, views, cm, truth, mutD, toD, op2, store, aug2, giveOut, finals, lend, PF.giveBack, bltD, isiD, kd, isK, idxD, mthD, b2i, itemsOf, bindT, Md.tv, setAll, revD, part, slcD, shp_int, shp_bl, deq_int, deq_bl, shp_non, rg1, rg2, rg3, rg4, ln1, ln2, ln3, ln4]) (fun l w => rfl)
  refine go_setD (ev_tuple e6) ?_
  show Goes _ _ _ [.own (.lst (zs l5)), .val (nt t), .val (nt v), .val (.tup (bits (dgs v t))), .un, .val (nt p), .val (nt g), .val (nt (lwith v p g)), .val (.tup (bits ps)), .un, .un] _
  have pl : ps.length ≤ 4 := by simp at q1; omega
  have e8 := ev_lcm (c := callL prog W (k + 3)) (i := 10) (src := .var 8) (elt := .idx (.var 3) (.var 10)) ps nt (fun p => nt (v / 2 ^ p % 2)) [.own (.lst (zs l5)), .val (nt t), .val (nt v), .val (.tup (bits (dgs v t))), .un, .val (nt p), .val (nt g), .val (nt (lwith v p g)), .val (.tup (bits ps)), .un, .un]
    (ev_walkT rfl) (ln_of (by omega)) fun q hq => lcT1 (ev_idx (ev_var rfl) (ev_var rfl) (by
      show atD (bits (dgs v t)) (q : Int) = _
      rw [atD_bits (by rw [dgs_len]; exact q2 q hq), dgs_get (q2 q hq)]))
  rw [mapB] at e8
  have hv2 := dgs_val (map_bit' v ps)
  rw [List.length_map] at hv2
  have d3 := di_ok (W := W) (k + 2) (val (ps.map fun p => v / 2 ^ p % 2)) ps.length (by omega)
  rw [hv2] at d3
  refine go_ret (sameT (k := k + 1) (by simp; omega) (ev_call2 (ev_call2 (ev_var rfl) (ev_var rfl) (pl_ok (k + 1) v ps (by omega))) (ev_nlen (ev_var rfl)) d3) (ev_tuple e8)) ?_
  exact ⟨l5, rfl, rfl⟩
end K01
namespace K01
open PySem PF
variable {W : Nat}
theorem lcTu {c : Cl} {i : Nat} {elt : E} {x d : D} {env env' : PF.Env} (h : ev c elt .v (env.set i (.val x)) = some (.dat d, env')) : lcT c [i] (.nm i) [] elt x env = some (some d, env') := lcT2 h
theorem mul_pad (m : Nat) (h : m < 100) : op2 .mul (.tup [.int 0]) (nt m) = some (.dat (.tup (bits (List.replicate m 0)))) := by
  have ht : (m : Int).toNat = m := by omega
  simp only [op2, nt, ht, List.length_singleton, Nat.one_mul]
  rw [if_pos ⟨by unfold line; omega, by omega, by omega⟩, rep_bits]
theorem ev_before {c : Cl} {env : PF.Env} {a b : List Nat} (h7 : look env 7 = .val (.tup (bits a))) (h3 : look env 3 = .val (.tup (bits b))) :
    ev c (.or [.cmp .lt (.blt .len [.var 7]) (.blt .len [.var 3]), .and [.cmp .eq (.blt .len [.var 7]) (.blt .len [.var 3]), .cmp .lt (.var 7) (.var 3)]]) .v env = some (.dat (.bl (if a.length = b.length then lx a b else decide (a.length < b.length))), env) := by
  have e1 : ev c (.cmp .lt (.blt .len [.var 7]) (.blt .len [.var 3])) .v env = some (.dat (.bl (decide (a.length < b.length))), env) := by
    refine ev_cmp (ev_nlen (ev_var h7)) (ev_nlen (ev_var h3)) ?_
    simp [cm, nt]
  have e2 : ev c (.cmp .eq (.blt .len [.var 7]) (.blt .len [.var 3])) .v env = some (.dat (.bl (decide (a.length = b.length))), env) := by
    refine ev_cmp (ev_nlen (ev_var h7)) (ev_nlen (ev_var h3)) ?_
    simp [cm, nt, shp_int, deq_int]
    omega
  have e3 : ev c (.cmp .lt (.var 7) (.var 3)) .v env = some (.dat (.bl (lx a b)), env) := ev_cmp (ev_var h7) (ev_var h3) (by simp only [cm, ints_bits])
  rw [ev_orV e1 (ev_andV e2 e3)]
  congr 4
  by_cases h1 : a.length < b.length
  · have h2 : ¬ a.length = b.length := by omega
    simp [h1, h2]
  · by_cases h2 : a.length = b.length
    · simp [h2]
    · simp [h1, h2]
theorem words_ok (k : Nat) (l : List Int) (row : List Nat) (hr : row.length < 5) (hb : ∀ n ∈ row, n < 2 ^ 300) (hW : 10000 < W) : ∃ l' : List Int, callL prog W (k + 5) (Str.ofString "_law_are_words_right") [.own (.lst (zs l)), .val (.tup (bits row))] = some (.dat (.bl true), [.own (.lst (zs l')), .val (.tup (bits row))]) := by
  suffices H : ∃ o fs, callL prog W (k + 5) (Str.ofString "_law_are_words_right") [.own (.lst (zs l)), .val (.tup (bits row))] = some (o, fs) ∧ ∃ l' : List Int, o = .dat (.bl true) ∧ fs = [.own (.lst (zs l')), .val (.tup (bits row))] by
    obtain ⟨o, fs, e, l', rfl, rfl⟩ := H
    exact ⟨l', e⟩
  refine e__law_are_words_right ?_
  have hb9 : ∀ n ∈ row, n < 2 ^ 900 := fun n hn => Nat.lt_of_lt_of_le (hb n hn) (pow_le2 (by decide))
  have hm : mxl row ≤ 300 := mxl_le hb
  have hp : 0 < 2 ^ row.length := Nat.pow_pos (by decide)
  obtain ⟨w, hw⟩ : ∃ w, w = wd row := ⟨_, rfl⟩
  have wl : w.length ≤ 300 := by rw [hw, wd_len]; exact hm
  have wc : sl w w.length = w.length := by rw [hw]; exact wd_can row
  have wr : rw' w row.length = row := by rw [hw]; exact rw_wd
  have wo := wo_ok (W := W) (k + 2) row (by omega) hb9 hW
  have lw := lwd_ok (W := W) (k + 2) row (by omega) hb9
  rw [← hw] at wo lw
  have ro : ∀ v : List Nat, v.length ≤ 400 → callL prog W (k + 4) (Str.ofString "row_of") [.val (.tup (bits v)), .val (nt row.length)] = some (.dat (.tup (bits (rw' v row.length))), [.val (.tup (bits v)), .val (nt row.length)]) := fun v hv => ro_ok (k + 2) v row.length (by omega) (by omega)
  have ro1 := ro w (by omega)
  rw [wr] at ro1
  refine go_setD (ev_nlen (ev_var rfl)) ?_
  show Goes _ _ _ [.own (.lst (zs l)), .val (.tup (bits row)), .val (nt row.length), .un, .un, .un, .un, .un, .un, .un] _
  refine go_setD (ev_call1 (ev_var rfl) lw) ?_
  show Goes _ _ _ [.own (.lst (zs l)), .val (.tup (bits row)), .val (nt row.length), .val (.tup (bits w)), .un, .un, .un, .un, .un, .un] _
  refine go_pass (or_three (chkT (k := k + 2) (by omega) (ev_call1 (ev_var rfl) wo) (ev_var rfl)) (chkT (k := k + 2) (by omega) (ev_call2 (ev_var rfl) (ev_var rfl) ro1) (ev_var rfl)) (chkT (k := k + 2) (by omega) (ev_call1 (ev_var rfl) wo) (ev_var rfl))) ?_
  obtain ⟨m, l1, hm4, e1⟩ := ev_take (W := W) (k := k + 3) (i := 0) (l := l) (m := 4) (a := .int 4) (env := [.own (.lst (zs l)), .val (.tup (bits row)), .val (nt row.length), .val (.tup (bits w)), .un, .un, .un, .un, .un, .un]) (by decide) rfl ev_ci
  refine go_setD e1 ?_
  show Goes _ _ _ [.own (.lst (zs l1)), .val (.tup (bits row)), .val (nt row.length), .val (.tup (bits w)), .val (nt m), .un, .un, .un, .un, .un] _
  obtain ⟨g, hg⟩ : ∃ g, g = w ++ List.replicate m 0 := ⟨_, rfl⟩
  have gl : g.length = w.length + m := by rw [hg]; simp
  have h0 : ev (callL prog W (k + 4)) (.tup [.int 0]) .v [.own (.lst (zs l1)), .val (.tup (bits row)), .val (nt row.length), .val (.tup (bits w)), .val (nt m), .un, .un, .un, .un, .un] = some (.dat (.tup [.int 0]), [.own (.lst (zs l1)), .val (.tup (bits row)), .val (nt row.length), .val (.tup (bits w)), .val (nt m), .un, .un, .un, .un, .un]) := ev_one1 (n := 0) ev_ci
  have ad := addT w (List.replicate m 0) (by simp; omega)
  rw [← hg] at ad
  refine go_setD (ev_bin (ev_var rfl) (ev_bin h0 (ev_var rfl) (mul_pad m (by omega))) ad) ?_
  show Goes _ _ _ [.own (.lst (zs l1)), .val (.tup (bits row)), .val (nt row.length), .val (.tup (bits w)), .val (nt m), .val (.tup (bits g)), .un, .un, .un, .un] _
  have ro2 := ro g (by omega)
  have sg := sw_ok (W := W) (k + 3) g (by omega)
  have tg := to_ok (W := W) (k + 2) g w (by omega) (by omega)
  rw [hg, sh_pad wc, sh_self wc, decide_eq_true rfl, ← hg] at tg
  rw [hg, sh_pad wc, ← hg] at sg
  rw [hg, rw_pad, wr, ← hg] at ro2
  refine go_pass (or_three (chkT (k := k + 2) (by omega) (ev_call2 (ev_var rfl) (ev_var rfl) ro2) (ev_var rfl)) (chkT (k := k + 2) (by omega) (ev_call1 (ev_var rfl) sg) (ev_var rfl)) (chkB (k := k + 3) (ev_call2 (ev_var rfl) (ev_var rfl) tg) (by simp only [ev, fin]; rfl))) ?_
  have lg1 := lg_ok (W := W) (k + 3) w (w.length + m) (by omega) (by omega)
  rw [show w.length + m - w.length = m by omega, ← hg] at lg1
  have lg2 := lg_ok (W := W) (k + 3) g w.length (by omega) (by omega)
  rw [show w.length - g.length = 0 by omega, List.replicate_zero, List.append_nil] at lg2
  refine go_pass (or_two (chkT (k := k + 2) (by omega) (ev_call2 (ev_var rfl) (ev_bin (ev_nlen (ev_var rfl)) (ev_var rfl) (add_nt _ _)) lg1) (ev_var rfl)) (chkT (k := k + 2) (by omega) (ev_call2 (ev_var rfl) (ev_nlen (ev_var rfl)) lg2) (ev_var rfl))) ?_
  obtain ⟨b, l2, hb2, e2⟩ := ev_take (W := W) (k := k + 3) (i := 0) (l := l1) (a := .bin .shl (.int 1) (.var 2)) (env := [.own (.lst (zs l1)), .val (.tup (bits row)), .val (nt row.length), .val (.tup (bits w)), .val (nt m), .val (.tup (bits g)), .un, .un, .un, .un]) hp rfl (ev_pow2 (by omega) (ev_var rfl))
  refine go_setD (ev_bin (ev_var rfl) (ev_one1 e2) (addT1 g b (by omega))) ?_
  show Goes _ _ _ [.own (.lst (zs l2)), .val (.tup (bits row)), .val (nt row.length), .val (.tup (bits w)), .val (nt m), .val (.tup (bits g)), .val (.tup (bits (g ++ [b]))), .un, .un, .un] _
  have tb := to_ok (W := W) (k + 2) (g ++ [b]) w (by simp; omega) (by omega)
  rw [hg, sh_bent wc, ← hg] at tb
  have ro3 := ro (g ++ [b]) (by simp; omega)
  have lr3 := lr_ok (W := W) (k + 3) (g ++ [b]) row.length (by simp; omega) (by omega)
  have ix : atD (bits (g ++ [b])) (g.length : Int) = some (nt b) := by rw [atD_bits (by simp)]; simp
  have eq0 : cm .eq (nt b) (.int 0) = some (decide (b = 0)) := by
    simp only [cm, nt, shp_int, deq_int, Bool.and_self, if_true]
    exact congrArg some (decide_eq_decide.mpr (by omega))
  refine go_pass (or_two (chkB (k := k + 3) (ev_call2 (ev_var rfl) (ev_var rfl) tb) (ev_cmp (ev_idx (ev_var rfl) (ev_nlen (ev_var rfl)) ix) ev_ci eq0)) (chkT (k := k + 2) (by rw [rw_len]; omega) (ev_call2 (ev_var rfl) (ev_var rfl) ro3) (ev_call2 (ev_var rfl) (ev_var rfl) lr3))) ?_
  obtain ⟨q, l3, hq, e3⟩ := ev_take (W := W) (k := k + 3) (i := 0) (l := l2) (m := 4) (a := .int 4) (env := [.own (.lst (zs l2)), .val (.tup (bits row)), .val (nt row.length), .val (.tup (bits w)), .val (nt m), .val (.tup (bits g)), .val (.tup (bits (g ++ [b]))), .un, .un, .un]) (by decide) rfl ev_ci
  obtain ⟨o, l4, ol, _, e4⟩ := ev_lcTk (c := callL prog W (k + 4)) (i := 8) (elt := .call (Str.ofString "_law_take") [.var 0, .bin .shl (.int 1) (.var 2)]) (cond := []) ((List.range q).map nt)
    (fun l w8 => [.own (.lst (zs l)), .val (.tup (bits row)), .val (nt row.length), .val (.tup (bits w)), .val (nt m), .val (.tup (bits g)), .val (.tup (bits (g ++ [b]))), .un, w8, .un]) l3 .un (2 ^ row.length) (ev_range (by omega) e3) (by simp; omega)
    (fun x hx l w8 => by
      obtain ⟨u, l5, hu, e5⟩ := ev_take (W := W) (k := k + 3) (i := 0) (l := l) (a := .bin .shl (.int 1) (.var 2)) (env := [.own (.lst (zs l)), .val (.tup (bits row)), .val (nt row.length), .val (.tup (bits w)), .val (nt m), .val (.tup (bits g)), .val (.tup (bits (g ++ [b]))), .un, .val x, .un]) hp rfl (ev_pow2 (by omega) (ev_var rfl))
      exact ⟨some (nt u), l5, .val x, lcT2 e5, fun d hd => ⟨u, hu, by cases hd; rfl⟩⟩) (fun l w8 => rfl)
  refine go_setD (ev_tuple e4) ?_
  show Goes _ _ _ [.own (.lst (zs l4)), .val (.tup (bits row)), .val (nt row.length), .val (.tup (bits w)), .val (nt m), .val (.tup (bits g)), .val (.tup (bits (g ++ [b]))), .val (.tup (bits o)), .un, .un] _
  refine go_setD (ev_before (a := o) (b := w) rfl rfl) ?_
  show Goes _ _ _ [.own (.lst (zs l4)), .val (.tup (bits row)), .val (nt row.length), .val (.tup (bits w)), .val (nt m), .val (.tup (bits g)), .val (.tup (bits (g ++ [b]))), .val (.tup (bits o)), .un, .val (.bl (if o.length = w.length then lx o w else decide (o.length < w.length)))] _
  have wb := wb_ok (W := W) (k + 2) w w
  rw [if_pos rfl, lx_self] at wb
  refine go_ret (and_two (sameB (k := k + 3) (ev_call2 (ev_var rfl) (ev_var rfl) (wb_ok (k + 2) o w)) (ev_var rfl)) (sameB (k := k + 3) (ev_call2 (ev_var rfl) (ev_var rfl) wb) (by simp only [ev, fin]; rfl))) ?_
  exact ⟨l4, rfl, rfl⟩
end K01
namespace K01
open PySem PF
/-- the last part of the law -/
def tailS : List S := [.set 8 (.call (Str.ofString "words_of_length") [(.var 4), (.var 7)]), .ite (.or [(.cmp .ne (.blt .len [(.var 8)]) (.idx (.lst [(.int 1), (.bin .shl (.int 1) (.var 4)), (.bin .mul (.bin .shl (.int 1) (.var 4)) (.bin .shl (.int 1) (.var 4)))]) (.var 7))), (.cmp .ne (.blt .list [(.var 8)]) (.sset (.var 8)))]) [.ret (.bl false)] [], .ite (.cmp .gt (.blt .len [(.lc [9] (.nm 9) (.var 8) [(.or [(.cmp .ne (.blt .len [(.var 9)]) (.var 7)), (.cmp .gt (.blt .len [(.lc [10] (.nm 10) (.var 9) [(.or [(.cmp .lt (.var 10) (.int 0)), (.cmp .ge (.var 10) (.bin .shl (.int 1) (.var 4)))])] (.var 10))]) (.int 0))])] (.var 9))]) (.int 0)) [.ret (.bl false)] [], .ite (.or [(.not (.call (Str.ofString "_law_same") [(.call (Str.ofString "word_of") [(.tup [(.int 5), (.int 2)])]), (.tup [(.int 1), (.int 2), (.int 1)])])), (.not (.call (Str.ofString "_law_same") [(.call (Str.ofString "row_of") [(.tup [(.int 1), (.int 2), (.int 1), (.int 0)]), (.int 2)]), (.tup [(.int 5), (.int 2)])])), (.not (.call (Str.ofString "_law_same") [(.call (Str.ofString "word_of") [(.tup [])]), (.tup [])])), (.not (.call (Str.ofString "_law_same") [(.call (Str.ofString "row_of") [(.tup [(.int 0), (.int 0)]), (.int 0)]), (.tup [])]))]) [.ret (.bl false)] [], .ite (.or [(.not (.call (Str.ofString "_law_same") [(.call (Str.ofString "words_of_length") [(.int 1), (.int 2)]), (.tup [(.tup [(.int 0), (.int 0)]), (.tup [(.int 0), (.int 1)]), (.tup [(.int 1), (.int 0)]), (.tup [(.int 1), (.int 1)])])])), (.not (.call (Str.ofString "_law_same") [(.call (Str.ofString "words_of_length") [(.int 0), (.int 3)]), (.tup [(.tup [(.int 0), (.int 0), (.int 0)])])])), (.not (.call (Str.ofString "_law_same") [(.call (Str.ofString "words_of_length") [(.int 2), (.int 0)]), (.tup [(.tup [])])]))]) [.ret (.bl false)] [], .ret (.and [(.call (Str.ofString "_law_same") [(.call (Str.ofString "picked_letter") [(.int 6), (.tup [(.int 2), (.int 0), (.int 2)])]), (.int 5)]), (.call (Str.ofString "_law_same") [(.call (Str.ofString "letter_with") [(.int 3), (.int 1), (.int 0)]), (.int 5)]), (.call (Str.ofString "_law_same") [(.call (Str.ofString "letter_without") [(.int 5), (.int 1)]), (.int 3)]), (.call (Str.ofString "_law_same") [(.call (Str.ofString "is_word_before") [(.tup [(.int 3)]), (.tup [(.int 0), (.int 0)])]), (.bl true)])])]
def tailOk : Option R → Bool
  | some (.ret (.dat (.bl true)) _) => true
  | _ => false
theorem tail00 (s0 s1 s2 s3 s5 : Slot) : tailOk (exs (callL prog 100000 39) 100000 tailS [s0, s1, s2, s3, .val (.int 0), s5, .un, .val (.int 0), .un, .un, .un]) = true := by kernel_rfl
theorem tail01 (s0 s1 s2 s3 s5 : Slot) : tailOk (exs (callL prog 100000 39) 100000 tailS [s0, s1, s2, s3, .val (.int 0), s5, .un, .val (.int 1), .un, .un, .un]) = true := by kernel_rfl
theorem tail02 (s0 s1 s2 s3 s5 : Slot) : tailOk (exs (callL prog 100000 39) 100000 tailS [s0, s1, s2, s3, .val (.int 0), s5, .un, .val (.int 2), .un, .un, .un]) = true := by kernel_rfl
theorem tail10 (s0 s1 s2 s3 s5 : Slot) : tailOk (exs (callL prog 100000 39) 100000 tailS [s0, s1, s2, s3, .val (.int 1), s5, .un, .val (.int 0), .un, .un, .un]) = true := by kernel_rfl
theorem tail11 (s0 s1 s2 s3 s5 : Slot) : tailOk (exs (callL prog 100000 39) 100000 tailS [s0, s1, s2, s3, .val (.int 1), s5, .un, .val (.int 1), .un, .un, .un]) = true := by kernel_rfl
theorem tail12 (s0 s1 s2 s3 s5 : Slot) : tailOk (exs (callL prog 100000 39) 100000 tailS [s0, s1, s2, s3, .val (.int 1), s5, .un, .val (.int 2), .un, .un, .un]) = true := by kernel_rfl
theorem tail20 (s0 s1 s2 s3 s5 : Slot) : tailOk (exs (callL prog 100000 39) 100000 tailS [s0, s1, s2, s3, .val (.int 2), s5, .un, .val (.int 0), .un, .un, .un]) = true := by kernel_rfl
theorem tail21 (s0 s1 s2 s3 s5 : Slot) : tailOk (exs (callL prog 100000 39) 100000 tailS [s0, s1, s2, s3, .val (.int 2), s5, .un, .val (.int 1), .un, .un, .un]) = true := by kernel_rfl
theorem tail22 (s0 s1 s2 s3 s5 : Slot) : tailOk (exs (callL prog 100000 39) 100000 tailS [s0, s1, s2, s3, .val (.int 2), s5, .un, .val (.int 2), .un, .un, .un]) = true := by kernel_rfl
theorem tail_ok (a b : Nat) (ha : a < 3) (hb : b < 3) (s0 s1 s2 s3 s5 : Slot) : tailOk (exs (callL prog 100000 39) 100000 tailS [s0, s1, s2, s3, .val (nt a), s5, .un, .val (nt b), .un, .un, .un]) = true := by
  have h1 : a = 0 ∨ a = 1 ∨ a = 2 := by omega
  have h2 : b = 0 ∨ b = 1 ∨ b = 2 := by omega
  rcases h1 with rfl | rfl | rfl <;> rcases h2 with rfl | rfl | rfl
  · exact tail00 s0 s1 s2 s3 s5
  · exact tail01 s0 s1 s2 s3 s5
  · exact tail02 s0 s1 s2 s3 s5
  · exact tail10 s0 s1 s2 s3 s5
  · exact tail11 s0 s1 s2 s3 s5
  · exact tail12 s0 s1 s2 s3 s5
  · exact tail20 s0 s1 s2 s3 s5
  · exact tail21 s0 s1 s2 s3 s5
  · exact tail22 s0 s1 s2 s3 s5
theorem goes_tail {c : Cl} {W : Nat} {ss : List S} {env : PF.Env} (h : tailOk (exs c W ss env) = true) : Goes c W ss env (fun r => match outR d_law r with | some (o, fs) => o = .dat (.bl true) | none => False) := by
  unfold Goes
  unfold tailOk at h
  split at h
  · rename_i e
    rw [e]
    simp only [outR]
  · cases h
theorem p60 : (10 : Int) ^ 60 < 2 ^ 200 := by decide
theorem ab_lt (B C c v : Int) (h1 : C < B) (hc : -C < c ∧ c < C) (h : v = (if c < 0 then -c else c)) : v < B := by
  split at h <;> omega
theorem up3 {v : Nat} (h : (v : Int) < 2 ^ 200) : v < 2 ^ 300 := by
  have h3 : v < 2 ^ 200 := by exact_mod_cast h
  exact Nat.lt_of_lt_of_le h3 (pow_le2 (by decide))
theorem num_lt {v : Nat} {c : Int} (hc : -(10 ^ 60) < c ∧ c < 10 ^ 60) (h : v < 20 ∨ (v : Int) = (if c < 0 then -c else c)) : v < 2 ^ 300 := by
  rcases h with h | h
  · exact Nat.lt_of_lt_of_le (show v < 2 ^ 5 by omega) (pow_le2 (by decide))
  · exact up3 (ab_lt _ _ _ _ p60 hc h)
theorem main (ns : List Int) (hl : ns.length ≤ 63) : ∃ fs, callL prog 100000 40 (Str.ofString "law") [.val (.lst (ns.map .int))] = some (.dat (.bl true), fs) := by
  suffices H : ∃ o fs, callL prog 100000 40 (Str.ofString "law") [.val (.lst (zs ns))] = some (o, fs) ∧ o = .dat (.bl true) by
    obtain ⟨o, fs, e, rfl⟩ := H
    exact ⟨fs, e⟩
  refine e_law ?_
  have hW : 10000 < 100000 := by decide
  obtain ⟨l0, e1⟩ := draws_ok (W := 100000) 38 ns hl
  obtain ⟨c, hc, e2⟩ := cell_ok (W := 100000) 38 ns
  refine go_setO (ev_call2 (ev_var rfl) ev_ci e1) ?_
  show Goes _ _ _ [.val (.lst (zs ns)), .own (.lst (zs l0)), .un, .un, .un, .un, .un, .un, .un, .un, .un] _
  refine go_setD (ev_call1 (ev_var rfl) e2) ?_
  show Goes _ _ _ [.val (.lst (zs ns)), .own (.lst (zs l0)), .val (.int c), .un, .un, .un, .un, .un, .un, .un, .un] _
  refine go_for ((List.range 4).map nt) [.val (.lst (zs ns)), .own (.lst (zs l0)), .val (.int c), .un, .un, .un, .un, .un, .un, .un, .un] (fun i env => ∃ l s3 s4 s5, env = [.val (.lst (zs ns)), .own (.lst (zs l)), .val (.int c), s3, s4, s5, .un, .un, .un, .un, .un])
    (ev_range (n := 4) (by decide) ev_ci) ⟨l0, .un, .un, .un, rfl⟩ (fun i x env hx ⟨l, s3, s4, s5, he⟩ => ?_) fun env ⟨l, s3, s4, s5, he⟩ => ?_
  · subst he
    refine ⟨_, rfl, ?_⟩
    show Goes _ _ _ [.val (.lst (zs ns)), .own (.lst (zs l)), .val (.int c), .val x, s4, s5, .un, .un, .un, .un, .un] _
    obtain ⟨t, l1, ht, e3⟩ := ev_take (W := 100000) (k := 38) (i := 1) (l := l) (m := 5) (a := .int 5) (env := [.val (.lst (zs ns)), .own (.lst (zs l)), .val (.int c), .val x, s4, s5, .un, .un, .un, .un, .un]) (by decide) rfl ev_ci
    refine go_setD e3 ?_
    show Goes _ _ _ [.val (.lst (zs ns)), .own (.lst (zs l1)), .val (.int c), .val x, .val (nt t), s5, .un, .un, .un, .un, .un] _
    obtain ⟨row, l2, rl, rb, e4⟩ := ev_lcTk (c := callL prog 100000 39) (i := 6) (src := .rng [.var 4]) (elt := .call (Str.ofString "_law_number") [.var 1, .var 2]) (cond := []) (env := [.val (.lst (zs ns)), .own (.lst (zs l1)), .val (.int c), .val x, .val (nt t), s5, .un, .un, .un, .un, .un]) ((List.range t).map nt)
      (fun l w => [.val (.lst (zs ns)), .own (.lst (zs l)), .val (.int c), .val x, .val (nt t), s5, w, .un, .un, .un, .un]) l1 .un (2 ^ 300) (ev_range (by omega) (ev_var rfl)) (by simp; omega)
      (fun y hy l w => by
        obtain ⟨v, l', hv, e5⟩ := number_ok (W := 100000) 37 l c
        exact ⟨some (nt v), l', .val y, lcT2 (ev_callS2 (d := .lst (zs l)) (d' := .int c) rfl (ev_var rfl) rfl e5), fun d hd => ⟨v, num_lt hc hv, by cases hd; rfl⟩⟩) (fun l w => rfl)
    refine go_setD (ev_tuple e4) ?_
    show Goes _ _ _ [.val (.lst (zs ns)), .own (.lst (zs l2)), .val (.int c), .val x, .val (nt t), .val (.tup (bits row)), .un, .un, .un, .un, .un] _
    obtain ⟨l3, e6⟩ := letters_ok (W := 100000) 35 l2 t ht
    obtain ⟨l4, e7⟩ := words_ok (W := 100000) 34 l3 row (by simp at rl; omega) rb hW
    refine go_pass (or_two (call_n (ev_callS2 (d := .lst (zs l2)) (d' := nt t) rfl (ev_var rfl) rfl e6)) (call_n (ev_callS2 (d := .lst (zs l3)) (d' := .tup (bits row)) rfl (ev_var rfl) rfl e7))) ?_
    refine go_nil ?_
    exact ⟨l4, .val x, .val (nt t), .val (.tup (bits row)), rfl⟩
  · subst he
    obtain ⟨a, l1, ha, e3⟩ := ev_take (W := 100000) (k := 38) (i := 1) (l := l) (m := 3) (a := .int 3) (env := [.val (.lst (zs ns)), .own (.lst (zs l)), .val (.int c), s3, s4, s5, .un, .un, .un, .un, .un]) (by decide) rfl ev_ci
    refine go_setD e3 ?_
    show Goes _ _ _ [.val (.lst (zs ns)), .own (.lst (zs l1)), .val (.int c), s3, .val (nt a), s5, .un, .un, .un, .un, .un] _
    obtain ⟨b, l2, hb, e4⟩ := ev_take (W := 100000) (k := 38) (i := 1) (l := l1) (m := 3) (a := .int 3) (env := [.val (.lst (zs ns)), .own (.lst (zs l1)), .val (.int c), s3, .val (nt a), s5, .un, .un, .un, .un, .un]) (by decide) rfl ev_ci
    refine go_setD e4 ?_
    exact goes_tail (tail_ok a b ha hb _ _ _ _ _)
end K01
namespace K01
open PySem PySem.Spec PyProof.Rows L2 PF
-- the defs stand in the row
def top (i : Nat) : Stmt := PySem.Challenge.pw_everynumber_k01_letters_words_and_rows.main.body.getD i (.Pass ⟨0, 0, 0, 0⟩)
def g_digits_of : Sg := ⟨d_digits_of, [Str.ofString "n", Str.ofString "found"], [Str.ofString "n"], top 1⟩
def g_number_of : Sg := ⟨d_number_of, [Str.ofString "digits", Str.ofString "found", Str.ofString "digit"], [Str.ofString "digits"], top 2⟩
def g_digit_there : Sg := ⟨d_digit_there, [Str.ofString "digits", Str.ofString "place"], [Str.ofString "digits", Str.ofString "place"], top 3⟩
def g_letters_for : Sg := ⟨d_letters_for, [Str.ofString "tracks"], [Str.ofString "tracks"], top 5⟩
def g_digits_in : Sg := ⟨d_digits_in, [Str.ofString "letter", Str.ofString "tracks", Str.ofString "track"], [Str.ofString "letter", Str.ofString "tracks"], top 6⟩
def g_letter_of : Sg := ⟨d_letter_of, [Str.ofString "digits", Str.ofString "track"], [Str.ofString "digits"], top 7⟩
def g_picked_letter : Sg := ⟨d_picked_letter, [Str.ofString "letter", Str.ofString "places", Str.ofString "place"], [Str.ofString "letter", Str.ofString "places"], top 8⟩
def g_letter_with : Sg := ⟨d_letter_with, [Str.ofString "letter", Str.ofString "place", Str.ofString "digit", Str.ofString "low"], [Str.ofString "letter", Str.ofString "place", Str.ofString "digit"], top 9⟩
def g_letter_without : Sg := ⟨d_letter_without, [Str.ofString "letter", Str.ofString "place", Str.ofString "low"], [Str.ofString "letter", Str.ofString "place"], top 10⟩
def g_word_of : Sg := ⟨d_word_of, [Str.ofString "row", Str.ofString "digits", Str.ofString "n", Str.ofString "length", Str.ofString "own", Str.ofString "place"], [Str.ofString "row"], top 12⟩
def g_row_of : Sg := ⟨d_row_of, [Str.ofString "word", Str.ofString "tracks", Str.ofString "digits", Str.ofString "letter", Str.ofString "track", Str.ofString "own"], [Str.ofString "word", Str.ofString "tracks"], top 13⟩
def g_shortened_word : Sg := ⟨d_shortened_word, [Str.ofString "word", Str.ofString "length"], [Str.ofString "word"], top 14⟩
def g_lengthened_word : Sg := ⟨d_lengthened_word, [Str.ofString "word", Str.ofString "length"], [Str.ofString "word", Str.ofString "length"], top 15⟩
def g_tell_one_row : Sg := ⟨d_tell_one_row, [Str.ofString "one", Str.ofString "other"], [Str.ofString "one", Str.ofString "other"], top 16⟩
def g_words_of_length : Sg := ⟨d_words_of_length, [Str.ofString "tracks", Str.ofString "length", Str.ofString "words", Str.ofString "_", Str.ofString "word", Str.ofString "letter"], [Str.ofString "tracks", Str.ofString "length"], top 17⟩
def g_key_of_word : Sg := ⟨d_key_of_word, [Str.ofString "word"], [Str.ofString "word"], top 18⟩
def g_is_word_before : Sg := ⟨d_is_word_before, [Str.ofString "one", Str.ofString "other"], [Str.ofString "one", Str.ofString "other"], top 19⟩
def g__law_draws : Sg := ⟨d__law_draws, [Str.ofString "script", Str.ofString "many", Str.ofString "cells", Str.ofString "cell", Str.ofString "rest", Str.ofString "draws", Str.ofString "k", Str.ofString "at", Str.ofString "once"], [Str.ofString "script", Str.ofString "many"], top 21⟩
def g__law_take : Sg := ⟨d__law_take, [Str.ofString "draws", Str.ofString "many"], [Str.ofString "draws", Str.ofString "many"], top 22⟩
def g__law_cell : Sg := ⟨d__law_cell, [Str.ofString "script", Str.ofString "cell"], [Str.ofString "script"], top 23⟩
def g__law_same : Sg := ⟨d__law_same, [Str.ofString "actual", Str.ofString "due", Str.ofString "k"], [Str.ofString "actual", Str.ofString "due"], top 24⟩
def g__law_number : Sg := ⟨d__law_number, [Str.ofString "draws", Str.ofString "cell", Str.ofString "pick"], [Str.ofString "draws", Str.ofString "cell"], top 25⟩
def g__law_long : Sg := ⟨d__law_long, [Str.ofString "n", Str.ofString "k"], [Str.ofString "n"], top 26⟩
def g__law_letter : Sg := ⟨d__law_letter, [Str.ofString "row", Str.ofString "place", Str.ofString "j"], [Str.ofString "row", Str.ofString "place"], top 27⟩
def g__law_word : Sg := ⟨d__law_word, [Str.ofString "row", Str.ofString "most", Str.ofString "n", Str.ofString "place"], [Str.ofString "row"], top 28⟩
def g__law_row : Sg := ⟨d__law_row, [Str.ofString "word", Str.ofString "tracks", Str.ofString "j", Str.ofString "k"], [Str.ofString "word", Str.ofString "tracks"], top 29⟩
def g__law_are_letters_right : Sg := ⟨d__law_are_letters_right, [Str.ofString "draws", Str.ofString "tracks", Str.ofString "letter", Str.ofString "digits", Str.ofString "track", Str.ofString "place", Str.ofString "digit", Str.ofString "longer", Str.ofString "places", Str.ofString "k", Str.ofString "own"], [Str.ofString "draws", Str.ofString "tracks"], top 30⟩
def g__law_are_words_right : Sg := ⟨d__law_are_words_right, [Str.ofString "draws", Str.ofString "row", Str.ofString "tracks", Str.ofString "word", Str.ofString "more", Str.ofString "longer", Str.ofString "bent", Str.ofString "other", Str.ofString "k", Str.ofString "before"], [Str.ofString "draws", Str.ofString "row"], top 31⟩
def g_law : Sg := ⟨d_law, [Str.ofString "script", Str.ofString "draws", Str.ofString "cell", Str.ofString "turn", Str.ofString "tracks", Str.ofString "row", Str.ofString "k", Str.ofString "length", Str.ofString "found", Str.ofString "word", Str.ofString "letter"], [Str.ofString "script"], top 32⟩
def sgl : List Sg := [g_digits_of, g_number_of, g_digit_there, g_letters_for, g_digits_in, g_letter_of, g_picked_letter, g_letter_with, g_letter_without, g_word_of, g_row_of, g_shortened_word, g_lengthened_word, g_tell_one_row, g_words_of_length, g_key_of_word, g_is_word_before, g__law_draws, g__law_take, g__law_cell, g__law_same, g__law_number, g__law_long, g__law_letter, g__law_word, g__law_row, g__law_are_letters_right, g__law_are_words_right, g_law]
def bns : List Str := [Str.ofString "abs", Str.ofString "bool", Str.ofString "int", Str.ofString "isinstance", Str.ofString "len", Str.ofString "list", Str.ofString "max", Str.ofString "range", Str.ofString "set", Str.ofString "sorted", Str.ofString "str", Str.ofString "sum", Str.ofString "tuple"]
theorem ok_digits_of : GOk bns sgl g_digits_of := ⟨⟨rfl, rfl, rfl, by decide +kernel, rfl, by decide +kernel, by decide +kernel⟩, by decide +kernel, by rfl, fun _ _ _ _ _ _ us hl => match us, hl with | [_], _ => rfl⟩
theorem ok_number_of : GOk bns sgl g_number_of := ⟨⟨rfl, rfl, rfl, by decide +kernel, rfl, by decide +kernel, by decide +kernel⟩, by decide +kernel, by rfl, fun _ _ _ _ _ _ us hl => match us, hl with | [_], _ => rfl⟩
theorem ok_digit_there : GOk bns sgl g_digit_there := ⟨⟨rfl, rfl, rfl, by decide +kernel, rfl, by decide +kernel, by decide +kernel⟩, by decide +kernel, by rfl, fun _ _ _ _ _ _ us hl => match us, hl with | [_, _], _ => rfl⟩
theorem ok_letters_for : GOk bns sgl g_letters_for := ⟨⟨rfl, rfl, rfl, by decide +kernel, rfl, by decide +kernel, by decide +kernel⟩, by decide +kernel, by rfl, fun _ _ _ _ _ _ us hl => match us, hl with | [_], _ => rfl⟩
theorem ok_digits_in : GOk bns sgl g_digits_in := ⟨⟨rfl, rfl, rfl, by decide +kernel, rfl, by decide +kernel, by decide +kernel⟩, by decide +kernel, by rfl, fun _ _ _ _ _ _ us hl => match us, hl with | [_, _], _ => rfl⟩
theorem ok_letter_of : GOk bns sgl g_letter_of := ⟨⟨rfl, rfl, rfl, by decide +kernel, rfl, by decide +kernel, by decide +kernel⟩, by decide +kernel, by rfl, fun _ _ _ _ _ _ us hl => match us, hl with | [_], _ => rfl⟩
theorem ok_picked_letter : GOk bns sgl g_picked_letter := ⟨⟨rfl, rfl, rfl, by decide +kernel, rfl, by decide +kernel, by decide +kernel⟩, by decide +kernel, by rfl, fun _ _ _ _ _ _ us hl => match us, hl with | [_, _], _ => rfl⟩
theorem ok_letter_with : GOk bns sgl g_letter_with := ⟨⟨rfl, rfl, rfl, by decide +kernel, rfl, by decide +kernel, by decide +kernel⟩, by decide +kernel, by rfl, fun _ _ _ _ _ _ us hl => match us, hl with | [_, _, _], _ => rfl⟩
theorem ok_letter_without : GOk bns sgl g_letter_without := ⟨⟨rfl, rfl, rfl, by decide +kernel, rfl, by decide +kernel, by decide +kernel⟩, by decide +kernel, by rfl, fun _ _ _ _ _ _ us hl => match us, hl with | [_, _], _ => rfl⟩
theorem ok_word_of : GOk bns sgl g_word_of := ⟨⟨rfl, rfl, rfl, by decide +kernel, rfl, by decide +kernel, by decide +kernel⟩, by decide +kernel, by rfl, fun _ _ _ _ _ _ us hl => match us, hl with | [_], _ => rfl⟩
theorem ok_row_of : GOk bns sgl g_row_of := ⟨⟨rfl, rfl, rfl, by decide +kernel, rfl, by decide +kernel, by decide +kernel⟩, by decide +kernel, by rfl, fun _ _ _ _ _ _ us hl => match us, hl with | [_, _], _ => rfl⟩
theorem ok_shortened_word : GOk bns sgl g_shortened_word := ⟨⟨rfl, rfl, rfl, by decide +kernel, rfl, by decide +kernel, by decide +kernel⟩, by decide +kernel, by rfl, fun _ _ _ _ _ _ us hl => match us, hl with | [_], _ => rfl⟩
theorem ok_lengthened_word : GOk bns sgl g_lengthened_word := ⟨⟨rfl, rfl, rfl, by decide +kernel, rfl, by decide +kernel, by decide +kernel⟩, by decide +kernel, by rfl, fun _ _ _ _ _ _ us hl => match us, hl with | [_, _], _ => rfl⟩
theorem ok_tell_one_row : GOk bns sgl g_tell_one_row := ⟨⟨rfl, rfl, rfl, by decide +kernel, rfl, by decide +kernel, by decide +kernel⟩, by decide +kernel, by rfl, fun _ _ _ _ _ _ us hl => match us, hl with | [_, _], _ => rfl⟩
theorem ok_words_of_length : GOk bns sgl g_words_of_length := ⟨⟨rfl, rfl, rfl, by decide +kernel, rfl, by decide +kernel, by decide +kernel⟩, by decide +kernel, by rfl, fun _ _ _ _ _ _ us hl => match us, hl with | [_, _], _ => rfl⟩
theorem ok_key_of_word : GOk bns sgl g_key_of_word := ⟨⟨rfl, rfl, rfl, by decide +kernel, rfl, by decide +kernel, by decide +kernel⟩, by decide +kernel, by rfl, fun _ _ _ _ _ _ us hl => match us, hl with | [_], _ => rfl⟩
theorem ok_is_word_before : GOk bns sgl g_is_word_before := ⟨⟨rfl, rfl, rfl, by decide +kernel, rfl, by decide +kernel, by decide +kernel⟩, by decide +kernel, by rfl, fun _ _ _ _ _ _ us hl => match us, hl with | [_, _], _ => rfl⟩
theorem ok__law_draws : GOk bns sgl g__law_draws := ⟨⟨rfl, rfl, rfl, by decide +kernel, rfl, by decide +kernel, by decide +kernel⟩, by decide +kernel, by rfl, fun _ _ _ _ _ _ us hl => match us, hl with | [_, _], _ => rfl⟩
theorem ok__law_take : GOk bns sgl g__law_take := ⟨⟨rfl, rfl, rfl, by decide +kernel, rfl, by decide +kernel, by decide +kernel⟩, by decide +kernel, by rfl, fun _ _ _ _ _ _ us hl => match us, hl with | [_, _], _ => rfl⟩
theorem ok__law_cell : GOk bns sgl g__law_cell := ⟨⟨rfl, rfl, rfl, by decide +kernel, rfl, by decide +kernel, by decide +kernel⟩, by decide +kernel, by rfl, fun _ _ _ _ _ _ us hl => match us, hl with | [_], _ => rfl⟩
theorem ok__law_same : GOk bns sgl g__law_same := ⟨⟨rfl, rfl, rfl, by decide +kernel, rfl, by decide +kernel, by decide +kernel⟩, by decide +kernel, by rfl, fun _ _ _ _ _ _ us hl => match us, hl with | [_, _], _ => rfl⟩
theorem ok__law_number : GOk bns sgl g__law_number := ⟨⟨rfl, rfl, rfl, by decide +kernel, rfl, by decide +kernel, by decide +kernel⟩, by decide +kernel, by rfl, fun _ _ _ _ _ _ us hl => match us, hl with | [_, _], _ => rfl⟩
theorem ok__law_long : GOk bns sgl g__law_long := ⟨⟨rfl, rfl, rfl, by decide +kernel, rfl, by decide +kernel, by decide +kernel⟩, by decide +kernel, by rfl, fun _ _ _ _ _ _ us hl => match us, hl with | [_], _ => rfl⟩
theorem ok__law_letter : GOk bns sgl g__law_letter := ⟨⟨rfl, rfl, rfl, by decide +kernel, rfl, by decide +kernel, by decide +kernel⟩, by decide +kernel, by rfl, fun _ _ _ _ _ _ us hl => match us, hl with | [_, _], _ => rfl⟩
theorem ok__law_word : GOk bns sgl g__law_word := ⟨⟨rfl, rfl, rfl, by decide +kernel, rfl, by decide +kernel, by decide +kernel⟩, by decide +kernel, by rfl, fun _ _ _ _ _ _ us hl => match us, hl with | [_], _ => rfl⟩
theorem ok__law_row : GOk bns sgl g__law_row := ⟨⟨rfl, rfl, rfl, by decide +kernel, rfl, by decide +kernel, by decide +kernel⟩, by decide +kernel, by rfl, fun _ _ _ _ _ _ us hl => match us, hl with | [_, _], _ => rfl⟩
theorem ok__law_are_letters_right : GOk bns sgl g__law_are_letters_right := ⟨⟨rfl, rfl, rfl, by decide +kernel, rfl, by decide +kernel, by decide +kernel⟩, by decide +kernel, by rfl, fun _ _ _ _ _ _ us hl => match us, hl with | [_, _], _ => rfl⟩
theorem ok__law_are_words_right : GOk bns sgl g__law_are_words_right := ⟨⟨rfl, rfl, rfl, by decide +kernel, rfl, by decide +kernel, by decide +kernel⟩, by decide +kernel, by rfl, fun _ _ _ _ _ _ us hl => match us, hl with | [_, _], _ => rfl⟩
theorem ok_law : GOk bns sgl g_law := ⟨⟨rfl, rfl, rfl, by decide +kernel, rfl, by decide +kernel, by decide +kernel⟩, by decide +kernel, by rfl, fun _ _ _ _ _ _ us hl => match us, hl with | [_], _ => rfl⟩
theorem oks : ∀ g ∈ sgl, GOk bns sgl g := by
  intro g hg
  simp only [sgl, List.mem_cons, List.not_mem_nil, or_false] at hg
  rcases hg with rfl | rfl | rfl | rfl | rfl | rfl | rfl | rfl | rfl | rfl | rfl | rfl | rfl | rfl | rfl | rfl | rfl | rfl | rfl | rfl | rfl | rfl | rfl | rfl | rfl | rfl | rfl | rfl | rfl
  · exact ok_digits_of
  · exact ok_number_of
  · exact ok_digit_there
  · exact ok_letters_for
  · exact ok_digits_in
  · exact ok_letter_of
  · exact ok_picked_letter
  · exact ok_letter_with
  · exact ok_letter_without
  · exact ok_word_of
  · exact ok_row_of
  · exact ok_shortened_word
  · exact ok_lengthened_word
  · exact ok_tell_one_row
  · exact ok_words_of_length
  · exact ok_key_of_word
  · exact ok_is_word_before
  · exact ok__law_draws
  · exact ok__law_take
  · exact ok__law_cell
  · exact ok__law_same
  · exact ok__law_number
  · exact ok__law_long
  · exact ok__law_letter
  · exact ok__law_word
  · exact ok__law_row
  · exact ok__law_are_letters_right
  · exact ok__law_are_words_right
  · exact ok_law
end K01
namespace K01
open PySem PySem.Spec PyProof.Rows L2 PF
abbrev R : PySem.W.OpenRow := PySem.W.OpenLaw.row PySem.Challenge.rw_everynumber_k01_letters_words_and_rows
abbrev fas : List He.Fa := faL bns sgl
abbrev fns : List He.DefD := fnL sgl
abbrev hk : PySem.W.Hook := hookN 4 fas fns
def loose : List Str := ["digits_of", "number_of", "digit_there", "letters_for", "digits_in", "letter_of", "picked_letter", "letter_with", "letter_without", "word_of", "row_of", "shortened_word", "lengthened_word", "tell_one_row", "words_of_length", "key_of_word", "is_word_before", "_law_draws", "_law_take", "_law_cell", "_law_same", "_law_number", "_law_long", "_law_letter", "_law_word", "_law_row", "_law_are_letters_right", "_law_are_words_right"]
theorem run (w : World) : HandSHeadRun.RunEq R (PySem.W.view R.prog [32]) hk (obN 4 fas fns) 2000 loose w := by
  intro os
  kernel_rfl
theorem holds_of (main : ∀ ns : List Int, ns.length ≤ 63 → ∃ fs, callL prog W 40 "law" [.val (.lst (ns.map .int))] = some (.dat (.bl true), fs)) : PySem.Challenge.rw_everynumber_k01_letters_words_and_rows.Holds := by
  w_on; o_law
  refine HandSHeadRun.head_any (r := PySem.W.OpenLaw.row PySem.Challenge.rw_everynumber_k01_letters_words_and_rows) (q := PySem.W.view (PySem.W.OpenLaw.row PySem.Challenge.rw_everynumber_k01_letters_words_and_rows).prog [32]) (H := hk) (ob := obN 4 fas fns) (M := 2000) (loose := loose) (d := HandSHeadRun.topDef (PySem.W.OpenLaw.row PySem.Challenge.rw_everynumber_k01_letters_words_and_rows).prog 32) (kwd := []) (obN_eq 4 fas fns)
    (by kernel_rfl) (fun s => by kernel_rfl) run (by kernel_rfl) (by kernel_rfl) (by kernel_rfl) (by rfl) (by first | assumption | decide +kernel) (by decide +kernel) ⟨rfl, rfl, rfl, rfl, rfl, by decide +kernel⟩ ?hw ?hc
  case hw => w_witness2
  case hc => exact pf_walk (rl := PySem.Challenge.rw_everynumber_k01_letters_words_and_rows) (n := 63) (k := 40) (W := W) (bn := bns) (l := sgl) (law := g_law) (x := "script") rfl (by decide) (by kernel_rfl) ⟨rfl, by decide, by decide⟩ oks (by simp [sgl]) rfl (by kernel_rfl) main
end K01
theorem PySem.Challenge.cw_everynumber_k01_letters_words_and_rows_holds : PySem.Challenge.rw_everynumber_k01_letters_words_and_rows.Holds := by
  exact K01.holds_of (W := 100000) fun ns hl => K01.main ns hl
