import PyProof.Rows.All
import Wide.All
import OpenK.AllK
import Wide.FinOn
import HandS.ForMost
import HandS.Deep
import HandS.TupSets
import KE.DataCmp
import KE.KeyNested
import KE.KDictKeyed
import KE.KDictCopyH
import HandS.Dict
import PyProof.Rows.TupTab
import HandS.TupLe
import HandS.Wide
import HandS.WideBits
import HandS.TupMul
import HandS.TupAny
import HandS.Style
import HandS.IsInst
import KE.KIndexOf
import HandS.SortInts
import HandS.More
import HandS.WordsDict
import KE.KDictPairs
import HandS.Iter
import HandS.Comp
import HandS.Flow
import HandS.SetIn
import HandS.ExcIs
import HandS.ExcOwn
import HandS.WordsExc
import HandS.TryOnly
import HandS.HeadHook1
import HandS.Strs
import HandS.SetFor
import HandS.Conv
import PyProof.ExcBaseAll.ValueError
import KE.KStateDown
import HandS.Head0
import HandS.Head1
import HandS.Head2
import HandS.HeadEnd
import HandS.HeadHook2
import PySem.Challenge.RW_everynumber_k06_whole_least_machines
set_option Elab.async false
set_option linter.all false
set_option maxRecDepth 100000
set_option maxHeartbeats 0
/-! PF1: the small language and its evaluator over plain data. -/
namespace PF
open PySem

inductive D where
  | non | bl (b : Bool) | int (i : Int) | str (s : Str)
  | tup (xs : List D) | lst (xs : List D) | set (xs : List D) | dct (ks : List D) (vs : List D) | dkt (ks : List D) (vs : List D) | fn (f : Str)
deriving Inhabited

/-- what a name holds: nothing, data (never written again), or an object that this name alone owns -/
inductive Slot where
  | un | val (d : D) | own (d : D)
deriving Inhabited
/-- what an expression gives: data, a new object, or the object that a name owns -/
inductive Opd where
  | dat (d : D) | own (d : D) | slot (i : Nat)
deriving Inhabited
abbrev Env := List Slot
abbrev Cl := Str → List Slot → Option (Opd × List Slot)

inductive Op2 where
  | add | sub | mul | fdiv | mod | pow | shl | shr | band | bor | bxor
deriving DecidableEq
inductive Cm where
  | eq | ne | lt | le | gt | ge | isin | notin | is | isnot
deriving DecidableEq
inductive Blt where
  | len | sum | max | min | abs | int | tuple | list | set | sorted | any | all | dict
deriving DecidableEq
inductive Ty where
  | bool | int | str | tuple | list
deriving DecidableEq
inductive Mt where
  | append | pop | reverse | extend | add | insert | index | count | get
deriving DecidableEq
inductive Tg where
  | nm (i : Nat) | tp (is : List Nat)
deriving DecidableEq

inductive E where
  | var (i : Nat)
  | int (i : Int) | bl (b : Bool) | non | str (s : Str)
  | tup (es : List E) | lst (es : List E)
  | bin (op : Op2) (a b : E) | neg (a : E) | not (a : E)
  | cmp (op : Cm) (a b : E) | chain (op op2 : Cm) (a b c : E)
  | and (es : List E) | or (es : List E)
  | ite (c a b : E)
  | idx (a i : E) | slc (a lo hi : E) | rev (a : E)
  | call (f : Str) (es : List E)
  | blt (b : Blt) (es : List E)
  | isi (a : E) (t : Ty)
  | mut (m : Mt) (i : Nat) (es : List E)
  | mth (m : Mt) (a : E) (es : List E)
  | rng (es : List E)
  | lc (own : List Nat) (tg : Tg) (src : E) (cond : List E) (elt : E)
  | lc2 (own : List Nat) (tg : Tg) (src : E) (cond : List E) (vs1 : List Nat) (tg1 : Tg) (src1 : E) (cond1 : List E) (elt : E)
  | sset (a : E)
  | dget (a k x : E) | dpop (i : Nat) (k x : E)
  | sdsp (a : E) | dnew | dsp1 (k v : E) | lrng (t : Bool) (es : List E)
deriving Inhabited

/-- what the suite of an except clause does: it returns a truth; it returns (or: if .. it returns True, else None) whether the caught error is of some classes -/
inductive Hd where
  | ret (b : Bool)
  | tests (nn : Bool) (ts : List (Bool × List Str × List Str))
deriving Inhabited

inductive S where
  | set (i : Nat) (e : E)
  | unp (is : List Nat) (e : E)
  | par (i j : Nat) (a b : E)
  | sub (i : Nat) (ix e : E)
  | sub2 (i : Nat) (ix jx e : E)
  | aug (op : Op2) (i : Nat) (e : E)
  | expr (e : E)
  | ret (e : E)
  | ite (c : E) (a b : List S)
  | whl (c : E) (b : List S)
  | for (tg : Tg) (src : E) (b : List S)
  | brk | pass | stop
  | raise (f : Str)
  | tryc (f : Str) (es : List E) (x : Str) (all yes : List Str) (a : Option Nat) (h : Hd)
deriving Inhabited

/-! ### data -/
def D.isNon : D → Bool
  | .non => true
  | _ => false
mutual
def D.py : D → PyData
  | .non => .none | .bl b => .bool b | .int i => .int i | .str s => .str s
  | .tup xs => .tuple (D.pys xs) | .lst xs => .list (D.pys xs)
  | .set _ => .dict [] | .dct _ _ => .dict [] | .dkt _ _ => .dict [] | .fn _ => .dict []
def D.pys : List D → List PyData
  | [] => [] | x :: xs => x.py :: D.pys xs
end
/-- == of data -/
def deq (a b : D) : Bool := PyData.eqv a.py b.py
/-- not a set, not a dict -/
def D.plain : D → Bool
  | .set _ => false | .dct _ _ => false | .dkt _ _ => false | .fn _ => false | _ => true
def shp (a : D) : Bool := a.plain && SeqAt.shaped a.py

def look (env : Env) (i : Nat) : Slot := (env[i]?).getD .un
/-- an operand as it is read -/
def view (env : Env) : Opd → Option D
  | .dat d => some d
  | .own d => some d
  | .slot i => match look env i with | .own d => some d | _ => none
def views (env : Env) : List Opd → Option (List D)
  | [] => some []
  | o :: os => match view env o, views env os with | some d, some ds => some (d :: ds) | _, _ => none
/-- an operand as data: a list is kept as it is from here on -/
def toD (env : Env) : Opd → Option (D × Env)
  | .dat d => some (d, env)
  | .own (.lst xs) => some (.lst xs, env)
  | .own (.dct ks vs) => some (.dct ks vs, env)
  | .own _ => none
  | .slot i => match look env i with | .own (.lst xs) => some (.lst xs, env.set i (.val (.lst xs))) | .own (.dct ks vs) => some (.dct ks vs, env.set i (.val (.dct ks vs))) | _ => none

def intsD : List D → Option (List Int)
  | [] => some []
  | .int i :: r => (intsD r).map (i :: ·)
  | _ :: _ => none
def blsD : List D → Option (List Bool)
  | [] => some []
  | .bl b :: r => (blsD r).map (b :: ·)
  | _ :: _ => none

def b2i (b : Bool) : Int := if b then 1 else 0
def small64 (i : Int) : Bool := decide (-(2 ^ 64) < i) && decide (i < 2 ^ 64)
def line : Nat := 16777216

/-- two-place operations -/
def op2 : Op2 → D → D → Option Opd
  | .add, .int i, .int j => some (.dat (.int (i + j)))
  | .add, .int i, .bl b => some (.dat (.int (i + b2i b)))
  | .add, .str x, .str y => if x.length + y.length ≤ line then some (.dat (.str (x ++ y))) else none
  | .add, .tup xs, .tup ys => if xs.length + ys.length ≤ line then some (.dat (.tup (xs ++ ys))) else none
  | .add, .lst xs, .lst ys => if xs.length + ys.length ≤ line then some (.own (.lst (xs ++ ys))) else none
  | .sub, .int i, .int j => some (.dat (.int (i - j)))
  | .mul, .int i, .int j => if small64 i || small64 j || decide (i.natAbs.log2 + j.natAbs.log2 < 1000000) then some (.dat (.int (i * j))) else none
  | .mul, .tup xs, .int k => if xs.length * k.toNat ≤ line ∧ -(2 ^ 63) ≤ k ∧ k < 2 ^ 63 then some (.dat (.tup (List.replicate k.toNat xs).flatten)) else none
  | .mul, .lst xs, .int k => if xs.length * k.toNat ≤ line ∧ -(2 ^ 63) ≤ k ∧ k < 2 ^ 63 then some (.own (.lst (List.replicate k.toNat xs).flatten)) else none
  | .fdiv, .int i, .int j => if 0 < j ∧ (j < 1073741824 ∨ j.natAbs.log2 < 9000) then some (.dat (.int (i / j))) else none
  | .mod, .int i, .int j => if 0 < j then some (.dat (.int (i % j))) else none
  | .pow, .int i, .int j => if 0 ≤ j ∧ j ≤ 1000000 ∧ i.natAbs < 2 ^ 64 then some (.dat (.int (i ^ j.toNat))) else none
  | .shl, .int i, .int j => if 0 ≤ j ∧ (Builtin.Int.intBits i : Int) + j ≤ 2 ^ 27 then some (.dat (.int (i * 2 ^ j.toNat))) else none
  | .shr, .int i, .int j => if 0 ≤ j then some (.dat (.int (i / 2 ^ j.toNat))) else none
  | .band, .int i, .int j => some (.dat (.int (Builtin.bitAnd i j)))
  | .bor, .int i, .int j => some (.dat (.int (Builtin.bitOr i j)))
  | .bxor, .int i, .int j => some (.dat (.int (Builtin.bitXor i j)))
  | _, _, _ => none

/-- order of tuples of numbers (lexicographic) -/
abbrev lexI : List Int → List Int → Bool := HT.lexLt

/-- data of one kind, place by place; their order -/
def alk (a b : D) : Bool := PySem.W.alike a.py b.py && shp a && shp b
def ltD (a b : D) : Bool := PySem.W.dataLt a.py b.py
def memD (x : D) (ys : List D) : Bool := ys.any fun y => deq y x
/-- a number among some -/
def memI (k : Int) (xs : List D) : Bool := xs.any fun d => match d with | .int j => decide (j = k) | _ => false
/-- what a dict of numbers holds; with a value put in -/
def getI : List D → List D → Int → Option D
  | .int j :: ks, v :: vs, k => if j = k then some v else getI ks vs k
  | _, _, _ => none
def repI : List D → List D → Int → D → List D
  | .int j :: ks, v :: vs, k, d => (if j = k then d else v) :: repI ks vs k d
  | _, _, _, _ => []
def putI (ks vs : List D) (k : Int) (d : D) : List D := if memI k ks then repI ks vs k d else vs ++ [d]
def addI (k : Int) (ks : List D) : List D := if memI k ks then ks else ks ++ [.int k]
/-- what is left without a number -/
def dropKs : List D → Int → List D
  | .int j :: ks, k => if j = k then dropKs ks k else .int j :: dropKs ks k
  | _, _ => []
def dropVs : List D → List D → Int → List D
  | .int j :: ks, v :: vs, k => if j = k then dropVs ks vs k else v :: dropVs ks vs k
  | _, _, _ => []
/-- a dict of pairs -/
def mkD : List D → List D → List D → Option (List D × List D)
  | ks, vs, [] => some (ks, vs)
  | ks, vs, .tup [.int k, d] :: r => mkD (addI k ks) (putI ks vs k d) r
  | _, _, _ => none
mutual
/-- a key that is no text -/
def nk : D → Option NestedKey
  | .non => some .none | .int i => some (.num i) | .bl b => some (.num (if b = true then 1 else 0))
  | .tup xs => (nks xs).map .tup
  | _ => none
def nks : List D → Option (List NestedKey)
  | [] => some []
  | x :: xs => match nk x, nks xs with | some k, some r => some (k :: r) | _, _ => none
end
def isTupD : D → Bool
  | .tup _ => true | _ => false
def isBlD : D → Bool
  | .bl _ => true | _ => false
/-- what may be asked of a dict with these keys -/
def ckey (ks : List D) : D → Option NestedKey
  | .tup xs => if ks.all isTupD then match nk (.tup xs) with | some q => if q.depth ≤ 8 then some q else none | none => none else none
  | .bl b => if ks.all isBlD then some (.num (if b = true then 1 else 0)) else none
  | _ => none
def getT : List D → List D → NestedKey → Option D
  | k :: ks, v :: vs, q => if nk k = some q then some v else getT ks vs q
  | _, _, _ => none
def memT (q : NestedKey) (ks : List D) : Bool := ks.any fun k => decide (nk k = some q)
def repT : List D → List D → NestedKey → D → List D
  | k :: ks, v :: vs, q, d => (if nk k = some q then d else v) :: repT ks vs q d
  | _, _, _, _ => []
def putT (ks vs : List D) (q : NestedKey) (d : D) : List D := if memT q ks then repT ks vs q d else vs ++ [d]
def addT (k : D) (q : NestedKey) (ks : List D) : List D := if memT q ks then ks else ks ++ [k]
/-- a dict of such keys, or an empty one -/
def dkv : D → Option (List D × List D)
  | .dkt ks vs => some (ks, vs)
  | .dct [] [] => some ([], [])
  | _ => none
def inT (x y : D) : Option Bool := match dkv y with | some (ks, _) => (ckey ks x).map fun q => memT q ks | none => none
def cm : Cm → D → D → Option Bool
  | .eq, a, b => if shp a && shp b then some (deq a b) else none
  | .ne, a, b => if shp a && shp b then some (!deq a b) else none
  | .lt, .int i, .int j => some (decide (i < j))
  | .le, .int i, .int j => some (decide (i ≤ j))
  | .gt, .int i, .int j => some (decide (j < i))
  | .ge, .int i, .int j => some (decide (j ≤ i))
  | .lt, .tup xs, .tup ys => match intsD xs, intsD ys with | some a, some b => some (lexI a b) | _, _ => if alk (.tup xs) (.tup ys) then some (ltD (.tup xs) (.tup ys)) else none
  | .gt, .tup xs, .tup ys => if alk (.tup xs) (.tup ys) then some (ltD (.tup ys) (.tup xs)) else none
  | .le, .tup xs, .tup ys => if alk (.tup xs) (.tup ys) then some (!ltD (.tup ys) (.tup xs)) else none
  | .ge, .tup xs, .tup ys => if alk (.tup xs) (.tup ys) then some (!ltD (.tup xs) (.tup ys)) else none
  | .isin, x, .tup ys => if shp x && shp (.tup ys) then some (memD x ys) else none
  | .isin, x, .lst ys => if shp x && shp (.lst ys) then some (memD x ys) else none
  | .notin, x, .tup ys => if shp x && shp (.tup ys) then some (!memD x ys) else none
  | .notin, x, .lst ys => if shp x && shp (.lst ys) then some (!memD x ys) else none
  | .isin, .int k, .set xs => some (memI k xs)
  | .notin, .int k, .set xs => some (!memI k xs)
  | .isin, .int k, .dct ks _ => some (memI k ks)
  | .notin, .int k, .dct ks _ => some (!memI k ks)
  | .isin, x, y => inT x y
  | .notin, x, y => (inT x y).map (!·)
  | .is, x, .non => some x.isNon
  | .isnot, x, .non => some (!x.isNon)
  | .is, .bl a, .bl b => some (decide (a = b))
  | .isnot, .bl a, .bl b => some (!decide (a = b))
  | _, _, _ => none

def truth : D → Option Bool
  | .bl b => some b
  | .non => some false
  | .int i => some (i != 0)
  | .tup xs => some (!xs.isEmpty)
  | .lst xs => some (!xs.isEmpty)
  | _ => none

/-- Python's index: from behind where it is less than 0 -/
abbrev ixn : Nat → Int → Option Nat := L2.ixN
abbrev atD (xs : List D) (i : Int) : Option D := L2.atI xs i
def idxD : D → D → Option D
  | .tup xs, .int i => atD xs i
  | .lst xs, .int i => atD xs i
  | .dct ks vs, .int k => getI ks vs k
  | .dkt ks vs, x => match ckey ks x with | some q => getT ks vs q | none => none
  | _, _ => none
/-- a place of a slice -/
abbrev sIx : Nat → Nat → Option Int → Nat := HT.sIx
def cut (xs : List D) (lo hi : Option Int) : List D := (xs.drop (sIx xs.length 0 lo)).take (sIx xs.length xs.length hi - sIx xs.length 0 lo)
def part : E → D → Option (Option Int)
  | .non, _ => some none
  | _, .int i => some (some i)
  | _, _ => none
def slcD : D → Option Int → Option Int → Option Opd
  | .tup xs, lo, hi => some (.dat (.tup (cut xs lo hi)))
  | .lst xs, lo, hi => some (.own (.lst (cut xs lo hi)))
  | _, _, _ => none
def revD : D → Option Opd
  | .tup xs => some (.dat (.tup xs.reverse))
  | .lst xs => some (.own (.lst xs.reverse))
  | _ => none

def maxI : Int → List Int → Int
  | m, [] => m
  | m, x :: xs => maxI (if x > m then x else m) xs
def minI : Int → List Int → Int
  | m, [] => m
  | m, x :: xs => minI (if x < m then x else m) xs
def insI (x : Int) : List Int → List Int
  | [] => [x]
  | y :: ys => if x ≤ y then x :: y :: ys else y :: insI x ys
def sortI : List Int → List Int
  | [] => []
  | x :: xs => insI x (sortI xs)
def seqOf : D → Option (List D)
  | .tup xs => some xs
  | .lst xs => some xs
  | _ => none
def dedI : List Int → List Int
  | [] => []
  | x :: xs => x :: (dedI xs).filter (· != x)
def setI (xs : List Int) : D := .set ((dedI xs).map .int)

def bltD : Blt → List D → Option Opd
  | .len, [.tup xs] => some (.dat (.int xs.length))
  | .len, [.lst xs] => some (.dat (.int xs.length))
  | .len, [.dct ks _] => some (.dat (.int ks.length))
  | .len, [.dkt ks _] => some (.dat (.int ks.length))
  | .len, [.set xs] => some (.dat (.int xs.length))
  | .set, [.lst xs] => match intsD xs with | some ns => if ns.length < 3000 then some (.own (setI ns)) else none | none => none
  | .len, [.str s] => if s.length ≤ line then some (.dat (.int s.length)) else none
  | .sum, [.tup xs] => (intsD xs).map fun ns => .dat (.int ns.sum)
  | .sum, [.lst xs] => (intsD xs).map fun ns => .dat (.int ns.sum)
  | .max, [.lst xs] => match intsD xs with | some (n :: ns) => some (.dat (.int (maxI n ns))) | _ => none
  | .min, [.lst xs] => match intsD xs with | some (n :: ns) => some (.dat (.int (minI n ns))) | _ => none
  | .max, [.int i, .int j] => some (.dat (.int (if j > i then j else i)))
  | .min, [.int i, .int j] => some (.dat (.int (if j < i then j else i)))
  | .abs, [.int i] => some (.dat (.int (if i < 0 then -i else i)))
  | .int, [.int i] => some (.dat (.int i))
  | .int, [.bl b] => some (.dat (.int (b2i b)))
  | .tuple, [.tup xs] => some (.dat (.tup xs))
  | .tuple, [.lst xs] => some (.dat (.tup xs))
  | .list, [.tup xs] => some (.own (.lst xs))
  | .list, [.lst xs] => some (.own (.lst xs))
  | .sorted, [.lst xs] => (intsD xs).map fun ns => .own (.lst ((sortI ns).map .int))
  | .sorted, [.dct ks _] => match intsD ks with | some ns => if ns.length < 64 then some (.own (.lst ((sortI ns).map .int))) else none | none => none
  | .any, [.lst xs] => (blsD xs).map fun bs => .dat (.bl (bs.any id))
  | .all, [.lst xs] => (blsD xs).map fun bs => .dat (.bl (bs.all id))
  | .dict, [.lst xs] => if xs.length ≤ line then (mkD [] [] xs).map fun q => .own (.dct q.1 q.2) else none
  | .dict, [.tup xs] => if xs.length ≤ line then (mkD [] [] xs).map fun q => .own (.dct q.1 q.2) else none
  | _, _ => none

/-- tuples of numbers -/
def rowsD : List D → Option (List (List Int))
  | [] => some []
  | .tup ys :: r => match intsD ys, rowsD r with | some a, some b => some (a :: b) | _, _ => none
  | _ :: _ => none
def insR (B : Int) (x : List Int) : List (List Int) → List (List Int)
  | [] => [x]
  | y :: ys => if x = y then y :: ys else if TS.code B x ≤ TS.code B y then x :: y :: ys else y :: insR B x ys
def sortR (B : Int) : List (List Int) → List (List Int)
  | [] => []
  | x :: xs => insR B x (sortR B xs)
/-- numbers below 64 (sorted sets of rows) -/
def rowsOk (d : Nat) (rs : List (List Int)) : Bool := rs.all fun r => decide (r.length = d) && r.all fun i => decide (0 ≤ i) && decide (i < 64)
/-- sorted(set(x)) -/
def isLst : D → Bool
  | .lst _ => true | _ => false
def ssetR (x : D) : Option (List D) := match seqOf x with
  | some xs => match rowsD xs with
    | some (r :: rs) => if (decide (1 ≤ r.length) || rs.isEmpty) && rowsOk r.length (r :: rs) && decide (xs.length < 64) then some ((sortR 64 (r :: rs)).map fun z => .tup (z.map .int)) else none
    | _ => none
  | none => none

def ssetD (x : D) : Option (List D) := match x with
  | .lst xs => match intsD xs with
    | some ns => if ns.length < 64 then some ((sortI (dedI ns)).map .int) else none
    | none => ssetR (.lst xs)
  | .tup xs => match intsD xs with
    | some ns => if ns.length < 64 then some ((sortI (dedI ns)).map .int) else none
    | none => ssetR (.tup xs)
  | x => ssetR x

/-- a datum's type -/
inductive Kd where
  | non | bl | int | str | tup | lst
deriving DecidableEq
def kd : D → Option Kd
  | .non => some .non | .bl _ => some .bl | .int _ => some .int | .str _ => some .str | .tup _ => some .tup | .lst _ => some .lst
  | _ => none
def isK : Ty → Kd → Bool
  | .bool, .bl => true
  | .int, .bl => true
  | .int, .int => true
  | .str, .str => true
  | .tuple, .tup => true
  | .list, .lst => true
  | _, _ => false
def isiD (t : Ty) (d : D) : Option Bool := match kd d with | some k => some (isK t k) | none => none

/-- methods that change the list (or set) that a name owns: the result, and what is left -/
def mutD : Mt → D → List D → Option (D × D)
  | .append, .lst xs, [y] => if xs.length < line then some (.non, .lst (xs ++ [y])) else none
  | .pop, .lst xs, [] => match xs.getLast? with | some y => some (y, .lst xs.dropLast) | none => none
  | .reverse, .lst xs, [] => some (.non, .lst xs.reverse)
  | .pop, .lst xs, [.int i] => if 0 ≤ i then match xs[i.toNat]? with | some y => some (y, .lst (xs.eraseIdx i.toNat)) | none => none else none
  | .add, .set xs, [.int k] => if xs.length + 1 < 4000 then some (.non, .set (addI k xs)) else none
  | _, _, _ => none
/-- the kind of object that a method wantsM -/
def wantsM : Mt → D → Bool
  | .add, .set _ => true
  | .add, _ => false
  | _, .lst _ => true
  | _, _ => false
/-- the first place of a number -/
def indexD (ys : List D) : D → Option D
  | .int k => match intsD ys with
    | some ns => if k ∈ ns then some (.int (ns.idxOf k : Nat)) else none
    | none => none
  | _ => none
def isSeq : D → Bool
  | .tup _ => true | .lst _ => true | _ => false
def sameQ : D → D → Bool
  | .tup _, .tup _ => true | .lst _, .lst _ => true | _, _ => false
/-- the first place of what is the same -/
def fstD (x : D) (ys : List D) : Option Nat := ys.findIdx? fun y => deq y x
def mthD : Mt → D → List D → Option D
  | .index, .tup ys, [x] => indexD ys x
  | .index, .lst ys, [x] => match indexD ys x with
    | some r => some r
    | none => if shp x && shp (.lst ys) && decide (ys.length ≤ line) then (fstD x ys).map fun (j : Nat) => .int j else none
  | .count, .lst ys, [.bl b] => (blsD ys).map fun bs => .int (bs.count b : Nat)
  | _, _, _ => none

/-- the turns of range -/
def rngL (a b s : Int) : List D :=
  if 0 < s then (List.range ((b - a + s - 1) / s).toNat).map fun (k : Nat) => .int (a + s * (k : Int))
  else if s < 0 then (List.range ((a - b - s - 1) / (-s)).toNat).map fun (k : Nat) => .int (a + s * (k : Int))
  else []
def okR (i : Int) : Bool := decide (-(2 ^ 62) ≤ i) && decide (i < 2 ^ 62)
def rngD : List D → Option (List D)
  | [.int b] => if okR b then some (rngL 0 b 1) else none
  | [.int a, .int b] => if okR a && okR b then some (rngL a b 1) else none
  | [.int a, .int b, .int s] => if okR a && okR b && okR s && s != 0 then some (rngL a b s) else none
  | _ => none

def setAll : Env → List Nat → List D → Option Env
  | env, [], [] => some env
  | env, i :: is, d :: ds => setAll (env.set i (.val d)) is ds
  | _, _, _ => none
def bindT (env : Env) : Tg → D → Option Env
  | .nm i, d => some (env.set i (.val d))
  | .tp is, .tup ds => setAll env is ds
  | .tp _, _ => none
def wipeE (env : Env) : List Nat → Env
  | [] => env
  | i :: is => (wipeE env is).set i .un
/-- the slots at some places as they stood -/
def backE (old : Env) (env : Env) : List Nat → Env
  | [] => env
  | i :: is => (backE old env is).set i (look old i)

/-- the names that are lent to a call -/
def lend : List Opd → Env → Option (List Slot × Env)
  | [], env => some ([], env)
  | .dat d :: r, env => match lend r env with | some (ss, env) => some (.val d :: ss, env) | none => none
  | .own d :: r, env => match lend r env with | some (ss, env) => some (.own d :: ss, env) | none => none
  | .slot i :: r, env => match look env i with
    | .own d => match lend r (env.set i .un) with | some (ss, env) => some (.own d :: ss, env) | none => none
    | _ => none
def giveBack : List Opd → List Slot → Env → Env
  | .slot i :: r, s :: ss, env => giveBack r ss (env.set i s)
  | _ :: r, _ :: ss, env => giveBack r ss env
  | _, _, env => env

def lcLoop (f : D → Env → Option (Option D × Env)) : List D → Env → Option (List D × Env)
  | [], env => some ([], env)
  | x :: xs, env => match f x env with
    | none => none
    | some (none, env) => lcLoop f xs env
    | some (some d, env) => match lcLoop f xs env with
      | some (ds, env) => some (d :: ds, env)
      | none => none

def lcLoop2 (f : D → Env → Option (List D × Env)) : List D → Env → Option (List D × Env)
  | [], env => some ([], env)
  | x :: xs, env => match f x env with
    | none => none
    | some (ds, env) => match lcLoop2 f xs env with
      | some (es, env) => some (ds ++ es, env)
      | none => none

/-- what a loop walks: its items, once for all -/
def itemsOf (env : Env) (o : Opd) : Option (List D × Env) :=
  match toD env o with
  | some (.tup xs, env) => some (xs, env)
  | some (.lst xs, env) => some (xs, env)
  | some (.dct ks _, env) => some (ks, env)
  | _ => none

/-- as a value, as a test, as what is walked -/
inductive Md where
  | v | t | i
/-- a value in its use -/
def fin : Md → Option (Opd × Env) → Option (Opd × Env)
  | .v, x => x
  | .t, some (o, env) => match view env o with
    | some d => match truth d with | some b => some (.dat (.bl b), env) | none => none
    | none => none
  | .i, some (o, env) => match itemsOf env o with | some (xs, env) => some (.dat (.tup xs), env) | none => none
  | _, none => none
def Md.tv : Md → Md
  | .t => .t
  | _ => .v

section
variable (c : Cl)
mutual
def ev : E → Md → Env → Option (Opd × Env)
  | .var i, md, env => fin md (match look env i with
    | .un => none
    | .val d => some (.dat d, env)
    | .own _ => some (.slot i, env))
  | .int i, md, env => fin md (some (.dat (.int i), env))
  | .bl b, md, env => fin md (some (.dat (.bl b), env))
  | .non, md, env => fin md (some (.dat .non, env))
  | .str s, md, env => fin md (some (.dat (.str s), env))
  | .tup es, md, env => fin md (match evds es env with
    | some (ds, env) => if ds.length ≤ line then some (.dat (.tup ds), env) else none
    | none => none)
  | .lst es, md, env => fin md (match evds es env with
    | some (ds, env) => if ds.length ≤ line then some (.own (.lst ds), env) else none
    | none => none)
  | .bin op a b, md, env => fin md (match ev a .v env with
    | none => none
    | some (x, env) => match ev b .v env with
      | none => none
      | some (y, env) => match view env x, view env y with
        | some d, some e => match op2 op d e with | some r => some (r, env) | none => none
        | _, _ => none)
  | .neg a, md, env => fin md (match ev a .v env with
    | some (.dat (.int i), env) => some (.dat (.int (-i)), env)
    | _ => none)
  | .not a, md, env => fin md (match (match md with | .t => ev a .t env | _ => fin .t (ev a .v env)) with
    | some (.dat (.bl b), env) => some (.dat (.bl (!b)), env)
    | _ => none)
  | .cmp op a b, md, env => fin md (match ev a .v env with
    | none => none
    | some (x, env) => match ev b .v env with
      | none => none
      | some (y, env) => match view env x, view env y with
        | some d, some e => match cm op d e with | some r => some (.dat (.bl r), env) | none => none
        | _, _ => none)
  | .chain op op2 a b c, md, env => fin md (match ev a .v env with
    | none => none
    | some (x, env) => match ev b .v env with
      | none => none
      | some (y, env) => match view env x, view env y with
        | some d, some e => match cm op d e with
          | none => none
          | some false => some (.dat (.bl false), env)
          | some true => match ev c .v env with
            | none => none
            | some (z, env) => match view env y, view env z with
              | some e, some g => match cm op2 e g with | some r => some (.dat (.bl r), env) | none => none
              | _, _ => none
        | _, _ => none)
  | .and es, md, env => fin md (evAnd es md.tv env)
  | .or es, md, env => fin md (evOr es md.tv env)
  | .ite t a b, md, env => match ev t .t env with
    | some (.dat (.bl true), env) => ev a md env
    | some (.dat (.bl false), env) => ev b md env
    | _ => none
  | .idx a i, md, env => fin md (match ev a .v env with
    | none => none
    | some (x, env) => match ev i .v env with
      | none => none
      | some (y, env) => match view env x, view env y with
        | some d, some e => match idxD d e with | some r => some (.dat r, env) | none => none
        | _, _ => none)
  | .slc a lo hi, md, env => fin md (match ev a .v env with
    | none => none
    | some (x, env) => match ev lo .v env with
      | some (.dat l, env) => match ev hi .v env with
        | some (.dat h, env) => match view env x, part lo l, part hi h with
          | some d, some l, some h => match slcD d l h with | some r => some (r, env) | none => none
          | _, _, _ => none
        | _ => none
      | _ => none)
  | .rev a, md, env => fin md (match ev a .v env with
    | none => none
    | some (x, env) => match view env x with
      | some d => match revD d with | some r => some (r, env) | none => none
      | none => none)
  | .call f es, md, env => fin md (match evs es env with
    | none => none
    | some (os, env) => match lend os env with
      | none => none
      | some (ss, env) => match c f ss with
        | none => none
        | some (r, fs) => some (r, giveBack os fs env))
  | .blt b es, md, env => fin md (match evs es env with
    | none => none
    | some (os, env) => match views env os with
      | none => none
      | some ds => match bltD b ds with | some r => some (r, env) | none => none)
  | .isi a t, md, env => fin md (match ev a .v env with
    | none => none
    | some (x, env) => match view env x with
      | some d => match isiD t d with | some b => some (.dat (.bl b), env) | none => none
      | none => none)
  | .mut m i es, md, env => fin md (match look env i with
    | .own d0 => if wantsM m d0 then match evds es env with
      | none => none
      | some (ds, env) => match look env i with
        | .own d => match mutD m d ds with
          | some (r, d) => some (.dat r, env.set i (.own d))
          | none => none
        | _ => none
      else none
    | _ => none)
  | .mth m a es, md, env => fin md (match ev a .v env with
    | none => none
    | some (x, env) => match view env x with
      | none => none
      | some d0 => if isSeq d0 then match evds es env with
        | none => none
        | some (ds, env) => match view env x with
          | none => none
          | some d => if sameQ d0 d then match mthD m d ds with | some r => some (.dat r, env) | none => none else none
        else none)
  | .rng es, md, env => match md with
    | .i => match evds es env with
      | some (ds, env) => match rngD ds with | some xs => some (.dat (.tup xs), env) | none => none
      | none => none
    | _ => none
  | .lc own tg src cond elt, md, env => fin md (match ev src .i env with
    | some (.dat (.tup xs), env) => match lcLoop (fun x env => match bindT (wipeE env own) tg x with
        | none => none
        | some env => match evAnd cond .t env with
          | some (.dat (.bl true), env) => match ev elt .v env with
            | none => none
            | some (o, env) => match toD env o with
              | some (d, env) => some (some d, env)
              | none => none
          | some (.dat (.bl false), env) => some (none, env)
          | _ => none) xs env with
      | some (ds, env') => if ds.length ≤ line then some (.own (.lst ds), backE env env' own) else none
      | none => none
    | _ => none)
  | .lc2 own tg src cond vs1 tg1 src1 cond1 elt, md, env => fin md (match ev src .i env with
    | some (.dat (.tup xs), env) => match lcLoop2 (fun x env => match bindT (wipeE env own) tg x with
        | none => none
        | some env => match evAnd cond .t env with
          | some (.dat (.bl true), env) => match ev src1 .i env with
            | some (.dat (.tup ys), env) => lcLoop (fun x env => match bindT (wipeE env vs1) tg1 x with
              | none => none
              | some env => match evAnd cond1 .t env with
                | some (.dat (.bl true), env) => match ev elt .v env with
                  | none => none
                  | some (o, env) => match toD env o with
                    | some (d, env) => some (some d, env)
                    | none => none
                | some (.dat (.bl false), env) => some (none, env)
                | _ => none) ys env
            | _ => none
          | some (.dat (.bl false), env) => some ([], env)
          | _ => none) xs env with
      | some (ds, env') => if ds.length ≤ line then some (.own (.lst ds), backE env env' own) else none
      | none => none
    | _ => none)
  | .sset a, md, env => fin md (match ev a .v env with
    | none => none
    | some (x, env) => match view env x with
      | some d => match ssetD d with | some xs => some (.own (.lst xs), env) | none => none
      | none => none)
  | .dget a k x, md, env => fin md (match ev a .v env with
    | none => none
    | some (o, env) => match view env o with
      | some (.dct _ _) => match ev k .v env with
        | some (.dat (.int kk), env) => match ev x .v env with
          | some (.dat d, env) => match view env o with
            | some (.dct ks vs) => some (.dat ((getI ks vs kk).getD d), env)
            | _ => none
          | _ => none
        | _ => none
      | _ => none)
  | .dpop i k x, md, env => fin md (match look env i with
    | .own (.dct _ _) => match ev k .v env with
      | some (.dat (.int kk), env) => match ev x .v env with
        | some (.dat d, env) => match look env i with
          | .own (.dct ks vs) => some (.dat ((getI ks vs kk).getD d), env.set i (.own (.dct (dropKs ks kk) (dropVs ks vs kk))))
          | _ => none
        | _ => none
      | _ => none
    | _ => none)
  | .sdsp a, md, env => fin md (match ev a .v env with
    | some (.dat (.int i), env) => some (.own (.set [.int i]), env)
    | _ => none)
  | .dnew, md, env => fin md (some (.own (.dct [] []), env))
  | .dsp1 k v, md, env => fin md (match ev k .v env with
    | some (.dat (.int i), env) => match ev v .v env with
      | none => none
      | some (o, env) => match toD env o with
        | some (d, env) => some (.own (.dct [.int i] [d]), env)
        | none => none
    | _ => none)
  | .lrng t es, md, env => fin md (match evds es env with
    | some (ds, env) => match rngD ds with
      | some xs => if xs.length ≤ line then some (if t then .dat (.tup xs) else .own (.lst xs), env) else none
      | none => none
    | none => none)
def evs : List E → Env → Option (List Opd × Env)
  | [], env => some ([], env)
  | e :: es, env => match ev e .v env with
    | none => none
    | some (o, env) => match evs es env with
      | none => none
      | some (os, env) => some (o :: os, env)
/-- .. as data -/
def evds : List E → Env → Option (List D × Env)
  | [], env => some ([], env)
  | e :: es, env => match ev e .v env with
    | none => none
    | some (o, env) => match toD env o with
      | none => none
      | some (d, env) => match evds es env with
        | none => none
        | some (ds, env) => some (d :: ds, env)
def evAnd : List E → Md → Env → Option (Opd × Env)
  | [], _, env => some (.dat (.bl true), env)
  | e :: es, md, env => match ev e md env with
    | some (.dat (.bl false), env) => some (.dat (.bl false), env)
    | some (.dat (.bl true), env) => evAnd es md env
    | _ => none
def evOr : List E → Md → Env → Option (Opd × Env)
  | [], _, env => some (.dat (.bl false), env)
  | e :: es, md, env => match ev e md env with
    | some (.dat (.bl true), env) => some (.dat (.bl true), env)
    | some (.dat (.bl false), env) => evOr es md env
    | _ => none
end
end

/-! ### statements -/
inductive R where
  | nx (env : Env) | ret (o : Opd) (env : Env) | brk (env : Env) | exc (f : Str) (env : Env)
deriving Inhabited
/-- a value that is given out -/
def giveOut (env : Env) : Opd → Option (Opd × Env)
  | .slot i => match look env i with | .own d => some (.own d, env.set i .un) | _ => none
  | .dat d => some (.dat d, env)
  | .own d => some (.own d, env)
/-- a value that a name takes -/
def store (env : Env) (i : Nat) : Opd → Option Env
  | .dat d => some (env.set i (.val d))
  | .own d => some (env.set i (.own d))
  | .slot j => match look env j with | .own (.lst xs) => some ((env.set j (.val (.lst xs))).set i (.val (.lst xs))) | .own (.dct ks vs) => some ((env.set j (.val (.dct ks vs))).set i (.val (.dct ks vs))) | _ => none
def whlLoop (f : Env → Option (Option R × Env)) : Nat → Env → Option R
  | 0, _ => none
  | n + 1, env => match f env with
    | none => none
    | some (some r, _) => some r
    | some (none, env) => whlLoop f n env
def forLoop (f : D → Env → Option R) : List D → Env → Option R
  | [], env => some (.nx env)
  | x :: xs, env => match f x env with
    | some (.nx env) => forLoop f xs env
    | some (.brk env) => some (.nx env)
    | r => r
def setL : D → D → D → Option D
  | .lst xs, .int k, d => (ixn xs.length k).map fun j => .lst (xs.set j d)
  | .dct ks vs, .int k, d => if ks.length < line then some (.dct (addI k ks) (putI ks vs k d)) else none
  | l, k, d => match dkv l with
    | some (ks, vs) => match ckey ks k with
      | some q => if ks.length < line then some (.dkt (addT k q ks) (putT ks vs q d)) else none
      | none => none
    | none => none

/-- what a suite of an except clause gives for an error of the class g -/
def hdV : Hd → Str → D
  | .ret b, _ => .bl b
  | .tests nn ts, g => if nn then (if ts.all fun t => decide (t.2.2.contains g = t.1) then .bl true else .non) else .bl (ts.all fun t => decide (t.2.2.contains g = t.1))
/-- all is data -/
def dats : List Opd → Option (List Slot)
  | [] => some []
  | .dat d :: r => (dats r).map (.val d :: ·)
  | _ :: _ => none
/-- asked of a def ahead of its arguments: whether it raises -/
def mark : Slot := .val (.fn (Str.ofString ""))
def okI (env : Env) : Option Nat → Bool
  | none => true
  | some i => decide (i < env.length)
def noOwn (ss : List Slot) : Bool := ss.all fun s => match s with | .own _ => false | _ => true

/-- n op= k, of ints -/
def aug2 : Op2 → D → D → Option D
  | .add, .int i, .int j => some (.int (i + j))
  | .sub, .int i, .int j => some (.int (i - j))
  | _, _, _ => none

section
variable (c : Cl) (W : Nat)
mutual
def ex : S → Env → Option R
  | .set i e, env => match ev c e .v env with
    | none => none
    | some (o, env) => match store env i o with | some env => some (.nx env) | none => none
  | .unp is e, env => match ev c e .v env with
    | none => none
    | some (o, env) => match toD env o with
      | some (.tup ds, env) => match setAll env is ds with | some env => some (.nx env) | none => none
      | _ => none
  | .par i j a b, env => match evds c [a, b] env with
    | some ([d, e], env) => some (.nx ((env.set i (.val d)).set j (.val e)))
    | _ => none
  | .sub i ix e, env => match ev c e .v env with
    | none => none
    | some (o, env) => match toD env o with
      | none => none
      | some (d, env) => match look env i with
        | .own _ => match ev c ix .v env with
          | some (.dat k, env) => match look env i with
            | .own l => match setL l k d with | some l => some (.nx (env.set i (.own l))) | none => none
            | _ => none
          | _ => none
        | _ => none
  | .sub2 i ix jx e, env => match ev c e .v env with
    | some (.dat (.tup [d, d2]), env) => match look env i with
      | .own _ => match ev c ix .v env with
        | some (.dat (.int k), env) => match look env i with
          | .own (.lst xs) => match ixn xs.length k with
            | some j => match ev c jx .v (env.set i (.own (.lst (xs.set j d)))) with
              | some (.dat (.int k2), env) => match look env i with
                | .own (.lst ys) => match ixn ys.length k2 with
                  | some j2 => some (.nx (env.set i (.own (.lst (ys.set j2 d2)))))
                  | none => none
                | _ => none
              | _ => none
            | none => none
          | _ => none
        | _ => none
      | _ => none
    | _ => none
  | .aug op i e, env => match look env i with
    | .val _ => match ev c e .v env with
      | none => none
      | some (o, env) => match view env o, look env i with
        | some y, .val x => match aug2 op x y with
          | some r => some (.nx (env.set i (.val r)))
          | none => none
        | _, _ => none
    | _ => none
  | .expr e, env => match ev c e .v env with
    | some (_, env) => some (.nx env)
    | none => none
  | .ret e, env => match ev c e .v env with
    | none => none
    | some (o, env) => match giveOut env o with | some (o, env) => some (.ret o env) | none => none
  | .ite t a b, env => match ev c t .t env with
    | some (.dat (.bl true), env) => exs a env
    | some (.dat (.bl false), env) => exs b env
    | _ => none
  | .whl t b, env => whlLoop (fun env => match ev c t .t env with
      | some (.dat (.bl false), env) => some (some (.nx env), env)
      | some (.dat (.bl true), env) => match exs b env with
        | none => none
        | some (.nx env) => some (none, env)
        | some (.brk env) => some (some (.nx env), env)
        | some (.ret o env) => some (some (.ret o env), env)
        | some (.exc f env) => some (some (.exc f env), env)
      | _ => none) W env
  | .for tg src b, env => match ev c src .i env with
    | some (.dat (.tup xs), env) => forLoop (fun x env => match bindT env tg x with
      | none => none
      | some env => exs b env) xs env
    | _ => none
  | .brk, env => some (.brk env)
  | .pass, env => some (.nx env)
  | .stop, _ => none
  | .raise f, env => some (.exc f env)
  | .tryc f es _ all yes a h, env => match evs c es env with
    | none => none
    | some (os, env) => match dats os with
      | none => none
      | some ss => match c f ss with
        | some _ => some (.nx env)
        | none => match c f (mark :: ss) with
          | some (.dat (.str g), []) => if all.contains g && okI env a then (if yes.contains g then some (.ret (.dat (hdV h g)) env) else some (.exc g env)) else none
          | _ => none
def exs : List S → Env → Option R
  | [], env => some (.nx env)
  | s :: ss, env => match ex s env with
    | some (.nx env) => exs ss env
    | r => r
end
end

/-- a def: its name, how many parameters, how many names, its body -/
structure Fd where
  name : Str
  ps : Nat
  n : Nat
  /-- the parameters that the body never stores to -/
  keep : List Nat
  body : List S
deriving Inhabited
def finals (fd : Fd) (env : Env) : List Slot := (List.range fd.ps).map fun j => if fd.keep.contains j then look env j else .un
/-- the call of a def, by levels -/
def callL (prog : List Fd) (W : Nat) : Nat → Cl
  | 0, _, _ => none
  | k + 1, f, ss => match prog.find? (fun d => d.name == f) with
    | none => none
    | some fd => if ss.length = fd.ps ∧ fd.ps ≤ fd.n then
        match exs (callL prog W k) W fd.body (ss ++ List.replicate (fd.n - fd.ps) .un) with
        | some (.ret (.dat d) env) => some (.dat d, finals fd env)
        | some (.ret (.own d) env) => some (.own d, finals fd env)
        | some (.nx env) => some (.dat .non, finals fd env)
        | _ => none
      else match ss with
        | .val (.fn _) :: ss => if ss.length = fd.ps ∧ fd.ps ≤ fd.n ∧ noOwn ss = true then
            match exs (callL prog W k) W fd.body (ss ++ List.replicate (fd.n - fd.ps) .un) with
            | some (.exc g _) => some (.dat (.str g), [])
            | _ => none
          else none
        | _ => none
end PF
/-! PF2: how plain data lies in the abstract heap; transitions; the ghost step that keeps a list as it is. -/
namespace PF
open PySem PySem.Spec PyProof.Rows L2
abbrev St := List (Option V)

/-- a tuple that is read -/
def TupAt (K : PySem.W.Frag) (H : Hp) (a : Addr) (xs : List V) : Prop :=
  (∃ o, H a = some (.frz o (.tup xs)) ∧ o.dict = none) ∨
  ∃ (o : Obj) (its : Array Value) (n : Nat), K.lookup a = some o ∧ o.cls = .type "tuple" ∧ o.dict = none ∧ o.data = .seq its n ∧ its.size ≤ sizeLine ∧ Vals xs its.toList
theorem TupAt.sq {K : PySem.W.Frag} {H : Hp} {a : Addr} {xs : List V} (h : TupAt K H a xs) : SqT K H a xs := by
  rcases h with ⟨o, h, _⟩ | ⟨o, its, n, h1, h2, _, h3, h4, h5⟩
  · exact .inl (.inr ⟨o, h⟩)
  · exact .inr ⟨o, its, n, h1, h2, h3, h4, h5⟩

mutual
def Rp (K : PySem.W.Frag) (H : Hp) : D → V → Prop
  | .non, v => v = .non
  | .bl b, v => v = .bl b
  | .int i, v => v = .int i
  | .str s, v => v = .str s
  | .tup ds, v => ∃ a xs, v = .ref a ∧ TupAt K H a xs ∧ Rps K H ds xs
  | .lst ds, v => ∃ a o xs, v = .ref a ∧ H a = some (.frz o (.lst xs)) ∧ Rps K H ds xs
  | .set _, _ => False
  | .dkt _ _, _ => False
  | .dct ks vs, v => ∃ a o, ∃ kvs : List (Int × V), v = .ref a ∧ ks = kvs.map (fun q => D.int q.1) ∧ H a = some (.frz o (.dK (kvs.map fun q => (Sum.inl q.1, q.2)))) ∧ Rps K H vs (kvs.map (·.2))
  | .fn _, _ => False
def Rps (K : PySem.W.Frag) (H : Hp) : List D → List V → Prop
  | [], vs => vs = []
  | d :: ds, vs => ∃ v r, vs = v :: r ∧ Rp K H d v ∧ Rps K H ds r
end

/-- what is kept as it is stays -/
def Kp (H H' : Hp) : Prop := ∀ a o u, H a = some (.frz o u) → H' a = some (.frz o u)
theorem Kp.refl (H : Hp) : Kp H H := fun _ _ _ h => h
theorem Kp.trans {H H1 H2 : Hp} (a : Kp H H1) (b : Kp H1 H2) : Kp H H2 := fun x o u h => b x o u (a x o u h)
theorem kp_same {H H' : Hp} (h : Same H H') : Kp H H' := fun a o u e => h _ _ e
theorem TupAt.mono {K : PySem.W.Frag} {H H' : Hp} (k : Kp H H') {a : Addr} {xs : List V} (h : TupAt K H a xs) : TupAt K H' a xs := by
  rcases h with ⟨o, h, d⟩ | h
  · exact .inl ⟨o, k _ _ _ h, d⟩
  · exact .inr h
mutual
theorem Rp.mono {K : PySem.W.Frag} {H H' : Hp} (k : Kp H H') : ∀ {d : D} {v : V}, Rp K H d v → Rp K H' d v
  | .non, _, h => h | .bl _, _, h => h | .int _, _, h => h | .str _, _, h => h
  | .tup ds, _, h => by
    obtain ⟨a, xs, e, t, r⟩ := h
    exact ⟨a, xs, e, t.mono k, Rps.mono k r⟩
  | .lst ds, _, h => by
    obtain ⟨a, o, xs, e, t, r⟩ := h
    exact ⟨a, o, xs, e, k _ _ _ t, Rps.mono k r⟩
  | .dct ks vs, _, h => by
    obtain ⟨a, o, kvs, e, e2, t, r⟩ := h
    exact ⟨a, o, kvs, e, e2, k _ _ _ t, Rps.mono k r⟩
  | .set _, _, h => h.elim | .dkt _ _, _, h => h.elim | .fn _, _, h => h.elim
theorem Rps.mono {K : PySem.W.Frag} {H H' : Hp} (k : Kp H H') : ∀ {ds : List D} {vs : List V}, Rps K H ds vs → Rps K H' ds vs
  | [], _, h => h
  | d :: ds, _, h => by
    obtain ⟨v, r, e, h1, h2⟩ := h
    exact ⟨v, r, e, Rp.mono k h1, Rps.mono k h2⟩
end
section
variable {K : PySem.W.Frag} {H H' : Hp}
theorem Rps.nil : Rps K H [] [] := rfl
theorem Rps.cons {d : D} {ds : List D} {v : V} {vs : List V} (h : Rp K H d v) (t : Rps K H ds vs) : Rps K H (d :: ds) (v :: vs) := ⟨v, vs, rfl, h, t⟩
theorem Rps.length : ∀ {ds : List D} {vs : List V}, Rps K H ds vs → vs.length = ds.length
  | [], _, h => by rw [show _ = [] from h]; rfl
  | d :: ds, _, h => by
    obtain ⟨v, r, e, _, h2⟩ := h
    rw [e, List.length_cons, List.length_cons, Rps.length h2]
theorem Rps.get : ∀ {ds : List D} {vs : List V} {i : Nat} {d : D}, Rps K H ds vs → ds[i]? = some d → ∃ v, vs[i]? = some v ∧ Rp K H d v
  | [], _, _, _, _, e => by simp at e
  | d :: ds, _, 0, _, h, e => by
    obtain ⟨v, r, rfl, h1, _⟩ := h
    simp at e; subst e
    exact ⟨v, rfl, h1⟩
  | d :: ds, _, i + 1, _, h, e => by
    obtain ⟨v, r, rfl, _, h2⟩ := h
    obtain ⟨w, e2, q⟩ := Rps.get (i := i) h2 (by simpa using e)
    exact ⟨w, by simpa using e2, q⟩
theorem Rps.of_get : ∀ {ds : List D} {vs : List V}, vs.length = ds.length → (∀ (i : Nat) d v, ds[i]? = some d → vs[i]? = some v → Rp K H d v) → Rps K H ds vs
  | [], vs, hl, _ => List.eq_nil_of_length_eq_zero hl
  | d :: ds, [], hl, _ => by simp at hl
  | d :: ds, v :: vs, hl, h => ⟨v, vs, rfl, h 0 d v rfl rfl, Rps.of_get (by simpa using hl) fun i d' v' e1 e2 => h (i + 1) d' v' (by simpa using e1) (by simpa using e2)⟩
theorem Rps.at {ds : List D} {vs : List V} {i : Nat} {d : D} {v : V} (h : Rps K H ds vs) (e : ds[i]? = some d) (e2 : vs[i]? = some v) : Rp K H d v := by
  obtain ⟨w, e3, q⟩ := h.get e
  rw [e2] at e3; cases e3; exact q
theorem Rps.append {ds es : List D} {vs ws : List V} (h : Rps K H ds vs) (t : Rps K H es ws) : Rps K H (ds ++ es) (vs ++ ws) := by
  refine .of_get (by rw [List.length_append, List.length_append, h.length, t.length]) fun i d v e1 e2 => ?_
  by_cases hi : i < ds.length
  · rw [List.getElem?_append_left hi] at e1
    rw [List.getElem?_append_left (by rw [h.length]; exact hi)] at e2
    exact h.at e1 e2
  · rw [List.getElem?_append_right (by omega)] at e1
    rw [List.getElem?_append_right (by rw [h.length]; omega), h.length] at e2
    exact t.at e1 e2
theorem Rps.take {ds : List D} {vs : List V} (n : Nat) (h : Rps K H ds vs) : Rps K H (ds.take n) (vs.take n) := by
  refine .of_get (by rw [List.length_take, List.length_take, h.length]) fun i d v e1 e2 => ?_
  rw [List.getElem?_take] at e1 e2
  split at e1
  · rename_i hi; rw [if_pos hi] at e2; exact h.at e1 e2
  · cases e1
theorem Rps.drop {ds : List D} {vs : List V} (n : Nat) (h : Rps K H ds vs) : Rps K H (ds.drop n) (vs.drop n) := by
  refine .of_get (by rw [List.length_drop, List.length_drop, h.length]) fun i d v e1 e2 => ?_
  rw [List.getElem?_drop] at e1 e2
  exact h.at e1 e2
theorem Rps.reverse {ds : List D} {vs : List V} (h : Rps K H ds vs) : Rps K H ds.reverse vs.reverse := by
  have hl := h.length
  refine .of_get (by rw [List.length_reverse, List.length_reverse, hl]) fun i d v e1 e2 => ?_
  have hi : i < ds.length := by
    obtain ⟨q, _⟩ := List.getElem?_eq_some_iff.mp e1
    simpa using q
  rw [List.getElem?_reverse hi] at e1
  rw [List.getElem?_reverse (by omega), hl] at e2
  exact h.at e1 e2
theorem Rps.rep {ds : List D} {vs : List V} (h : Rps K H ds vs) : ∀ n : Nat, Rps K H (List.replicate n ds).flatten (List.replicate n vs).flatten
  | 0 => .nil
  | n + 1 => by
    rw [List.replicate_succ, List.replicate_succ, List.flatten_cons, List.flatten_cons]
    exact h.append (Rps.rep h n)
theorem Rps.set {ds : List D} {vs : List V} {d : D} {v : V} (h : Rps K H ds vs) (r : Rp K H d v) (j : Nat) : Rps K H (ds.set j d) (vs.set j v) := by
  refine .of_get (by rw [List.length_set, List.length_set, h.length]) fun i d' v' e1 e2 => ?_
  rw [List.getElem?_set] at e1 e2
  by_cases hj : j = i
  · rw [if_pos hj] at e1 e2
    split at e1
    · cases e1
      split at e2
      · cases e2; exact r
      · cases e2
    · cases e1
  · rw [if_neg hj] at e1 e2; exact h.at e1 e2
theorem Rps.dropLast {ds : List D} {vs : List V} (h : Rps K H ds vs) : Rps K H ds.dropLast vs.dropLast := by
  rw [List.dropLast_eq_take, List.dropLast_eq_take, h.length]
  exact h.take _
theorem Rps.intsD : ∀ {ds : List D} {vs : List V} {ns : List Int}, Rps K H ds vs → intsD ds = some ns → vs = ns.map V.int
  | [], _, ns, h, e => by
    rw [show _ = [] from h]
    have : ns = [] := by simpa [PF.intsD] using e.symm
    rw [this]; rfl
  | d :: ds, _, ns, h, e => by
    obtain ⟨v, r, rfl, h1, h2⟩ := h
    cases d with
    | int i =>
      unfold PF.intsD at e
      obtain ⟨ms, e1, rfl⟩ := Option.map_eq_some_iff.mp e
      rw [Rps.intsD h2 e1, show v = .int i from h1]
      rfl
    | _ => simp [PF.intsD] at e
theorem Rps.of_ints : ∀ (ns : List Int), Rps K H (ns.map D.int) (ns.map V.int)
  | [] => .nil
  | n :: ns => .cons rfl (Rps.of_ints ns)
theorem Rps.blsD : ∀ {ds : List D} {vs : List V} {ns : List Bool}, Rps K H ds vs → blsD ds = some ns → vs = ns.map V.bl
  | [], _, ns, h, e => by
    rw [show _ = [] from h]
    have : ns = [] := by simpa [PF.blsD] using e.symm
    rw [this]; rfl
  | d :: ds, _, ns, h, e => by
    obtain ⟨v, r, rfl, h1, h2⟩ := h
    cases d with
    | bl i =>
      unfold PF.blsD at e
      obtain ⟨ms, e1, rfl⟩ := Option.map_eq_some_iff.mp e
      rw [Rps.blsD h2 e1, show v = .bl i from h1]
      rfl
    | _ => simp [PF.blsD] at e

mutual
theorem Rp.dp : ∀ {d : D} {v : V}, Rp K H d v → d.py.canLay0 = true → Dp K H v d.py
  | .non, v, h, _ => by rw [show v = _ from h]; exact .non
  | .bl b, v, h, _ => by rw [show v = _ from h]; exact .bl b
  | .int b, v, h, _ => by rw [show v = _ from h]; exact .int b
  | .str b, v, h, _ => by rw [show v = _ from h]; exact .str b
  | .tup ds, _, h, c => by
    obtain ⟨a, xs, rfl, t, r⟩ := h
    exact .tup t.sq (Rps.dp r c)
  | .lst ds, _, h, c => by
    obtain ⟨a, o, xs, rfl, t, r⟩ := h
    exact .lst (.inl (.inr ⟨o, t⟩)) (Rps.dp r c)
  | .dct _ _, _, _, c => by cases c
  | .set _, _, h, _ => h.elim | .dkt _ _, _, h, _ => h.elim | .fn _, _, h, _ => h.elim
theorem Rps.dp : ∀ {ds : List D} {vs : List V}, Rps K H ds vs → PyData.canLayAll0 (D.pys ds) = true → DpAll K H vs (D.pys ds)
  | [], _, h, _ => by rw [show _ = [] from h]; exact .nil
  | d :: ds, _, h, c => by
    obtain ⟨v, r, rfl, h1, h2⟩ := h
    have c' : (d.py.canLay0 && PyData.canLayAll0 (D.pys ds)) = true := c
    rw [Bool.and_eq_true] at c'
    exact .cons (Rp.dp h1 c'.1) (Rps.dp h2 c'.2)
end

/-- a set of numbers -/
def ISet (p : Addr) (ns : List Int) : HO := .ext fun h => ∃ o, h.get? p = some o ∧ PySem.Obj.IntSetOf o (fun k => decide (k ∈ ns)) ns.length ∧ ns.length < 4000
/-- a dict's pairs -/
abbrev dK (kvs : List (Int × V)) : List (Key × V) := kvs.map fun q => (Sum.inl q.1, q.2)
/-- a dict whose keys are tuples without texts, but for the tuples themselves -/
def DT0 (h : Heap) (p : Addr) (xs : List (NestedKey × Addr × V)) : Prop := ∃ vs : List (NestedKey × Addr × Value), Paired (fun (a : NestedKey × Addr × V) (b : NestedKey × Addr × Value) => a.1 = b.1 ∧ a.2.1 = b.2.1 ∧ RelV a.2.2 b.2.2) xs vs ∧
  (∃ o es ep, h.get? p = some o ∧ o.ExactDict ∧ o.data = .dict es ep ∧ ∀ w : World, es.toList = vs.map fun x => ⟨x.1.hash w, .ref x.2.1, x.2.2⟩) ∧ (vs.map (·.1)).Nodup ∧ xs.length ≤ sizeLine ∧ (p == sysModules) = false
def DTO (p : Addr) (xs : List (NestedKey × Addr × V)) : HO := .ext fun h => DT0 h p xs
/-- .. are truths -/
def DB0 (h : Heap) (p : Addr) (xs : List (Bool × V)) : Prop := ∃ vs : List (Leaf × Value), Paired (fun (a : Bool × V) (b : Leaf × Value) => b.1 = .num (if a.1 = true then 1 else 0) ∧ RelV a.2 b.2) xs vs ∧ (∀ (P : Program) (w : World), h.DictOf (leafKind P w) p vs) ∧ xs.length ≤ sizeLine ∧ (p == sysModules) = false
def DBO (p : Addr) (xs : List (Bool × V)) : HO := .ext fun h => DB0 h p xs
/-- keys that are tuples, and where they stand -/
def KeysR (K : PySem.W.Frag) (H : Hp) : List D → List (NestedKey × Addr × V) → Prop
  | [], xs => xs = []
  | d :: ds, xs => ∃ x r, xs = x :: r ∧ nk d = some x.1 ∧ x.1.depth ≤ 8 ∧ isTupD d = true ∧ Rp K H d (.ref x.2.1) ∧ KeysR K H ds r
theorem KeysR.mono {K : PySem.W.Frag} {H H' : Hp} (k : Kp H H') : ∀ {ds : List D} {xs : List (NestedKey × Addr × V)}, KeysR K H ds xs → KeysR K H' ds xs
  | [], _, h => h
  | d :: ds, _, h => by
    obtain ⟨x, r, e, h1, h2, h3, h4, h5⟩ := h
    exact ⟨x, r, e, h1, h2, h3, h4.mono k, KeysR.mono k h5⟩
/-- an object that one name owns -/
def OwnAt (K : PySem.W.Frag) (H : Hp) : D → Addr → Prop
  | .lst ds, p => ∃ vs, H p = some (.lst vs) ∧ Rps K H ds vs
  | .set ds, p => ∃ ns : List Int, ds = ns.map D.int ∧ H p = some (ISet p ns)
  | .dct ks vs, p => ∃ kvs : List (Int × V), ks = kvs.map (fun q => D.int q.1) ∧ H p = some (.dK (dK kvs)) ∧ Rps K H vs (kvs.map (·.2))
  | .dkt ks vs, p => (∃ xs : List (NestedKey × Addr × V), H p = some (DTO p xs) ∧ KeysR K H ks xs ∧ Rps K H vs (xs.map (·.2.2))) ∨ ∃ kvs : List (Bool × V), ks = kvs.map (fun q => D.bl q.1) ∧ H p = some (DBO p kvs) ∧ Rps K H vs (kvs.map (·.2))
  | _, _ => False
theorem OwnAt.keep {d : D} {p : Addr} (h : OwnAt K H d p) (k : Kp H H') (e : ∀ u, H p = some u → H' p = some u) : OwnAt K H' d p := by
  cases d with
  | lst ds =>
    obtain ⟨vs, h1, h2⟩ := h
    exact ⟨vs, e _ h1, h2.mono k⟩
  | set ds =>
    obtain ⟨ns, h1, h2⟩ := h
    exact ⟨ns, h1, e _ h2⟩
  | dct ks vs =>
    obtain ⟨kvs, h1, h2, h3⟩ := h
    exact ⟨kvs, h1, e _ h2, h3.mono k⟩
  | dkt ks vs =>
    rcases h with ⟨xs, h1, h2, h3⟩ | ⟨kvs, h1, h2, h3⟩
    · exact .inl ⟨xs, e _ h1, h2.mono k, h3.mono k⟩
    · exact .inr ⟨kvs, h1, e _ h2, h3.mono k⟩
  | _ => exact h.elim
theorem OwnAt.nfrz {d : D} {p : Addr} (h : OwnAt K H d p) : ∃ u, H p = some u ∧ ∀ o w, u ≠ .frz o w := by
  cases d with
  | lst ds =>
    obtain ⟨vs, h1, _⟩ := h
    exact ⟨_, h1, fun _ _ z => nomatch z⟩
  | set ds =>
    obtain ⟨ns, _, h2⟩ := h
    exact ⟨_, h2, fun _ _ z => nomatch z⟩
  | dct ks vs =>
    obtain ⟨kvs, _, h2, _⟩ := h
    exact ⟨_, h2, fun _ _ z => nomatch z⟩
  | dkt ks vs =>
    rcases h with ⟨xs, h1, _⟩ | ⟨kvs, _, h2, _⟩
    · exact ⟨_, h1, fun _ _ z => nomatch z⟩
    · exact ⟨_, h2, fun _ _ z => nomatch z⟩
  | _ => exact h.elim
/-- as it is read -/
def VwR (K : PySem.W.Frag) (H : Hp) (d : D) (v : V) : Prop := Rp K H d v ∨ ∃ p, v = .ref p ∧ OwnAt K H d p
theorem VwR.lst {ds : List D} {v : V} (h : VwR K H (.lst ds) v) : ∃ p vs, v = .ref p ∧ Rd H p (.lst vs) ∧ Rps K H ds vs := by
  rcases h with ⟨a, o, xs, rfl, t, r⟩ | ⟨p, rfl, vs, h1, h2⟩
  · exact ⟨a, xs, rfl, .inr ⟨o, t⟩, r⟩
  · exact ⟨p, vs, rfl, .inl h1, h2⟩
theorem VwR.tup {ds : List D} {v : V} (h : VwR K H (.tup ds) v) : ∃ p vs, v = .ref p ∧ TupAt K H p vs ∧ Rps K H ds vs := by
  rcases h with ⟨a, xs, rfl, t, r⟩ | ⟨p, rfl, h⟩
  · exact ⟨a, xs, rfl, t, r⟩
  · exact h.elim
theorem VwR.int {i : Int} {v : V} (h : VwR K H (.int i) v) : v = .int i := by
  rcases h with h | ⟨p, _, h⟩
  · exact h
  · exact h.elim
theorem VwR.bl {i : Bool} {v : V} (h : VwR K H (.bl i) v) : v = .bl i := by
  rcases h with h | ⟨p, _, h⟩
  · exact h
  · exact h.elim
theorem VwR.str {i : Str} {v : V} (h : VwR K H (.str i) v) : v = .str i := by
  rcases h with h | ⟨p, _, h⟩
  · exact h
  · exact h.elim
theorem VwR.non {v : V} (h : VwR K H .non v) : v = .non := by
  rcases h with h | ⟨p, _, h⟩
  · exact h
  · exact h.elim
theorem shp_lay {d : D} (h : shp d = true) : d.py.canLay0 = true := by
  unfold shp at h
  rw [Bool.and_eq_true] at h
  exact SeqAt.canLay_of_shaped h.2
theorem VwR.dp {d : D} {v : V} (h : VwR K H d v) (hs : shp d = true) : Dp K H v d.py := by
  rcases h with h | ⟨p, rfl, h⟩
  · exact h.dp (shp_lay hs)
  · cases d with
    | lst ds =>
      obtain ⟨vs, h1, h2⟩ := h
      exact .lst (.inl (.inl h1)) (h2.dp (shp_lay hs))
    | set ds => cases hs
    | dct ks vs => cases hs
    | dkt ks vs => cases hs
    | _ => exact h.elim
theorem VwR.set {ds : List D} {v : V} (h : VwR K H (.set ds) v) : ∃ p ns, v = .ref p ∧ ds = ns.map D.int ∧ H p = some (ISet p ns) := by
  rcases h with h | ⟨p, rfl, ns, h1, h2⟩
  · exact h.elim
  · exact ⟨p, ns, rfl, h1, h2⟩
theorem VwR.dct {ks vs : List D} {v : V} (h : VwR K H (.dct ks vs) v) : ∃ p kvs, v = .ref p ∧ ks = kvs.map (fun q => D.int q.1) ∧ Rd H p (.dK (dK kvs)) ∧ Rps K H vs (kvs.map (·.2)) := by
  rcases h with ⟨p, o, kvs, rfl, h1, h2, h3⟩ | ⟨p, rfl, kvs, h1, h2, h3⟩
  · exact ⟨p, kvs, rfl, h1, .inr ⟨o, h2⟩, h3⟩
  · exact ⟨p, kvs, rfl, h1, .inl h2, h3⟩
theorem VwR.dkt {ks vs : List D} {v : V} (h : VwR K H (.dkt ks vs) v) : ∃ p, v = .ref p ∧ OwnAt K H (.dkt ks vs) p := by
  rcases h with h | ⟨p, rfl, h⟩
  · exact h.elim
  · exact ⟨p, rfl, h⟩
inductive VwRs (K : PySem.W.Frag) (H : Hp) : List D → List V → Prop
  | nil : VwRs K H [] []
  | cons {d : D} {v : V} {ds : List D} {vs : List V} : VwR K H d v → VwRs K H ds vs → VwRs K H (d :: ds) (v :: vs)
end

/-! ### names -/
/-- the objects that names own -/
def OwnA (env : Env) (σ : St) (p : Addr) : Prop := ∃ (i : Nat) (d : D), env[i]? = some (.own d) ∧ σ[i]? = some (some (.ref p))
def SlotR (K : PySem.W.Frag) (H : Hp) : Slot → Option V → Prop
  | .un, _ => True
  | .val d, s => ∃ v, s = some v ∧ Rp K H d v
  | .own d, s => ∃ p, s = some (.ref p) ∧ OwnAt K H d p
structure EnvR (K : PySem.W.Frag) (H : Hp) (σ : St) (env : Env) : Prop where
  len : env.length = σ.length
  sl : ∀ (i : Nat) (s : Slot), env[i]? = some s → ∃ x, σ[i]? = some x ∧ SlotR K H s x
  dj : ∀ (i j : Nat) (d e : D) (p : Addr), env[i]? = some (.own d) → env[j]? = some (.own e) → σ[i]? = some (some (.ref p)) → σ[j]? = some (some (.ref p)) → i = j
/-- from one state to a later one -/
structure Tr (σ : St) (H : Hp) (env : Env) (σ' : St) (H' : Hp) (env' : Env) : Prop where
  f : ∀ b u, H b = some u → ¬ OwnA env σ b → H' b = some u
  s : ∀ p, OwnA env' σ' p → OwnA env σ p ∨ H p = none
theorem Tr.refl {σ : St} {H : Hp} {env : Env} : Tr σ H env σ H env := ⟨fun _ _ h _ => h, fun _ h => .inl h⟩
theorem Tr.trans {σ σ1 σ2 : St} {H H1 H2 : Hp} {env env1 env2 : Env} (a : Tr σ H env σ1 H1 env1) (b : Tr σ1 H1 env1 σ2 H2 env2) : Tr σ H env σ2 H2 env2 := by
  refine ⟨fun c u h n => b.f c u (a.f c u h n) fun z => ?_, fun p z => ?_⟩
  · rcases a.s c z with z | z
    · exact n z
    · rw [h] at z; cases z
  · rcases b.s p z with z | z
    · exact a.s p z
    · by_cases n : OwnA env σ p
      · exact .inl n
      · refine .inr ?_
        cases e : H p with
        | none => rfl
        | some u => rw [a.f p u e n] at z; cases z
section
variable {K : PySem.W.Frag} {H H' : Hp} {σ σ' : St} {env env' : Env}
theorem look_val {i : Nat} {d : D} (h : look env i = .val d) : env[i]? = some (.val d) := by
  unfold look at h
  cases e : env[i]? with
  | none => rw [e] at h; cases h
  | some s => rw [e] at h; rw [show s = .val d from h]
theorem look_own {i : Nat} {d : D} (h : look env i = .own d) : env[i]? = some (.own d) := by
  unfold look at h
  cases e : env[i]? with
  | none => rw [e] at h; cases h
  | some s => rw [e] at h; rw [show s = .own d from h]
theorem EnvR.val {i : Nat} {d : D} (E : EnvR K H σ env) (h : look env i = .val d) : ∃ v, σ[i]? = some (some v) ∧ Rp K H d v := by
  obtain ⟨x, e, v, rfl, r⟩ := E.sl i _ (look_val h)
  exact ⟨v, e, r⟩
theorem EnvR.own {i : Nat} {d : D} (E : EnvR K H σ env) (h : look env i = .own d) : ∃ p, σ[i]? = some (some (.ref p)) ∧ OwnAt K H d p ∧ OwnA env σ p := by
  obtain ⟨x, e, p, rfl, r⟩ := E.sl i _ (look_own h)
  exact ⟨p, e, r, i, d, look_own h, e⟩
theorem EnvR.ownA {p : Addr} (E : EnvR K H σ env) (h : OwnA env σ p) : ∃ d, OwnAt K H d p := by
  obtain ⟨i, d, e1, e2⟩ := h
  obtain ⟨x, e, q, rfl, r⟩ := E.sl i _ e1
  rw [e2] at e; cases e
  exact ⟨d, r⟩
theorem EnvR.nfrz {p : Addr} (E : EnvR K H σ env) (h : OwnA env σ p) : ∃ u, H p = some u ∧ ∀ o w, u ≠ .frz o w := by
  obtain ⟨d, h⟩ := E.ownA h
  exact h.nfrz
theorem Tr.kp (E : EnvR K H σ env) (t : Tr σ H env σ' H' env') : Kp H H' := fun a o u e => t.f a _ e fun z => by
  obtain ⟨w, e2, n⟩ := E.nfrz z
  rw [e] at e2; cases e2
  exact n o u rfl
theorem Tr.fresh (t : Tr σ H env σ' H' env') {p : Addr} (h : H' p = none) : H p = none ∨ OwnA env σ p := by
  by_cases n : OwnA env σ p
  · exact .inr n
  · refine .inl ?_
    cases e : H p with
    | none => rfl
    | some u => rw [t.f p u e n] at h; cases h
/-- the environment over a heap in which all that it speaks of stands -/
theorem EnvR.same (E : EnvR K H σ env) (h : Same H H') : EnvR K H' σ env := by
  refine ⟨E.len, fun i s e => ?_, E.dj⟩
  obtain ⟨x, e2, r⟩ := E.sl i s e
  refine ⟨x, e2, ?_⟩
  cases s with
  | un => trivial
  | val d => obtain ⟨v, e3, r⟩ := r; exact ⟨v, e3, r.mono (kp_same h)⟩
  | own d => obtain ⟨p, e3, r⟩ := r; exact ⟨p, e3, r.keep (kp_same h) fun u q => h _ _ q⟩
theorem tr_same (h : Same H H') : Tr σ H env σ H' env := ⟨fun b u e _ => h b u e, fun p z => .inl z⟩
end

/-- an operand -/
def OpdR (K : PySem.W.Frag) (H : Hp) (σ : St) (env : Env) : Opd → V → Prop
  | .dat d, v => Rp K H d v
  | .own d, v => ∃ p, v = .ref p ∧ OwnAt K H d p ∧ ¬ OwnA env σ p
  | .slot i, v => σ[i]? = some (some v)
structure Po (K : PySem.W.Frag) (σ : St) (H : Hp) (env : Env) (o : Opd) (env' : Env) (v : V) (H' : Hp) : Prop where
  e : EnvR K H' σ env'
  t : Tr σ H env σ H' env'
  r : OpdR K H' σ env' o v
  n : ∀ d p, o = .own d → v = .ref p → H p = none ∨ OwnA env σ p
section
variable {K : PySem.W.Frag} {H H1 H2 : Hp} {σ : St} {env env1 env2 : Env} {o o' : Opd} {v v' : V}
/-- an operand, behind a further step -/
theorem OpdR.later (E : EnvR K H1 σ env1) (r : OpdR K H1 σ env1 o v) (t : Tr σ H1 env1 σ H2 env2) : OpdR K H2 σ env2 o v := by
  cases o with
  | dat d => exact Rp.mono (t.kp E) r
  | own d =>
    obtain ⟨p, e, h, n⟩ := r
    refine ⟨p, e, h.keep (t.kp E) fun u q => t.f p u q n, fun z => ?_⟩
    rcases t.s p z with z | z
    · exact n z
    · obtain ⟨u, q, _⟩ := h.nfrz
      rw [q] at z; cases z
  | slot i => exact r
theorem OpdR.view (E : EnvR K H1 σ env1) (r : OpdR K H1 σ env1 o v) {d : D} (h : view env1 o = some d) : VwR K H1 d v := by
  cases o with
  | dat d' => cases h; exact .inl r
  | own d' =>
    cases h
    obtain ⟨p, e, h, n⟩ := r
    exact .inr ⟨p, e, h⟩
  | slot i =>
    cases e : look env1 i with
    | own d' =>
      simp only [PF.view, e] at h
      cases h
      obtain ⟨p, e2, h, _⟩ := E.own e
      have e3 : σ[i]? = some (some v) := r
      rw [e3] at e2; cases e2
      exact .inr ⟨p, rfl, h⟩
    | un => simp [PF.view, e] at h
    | val _ => simp [PF.view, e] at h
end

/-! ### the ghost step -/
theorem inv_freeze {X : Cx} {pins : List (Addr × Obj)} {σ : St} {H : Hp} {s : Shared} {p : Addr} {vs : List V} (I : Inv X pins σ H s) (h : H p = some (.lst vs)) : ∃ o, Inv X pins σ (upd H p (.frz o (.lst vs))) s := by
  have x := I.hok p _ h
  obtain ⟨z, its, n, r, e⟩ := x
  refine ⟨{ cls := .type "list", data := .seq its.toArray n }, ?_⟩
  have J := I.write (x := p) (e := p) (o := .frz { cls := .type "list", data := .seq its.toArray n } (.lst vs)) (h' := s.heap) (t' := s.toks) (by rw [h]; trivial) (.inl rfl) (fun b u _ q => q) ⟨_, e⟩ ⟨e, z, its, n, r, e⟩
  exact J
theorem inv_freezeD {X : Cx} {pins : List (Addr × Obj)} {σ : St} {H : Hp} {s : Shared} {p : Addr} {kvs : List (Key × V)} (I : Inv X pins σ H s) (h : H p = some (.dK kvs)) : ∃ o, Inv X pins σ (upd H p (.frz o (.dK kvs))) s := by
  have x := I.hok p _ h
  have x' := x
  obtain ⟨z, hd, vs, kv, o, es, ep, e, r⟩ := x'
  exact ⟨o, I.write (x := p) (e := p) (o := .frz o (.dK kvs)) (h' := s.heap) (t' := s.toks) (by rw [h]; trivial) (.inl rfl) (fun b u _ q => q) ⟨_, e⟩ ⟨e, x⟩⟩
theorem upd_kp {H : Hp} {p : Addr} {o : HO} (h : ∀ ob u, H p ≠ some (.frz ob u)) : Kp H (upd H p o) := fun a ob u e => by
  rw [upd_ne]
  · exact e
  · rintro rfl; exact h ob u e
theorem same_new {H : Hp} {p : Addr} {o : HO} (h : H p = none) : Same H (upd H p o) := fun b x e => by
  rw [upd_ne (ne_of_none e h)]
  exact e
end PF
/-! PF2K: dicts whose keys are tuples (without texts), or truths. -/
namespace PF
open PySem PySem.Spec PyProof.Rows L2
theorem line_eqK : line = sizeLine := by rw [sizeLine_eq]; rfl
section
variable {X : Cx} {pins : List (Addr × Obj)} {σ : St} {H : Hp} {s : Shared}
theorem tup_objK (I : L2.Inv X pins σ H s) {a : Addr} {xs : List V} (h : TupAt X.K H a xs) : ∃ (its : List Value) (o : Obj) (n : Nat), Vals xs its ∧ s.heap.get? a = some o ∧ o.cls = .type "tuple" ∧ o.data = .seq its.toArray n := by
  rcases h with ⟨o, e, d⟩ | ⟨o, its, n, e, c, d, dt, hz, r⟩
  · obtain ⟨g, z, its, r, o', g', c, n, dt⟩ := I.hok a _ e
    rw [g] at g'; cases g'
    exact ⟨its, o, n, r, g, c, dt⟩
  · exact ⟨its.toList, o, n, r, I.kIn a o e, c, by simpa using dt⟩
mutual
theorem rp_nk (I : L2.Inv X pins σ H s) : ∀ {d : D} {v : V} {u : Value} {k : NestedKey}, Rp X.K H d v → RelV v u → nk d = some k → NestedIs s.heap k u
  | .non, v, u, k, h, r, e => by
    rw [show v = _ from h] at r
    rw [show u = _ from r]
    rw [← Option.some.inj (show some NestedKey.none = some k from by simpa [nk] using e)]
    exact .none
  | .int i, v, u, k, h, r, e => by
    rw [show v = _ from h] at r
    obtain ⟨t, rfl⟩ := r
    rw [← Option.some.inj (show some (NestedKey.num i) = some k from by simpa [nk] using e)]
    exact .int _ _
  | .bl b, v, u, k, h, r, e => by
    rw [show v = _ from h] at r
    rw [show u = _ from r]
    rw [← Option.some.inj (show some (NestedKey.num (if b = true then 1 else 0)) = some k from by simpa only [nk] using e)]
    exact .bool rfl
  | .str _, _, _, _, _, _, e => by simp [nk] at e
  | .lst _, _, _, _, _, _, e => by simp [nk] at e
  | .set _, _, _, _, _, _, e => by simp [nk] at e
  | .dct _ _, _, _, _, _, _, e => by simp [nk] at e
  | .dkt _ _, _, _, _, _, _, e => by simp [nk] at e
  | .fn _, _, _, _, _, _, e => by simp [nk] at e
  | .tup ds, v, u, k, h, r, e => by
    obtain ⟨a, xs, rfl, t, rd⟩ := h
    rw [show u = _ from r]
    simp only [nk, Option.map_eq_some_iff] at e
    obtain ⟨ks, e1, rfl⟩ := e
    obtain ⟨its, o, n, rv, g, c, dt⟩ := tup_objK I t
    exact .tup g c dt (by simpa using rps_nk I rd rv e1)
theorem rps_nk (I : L2.Inv X pins σ H s) : ∀ {ds : List D} {vs : List V} {us : List Value} {ks : List NestedKey}, Rps X.K H ds vs → Vals vs us → nks ds = some ks → NestedAll s.heap ks us
  | [], vs, us, ks, h, r, e => by
    rw [show vs = [] from h] at r
    cases r
    rw [← Option.some.inj (show some [] = some ks from by simpa [nks] using e)]
    exact .nil
  | d :: ds, _, us, ks, h, r, e => by
    obtain ⟨v, vs, rfl, h1, h2⟩ := h
    cases r with
    | cons r1 r2 =>
      simp only [nks] at e
      cases e1 : nk d with
      | none => rw [e1] at e; simp at e
      | some k =>
        cases e2 : nks ds with
        | none => rw [e1, e2] at e; simp at e
        | some r =>
          rw [e1, e2] at e
          cases e
          exact .cons (rp_nk I h1 r1 e1) (rps_nk I h2 r2 e2)
end
abbrev DR : List (NestedKey × Addr × V) → List (NestedKey × Addr × Value) → Prop := Paired fun a b => a.1 = b.1 ∧ a.2.1 = b.2.1 ∧ RelV a.2.2 b.2.2
abbrev DBR : List (Bool × V) → List (Leaf × Value) → Prop := Paired fun a b => b.1 = .num (if a.1 = true then 1 else 0) ∧ RelV a.2 b.2
theorem keys_is (I : L2.Inv X pins σ H s) : ∀ {ks : List D} {xs : List (NestedKey × Addr × V)} {vs : List (NestedKey × Addr × Value)}, KeysR X.K H ks xs → DR xs vs → ∀ x ∈ vs, NestedIs s.heap x.1 (.ref x.2.1) ∧ x.1.depth ≤ 8
  | [], _, _, h, r, x, hx => by rw [show _ = [] from h] at r; cases r; cases hx
  | d :: ds, _, _, h, r, x, hx => by
    obtain ⟨y, t, rfl, h1, h2, _, h3, h4⟩ := h
    cases r with
    | cons r1 r2 =>
      rename_i b bs
      rcases List.mem_cons.mp hx with rfl | hx
      · rw [← r1.1, ← r1.2.1]
        exact ⟨rp_nk I h3 rfl h1, h2⟩
      · exact keys_is I h4 r2 x hx
end
section
variable {K : PySem.W.Frag} {H : Hp}
theorem memT_cons (q : NestedKey) (k : D) (ks : List D) : memT q (k :: ks) = (decide (nk k = some q) || memT q ks) := rfl
theorem memT_at (q : NestedKey) : ∀ {ks : List D} {xs : List (NestedKey × Addr × V)} {vs : List (NestedKey × Addr × Value)}, KeysR K H ks xs → DR xs vs → memT q ks = (atKey vs q).isSome
  | [], _, _, h, r => by rw [show _ = [] from h] at r; cases r; rfl
  | d :: ds, _, _, h, r => by
    obtain ⟨y, t, rfl, h1, h2, _, h3, h4⟩ := h
    cases r with
    | cons r1 r2 =>
      rename_i b bs
      rw [memT_cons, memT_at q h4 r2, h1, r1.1]
      unfold atKey
      rw [List.find?_cons]
      by_cases e : b.1 = q
      · simp [e]
      · simp [e]
theorem getT_at {q : NestedKey} {r : D} : ∀ {ks : List D} {xs : List (NestedKey × Addr × V)} {vs : List (NestedKey × Addr × Value)} {ds : List D}, KeysR K H ks xs → DR xs vs → Rps K H ds (xs.map (·.2.2)) → getT ks ds q = some r → ∃ p z, atKey vs q = some p ∧ RelV z p.2 ∧ Rp K H r z
  | [], _, _, _, h, _, _, e => by simp [getT] at e
  | d :: ks, _, _, [], h, _, _, e => by simp [getT] at e
  | d :: ks, _, _, g :: ds, h, r, hr, e => by
    obtain ⟨y, t, rfl, h1, h2, _, h3, h4⟩ := h
    cases r with
    | cons r1 r2 =>
      rename_i b bs
      obtain ⟨z, r', e2, rz, rr⟩ := hr
      cases e2
      simp only [getT] at e
      rw [h1, r1.1] at e
      by_cases c : b.1 = q
      · rw [if_pos (by rw [c])] at e
        cases e
        exact ⟨b.2, y.2.2, by simp [atKey, c], r1.2.2, rz⟩
      · rw [if_neg (fun z => c (Option.some.inj z))] at e
        obtain ⟨p, z, e1, e2, e3⟩ := getT_at h4 r2 rr e
        exact ⟨p, z, by simpa [atKey, c] using e1, e2, e3⟩
/-- with a pair put in -/
def putX (xs : List (NestedKey × Addr × V)) (m : Bool) (q : NestedKey) (a : Addr) (w : V) : List (NestedKey × Addr × V) := if m then xs.map (fun x => if x.1 = q then (x.1, x.2.1, w) else x) else xs ++ [(q, a, w)]
theorem paired_snoc {α β : Type} {F : α → β → Prop} {a : α} {b : β} : ∀ {l : List α} {m : List β}, Paired F l m → F a b → Paired F (l ++ [a]) (m ++ [b])
  | _, _, .nil, h => .cons h .nil
  | _, _, .cons r t, h => .cons r (paired_snoc t h)
theorem paired_map {α β : Type} {F : α → β → Prop} {f : α → α} {g : β → β} (hf : ∀ a b, F a b → F (f a) (g b)) : ∀ {l : List α} {m : List β}, Paired F l m → Paired F (l.map f) (m.map g)
  | _, _, .nil => .nil
  | _, _, .cons r t => .cons (hf _ _ r) (paired_map hf t)
theorem putX_DR {xs : List (NestedKey × Addr × V)} {vs : List (NestedKey × Addr × Value)} {q : NestedKey} {a : Addr} {w : V} {u : Value} (r : DR xs vs) (hw : RelV w u) : DR (putX xs (atKey vs q).isSome q a w) (storedH vs q a u) := by
  unfold putX storedH
  cases (atKey vs q).isSome with
  | true =>
    simp only [if_true]
    refine paired_map (fun x y h => ?_) r
    unfold putAt
    rw [h.1]
    by_cases e : y.1 = q
    · rw [if_pos e, if_pos e]; exact ⟨rfl, h.2.1, hw⟩
    · rw [if_neg e, if_neg e]; exact h
  | false =>
    simp only [Bool.false_eq_true, if_false]
    exact paired_snoc r ⟨rfl, rfl, hw⟩
theorem KeysR.snoc {x : NestedKey × Addr × V} {d : D} (h1 : nk d = some x.1) (h2 : x.1.depth ≤ 8) (h3 : isTupD d = true) (h4 : Rp K H d (.ref x.2.1)) : ∀ {ks : List D} {xs : List (NestedKey × Addr × V)}, KeysR K H ks xs → KeysR K H (ks ++ [d]) (xs ++ [x])
  | [], _, h => by rw [show _ = [] from h]; exact ⟨x, [], rfl, h1, h2, h3, h4, rfl⟩
  | k :: ks, _, h => by
    obtain ⟨y, t, rfl, g1, g2, g3, g4, g5⟩ := h
    exact ⟨y, t ++ [x], rfl, g1, g2, g3, g4, KeysR.snoc h1 h2 h3 h4 g5⟩
theorem KeysR.putV {q : NestedKey} {w : V} : ∀ {ks : List D} {xs : List (NestedKey × Addr × V)}, KeysR K H ks xs → KeysR K H ks (xs.map fun x => if x.1 = q then (x.1, x.2.1, w) else x)
  | [], _, h => by rw [show _ = [] from h]; rfl
  | k :: ks, _, h => by
    obtain ⟨y, t, rfl, g1, g2, g3, g4, g5⟩ := h
    refine ⟨_, _, rfl, ?_, ?_, g3, ?_, KeysR.putV g5⟩
    · dsimp only; split <;> exact g1
    · dsimp only; split <;> exact g2
    · dsimp only; split <;> exact g4
theorem KeysR.len : ∀ {ks : List D} {xs : List (NestedKey × Addr × V)}, KeysR K H ks xs → xs.length = ks.length
  | [], _, h => by rw [show _ = [] from h]; rfl
  | k :: ks, _, h => by
    obtain ⟨y, t, rfl, _, _, _, _, g5⟩ := h
    rw [List.length_cons, List.length_cons, KeysR.len g5]
theorem repT_rp {q : NestedKey} {d : D} {w : V} (rw' : Rp K H d w) : ∀ {ks : List D} {xs : List (NestedKey × Addr × V)} {ds : List D}, KeysR K H ks xs → Rps K H ds (xs.map (·.2.2)) → Rps K H (repT ks ds q d) ((xs.map fun x => if x.1 = q then (x.1, x.2.1, w) else x).map (·.2.2))
  | [], _, ds, h, r => by rw [show _ = [] from h]; rfl
  | k :: ks, _, [], h, r => by
    obtain ⟨y, t, rfl, _⟩ := h
    exact nomatch (show (_ :: _ : List V) = [] from r)
  | k :: ks, _, g :: ds, h, r => by
    obtain ⟨y, t, rfl, g1, _, _, _, g5⟩ := h
    obtain ⟨z, r', e2, rz, rr⟩ := r
    cases e2
    refine ⟨_, _, rfl, ?_, repT_rp rw' g5 rr⟩
    rw [g1]
    dsimp only
    by_cases e : y.1 = q
    · rw [if_pos (by rw [e]), if_pos e]; exact rw'
    · rw [if_neg (fun z => e (Option.some.inj z)), if_neg e]; exact rz
theorem put_keys {ks ds : List D} {xs : List (NestedKey × Addr × V)} {q : NestedKey} {x d : D} {a : Addr} {w : V} (h : KeysR K H ks xs) (hr : Rps K H ds (xs.map (·.2.2))) (h1 : nk x = some q) (h2 : q.depth ≤ 8) (h3 : isTupD x = true) (h4 : Rp K H x (.ref a)) (rw' : Rp K H d w) :
    KeysR K H (addT x q ks) (putX xs (memT q ks) q a w) ∧ Rps K H (putT ks ds q d) ((putX xs (memT q ks) q a w).map (·.2.2)) := by
  unfold addT putT putX
  cases memT q ks with
  | true => exact ⟨h.putV, repT_rp rw' h hr⟩
  | false =>
    refine ⟨KeysR.snoc h1 h2 h3 h4 h, ?_⟩
    simp only [Bool.false_eq_true, if_false, List.map_append]
    exact hr.append (.cons rw' .nil)

/-! ### truths -/
abbrev qb (b : Bool) : NestedKey := .num (if b = true then 1 else 0)
abbrev lb (b : Bool) : Leaf := .num (if b = true then 1 else 0)
theorem qb_inj {b c : Bool} : qb b = qb c ↔ b = c := by cases b <;> cases c <;> simp [qb]
theorem lb_inj {b c : Bool} : lb b = lb c ↔ b = c := by cases b <;> cases c <;> simp [lb]
theorem memB_at (b : Bool) : ∀ {xs : List (Bool × V)} {vs : List (Leaf × Value)}, DBR xs vs → memT (qb b) (xs.map fun q => D.bl q.1) = (valueAt vs (lb b)).isSome
  | _, _, .nil => rfl
  | x :: xs, v :: vs, .cons r t => by
    rw [List.map_cons, memT_cons, memB_at b t]
    unfold valueAt
    rw [List.find?_cons, r.1]
    by_cases e : x.1 = b
    · simp [nk, e]
    · have e1 : ¬ qb x.1 = qb b := fun z => e (qb_inj.mp z)
      have e2 : ¬ lb x.1 = lb b := fun z => e (lb_inj.mp z)
      rw [show decide (nk (D.bl x.1) = some (qb b)) = false from decide_eq_false fun z => e1 (Option.some.inj z), show decide ((Leaf.num (if x.1 = true then 1 else 0)) = lb b) = false from decide_eq_false e2]
      rfl
theorem getB_at {b : Bool} {r : D} : ∀ {xs : List (Bool × V)} {vs : List (Leaf × Value)} {ds : List D}, DBR xs vs → Rps K H ds (xs.map (·.2)) → getT (xs.map fun q => D.bl q.1) ds (qb b) = some r → ∃ p z, valueAt vs (lb b) = some p ∧ RelV z p ∧ Rp K H r z
  | [], _, _, _, _, e => by simp [getT] at e
  | x :: xs, _, [], _, _, e => by simp [getT] at e
  | x :: xs, v :: vs, g :: ds, .cons r1 r2, hr, e => by
    obtain ⟨z, r', e2, rz, rr⟩ := hr
    cases e2
    simp only [List.map_cons, getT] at e
    by_cases c : x.1 = b
    · rw [if_pos (by rw [c]; rfl)] at e
      cases e
      exact ⟨v.2, x.2, by unfold valueAt; rw [List.find?_cons, r1.1, show decide ((Leaf.num (if x.1 = true then 1 else 0)) = lb b) = true from decide_eq_true (by rw [c])]; rfl, r1.2, rz⟩
    · have e1 : ¬ qb x.1 = qb b := fun z => c (qb_inj.mp z)
      have e2 : ¬ lb x.1 = lb b := fun z => c (lb_inj.mp z)
      rw [show nk (D.bl x.1) = some (qb x.1) from rfl, if_neg (fun z => e1 (Option.some.inj z))] at e
      obtain ⟨p, z, e3, e4, e5⟩ := getB_at r2 rr e
      exact ⟨p, z, by rw [← e3]; unfold valueAt; rw [List.find?_cons, r1.1, show decide ((Leaf.num (if x.1 = true then 1 else 0)) = lb b) = false from decide_eq_false e2], e4, e5⟩
def putY (xs : List (Bool × V)) (m : Bool) (b : Bool) (w : V) : List (Bool × V) := if m then xs.map (fun x => if x.1 = b then (x.1, w) else x) else xs ++ [(b, w)]
theorem any_valueAt {κ : Type} [DecidableEq κ] (kvs : List (κ × Value)) (k : κ) : (kvs.any fun kv => decide (kv.1 = k)) = (valueAt kvs k).isSome := by
  induction kvs with
  | nil => rfl
  | cons x xs ih =>
    unfold valueAt at ih ⊢
    rw [List.any_cons, List.find?_cons, ih]
    by_cases h : x.1 = k <;> simp [h]
theorem putY_DBR {xs : List (Bool × V)} {vs : List (Leaf × Value)} {b : Bool} {w : V} {u : Value} (r : DBR xs vs) (hw : RelV w u) : DBR (putY xs (valueAt vs (lb b)).isSome b w) (stored vs (lb b) u) := by
  unfold putY stored
  rw [any_valueAt]
  cases (valueAt vs (lb b)).isSome with
  | true =>
    simp only [if_true]
    refine paired_map (fun x y h => ?_) r
    by_cases e : x.1 = b
    · rw [if_pos e, if_pos (by rw [h.1, e])]; exact ⟨h.1, hw⟩
    · rw [if_neg e, if_neg (by rw [h.1]; exact fun z => e (lb_inj.mp z))]; exact h
  | false =>
    simp only [Bool.false_eq_true, if_false]
    exact paired_snoc r ⟨rfl, hw⟩
theorem repB_rp {b : Bool} {d : D} {w : V} (rw' : Rp K H d w) : ∀ {xs : List (Bool × V)} {ds : List D}, Rps K H ds (xs.map (·.2)) → Rps K H (repT (xs.map fun q => D.bl q.1) ds (qb b) d) ((xs.map fun x => if x.1 = b then (x.1, w) else x).map (·.2))
  | [], ds, r => rfl
  | x :: xs, [], r => nomatch (show (_ :: _ : List V) = [] from r)
  | x :: xs, g :: ds, r => by
    obtain ⟨z, r', e2, rz, rr⟩ := r
    cases e2
    refine ⟨_, _, rfl, ?_, repB_rp rw' rr⟩
    dsimp only
    by_cases e : x.1 = b
    · rw [if_pos (by rw [e]; rfl), if_pos e]; exact rw'
    · rw [show nk (D.bl x.1) = some (qb x.1) from rfl, if_neg (fun z => e (qb_inj.mp (Option.some.inj z))), if_neg e]; exact rz
theorem put_bools {ds : List D} {xs : List (Bool × V)} {b : Bool} {d : D} {w : V} (hr : Rps K H ds (xs.map (·.2))) (rw' : Rp K H d w) :
    addT (.bl b) (qb b) (xs.map fun q => D.bl q.1) = (putY xs (memT (qb b) (xs.map fun q => D.bl q.1)) b w).map (fun q => D.bl q.1) ∧ Rps K H (putT (xs.map fun q => D.bl q.1) ds (qb b) d) ((putY xs (memT (qb b) (xs.map fun q => D.bl q.1)) b w).map (·.2)) := by
  unfold addT putT putY
  cases memT (qb b) (xs.map fun q => D.bl q.1) with
  | true =>
    refine ⟨?_, repB_rp rw' hr⟩
    simp only [if_true]
    rw [List.map_map]
    refine List.map_congr_left fun x _ => ?_
    by_cases e : x.1 = b <;> simp [e]
  | false =>
    refine ⟨by simp, ?_⟩
    simp only [Bool.false_eq_true, if_false, List.map_append]
    exact hr.append (.cons rw' .nil)
theorem pairs_num {P : Program} {w : World} : ∀ {es : List DictEntry} {vs : List (Leaf × Value)}, Pairs (leafKind P w) es vs → (∀ x ∈ vs, ∃ i, x.1 = .num i) → ∀ e ∈ es, ∃ i, (Leaf.num i).isOf e.key = true
  | _, _, .nil, _, e, he => by cases he
  | _, _, .cons h1 h2 t, h, e, he => by
    rcases List.mem_cons.mp he with rfl | he
    · obtain ⟨i, hi⟩ := h _ List.mem_cons_self
      exact ⟨i, by rw [← hi]; exact h1⟩
    · exact pairs_num t (fun x hx => h x (List.mem_cons_of_mem _ hx)) e he
theorem pairs_any {P P' : Program} {w w' : World} : ∀ {es : List DictEntry} {vs : List (Leaf × Value)}, Pairs (leafKind P w) es vs → Pairs (leafKind P' w') es vs
  | _, _, .nil => .nil
  | _, _, .cons h1 h2 t => .cons h1 h2 (pairs_any t)
theorem dictOf_any {P P' : Program} {w w' : World} {h : Heap} {p : Addr} {vs : List (Leaf × Value)} (hn : ∀ x ∈ vs, ∃ i, x.1 = .num i) (d : h.DictOf (leafKind P w) p vs) : h.DictOf (leafKind P' w') p vs := by
  obtain ⟨o, es, ep, g, c, dt, ko, pr, nd⟩ := d
  refine ⟨o, es, ep, g, c, dt, fun e he => ?_, pairs_any pr, nd⟩
  obtain ⟨k, h1, h2⟩ := ko e he
  obtain ⟨i, hi⟩ := pairs_num pr hn e (by simpa using he)
  have := (leafKind P w).inj _ _ _ h1 hi
  subst this
  exact ⟨_, hi, h2⟩
theorem dbr_num : ∀ {xs : List (Bool × V)} {vs : List (Leaf × Value)}, DBR xs vs → ∀ x ∈ vs, ∃ i, x.1 = .num i
  | _, _, .nil, x, hx => by cases hx
  | _, _, .cons r t, x, hx => by
    rcases List.mem_cons.mp hx with rfl | hx
    · exact ⟨_, r.1⟩
    · exact dbr_num t x hx
/-! ### nothing in it -/
def Emp (h : Heap) (p : Addr) : Prop := ∃ o es ep, h.get? p = some o ∧ o.ExactDict ∧ o.data = .dict es ep ∧ es.toList = []
theorem Emp.nest {P : Program} {w : World} {h : Heap} {p : Addr} (e : Emp h p) : h.DictOfH (nestedKind P w) p [] := by
  obtain ⟨o, es, ep, g, c, d, n⟩ := e
  exact ⟨o, es, ep, g, c, d, n, (fun _ z => nomatch z), List.nodup_nil⟩
theorem Emp.leaf {P : Program} {w : World} {h : Heap} {p : Addr} (e : Emp h p) : h.DictOf (leafKind P w) p [] := by
  obtain ⟨o, es, ep, g, c, d, n⟩ := e
  refine ⟨o, es, ep, g, c, d, fun x hx => ?_, by rw [n]; exact .nil, List.nodup_nil⟩
  have : x ∈ es.toList := by simpa using hx
  rw [n] at this; cases this
theorem emp_of {P : Program} {w : World} {κ : Type} [DecidableEq κ] {knd : KeyKind P w κ} {h : Heap} {p : Addr} (d : h.DictOf knd p []) : Emp h p := by
  obtain ⟨o, es, ep, g, c, d, _, pr, _⟩ := d
  refine ⟨o, es, ep, g, c, d, ?_⟩
  cases e : es.toList with
  | nil => rfl
  | cons x xs => rw [e] at pr; cases pr
end
section
variable {X : Cx} {pins : List (Addr × Obj)} {σ : St} {H : Hp} {s : Shared}
def RdT (X : Cx) (H : Hp) (s : Shared) (ks ds : List D) (p : Addr) : Prop :=
  ∃ (xs : List (NestedKey × Addr × V)) (vs : List (NestedKey × Addr × Value)), KeysR X.K H ks xs ∧ DR xs vs ∧ s.heap.DictOfH (nestedKind X.prog X.w) p vs ∧ xs.length ≤ sizeLine ∧ Rps X.K H ds (xs.map (·.2.2))
def RdB (X : Cx) (H : Hp) (s : Shared) (ks ds : List D) (p : Addr) : Prop :=
  ∃ (xs : List (Bool × V)) (vs : List (Leaf × Value)), ks = xs.map (fun q => D.bl q.1) ∧ DBR xs vs ∧ s.heap.DictOf (leafKind X.prog X.w) p vs ∧ xs.length ≤ sizeLine ∧ Rps X.K H ds (xs.map (·.2))
theorem dr_len {xs : List (NestedKey × Addr × V)} {vs : List (NestedKey × Addr × Value)} (h : DR xs vs) : vs.length = xs.length := by
  induction h with
  | nil => rfl
  | cons _ _ ih => simp [ih]
theorem dbr_len {xs : List (Bool × V)} {vs : List (Leaf × Value)} (h : DBR xs vs) : vs.length = xs.length := by
  induction h with
  | nil => rfl
  | cons _ _ ih => simp [ih]
theorem rdT_of (I : L2.Inv X pins σ H s) {p : Addr} {ks ds : List D} {xs : List (NestedKey × Addr × V)} (hp : H p = some (DTO p xs)) (kr : KeysR X.K H ks xs) (hr : Rps X.K H ds (xs.map (·.2.2))) : RdT X H s ks ds p ∧ (p == sysModules) = false := by
  obtain ⟨vs, r, ⟨o, es, ep, g, c, d, e⟩, nd, hz, hs⟩ := (I.hok p _ hp).1
  exact ⟨⟨xs, vs, kr, r, ⟨o, es, ep, g, c, d, e X.w, keys_is I kr r, nd⟩, hz, hr⟩, hs⟩
theorem rdB_of (I : L2.Inv X pins σ H s) {p : Addr} {ds : List D} {xs : List (Bool × V)} (hp : H p = some (DBO p xs)) (hr : Rps X.K H ds (xs.map (·.2))) : RdB X H s (xs.map fun q => D.bl q.1) ds p ∧ (p == sysModules) = false := by
  obtain ⟨vs, r, d, hz, hs⟩ := (I.hok p _ hp).1
  exact ⟨⟨xs, vs, rfl, r, d _ _, hz, hr⟩, hs⟩
theorem RdT.emp {ds : List D} {p : Addr} (h : RdT X H s [] ds p) : Emp s.heap p ∧ ds = [] := by
  obtain ⟨xs, vs, kr, r, d, _, hr⟩ := h
  have : xs = [] := kr
  subst this
  cases r
  obtain ⟨o, es, ep, g, c, d, e, _⟩ := d
  refine ⟨⟨o, es, ep, g, c, d, e⟩, ?_⟩
  cases ds with
  | nil => rfl
  | cons x xs => obtain ⟨_, _, e, _⟩ := hr; cases e
theorem RdB.emp {ds : List D} {p : Addr} (h : RdB X H s [] ds p) : Emp s.heap p ∧ ds = [] := by
  obtain ⟨xs, vs, kr, r, d, _, hr⟩ := h
  have : xs = [] := List.map_eq_nil_iff.mp kr.symm
  subst this
  cases r
  refine ⟨emp_of d, ?_⟩
  cases ds with
  | nil => rfl
  | cons x xs => obtain ⟨_, _, e, _⟩ := hr; cases e
theorem Emp.rdT {p : Addr} (e : Emp s.heap p) : RdT X H s [] [] p := ⟨[], [], rfl, .nil, e.nest, Nat.zero_le _, rfl⟩
theorem Emp.rdB {p : Addr} (e : Emp s.heap p) : RdB X H s [] [] p := ⟨[], [], rfl, .nil, e.leaf, Nat.zero_le _, rfl⟩
/-- such a dict, or an empty one -/
theorem dkt_rd (I : L2.Inv X pins σ H s) {y : D} {v : V} {ks ds : List D} (h : VwR X.K H y v) (e : dkv y = some (ks, ds)) :
    ∃ p, v = .ref p ∧ (p == sysModules) = false ∧ (RdT X H s ks ds p ∨ RdB X H s ks ds p) := by
  cases y with
  | dkt ks' vs' =>
    cases e
    obtain ⟨p, rfl, h0⟩ := h.dkt
    rcases h0 with ⟨xs, h1, h2, h3⟩ | ⟨xs, rfl, h2, h3⟩
    · obtain ⟨a, b⟩ := rdT_of I h1 h2 h3
      exact ⟨p, rfl, b, .inl a⟩
    · obtain ⟨a, b⟩ := rdB_of I h2 h3
      exact ⟨p, rfl, b, .inr a⟩
  | dct ks' vs' =>
    unfold dkv at e
    split at e
    · rename_i h0; cases h0
    · rename_i h0; cases h0; cases e
      obtain ⟨p, kvs, rfl, ek, hp, _⟩ := h.dct
      have : kvs = [] := List.map_eq_nil_iff.mp ek.symm
      subst this
      obtain ⟨_, hs, vs, kv, d⟩ := hp.ok I.hok
      cases kv
      exact ⟨p, rfl, hs, .inl (emp_of d).rdT⟩
    · cases e
  | _ => cases e
theorem ckey_cases {ks : List D} {x : D} {q : NestedKey} (e : ckey ks x = some q) : (ks.all isTupD = true ∧ isTupD x = true ∧ nk x = some q ∧ q.depth ≤ 8) ∨ (ks.all isBlD = true ∧ ∃ b, x = .bl b ∧ q = qb b) := by
  unfold ckey at e
  split at e
  · split at e
    · rename_i h
      split at e
      · rename_i q' h2
        split at e
        · rename_i h3; cases e; exact .inl ⟨h, rfl, h2, h3⟩
        · cases e
      · cases e
    · cases e
  · split at e
    · rename_i h; cases e; exact .inr ⟨h, _, rfl, rfl⟩
    · cases e
  · cases e
theorem RdB.tups {ks ds : List D} {p : Addr} (h : RdB X H s ks ds p) (a : ks.all isTupD = true) : RdT X H s ks ds p := by
  have h' := h
  obtain ⟨xs, vs, rfl, _⟩ := h
  cases xs with
  | nil =>
    obtain ⟨e, rfl⟩ := RdB.emp h'
    exact e.rdT
  | cons x xs => simp [isTupD] at a
theorem RdT.bls {ks ds : List D} {p : Addr} (h : RdT X H s ks ds p) (a : ks.all isBlD = true) : RdB X H s ks ds p := by
  have h' := h
  obtain ⟨xs, vs, kr, _⟩ := h
  cases ks with
  | nil =>
    obtain ⟨e, rfl⟩ := RdT.emp h'
    exact e.rdB
  | cons x ks =>
    obtain ⟨_, _, _, _, _, ht, _⟩ := kr
    rw [List.all_cons, Bool.and_eq_true] at a
    cases x <;> first | (cases ht; done) | (cases a.1; done)
/-- by its key -/
theorem dkt_key (I : L2.Inv X pins σ H s) {ks ds : List D} {p : Addr} (h : RdT X H s ks ds p ∨ RdB X H s ks ds p) {x : D} {xv : V} {u : Value} {q : NestedKey} (e : ckey ks x = some q) (hx : VwR X.K H x xv) (ru : RelV xv u) :
    (∃ a, u = .ref a ∧ xv = .ref a ∧ Rp X.K H x xv ∧ nk x = some q ∧ isTupD x = true ∧ (nestedKind X.prog X.w).is s.heap q a ∧ RdT X H s ks ds p) ∨ (∃ b, u = .bool b ∧ x = .bl b ∧ q = qb b ∧ RdB X H s ks ds p) := by
  rcases ckey_cases e with ⟨h1, h2, h3, h4⟩ | ⟨h1, b, rfl, rfl⟩
  · have hr : Rp X.K H x xv := by
      cases x with
      | tup ds =>
        rcases hx with hx | ⟨_, _, hx⟩
        · exact hx
        · exact hx.elim
      | _ => cases h2
    have hn := rp_nk I hr ru h3
    left
    have : ∃ a, xv = .ref a := by
      cases x with
      | tup ds => obtain ⟨a, _, e, _⟩ := hr; exact ⟨a, e⟩
      | _ => cases h2
    obtain ⟨a, rfl⟩ := this
    have eu : u = .ref a := ru
    subst eu
    exact ⟨a, rfl, rfl, hr, h3, h2, ⟨hn, h4⟩, h.elim id fun z => z.tups h1⟩
  · right
    have := hx.bl
    subst this
    exact ⟨b, ru, rfl, rfl, h.elim (fun z => z.bls h1) id⟩
theorem isBl {P : Program} {w : World} (b : Bool) : (leafKind P w).is (lb b) (.bool b) = true := by
  show decide (_ = _) = true
  exact decide_eq_true rfl
/-- in, not in -/
theorem op_inDkt (hu : X.A.units + 65 < cLine) (neg : Bool) : OpR X (compareOp (if neg then .NotIn else .In)) (fun x y H Q => ∃ d e ks vs q, VwR X.K H d x ∧ VwR X.K H e y ∧ dkv e = some (ks, vs) ∧ ckey ks d = some q ∧ Q (.bl (if neg then !memT q ks else memT q ks)) H) := by
  intro pins s σ H x y v u Q I rx ry ⟨d, e, ks, vs, q, vd, ve, h1, h2, hq⟩
  obtain ⟨p, rfl, hs, hr⟩ := dkt_rd I ve h1
  have : u = .ref p := ry
  subst this
  have hroom : (nestedKind X.prog X.w).room X.A.in1 := by show X.A.in1.units + 8 < cLine; show X.A.units + 1 + 8 < cLine; omega
  rcases dkt_key I hr h2 vd rx with ⟨a, rfl, rfl, hx, hn, ht, hi, xs, ys, kr, dr, dk, hz, rr⟩ | ⟨b, rfl, rfl, rfl, xs, ys, rfl, dr, dk, hz, rr⟩
  · cases neg with
    | false => exact wpAny_in_heap hroom hi hs dk ⟨.bl _, H, I.tok _, by rw [← memT_at q kr dr]; rfl, hq⟩
    | true => exact wpAny_notIn_heap hroom hi hs dk ⟨.bl _, H, I.tok _, by rw [← memT_at q kr dr]; rfl, hq⟩
  · cases neg with
    | false => exact wpAny_in_of (knd := leafKind X.prog X.w) (isBl b) hs dk.mapOf ⟨.bl _, H, I.tok _, by rw [← memB_at b dr]; rfl, hq⟩
    | true => exact wpAny_notIn_of (knd := leafKind X.prog X.w) (isBl b) hs dk.mapOf ⟨.bl _, H, I.tok _, by rw [← memB_at b dr]; rfl, hq⟩
theorem dkt_typeIs {ks ds : List D} {p : Addr} (h : RdT X H s ks ds p ∨ RdB X H s ks ds p) : s.TypeIs (.ref p) "dict" := by
  rcases h with ⟨_, _, _, _, d, _⟩ | ⟨_, _, _, _, d, _⟩
  · exact d.typeIs
  · exact d.typeIs
/-- len -/
theorem call_lenDT : CallR X (.builtin "len") (fun xs H Q => ∃ a e ks ds, xs = [V.ref a] ∧ VwR X.K H e (.ref a) ∧ dkv e = some (ks, ds) ∧ Q (.int ks.length) H) := by
  intro pins s σ H xs us Q I r ⟨a, e, ks, ds, h0, ve, h1, q⟩
  subst h0
  rw [Vals.ref1 r]
  obtain ⟨p, ep, hs, hr⟩ := dkt_rd I ve h1
  cases ep
  have hT := dkt_typeIs hr
  rcases hr with ⟨xs, vs, kr, dr, dk, hz, _⟩ | ⟨xs, vs, rfl, dr, dk, hz, _⟩
  · have hl : vs.length = ks.length := by rw [dr_len dr, kr.len]
    have hz' : ks.length ≤ sizeLine := by rw [← kr.len]; exact hz
    rw [sizeLine_eq] at hz'
    refine PyProof.Rows.call_len_slot (n := ks.length) hT PySem.F.slot_dict_len (fun Q' hq => len_keyed hs ⟨_, dk, rfl⟩ ?_) (by omega) (by omega) ⟨.int ks.length, H, I.tok _, ⟨_, rfl⟩, q⟩
    rw [pairsH_length, hl]
    exact hq
  · have hl := dbr_len dr
    rw [sizeLine_eq] at hz
    refine call_len_dict hs dk (by rw [hl]; omega) ?_
    rw [hl]
    rw [List.length_map] at q
    exact ⟨.int xs.length, H, I.tok _, ⟨_, rfl⟩, q⟩
/-- d[k] -/
theorem ix_dkt (hu : X.A.units + 65 < cLine) : IxR X (fun x y H Q => ∃ e ks ds d q r, VwR X.K H e x ∧ dkv e = some (ks, ds) ∧ VwR X.K H d y ∧ ckey ks d = some q ∧ getT ks ds q = some r ∧ ∀ z, Rp X.K H r z → Q z H) := by
  intro value slice pins s σ H x y v u Q I rx ry ⟨e, ks, ds, d, q, r, ve, h1, vd, h2, h3, hq⟩ hs
  obtain ⟨p, rfl, hsm, hr⟩ := dkt_rd I ve h1
  have : v = .ref p := rx
  subst this
  have hT := dkt_typeIs hr
  have hroom : (nestedKind X.prog X.w).room X.A.in1 := by show X.A.units + 1 + 8 < cLine; omega
  have get : ∀ (Q' : Value → Shared → Prop), (∀ z w' s', L2.Inv X pins σ H s' → RelV z w' → Rp X.K H r z → Q' w' s') → wpAny (model X.prog X.w) X.A (getItem (.ref p) u) Q' X.xe s := by
    intro Q' hQ
    rcases dkt_key I hr h2 vd ry with ⟨a, rfl, rfl, hx, hn, ht, hi, xs, ys, kr, dr, dk, hz, rr⟩ | ⟨b, rfl, rfl, rfl, xs, ys, rfl, dr, dk, hz, rr⟩
    · obtain ⟨pp, z, e1, e2, e3⟩ := getT_at kr dr rr h3
      exact wpAny_getItem_heap hroom hi dk e1 (hQ z _ _ (I.tok _) e2 e3)
    · obtain ⟨pp, z, e1, e2, e3⟩ := getB_at dr rr h3
      exact wpAny_getItem_of (knd := leafKind X.prog X.w) (isBl b) dk.mapOf e1 (hQ z _ _ (I.tok _) e2 e3)
  have fin : wpAny (model X.prog X.w) X.A (subscripted slice false (.ref p) u) (fun r s₃ => wpAny (model X.prog X.w) X.A (letTemporaryGo value (.ref p) r >>= fun _ => pure r) (EP X pins σ Q) X.xe s₃) X.xe s := by
    rw [hs]
    exact wpAny_operating (get _ fun z w' s' I' r' rz => wpAny_bind (wpAny_letTemporaryGo (wpAny_pure ⟨z, H, I', r', hq z rz⟩)))
  unfold subscriptTail
  refine wpAny_bind ?_
  rw [getitemInPython_of_ne hT.not_modules]
  refine wpAny_bind (wpAny_specialOf hT PySem.F.slot_dict_getitem.lookup ?_)
  first
    | exact wpAny_pure (wpAny_bind fin)
    | exact wpAny_bind (wpAny_pure (wpAny_bind fin))
    | exact wpAny_bind fin
/-! ### d[k] = v -/
mutual
theorem nk_hash (w w' : World) : ∀ {d : D} {k : NestedKey}, nk d = some k → k.hash w = k.hash w'
  | .non, k, e => by
    rw [← Option.some.inj (show some NestedKey.none = some k from by simpa [nk] using e)]; rfl
  | .int i, k, e => by
    rw [← Option.some.inj (show some (NestedKey.num i) = some k from by simpa [nk] using e)]; rfl
  | .bl b, k, e => by
    rw [← Option.some.inj (show some (NestedKey.num (if b = true then 1 else 0)) = some k from by simpa only [nk] using e)]; rfl
  | .str _, _, e => by simp [nk] at e
  | .lst _, _, e => by simp [nk] at e
  | .set _, _, e => by simp [nk] at e
  | .dct _ _, _, e => by simp [nk] at e
  | .dkt _ _, _, e => by simp [nk] at e
  | .fn _, _, e => by simp [nk] at e
  | .tup ds, k, e => by
    simp only [nk, Option.map_eq_some_iff] at e
    obtain ⟨ks, e1, rfl⟩ := e
    simp only [NestedKey.hash]
    rw [nks_hash w w' e1]
theorem nks_hash (w w' : World) : ∀ {ds : List D} {ks : List NestedKey}, nks ds = some ks → NestedKey.hashes w ks = NestedKey.hashes w' ks
  | [], ks, e => by
    rw [← Option.some.inj (show some [] = some ks from by simpa [nks] using e)]; rfl
  | d :: ds, ks, e => by
    simp only [nks] at e
    cases e1 : nk d with
    | none => rw [e1] at e; simp at e
    | some k =>
      cases e2 : nks ds with
      | none => rw [e1, e2] at e; simp at e
      | some r =>
        rw [e1, e2] at e
        cases e
        simp only [NestedKey.hashes]
        rw [nk_hash w w' e1, nks_hash w w' e2]
end
theorem keys_hash (w w' : World) {K : PySem.W.Frag} {H : Hp} : ∀ {ks : List D} {xs : List (NestedKey × Addr × V)} {vs : List (NestedKey × Addr × Value)}, KeysR K H ks xs → DR xs vs → ∀ x ∈ vs, x.1.hash w = x.1.hash w'
  | [], _, _, h, r, x, hx => by rw [show _ = [] from h] at r; cases r; cases hx
  | d :: ds, _, _, h, r, x, hx => by
    obtain ⟨y, t, rfl, h1, h2, _, h3, h4⟩ := h
    cases r with
    | cons r1 r2 =>
      rename_i b bs
      rcases List.mem_cons.mp hx with rfl | hx
      · rw [← r1.1]
        exact nk_hash w w' h1
      · exact keys_hash w w' h4 r2 x hx
theorem dt0_stay {p : Addr} {xs : List (NestedKey × Addr × V)} {h1 h2 : Heap} (h : DT0 h1 p xs) (k : ∀ o, h1.get? p = some o → h2.get? p = some o) : DT0 h2 p xs := by
  obtain ⟨vs, r, ⟨o, es, ep, g, c⟩, z⟩ := h
  exact ⟨vs, r, ⟨o, es, ep, k o g, c⟩, z⟩
theorem db0_stay {p : Addr} {xs : List (Bool × V)} {h1 h2 : Heap} (h : DB0 h1 p xs) (k : ∀ o, h1.get? p = some o → h2.get? p = some o) : DB0 h2 p xs := by
  obtain ⟨vs, r, d, z⟩ := h
  exact ⟨vs, r, fun P w => let ⟨o, es, ep, g, c⟩ := d P w; ⟨o, es, ep, k o g, c⟩, z⟩
theorem putX_len {xs : List (NestedKey × Addr × V)} {m : Bool} {q : NestedKey} {a : Addr} {w : V} : (putX xs m q a w).length ≤ xs.length + 1 := by
  unfold putX; split <;> simp
theorem putY_len {xs : List (Bool × V)} {m b : Bool} {w : V} : (putY xs m b w).length ≤ xs.length + 1 := by
  unfold putY; split <;> simp
def rSetT (K : PySem.W.Frag) : V → V → V → Hp → (Hp → Prop) → Prop := fun o i v H Q => ∃ p e ks ds x q d, o = .ref p ∧ OwnAt K H e p ∧ dkv e = some (ks, ds) ∧ Rp K H x i ∧ ckey ks x = some q ∧ Rp K H d v ∧ ks.length < line ∧
  ∀ o', (∀ H', H' = upd H p o' → OwnAt K H' (.dkt (addT x q ks) (putT ks ds q d)) p) → Q (upd H p o')
theorem set_dkt (hu : X.A.units + 65 < cLine) : PSet X (rSetT X.K) := by
  intro pins s σ H o i v ov iv u Q I ro ri rv h
  obtain ⟨p, e, ks, ds, x, q, d, rfl, ow, h1, hx, h2, hd, hl, hQ⟩ := h
  have : ov = .ref p := ro
  subst this
  obtain ⟨p', ep, hs, hr⟩ := dkt_rd I (v := .ref p) (.inr ⟨p, rfl, ow⟩) h1
  cases ep
  have hm : Mut (H p) := by
    cases e with
    | dkt _ _ => rcases ow with ⟨xs, h, _⟩ | ⟨xs, _, h, _⟩ <;> rw [h] <;> trivial
    | dct _ _ => obtain ⟨_, _, h, _⟩ := ow; rw [h]; trivial
    | _ => cases h1
  have hnf : ∀ ob u, H p ≠ some (.frz ob u) := fun ob u z => by rw [z] at hm; exact hm
  have hroom : (nestedKind X.prog X.w).room X.A.in1 := by show X.A.units + 1 + 8 < cLine; omega
  have hline : ks.length + 1 ≤ sizeLine := by rw [← line_eqK]; omega
  rcases dkt_key I hr h2 (.inl hx) ri with ⟨a, rfl, rfl, _, hn, ht, hi, xs, ys, kr, dr, dk, hz, rr⟩ | ⟨b, rfl, rfl, rfl, xs, ys, rfl, dr, dk, hz, rr⟩
  · have hlen : ys.length ≤ sizeLine := by rw [dr_len dr]; exact hz
    refine wpAny_setItem_heap (hsz := hlen) hroom hi dk fun h' dk' sb => ?_
    obtain ⟨kr', rr'⟩ := put_keys (K := X.K) (H := H) kr rr hn hi.2 ht hx hd
    have dr' := putX_DR (q := q) (a := a) dr rv
    rw [← memT_at q kr dr] at dr'
    obtain ⟨ob, es, ep, g, c, dd, ee, _, nd⟩ := dk'
    have ok : DT0 h' p (putX xs (memT q ks) q a v) := ⟨_, dr', ⟨ob, es, ep, g, c, dd, fun w => by
      rw [ee]
      refine List.map_congr_left fun z hz => ?_
      show (⟨z.1.hash X.w, _, _⟩ : DictEntry) = _
      rw [keys_hash X.w w kr' dr' z hz]⟩, nd, by have := putX_len (xs := xs) (m := memT q ks) (q := q) (a := a) (w := v); rw [kr.len] at this; omega, hs⟩
    refine ⟨upd H p (DTO p (putX xs (memT q ks) q a v)), I.write (e := p) (t' := s.toks + (nestedKind X.prog X.w).draws q) hm (.inl rfl) (fun c u hc hu => (sb.2 c hc).trans hu) ⟨ob, g⟩ ⟨ok, ⟨ob, g⟩, fun _ _ z k => dt0_stay z k⟩, hQ _ fun H' eH => ?_⟩
    subst eH
    exact .inl ⟨_, upd_same, kr'.mono (upd_kp hnf), rr'.mono (upd_kp hnf)⟩
  · have hlen : ys.length ≤ sizeLine := by rw [dbr_len dr]; exact hz
    refine wpAny_setItem_pairs (knd := leafKind X.prog X.w) (hsz := hlen) (isBl b) dk fun h' dk' sb => ?_
    obtain ⟨ek, rr'⟩ := put_bools (K := X.K) (H := H) (b := b) (d := d) rr hd
    have dr' := putY_DBR (b := b) dr rv
    rw [← memB_at b dr] at dr'
    obtain ⟨ob, g⟩ : ∃ ob, h'.get? p = some ob := let ⟨ob, _, _, g, _⟩ := dk'; ⟨ob, g⟩
    have ok : DB0 h' p (putY xs (memT (qb b) (xs.map fun q => PF.D.bl q.1)) b v) := ⟨_, dr', fun P w => dictOf_any (dbr_num dr') dk', by have := putY_len (xs := xs) (m := memT (qb b) (xs.map fun q => PF.D.bl q.1)) (b := b) (w := v); rw [List.length_map] at hline; omega, hs⟩
    refine ⟨upd H p (DBO p (putY xs (memT (qb b) (xs.map fun q => PF.D.bl q.1)) b v)), I.write (e := p) (t' := s.toks + 1) hm (.inl rfl) (fun c u hc hu => (sb.2 c hc).trans hu) ⟨ob, g⟩ ⟨ok, ⟨ob, g⟩, fun _ _ z k => db0_stay z k⟩, hQ _ fun H' eH => ?_⟩
    subst eH
    exact .inr ⟨_, ek, upd_same, rr'.mono (upd_kp hnf)⟩
end
end PF
/-! PF3: the operations, by values. -/
namespace PF
open PySem PySem.Spec PyProof.Rows L2

theorem OpR.imp {X : Cx} {f : Value → Value → Sem Value} {r r' : R2} (h : OpR X f r) (i : ∀ x y H Q, r' x y H Q → r x y H Q) : OpR X f r' :=
  fun pins s σ H x y v u Q I rx ry q => h pins s σ H x y v u Q I rx ry (i _ _ _ _ q)
theorem CallR.imp {X : Cx} {f : Value} {r r' : List V → Hp → VK → Prop} (h : CallR X f r) (i : ∀ xs H Q, r' xs H Q → r xs H Q) : CallR X f r' :=
  fun pins s σ H x u Q I rx q => h pins s σ H x u Q I rx (i _ _ _ q)
theorem PE.imp {X : Cx} {e : Expr} {t t' : TE} (h : PE X e t) (i : ∀ σ H Q, t' σ H Q → t σ H Q) : PE X e t' :=
  ⟨fun pins s σ H Q I q => h.run pins s σ H Q I (i _ _ _ q)⟩
theorem PT.imp {X : Cx} {e : Expr} {t t' : TT} (h : PT X e t) (i : ∀ σ H Q, t' σ H Q → t σ H Q) : PT X e t' :=
  ⟨fun pins s σ H Q I q => h.run pins s σ H Q I (i _ _ _ q)⟩
theorem PA.imp {X : Cx} {e : List Expr} {t t' : TA} (h : PA X e t) (i : ∀ σ H Q, t' σ H Q → t σ H Q) : PA X e t' :=
  ⟨fun pos pins s σ H Q I q => h.run pos pins s σ H Q I (i _ _ _ q)⟩
theorem PS.imp {X : Cx} {e : Stmt} {t t' : TS} (h : PS X e t) (i : ∀ D σ H, t' D σ H → t D σ H) : PS X e t' :=
  ⟨fun pins s σ H D I q => h.run pins s σ H D I (i _ _ _ q)⟩
theorem PSs.imp {X : Cx} {e : List Stmt} {t t' : TS} (h : PSs X e t) (i : ∀ D σ H, t' D σ H → t D σ H) : PSs X e t' :=
  ⟨fun pins s σ H D I q => h.run pins s σ H D I (i _ _ _ q)⟩
theorem PI.imp {X : Cx} {tg e : Expr} {t t' : TI} (h : PI X tg e t) (i : ∀ σ H Q, t' σ H Q → t σ H Q) : PI X tg e t' :=
  ⟨fun pins s σ H Q I q => h.run pins s σ H Q I (i _ _ _ q)⟩
theorem PI.or {X : Cx} {tg e : Expr} {t t' : TI} (h : PI X tg e t) (h' : PI X tg e t') : PI X tg e (fun σ H Q => t σ H Q ∨ t' σ H Q) :=
  ⟨fun pins s σ H Q I q => q.elim (h.run pins s σ H Q I) (h'.run pins s σ H Q I)⟩

theorem line_eq : line = sizeLine := by rw [sizeLine_eq]; rfl

/-- what an operation gives -/
def ResR (K : PySem.W.Frag) (H : Hp) (r : Opd) (v : V) (H' : Hp) : Prop :=
  Same H H' ∧ match r with
    | .dat d => Rp K H' d v
    | .own d => ∃ p, v = .ref p ∧ H p = none ∧ OwnAt K H' d p
    | .slot _ => False
theorem res_here {K : PySem.W.Frag} {H : Hp} {d : D} {v : V} (h : Rp K H d v) : ResR K H (.dat d) v H := ⟨Same.refl H, h⟩
theorem res_tup {K : PySem.W.Frag} {H : Hp} {ds : List D} {vs : List V} {p : Addr} {o : Obj} (h : Rps K H ds vs) (n : H p = none) (d : o.dict = none) : ResR K H (.dat (.tup ds)) (.ref p) (upd H p (.frz o (.tup vs))) :=
  ⟨same_new n, p, vs, rfl, .inl ⟨o, upd_same, d⟩, h.mono (kp_same (same_new n))⟩
theorem res_lst {K : PySem.W.Frag} {H : Hp} {ds : List D} {vs : List V} {p : Addr} (h : Rps K H ds vs) (n : H p = none) : ResR K H (.own (.lst ds)) (.ref p) (upd H p (.lst vs)) :=
  ⟨same_new n, p, rfl, n, vs, upd_same, h.mono (kp_same (same_new n))⟩
theorem res_tup_at {K : PySem.W.Frag} {H : Hp} {ds : List D} {vs : List V} {p : Addr} (t : TupAt K H p vs) (h : Rps K H ds vs) : ResR K H (.dat (.tup ds)) (.ref p) H := ⟨Same.refl H, p, vs, rfl, t, h⟩

section
variable {X : Cx} {pins : List (Addr × Obj)} {σ : St} {H : Hp} {s : Shared}
/-- a new tuple, kept as it is -/
theorem inv_tup {xs : List V} {us : List Value} {n : Nat} {t' : Nat} (I : L2.Inv X pins σ H s) (r : Vals xs us) (z : xs.length ≤ sizeLine) :
    L2.Inv X pins σ (upd H s.heap.objs.size (.frz { cls := .type "tuple", data := .seq us.toArray n } (.tup xs))) { s with heap := s.heap.push { cls := .type "tuple", data := .seq us.toArray n }, toks := t' } :=
  I.laid (fun b u e => Heap.get?_push_of_some _ e) (Nat.le_refl _) ⟨Heap.get?_push_size _ rfl, z, us, r, _, Heap.get?_push_size _ rfl, rfl, n, rfl⟩
theorem inv_fresh (I : L2.Inv X pins σ H s) : H s.heap.objs.size = none := I.hok.fresh (Nat.le_refl _)
/-- the end of an operation that lays a new tuple -/
theorem ep_tup {K : PySem.W.Frag} {ds : List D} {xs : List V} {us : List Value} {n : Nat} {t' : Nat} {Q : VK} (I : L2.Inv X pins σ H s) (r : Vals xs us) (z : xs.length ≤ sizeLine) (h : Rps K H ds xs) (q : ∀ v H', ResR K H (.dat (.tup ds)) v H' → Q v H') :
    EP X pins σ Q (.ref s.heap.objs.size) { s with heap := s.heap.push { cls := .type "tuple", data := .seq us.toArray n }, toks := t' } :=
  ⟨.ref s.heap.objs.size, _, inv_tup I r z, rfl, q _ _ (res_tup h (inv_fresh I) rfl)⟩
end

/-- a tuple of written items -/
def tTupF (t : TA) : TE := fun σ H Q => t σ H fun xs H1 => xs.length ≤ sizeLine ∧ ∀ p o, H1 p = none → o.dict = none → Q (.ref p) (upd H1 p (.frz o (.tup xs)))
theorem pe_tupF {X : Cx} {es : List Expr} {t : TA} {x1 pos} (h : PA X es t) : PE X (.Tuple es x1 pos) (tTupF t) := by
  refine ⟨fun pins s σ H Q I hq => ?_⟩
  refine wpAny_Tuple_spliced (thn (h.run pos pins s σ H _ I hq) fun us s1 ⟨xs, H1, I1, r, z, q⟩ => ⟨by rw [← r.length]; exact z, ?_⟩)
  exact ⟨.ref s1.heap.objs.size, _, inv_tup (t' := s1.toks) I1 r z, rfl, q _ _ (inv_fresh I1) rfl⟩

/-! ### two-place operations -/
def rOp2 (K : PySem.W.Frag) (op : Op2) : R2 := fun x y H Q => ∃ d e r, VwR K H d x ∧ VwR K H e y ∧ op2 op d e = some r ∧ ∀ v H', ResR K H r v H' → Q v H'

/-- t + u -/
def rCatF (K : PySem.W.Frag) : R2 := fun x y H Q => ∃ a b xs ys ds es, x = .ref a ∧ y = .ref b ∧ TupAt K H a xs ∧ TupAt K H b ys ∧ Rps K H ds xs ∧ Rps K H es ys ∧ xs.length + ys.length ≤ sizeLine ∧
  ∀ v H', ResR K H (.dat (.tup (ds ++ es))) v H' → Q v H'
theorem op_catF {X : Cx} : OpR X (binaryOp .Add) (rCatF X.K) := by
  intro pins s σ H x y v u Q I rx ry h
  obtain ⟨a, b, xs, ys, ds, es, rfl, rfl, ha, hb, rd, re, hz, q⟩ := h
  cases rx
  cases ry
  obtain ⟨its, r1, p1, _⟩ := I.tuple ha.sq
  obtain ⟨its2, r2, p2, _⟩ := I.tuple hb.sq
  have ldx := rd.length
  have ley := re.length
  by_cases hx : xs = []
  · subst hx
    cases r1
    have hd : ds = [] := List.eq_nil_of_length_eq_zero (by simpa using ldx.symm)
    subst hd
    exact cat_tup0 p1 p2 ⟨.ref b, H, I, rfl, q _ _ (res_tup_at hb re)⟩
  · refine HT.cat_tup p1 p2 (fun z => hx (r1.nil_iff.mp z)) (fun z => ⟨.ref a, H, I, rfl, ?_⟩) (fun z => ?_) (by rw [← r1.length, ← r2.length]; exact hz)
    · have hy : ys = [] := r2.nil_iff.mp z
      subst hy
      have he : es = [] := List.eq_nil_of_length_eq_zero (by simpa using ley.symm)
      subst he
      refine q _ _ ?_
      rw [List.append_nil]
      exact res_tup_at ha rd
    · exact ep_tup (t' := s.toks) I (r1.append r2) (by rw [List.length_append]; exact hz) (rd.append re) q
/-- two lists -/
def rCatL : R2 := fun x y H Q => ∃ l b xs zs, x = .ref l ∧ y = .ref b ∧ Rd H l (.lst xs) ∧ Rd H b (.lst zs) ∧ xs.length + zs.length ≤ sizeLine ∧ ∀ p, H p = none → Q (.ref p) (upd H p (.lst (xs ++ zs)))
theorem op_catL {X : Cx} : OpR X (binaryOp .Add) rCatL := by
  intro pins s σ H x y v u Q I rx ry h
  obtain ⟨l, b, xs, zs, rfl, rfl, hH, hB, hz, q⟩ := h
  cases rx
  cases ry
  obtain ⟨z, its, n, r, e⟩ := hH.ok I.hok
  obtain ⟨z2, its2, n2, r2, e2⟩ := hB.ok I.hok
  have hl := r.length
  have hl2 := r2.length
  refine PySem.P.add_list e e2 ?_ (by rw [List.size_toArray, List.size_toArray]; omega)
  have ea : its.toArray ++ its2.toArray = (its ++ its2).toArray := by simp
  rw [ea]
  exact ⟨.ref _, _, I.lnew (t' := s.toks) (r.append r2) (by rw [List.length_append]; omega), rfl, q _ I.fresh⟩
/-- a tuple, many times -/
theorem tuple_mul_same (l : Addr) (items : Array Value) (n : Nat) (dd : Option Addr) (sl : Array (Option Value)) (x : Int) (u : Tok) (c0 : (decide (x < -(2 ^ 63)) || decide (x ≥ 2 ^ 63)) = false) (c1 : (items.isEmpty || x == 1) = true) :
    Meets (Builtin.«tuple.__mul__» ⟨[.ref l, .int x u], []⟩) (fun _ R s => s.heap.get? l = some { cls := .type "tuple", dict := dd, data := .seq items n, slots := sl } ∧ R (.ok (.ret (Value.ref l))) s) :=
  .of_wp fun prog w A R s h => by
    obtain ⟨hp, g, d, tk, os⟩ := s
    obtain ⟨hl, h⟩ := h
    have f1 := AutoSeq1.idx_int
    wp_walk using wpAny_loadPart' hl
    repeat (first
      | (refine wpAny_ite_false (decide_eq_false (by rw [c0]; exact Bool.false_ne_true)) ?_; wp_walk using wpAny_loadPart' hl)
      | (refine wpAny_ite_true (decide_eq_true c1) ?_; wp_walk using wpAny_loadPart' hl))
    exact ⟨_, rfl, h⟩
theorem tuple_mul_none (l : Addr) (items : Array Value) (n : Nat) (dd : Option Addr) (sl : Array (Option Value)) (x : Int) (u : Tok) (c0 : (decide (x < -(2 ^ 63)) || decide (x ≥ 2 ^ 63)) = false) (c1 : (items.isEmpty || x == 1) = false) (c2 : (decide (x ≤ 0) || items.isEmpty) = true)
    (hsz : (#[] : Array Value).size ≤ sizeLine) :
    Meets (Builtin.«tuple.__mul__» ⟨[.ref l, .int x u], []⟩) (fun _ R s => s.heap.get? l = some { cls := .type "tuple", dict := dd, data := .seq items n, slots := sl } ∧
      R (.ok (.ret (Value.ref s.heap.objs.size))) { s with heap := s.heap.push { cls := Value.type "tuple", data := Data.seq #[] }, toks := s.toks }) :=
  .of_wp fun prog w A R s h => by
    obtain ⟨hp, g, d, tk, os⟩ := s
    obtain ⟨hl, h⟩ := h
    have f1 := AutoSeq1.idx_int
    wp_walk using wpAny_loadPart' hl
    repeat (first
      | (refine wpAny_ite_false (decide_eq_false (by rw [c0]; exact Bool.false_ne_true)) ?_; wp_walk using wpAny_loadPart' hl)
      | (refine wpAny_ite_false (decide_eq_false (by rw [c1]; exact Bool.false_ne_true)) ?_; wp_walk using wpAny_loadPart' hl)
      | (refine wpAny_ite_true (decide_eq_true c2) ?_; wp_walk using wpAny_loadPart' hl)
      | (refine wpAny_ite_false (decide_eq_false (Nat.not_lt.mpr hsz)) ?_; wp_walk using wpAny_loadPart' hl))
    exact ⟨_, rfl, h⟩
def rRepF (K : PySem.W.Frag) : R2 := fun x y H Q => ∃ l k xs ds, x = .ref l ∧ y = .int k ∧ TupAt K H l xs ∧ Rps K H ds xs ∧ -(2 ^ 63) ≤ k ∧ k < 2 ^ 63 ∧ xs.length * k.toNat ≤ sizeLine ∧
  ∀ v H', ResR K H (.dat (.tup (List.replicate k.toNat ds).flatten)) v H' → Q v H'
theorem op_repF {X : Cx} : OpR X (binaryOp .Mult) (rRepF X.K) := by
  intro pins s σ H x y v u Q I rx ry h
  obtain ⟨l, k, xs, ds, rfl, rfl, hT, rd, h1, h2, hz, q⟩ := h
  cases rx
  obtain ⟨t, rfl⟩ := ry
  obtain ⟨its, r, ⟨⟨cls, dd, data, sl⟩, ho, hc, n, hd⟩, hs⟩ := I.tuple hT.sq
  simp only at hc hd
  subst hc hd
  have hle : its.length = xs.length := r.length.symm
  have hld := rd.length
  have c0 : (decide (k < -(2 ^ 63)) || decide (k ≥ 2 ^ 63)) = false := by
    rw [decide_eq_false (by omega), decide_eq_false (by omega)] <;> rfl
  refine wpAny_binaryOp_repeat_ref (T := "tuple") (U := "int") (by decide) ⟨_, ho, rfl⟩ (fun s' => typeIs_int s' k t) noFill_tuple_mul F.fills_int_mul F.slot_int_rmul repeat_tuple F.slot_int_index.lookup
    (call_meets F.slot_int_rmul (typeIs_int s k t) F.entry_int_rmul (F.args_int_rmul_2 _ _) (int_rmul_tuple k t l its.toArray n dd sl)
      ⟨ho, rfl, ⟨_, ho, rfl⟩, ?_⟩)
  by_cases hsame : (its.toArray.isEmpty || k == 1) = true
  · refine call_meets F.slot_tuple_mul ⟨_, ho, rfl⟩ F.entry_tuple_mul (F.args_tuple_mul_2 _ _) (tuple_mul_same l its.toArray n dd sl k t c0 hsame) ⟨ho, ?_⟩
    refine ⟨.ref l, H, I, rfl, q _ _ ?_⟩
    have e : (List.replicate k.toNat ds).flatten = ds := by
      rcases Bool.or_eq_true _ _ ▸ hsame with e | e
      · have : its = [] := by simpa using e
        have : ds = [] := List.eq_nil_of_length_eq_zero (by rw [← hld, ← hle, this]; rfl)
        rw [this]
        simp
      · have : k = 1 := by simpa using e
        rw [this]
        show (List.replicate 1 ds).flatten = ds
        simp
    rw [e]
    exact res_tup_at hT rd
  · have c1 : (its.toArray.isEmpty || k == 1) = false := by simpa using hsame
    have hne : its.toArray.isEmpty = false := (Bool.or_eq_false_iff.mp c1).1
    by_cases hk : k ≤ 0
    · refine call_meets F.slot_tuple_mul ⟨_, ho, rfl⟩ F.entry_tuple_mul (F.args_tuple_mul_2 _ _) (tuple_mul_none l its.toArray n dd sl k t c0 c1 (by rw [decide_eq_true hk]; rfl) (Nat.zero_le _)) ⟨ho, ?_⟩
      have e : k.toNat = 0 := by omega
      rw [e] at q
      exact ep_tup (us := []) (t' := s.toks) I .nil (Nat.zero_le _) .nil q
    · have c2 : (decide (k ≤ 0) || its.toArray.isEmpty) = false := by rw [hne, Bool.or_false]; exact decide_eq_false hk
      have hsz0 : its.toArray.size = xs.length := by rw [List.size_toArray, hle]
      have hm : ((its.toArray.size : Nat) : Int) * k ≤ 16777216 := by
        rw [hsz0]
        rw [sizeLine_eq] at hz
        have : ((xs.length * k.toNat : Nat) : Int) ≤ 16777216 := by omega
        rw [Int.natCast_mul, Int.toNat_of_nonneg (by omega)] at this
        exact this
      have flen : (List.replicate k.toNat its).flatten.length ≤ sizeLine := by
        rw [PyProof.Rows.lm_len_rep_flat, hle, Nat.mul_comm]
        exact hz
      have c4 : Builtin.Tuple.tupleTooMany (((its.toArray.size : Nat) : Int) * k) = false := by
        unfold Builtin.Tuple.tupleTooMany
        rw [sizeLine_eq]
        exact decide_eq_false (by omega)
      refine call_meets F.slot_tuple_mul ⟨_, ho, rfl⟩ F.entry_tuple_mul (F.args_tuple_mul_2 _ _) (tuple_mulW l its.toArray n dd sl k t c0 c1 c2 (by omega) c4 (by rw [size_rep, List.size_toArray]; exact flen)) ⟨ho, ?_⟩
      rw [size_rep]
      exact ep_tup (t' := s.toks) I (r.rep k.toNat) (by rw [PyProof.Rows.lm_len_rep_flat, Nat.mul_comm]; exact hz) (rd.rep _) q
/-- a list, many times -/
def rRepL : R2 := fun x y H Q => ∃ l k xs, x = .ref l ∧ y = .int k ∧ Rd H l (.lst xs) ∧ -(2 ^ 63) ≤ k ∧ k < 2 ^ 63 ∧ xs.length * k.toNat ≤ sizeLine ∧
  ∀ p, H p = none → Q (.ref p) (upd H p (.lst (List.replicate k.toNat xs).flatten))
theorem op_repL {X : Cx} : OpR X (binaryOp .Mult) rRepL := by
  intro pins s σ H x y v u Q I rx ry h
  obtain ⟨l, k, xs, rfl, rfl, hH, h1, h2, hz, q⟩ := h
  cases rx
  obtain ⟨t, rfl⟩ := ry
  obtain ⟨z, its, n, r, e⟩ := hH.ok I.hok
  have hl := r.length
  have hlen : its.toArray.size * k.toNat ≤ sizeLine := by rw [List.size_toArray, ← hl]; exact hz
  have hcap : ¬ its.toArray.size * k.toNat > (2 ^ 63 - 1) / 8 := by
    have : (sizeLine : Nat) ≤ (2 ^ 63 - 1) / 8 := by decide
    omega
  have hfit : ¬ (!Builtin.List.listFitsIndex k) = true := by
    rw [fitsIndex_both h1 h2]
    exact Bool.false_ne_true
  have hlong : ¬ Builtin.List.listTooLong (its.toArray.size * k.toNat) = true := by
    rw [notLongL hlen]
    exact Bool.false_ne_true
  have hnew : List.foldl (fun x1 x2 => x1 ++ x2) #[] (List.replicate (if its.toArray.isEmpty = true then 0 else k.toNat) its.toArray) = (List.replicate k.toNat its).flatten.toArray := by
    have f0 : ∀ m : Nat, List.foldl (fun x1 x2 => x1 ++ x2) #[] (List.replicate m its.toArray) = (List.replicate m its).flatten.toArray := fun m => by
      have := foldl_rep its m []
      rw [List.nil_append] at this
      exact this
    rw [f0]
    cases its with
    | nil => simp
    | cons a r' => rw [if_neg (by simp)]
  refine wpAny_binaryOp_repeat_ref (T := "list") (U := "int") (by decide) ⟨_, e, rfl⟩ (fun s' => typeIs_int s' k t) noFill_list_mul F.fills_int_mul F.slot_int_rmul repeat_list F.slot_int_index.lookup
    (call_meets F.slot_int_rmul (typeIs_int s k t) F.entry_int_rmul (F.args_int_rmul_2 _ _) (int___rmul___int_list k t l its.toArray n)
      ⟨e, rfl, ⟨_, e, rfl⟩, call_meets F.slot_list_mul ⟨_, e, rfl⟩ F.entry_list_mul (F.args_list_mul_2 _ _) (AutoListH.list___mul___list_int_3 l its.toArray n k t hfit hcap hlong) ⟨e, ?_⟩⟩)
  rw [hnew]
  exact ⟨.ref _, _, I.lnew (t' := s.toks) (r.rep k.toNat) (by rw [PyProof.Rows.lm_len_rep_flat, Nat.mul_comm]; exact hz), rfl, q _ I.fresh⟩
def Op2.py : Op2 → Operator
  | .add => .Add | .sub => .Sub | .mul => .Mult | .fdiv => .FloorDiv | .mod => .Mod | .pow => .Pow | .shl => .LShift | .shr => .RShift | .band => .BitAnd | .bor => .BitOr | .bxor => .BitXor
section
variable {X : Cx}
theorem small_of {i : Int} (h : small64 i = true) : -(2 ^ 64) < i ∧ i < 2 ^ 64 := by
  unfold small64 at h
  simpa using h
theorem op_mulA : OpR X (binaryOp .Mult) (rI (fun i j => (small64 i || small64 j || decide (i.natAbs.log2 + j.natAbs.log2 < 1000000)) = true) fun i j => .int (i * j)) := by
  intro pins s σ H x y v u Q I rx ry h
  obtain ⟨i, j, rfl, rfl, hc, q⟩ := h
  simp only [Bool.or_eq_true, decide_eq_true_eq] at hc
  rcases hc with (hc | hc) | hc
  · exact op_mul pins s σ H _ _ v u Q I rx ry ⟨i, j, rfl, rfl, .inl (small_of hc), q⟩
  · exact op_mul pins s σ H _ _ v u Q I rx ry ⟨i, j, rfl, rfl, .inr (small_of hc), q⟩
  · exact op_mulW pins s σ H _ _ v u Q I rx ry ⟨i, j, rfl, rfl, hc, q⟩
theorem op_fdivA : OpR X (binaryOp .FloorDiv) (rI (fun _ j => 0 < j ∧ (j < 1073741824 ∨ j.natAbs.log2 < 9000)) fun i j => .int (i / j)) := by
  intro pins s σ H x y v u Q I rx ry h
  obtain ⟨i, j, rfl, rfl, ⟨h0, hc⟩, q⟩ := h
  rcases hc with hc | hc
  · exact op_fdiv pins s σ H _ _ v u Q I rx ry ⟨i, j, rfl, rfl, ⟨h0, hc⟩, q⟩
  · exact op_fdivW pins s σ H _ _ v u Q I rx ry ⟨i, j, rfl, rfl, ⟨h0, hc⟩, q⟩
theorem opR2 (op : Op2) : OpR X (binaryOp op.py) (rOp2 X.K op) := by
  cases op with
  | add =>
    refine OpR.imp (((((op_add (X := X)).or op_add_ib).or op_add_str).or op_catF).or op_catL) fun x y H Q h => ?_
    obtain ⟨d, e, r, vd, ve, ho, q⟩ := h
    cases d with
    | int i =>
      cases e with
      | int j => cases ho; exact .inl (.inl (.inl (.inl ⟨i, j, vd.int, ve.int, q _ _ (res_here rfl)⟩)))
      | bl j => cases ho; exact .inl (.inl (.inl (.inr ⟨i, j, vd.int, ve.bl, q _ _ (res_here rfl)⟩)))
      | _ => cases ho
    | str i =>
      cases e with
      | str j =>
        simp only [op2] at ho
        split at ho
        · rename_i hz
          cases ho
          exact .inl (.inl (.inr ⟨i, j, vd.str, ve.str, by rw [← line_eq]; exact hz, q _ _ (res_here rfl)⟩))
        · cases ho
      | _ => cases ho
    | tup ds =>
      cases e with
      | tup es =>
        simp only [op2] at ho
        split at ho
        · rename_i hz
          cases ho
          obtain ⟨p, vs, rfl, t, rd⟩ := vd.tup
          obtain ⟨p2, vs2, rfl, t2, rd2⟩ := ve.tup
          exact .inl (.inr ⟨p, p2, vs, vs2, ds, es, rfl, rfl, t, t2, rd, rd2, by rw [← line_eq, rd.length, rd2.length]; exact hz, q⟩)
        · cases ho
      | _ => cases ho
    | lst ds =>
      cases e with
      | lst es =>
        simp only [op2] at ho
        split at ho
        · rename_i hz
          cases ho
          obtain ⟨p, vs, rfl, t, rd⟩ := vd.lst
          obtain ⟨p2, vs2, rfl, t2, rd2⟩ := ve.lst
          exact .inr ⟨p, p2, vs, vs2, rfl, rfl, t, t2, by rw [← line_eq, rd.length, rd2.length]; exact hz, fun p n => q _ _ (res_lst (rd.append rd2) n)⟩
        · cases ho
      | _ => cases ho
    | _ => cases ho
  | mul =>
    refine OpR.imp (((op_mulA (X := X)).or op_repF).or op_repL) fun x y H Q h => ?_
    obtain ⟨d, e, r, vd, ve, ho, q⟩ := h
    cases d with
    | int i =>
      cases e with
      | int j =>
        simp only [op2] at ho
        split at ho
        · rename_i hz
          cases ho
          exact .inl (.inl ⟨i, j, vd.int, ve.int, hz, q _ _ (res_here rfl)⟩)
        · cases ho
      | _ => cases ho
    | tup ds =>
      cases e with
      | int k =>
        simp only [op2] at ho
        split at ho
        · rename_i hz
          cases ho
          obtain ⟨p, vs, rfl, t, rd⟩ := vd.tup
          exact .inl (.inr ⟨p, k, vs, ds, rfl, ve.int, t, rd, hz.2.1, hz.2.2, by rw [← line_eq, rd.length]; exact hz.1, q⟩)
        · cases ho
      | _ => cases ho
    | lst ds =>
      cases e with
      | int k =>
        simp only [op2] at ho
        split at ho
        · rename_i hz
          cases ho
          obtain ⟨p, vs, rfl, t, rd⟩ := vd.lst
          exact .inr ⟨p, k, vs, rfl, ve.int, t, hz.2.1, hz.2.2, by rw [← line_eq, rd.length]; exact hz.1, fun p n => q _ _ (res_lst (rd.rep _) n)⟩
        · cases ho
      | _ => cases ho
    | _ => cases ho
  | sub =>
    refine OpR.imp (op_sub (X := X)) fun x y H Q h => ?_
    obtain ⟨d, e, r, vd, ve, ho, q⟩ := h
    cases d <;> cases e <;> first | (cases ho; done) | (cases ho; exact ⟨_, _, vd.int, ve.int, q _ _ (res_here rfl)⟩)
  | fdiv =>
    refine OpR.imp (op_fdivA (X := X)) fun x y H Q h => ?_
    obtain ⟨d, e, r, vd, ve, ho, q⟩ := h
    cases d <;> cases e <;> first | (cases ho; done) | (simp only [op2] at ho; split at ho <;> first | (cases ho; done) | (rename_i hz; cases ho; exact ⟨_, _, vd.int, ve.int, hz, q _ _ (res_here rfl)⟩))
  | mod =>
    refine OpR.imp (op_mod (X := X)) fun x y H Q h => ?_
    obtain ⟨d, e, r, vd, ve, ho, q⟩ := h
    cases d <;> cases e <;> first | (cases ho; done) | (simp only [op2] at ho; split at ho <;> first | (cases ho; done) | (rename_i hz; cases ho; exact ⟨_, _, vd.int, ve.int, hz, q _ _ (res_here rfl)⟩))
  | pow =>
    refine OpR.imp (op_pow (X := X)) fun x y H Q h => ?_
    obtain ⟨d, e, r, vd, ve, ho, q⟩ := h
    cases d <;> cases e <;> first | (cases ho; done) | (simp only [op2] at ho; split at ho <;> first | (cases ho; done) | (rename_i hz; cases ho; exact ⟨_, _, vd.int, ve.int, hz, q _ _ (res_here rfl)⟩))
  | shl =>
    refine OpR.imp (op_shlW (X := X)) fun x y H Q h => ?_
    obtain ⟨d, e, r, vd, ve, ho, q⟩ := h
    cases d <;> cases e <;> first | (cases ho; done) | (simp only [op2] at ho; split at ho <;> first | (cases ho; done) | (rename_i hz; cases ho; exact ⟨_, _, vd.int, ve.int, hz, q _ _ (res_here rfl)⟩))
  | shr =>
    refine OpR.imp (op_shr (X := X)) fun x y H Q h => ?_
    obtain ⟨d, e, r, vd, ve, ho, q⟩ := h
    cases d <;> cases e <;> first | (cases ho; done) | (simp only [op2] at ho; split at ho <;> first | (cases ho; done) | (rename_i hz; cases ho; exact ⟨_, _, vd.int, ve.int, hz, q _ _ (res_here rfl)⟩))
  | band =>
    refine OpR.imp (op_and (X := X)) fun x y H Q h => ?_
    obtain ⟨d, e, r, vd, ve, ho, q⟩ := h
    cases d <;> cases e <;> first | (cases ho; done) | (cases ho; exact ⟨_, _, vd.int, ve.int, q _ _ (res_here rfl)⟩)
  | bor =>
    refine OpR.imp (op_or (X := X)) fun x y H Q h => ?_
    obtain ⟨d, e, r, vd, ve, ho, q⟩ := h
    cases d <;> cases e <;> first | (cases ho; done) | (cases ho; exact ⟨_, _, vd.int, ve.int, q _ _ (res_here rfl)⟩)
  | bxor =>
    refine OpR.imp (op_xor (X := X)) fun x y H Q h => ?_
    obtain ⟨d, e, r, vd, ve, ho, q⟩ := h
    cases d <;> cases e <;> first | (cases ho; done) | (cases ho; exact ⟨_, _, vd.int, ve.int, q _ _ (res_here rfl)⟩)
end

/-! ### comparisons -/
def Cm.py : Cm → CmpOp
  | .eq => .Eq | .ne => .NotEq | .lt => .Lt | .le => .LtE | .gt => .Gt | .ge => .GtE | .isin => .In | .notin => .NotIn | .is => .Is | .isnot => .IsNot
def rCm (K : PySem.W.Frag) (op : Cm) : R2 := fun x y H Q => ∃ d e b, VwR K H d x ∧ VwR K H e y ∧ cm op d e = some b ∧ Q (.bl b) H
theorem pys_map : ∀ ds : List D, D.pys ds = ds.map D.py
  | [] => rfl
  | d :: ds => by rw [List.map_cons, ← pys_map ds]; rfl
theorem memD_py (x : D) (ys : List D) : ((D.pys ys).any fun z => PyData.eqv z x.py) = memD x ys := by
  rw [pys_map, List.any_map]
  rfl
section
variable {X : Cx}
/-- in, not in, of a tuple -/
def rInT (K : PySem.W.Frag) (neg : Bool) : R2 := fun x y H Q => ∃ d ds, Dp K H x d ∧ Dp K H y (.tuple ds) ∧ SeqAt.shaped d = true ∧ SeqAt.shaped (.tuple ds) = true ∧ Q (.bl (if neg then !ds.any fun z => PyData.eqv z d else ds.any fun z => PyData.eqv z d)) H
theorem op_inT (hu : X.A.units + 65 < cLine) : OpR X (compareOp .In) (rInT X.K false) := by
  intro pins s σ H x y v u Q I rx ry h
  obtain ⟨d, ds, hd, he, sd, se, q⟩ := h
  obtain ⟨as, r1⟩ := Dp.reads I d x v hd rx
  obtain ⟨bs, r2⟩ := Dp.reads I (.tuple ds) y u he ry
  exact SeqAt.in_tuple_reads r2 r1 (SeqAt.canLay_of_shaped se) (SeqAt.canLay_of_shaped sd) (room_in_shaped sd hu) ⟨.bl _, H, I, rfl, q⟩
theorem op_notInT (hu : X.A.units + 65 < cLine) : OpR X (compareOp .NotIn) (rInT X.K true) := by
  intro pins s σ H x y v u Q I rx ry h
  obtain ⟨d, ds, hd, he, sd, se, q⟩ := h
  obtain ⟨as, r1⟩ := Dp.reads I d x v hd rx
  obtain ⟨bs, r2⟩ := Dp.reads I (.tuple ds) y u he ry
  exact SeqAt.notIn_tuple_reads r2 r1 (SeqAt.canLay_of_shaped se) (SeqAt.canLay_of_shaped sd) (room_in_shaped sd hu) ⟨.bl _, H, I, rfl, q⟩
theorem VwR.dec_non {K : PySem.W.Frag} {H : Hp} {d : D} {v : V} (h : VwR K H d v) : decide (v = .non) = d.isNon := by
  cases d with
  | non => rw [h.non]; rfl
  | bl b => rw [h.bl]; rfl
  | int b => rw [h.int]; rfl
  | str b => rw [h.str]; rfl
  | tup ds => obtain ⟨p, vs, rfl, _⟩ := h.tup; rfl
  | lst ds => obtain ⟨p, vs, rfl, _⟩ := h.lst; rfl
  | set ds => obtain ⟨p, ns, rfl, _⟩ := h.set; rfl
  | dct ds es => obtain ⟨p, kvs, rfl, _⟩ := h.dct; rfl
  | dkt ds es => obtain ⟨p, rfl, _⟩ := h.dkt; rfl
  | fn f => rcases h with h | ⟨p, rfl, h⟩ <;> exact h.elim
theorem shp_sh {d : D} (h : shp d = true) : SeqAt.shaped d.py = true := by
  unfold shp at h
  rw [Bool.and_eq_true] at h
  exact h.2
/-! ### sets and dicts of numbers -/
theorem iset_get {X : Cx} {pins : List (Addr × Obj)} {σ : St} {H : Hp} {s : Shared} {a : Addr} {ns : List Int} (I : L2.Inv X pins σ H s) (ha : H a = some (ISet a ns)) : s.heap.SetOf (intKind X.prog X.w) a (fun k => decide (k ∈ ns)) ns.length := by
  obtain ⟨o, h1, h2, h3⟩ := (I.hok a _ ha).1
  exact (h2.kind X.prog X.w).setOf h1 (by unfold scanBound; omega)
theorem iset_new {w : World} {P : Program} {H : Hp} {h : Heap} {a : Addr} {ns : List Int} (R : h.SetOf (intKind P w) a (fun k => decide (k ∈ ns)) ns.length) (hl : ns.length < 4000) : ObjOk P w H h a (ISet a ns) := by
  obtain ⟨o, ho, so⟩ := R.objOf
  refine ⟨⟨o, ho, so.intSetOf, hl⟩, ⟨o, ho⟩, fun h1 h2 p k => ?_⟩
  obtain ⟨o', e1, e2⟩ := p
  exact ⟨o', k o' e1, e2⟩
theorem memI_map (k : Int) (ns : List Int) : memI k (ns.map D.int) = decide (k ∈ ns) := by
  induction ns with
  | nil => simp [memI]
  | cons n ns ih =>
    simp only [memI, List.map_cons, List.any_cons] at ih ⊢
    rw [ih]
    by_cases h : n = k
    · simp [h]
    · have : ¬ k = n := fun z => h z.symm
      simp [h, this]
theorem memI_dct (k : Int) (kvs : List (Int × V)) : memI k (kvs.map fun q => D.int q.1) = (valV (dK kvs) (Sum.inl k)).isSome := by
  induction kvs with
  | nil => rfl
  | cons q kvs ih =>
    simp only [memI, List.map_cons, List.any_cons] at ih ⊢
    rw [ih]
    by_cases h : q.1 = k
    · rw [valV_pos (p := (Sum.inl q.1, q.2)) (by rw [h])]; simp [h]
    · rw [valV_neg (p := (Sum.inl q.1, q.2)) (by simpa using h)]; simp [h]
theorem op_inS (neg : Bool) : OpR X (compareOp (if neg then .NotIn else .In)) (fun x y H Q => ∃ k a ns, x = .int k ∧ y = .ref a ∧ H a = some (ISet a ns) ∧ Q (.bl (if neg then !decide (k ∈ ns) else decide (k ∈ ns))) H) := by
  intro pins s σ H x y v u Q I rx ry ⟨k, a, ns, e1, e2, ha, q⟩
  subst e1 e2
  cases ry
  obtain ⟨t, rfl⟩ := rx
  cases neg with
  | false => exact wpAny_inSet_of (knd := intKind X.prog X.w) (intKind_is _ _ k t) rfl (iset_get I ha) ⟨.bl _, H, I.tok _, rfl, q⟩
  | true => exact wpAny_notInSet_of (knd := intKind X.prog X.w) (intKind_is _ _ k t) rfl (iset_get I ha) ⟨.bl _, H, I.tok _, rfl, q⟩
theorem op_inDct (hu : X.A.units + 1 < cLine) (neg : Bool) : OpR X (compareOp (if neg then .NotIn else .In)) (fun x y H Q => ∃ a o, y = .ref a ∧ DGet H a x o ∧ Q (.bl (if neg then !o.isSome else o.isSome)) H) := by
  intro pins s σ H x y v u Q I rx ry ⟨a, o, e2, g, q⟩
  subst e2
  cases ry
  cases neg with
  | false => exact d_in hu I g rx fun s' I' => ⟨.bl _, H, I', rfl, q⟩
  | true => exact d_notIn hu I g rx fun s' I' => ⟨.bl _, H, I', rfl, q⟩
/-- <, >, <=, >= of data of one kind -/
def rOrd (K : PySem.W.Frag) (f : PyData → PyData → Bool) : R2 := fun x y H Q => ∃ d e, Dp K H x d ∧ Dp K H y e ∧ PySem.W.alike d e = true ∧ d ≠ .none ∧ SeqAt.shaped d = true ∧ Q (.bl (f d e)) H
theorem op_ord (hu : X.A.units + 64 < cLine) {o : CmpOp} {f : PyData → PyData → Bool} (h : ∀ {s : Shared} {a b : Value} {da db : PyData} {as bs : List Addr} {Q : Value → Shared → Prop}, Reads s.heap a da as → Reads s.heap b db bs → PySem.W.alike da db = true → da ≠ .none →
    X.A.units + min da.depth db.depth < cLine → Q (.bool (f da db)) s → wpAny (model X.prog X.w) X.A (compareOp o a b) Q X.xe s) : OpR X (compareOp o) (rOrd X.K f) := by
  intro pins s σ H x y v u Q I rx ry ⟨d, e, hd, he, al, ne, sh, q⟩
  obtain ⟨as, r1⟩ := Dp.reads I d x v hd rx
  obtain ⟨bs, r2⟩ := Dp.reads I e y u he ry
  exact h r1 r2 al ne (SeqAt.room_of_shaped sh hu) ⟨.bl _, H, I, rfl, q⟩
theorem VwR.alk {K : PySem.W.Frag} {H : Hp} {xs ys : List D} {x y : V} (h : VwR K H (.tup xs) x) (h2 : VwR K H (.tup ys) y) (a : alk (.tup xs) (.tup ys) = true) :
    ∃ d e, d = (D.tup xs).py ∧ e = (D.tup ys).py ∧ Dp K H x d ∧ Dp K H y e ∧ PySem.W.alike d e = true ∧ d ≠ .none ∧ SeqAt.shaped d = true := by
  unfold PF.alk at a
  rw [Bool.and_eq_true, Bool.and_eq_true] at a
  obtain ⟨p, vs, rfl, t, rd⟩ := h.tup
  obtain ⟨p2, vs2, rfl, t2, rd2⟩ := h2.tup
  exact ⟨_, _, rfl, rfl, .tup t.sq (rd.dp (shp_lay a.1.2)), .tup t2.sq (rd2.dp (shp_lay a.2)), a.1.1, (fun z => by simp [D.py] at z), shp_sh a.1.2⟩
theorem dkt_in {d e : D} {x y : V} {b : Bool} {Q : VK} (vd : VwR X.K H d x) (ve : VwR X.K H e y) (ho : inT d e = some b) (q : Q (.bl b) H) : ∃ d' e' ks vs q', VwR X.K H d' x ∧ VwR X.K H e' y ∧ dkv e' = some (ks, vs) ∧ ckey ks d' = some q' ∧ Q (.bl (if false = true then !memT q' ks else memT q' ks)) H := by
  unfold inT at ho
  split at ho
  · rename_i ks vs h
    obtain ⟨q', h2, rfl⟩ := Option.map_eq_some_iff.mp ho
    exact ⟨d, e, ks, vs, q', vd, ve, h, h2, q⟩
  · cases ho
theorem dkt_notin {d e : D} {x y : V} {b : Bool} {Q : VK} (vd : VwR X.K H d x) (ve : VwR X.K H e y) (ho : (inT d e).map (!·) = some b) (q : Q (.bl b) H) : ∃ d' e' ks vs q', VwR X.K H d' x ∧ VwR X.K H e' y ∧ dkv e' = some (ks, vs) ∧ ckey ks d' = some q' ∧ Q (.bl (if true = true then !memT q' ks else memT q' ks)) H := by
  obtain ⟨b', h1, rfl⟩ := Option.map_eq_some_iff.mp ho
  unfold inT at h1
  split at h1
  · rename_i ks vs h
    obtain ⟨q', h2, rfl⟩ := Option.map_eq_some_iff.mp h1
    exact ⟨d, e, ks, vs, q', vd, ve, h, h2, q⟩
  · cases h1
theorem cmR (hu : X.A.units + 65 < cLine) (op : Cm) : OpR X (compareOp op.py) (rCm X.K op) := by
  have hu0 : X.A.units < cLine := by omega
  have hu1 : X.A.units + 64 < cLine := by omega
  have hu2 : X.A.units + 1 < cLine := by omega
  cases op with
  | eq =>
    refine OpR.imp (op_eqD hu1) fun x y H Q h => ?_
    obtain ⟨d, e, b, vd, ve, ho, q⟩ := h
    simp only [cm] at ho
    split at ho
    · rename_i hs
      rw [Bool.and_eq_true] at hs
      cases ho
      exact ⟨_, _, vd.dp hs.1, ve.dp hs.2, shp_sh hs.1, shp_sh hs.2, q⟩
    · cases ho
  | ne =>
    refine OpR.imp (op_neD hu1) fun x y H Q h => ?_
    obtain ⟨d, e, b, vd, ve, ho, q⟩ := h
    simp only [cm] at ho
    split at ho
    · rename_i hs
      rw [Bool.and_eq_true] at hs
      cases ho
      exact ⟨_, _, vd.dp hs.1, ve.dp hs.2, shp_sh hs.1, shp_sh hs.2, q⟩
    · cases ho
  | lt =>
    refine OpR.imp (((op_lt (X := X)).or (op_ltT hu0)).or (op_ord hu1 (o := .Lt) (f := PySem.W.dataLt) PySem.W.lt_data)) fun x y H Q h => ?_
    obtain ⟨d, e, b, vd, ve, ho, q⟩ := h
    cases d with
    | int i =>
      cases e with
      | int j => cases ho; exact .inl (.inl ⟨i, j, vd.int, ve.int, q⟩)
      | _ => cases ho
    | tup ds =>
      cases e with
      | tup es =>
        simp only [cm] at ho
        split at ho
        · rename_i a b e1 e2
          cases ho
          obtain ⟨p, vs, rfl, t, rd⟩ := vd.tup
          obtain ⟨p2, vs2, rfl, t2, rd2⟩ := ve.tup
          have h1 := rd.intsD e1
          have h2 := rd2.intsD e2
          subst h1 h2
          exact .inl (.inr ⟨p, p2, _, _, rfl, rfl, t.sq, t2.sq, q⟩)
        · split at ho
          · rename_i ha
            cases ho
            obtain ⟨d, e, rfl, rfl, r1, r2, r3, r4, r5⟩ := vd.alk ve ha
            exact .inr ⟨_, _, r1, r2, r3, r4, r5, q⟩
          · cases ho
      | _ => cases ho
    | _ => cases ho
  | le =>
    refine OpR.imp ((op_le (X := X)).or (op_ord hu1 (o := .LtE) (f := fun a b => !PySem.W.dataLt b a) PySem.W.le_data)) fun x y H Q h => ?_
    obtain ⟨d, e, b, vd, ve, ho, q⟩ := h
    cases d <;> cases e <;> first | (cases ho; done) | (cases ho; exact .inl ⟨_, _, vd.int, ve.int, q⟩) | skip
    simp only [cm] at ho
    split at ho
    · rename_i ha
      cases ho
      obtain ⟨d, e, rfl, rfl, r1, r2, r3, r4, r5⟩ := vd.alk ve ha
      exact .inr ⟨_, _, r1, r2, r3, r4, r5, q⟩
    · cases ho
  | gt =>
    refine OpR.imp ((op_gt (X := X)).or (op_ord hu1 (o := .Gt) (f := fun a b => PySem.W.dataLt b a) PySem.W.gt_data)) fun x y H Q h => ?_
    obtain ⟨d, e, b, vd, ve, ho, q⟩ := h
    cases d <;> cases e <;> first | (cases ho; done) | (cases ho; exact .inl ⟨_, _, vd.int, ve.int, q⟩) | skip
    simp only [cm] at ho
    split at ho
    · rename_i ha
      cases ho
      obtain ⟨d, e, rfl, rfl, r1, r2, r3, r4, r5⟩ := vd.alk ve ha
      exact .inr ⟨_, _, r1, r2, r3, r4, r5, q⟩
    · cases ho
  | ge =>
    refine OpR.imp ((op_ge (X := X)).or (op_ord hu1 (o := .GtE) (f := fun a b => !PySem.W.dataLt a b) PySem.W.ge_data)) fun x y H Q h => ?_
    obtain ⟨d, e, b, vd, ve, ho, q⟩ := h
    cases d <;> cases e <;> first | (cases ho; done) | (cases ho; exact .inl ⟨_, _, vd.int, ve.int, q⟩) | skip
    simp only [cm] at ho
    split at ho
    · rename_i ha
      cases ho
      obtain ⟨d, e, rfl, rfl, r1, r2, r3, r4, r5⟩ := vd.alk ve ha
      exact .inr ⟨_, _, r1, r2, r3, r4, r5, q⟩
    · cases ho
  | isin =>
    refine OpR.imp (((op_inD hu).or (op_inT hu)).or (((op_inS (X := X) false).or (op_inDct hu2 false)).or (op_inDkt hu false))) fun x y H Q h => ?_
    obtain ⟨d, e, b, vd, ve, ho, q⟩ := h
    cases e with
    | lst es =>
      simp only [cm] at ho
      split at ho
      · rename_i hs
        rw [Bool.and_eq_true] at hs
        cases ho
        refine .inl (.inl ⟨_, _, vd.dp hs.1, ve.dp hs.2, shp_sh hs.1, shp_sh hs.2, ?_⟩)
        rw [memD_py]; exact q
      · cases ho
    | tup es =>
      simp only [cm] at ho
      split at ho
      · rename_i hs
        rw [Bool.and_eq_true] at hs
        cases ho
        refine .inl (.inr ⟨_, _, vd.dp hs.1, ve.dp hs.2, shp_sh hs.1, shp_sh hs.2, ?_⟩)
        rw [memD_py]; exact q
      · cases ho
    | set es =>
      cases d with
      | int k =>
        cases ho
        obtain ⟨p, ns, rfl, rfl, hp⟩ := ve.set
        refine .inr (.inl (.inl ⟨k, p, ns, vd.int, rfl, hp, ?_⟩))
        rw [memI_map] at q; exact q
      | _ => cases ho
    | dct ks vs =>
      cases d with
      | int k =>
        cases ho
        obtain ⟨p, kvs, rfl, rfl, hp, _⟩ := ve.dct
        refine .inr (.inl (.inr ⟨p, _, rfl, by rw [vd.int]; exact .inl ⟨_, Sum.inl k, hp, rfl, rfl⟩, ?_⟩))
        rw [memI_dct] at q; exact q
      | _ => exact .inr (.inr (dkt_in vd ve ho q))
    | dkt ks vs => exact .inr (.inr (dkt_in vd ve (by cases d <;> exact ho) q))
    | _ => cases d <;> cases ho
  | notin =>
    refine OpR.imp (((op_notInD hu).or (op_notInT hu)).or (((op_inS (X := X) true).or (op_inDct hu2 true)).or (op_inDkt hu true))) fun x y H Q h => ?_
    obtain ⟨d, e, b, vd, ve, ho, q⟩ := h
    cases e with
    | lst es =>
      simp only [cm] at ho
      split at ho
      · rename_i hs
        rw [Bool.and_eq_true] at hs
        cases ho
        refine .inl (.inl ⟨_, _, vd.dp hs.1, ve.dp hs.2, shp_sh hs.1, shp_sh hs.2, ?_⟩)
        rw [memD_py]; exact q
      · cases ho
    | tup es =>
      simp only [cm] at ho
      split at ho
      · rename_i hs
        rw [Bool.and_eq_true] at hs
        cases ho
        refine .inl (.inr ⟨_, _, vd.dp hs.1, ve.dp hs.2, shp_sh hs.1, shp_sh hs.2, ?_⟩)
        rw [memD_py]; exact q
      · cases ho
    | set es =>
      cases d with
      | int k =>
        cases ho
        obtain ⟨p, ns, rfl, rfl, hp⟩ := ve.set
        refine .inr (.inl (.inl ⟨k, p, ns, vd.int, rfl, hp, ?_⟩))
        rw [memI_map] at q; exact q
      | _ => cases ho
    | dct ks vs =>
      cases d with
      | int k =>
        cases ho
        obtain ⟨p, kvs, rfl, rfl, hp, _⟩ := ve.dct
        refine .inr (.inl (.inr ⟨p, _, rfl, by rw [vd.int]; exact .inl ⟨_, Sum.inl k, hp, rfl, rfl⟩, ?_⟩))
        rw [memI_dct] at q; exact q
      | _ => exact .inr (.inr (dkt_notin vd ve ho q))
    | dkt ks vs => exact .inr (.inr (dkt_notin vd ve (by cases d <;> exact ho) q))
    | _ => cases d <;> cases ho
  | is =>
    refine OpR.imp ((op_isN (X := X)).or (op_is_bl (X := X))) fun x y H Q h => ?_
    obtain ⟨d, e, b, vd, ve, ho, q⟩ := h
    cases e with
    | non =>
      simp only [cm] at ho
      cases ho
      refine .inl ⟨ve.non, ?_⟩
      rw [vd.dec_non]; exact q
    | bl c =>
      cases d with
      | bl a =>
        cases ho
        exact .inr ⟨a, c, vd.bl, ve.bl, q⟩
      | _ => cases ho
    | _ => cases d <;> cases ho
  | isnot =>
    refine OpR.imp ((op_notN (X := X)).or (op_isnot_bl (X := X))) fun x y H Q h => ?_
    obtain ⟨d, e, b, vd, ve, ho, q⟩ := h
    cases e with
    | non =>
      simp only [cm] at ho
      cases ho
      refine .inl ⟨ve.non, ?_⟩
      rw [vd.dec_non]; exact q
    | bl c =>
      cases d with
      | bl a =>
        cases ho
        exact .inr ⟨a, c, vd.bl, ve.bl, q⟩
      | _ => cases ho
    | _ => cases d <;> cases ho
end

/-! ### subscripts -/
def rIdx (K : PySem.W.Frag) : R2 := fun x y H Q => ∃ d e r, VwR K H d x ∧ VwR K H e y ∧ idxD d e = some r ∧ ∀ v, Rp K H r v → Q v H
theorem atD_rp {K : PySem.W.Frag} {H : Hp} {ds : List D} {vs : List V} {i : Int} {r : D} (h : Rps K H ds vs) (e : atD ds i = some r) : ∃ v, atI vs i = some v ∧ Rp K H r v := by
  unfold atD atI at e
  rw [← h.length] at e
  cases e2 : ixN vs.length i with
  | none => rw [e2] at e; cases e
  | some j =>
    rw [e2] at e
    obtain ⟨v, e3, rv⟩ := h.get (show ds[j]? = some r from e)
    exact ⟨v, by unfold atI; rw [e2]; exact e3, rv⟩
theorem getI_dct {K : PySem.W.Frag} {H : Hp} {k : Int} {r : D} : ∀ {kvs : List (Int × V)} {vs : List D}, Rps K H vs (kvs.map (·.2)) → getI (kvs.map fun q => D.int q.1) vs k = some r → ∃ z, valV (dK kvs) (Sum.inl k) = some z ∧ Rp K H r z
  | [], vs, _, h => by simp [getI] at h
  | q :: kvs, [], h, _ => by have := h.length; simp at this
  | q :: kvs, v :: vs, h, e => by
    obtain ⟨z, r', e2, rz, rr⟩ := h
    cases e2
    simp only [List.map_cons, getI] at e
    by_cases hq : q.1 = k
    · rw [if_pos hq] at e
      cases e
      exact ⟨q.2, valV_pos (p := (Sum.inl q.1, q.2)) (by rw [hq]), rz⟩
    · rw [if_neg hq] at e
      obtain ⟨z, e1, e2⟩ := getI_dct rr e
      exact ⟨z, by rw [← e1]; exact valV_neg (p := (Sum.inl q.1, q.2)) (by simpa using hq), e2⟩
section
variable {X : Cx}
/-- d[k] -/
theorem ix_dict (hu : X.A.units + 1 < cLine) : IxR X (fun x y H Q => ∃ a w, x = .ref a ∧ DGet H a y (some w) ∧ Q w H) := by
  intro value slice pins s σ H x y v u Q I rx ry ⟨a, w, e, g, q⟩ hs
  subst e
  cases rx
  have hT := dict_typeIs I g
  have fin : wpAny (model X.prog X.w) X.A (subscripted slice false (.ref a) u) (fun r s₃ => wpAny (model X.prog X.w) X.A (letTemporaryGo value (.ref a) r >>= fun _ => pure r) (EP X pins σ Q) X.xe s₃) X.xe s := by
    rw [hs]
    exact wpAny_operating (d_getItem hu I g ry fun w' s' I' r' => wpAny_bind (wpAny_letTemporaryGo (wpAny_pure ⟨w, H, I', r', q⟩)))
  unfold subscriptTail
  refine wpAny_bind ?_
  rw [getitemInPython_of_ne hT.not_modules]
  refine wpAny_bind (wpAny_specialOf hT PySem.F.slot_dict_getitem.lookup ?_)
  first
    | exact wpAny_pure (wpAny_bind fin)
    | exact wpAny_bind (wpAny_pure (wpAny_bind fin))
    | exact wpAny_bind fin
theorem idxR (hu : X.A.units + 65 < cLine) : IxR X (rIdx X.K) := by
  intro value slice pins s σ H x y v u Q I rx ry h hs
  obtain ⟨d, e, r, vd, ve, ho, q⟩ := h
  cases d with
  | dct ks vs =>
    cases e with
    | int k =>
      obtain ⟨p, kvs, rfl, rfl, hp, rd⟩ := vd.dct
      obtain ⟨z, e1, rz⟩ := getI_dct rd ho
      exact ix_dict (by omega) value slice pins s σ H _ y v u Q I rx ry ⟨p, z, rfl, by rw [ve.int, ← e1]; exact .inl ⟨_, Sum.inl k, hp, rfl, rfl⟩, q z rz⟩ hs
    | _ => cases ho
  | tup ds =>
    cases e with
    | int i =>
      obtain ⟨p, vs, rfl, t, rd⟩ := vd.tup
      obtain ⟨z, e1, rz⟩ := atD_rp rd ho
      exact ix_tup value slice pins s σ H _ y v u Q I rx ry ⟨p, vs, i, z, rfl, ve.int, t.sq, e1, q z rz⟩ hs
    | _ => cases ho
  | lst ds =>
    cases e with
    | int i =>
      obtain ⟨p, vs, rfl, t, rd⟩ := vd.lst
      obtain ⟨z, e1, rz⟩ := atD_rp rd ho
      exact ix_list value slice pins s σ H _ y v u Q I rx ry ⟨p, vs, i, z, rfl, ve.int, .inl t, e1, q z rz⟩ hs
    | _ => cases ho
  | dkt ks vs =>
    have ho' : (match ckey ks e with | some q => getT ks vs q | none => none) = some r := ho
    split at ho'
    · rename_i q' h2
      exact ix_dkt hu value slice pins s σ H x y v u Q I rx ry ⟨_, ks, vs, e, q', r, vd, rfl, ve, h2, ho', q⟩ hs
    · cases ho'
  | _ => cases ho
def rSlc (K : PySem.W.Frag) : V → Option Int → Option Int → Hp → VK → Prop := fun x lo hi H Q => ∃ d r, VwR K H d x ∧ slcD d lo hi = some r ∧ ∀ v H', ResR K H r v H' → Q v H'
theorem cut_rp {K : PySem.W.Frag} {H : Hp} {ds : List D} {vs : List V} (h : Rps K H ds vs) (lo hi : Option Int) : Rps K H (cut ds lo hi) (cutV vs lo hi) := by
  unfold cut cutV
  rw [← h.length]
  exact (h.drop _).take _
theorem slcR : SlR X (rSlc X.K) := by
  intro pins s σ H x v vl vu lo hi sl Q I rx hs pl pu h
  obtain ⟨d, r, vd, ho, q⟩ := h
  cases d with
  | lst ds =>
    cases ho
    obtain ⟨p, vs, rfl, t, rd⟩ := vd.lst
    exact sl_list pins s σ H _ v vl vu lo hi sl Q I rx hs pl pu ⟨p, vs, rfl, .inl t, fun p n => q _ _ (res_lst (cut_rp rd lo hi) n)⟩
  | tup ds =>
    cases ho
    obtain ⟨a, xs, rfl, t, rd⟩ := vd.tup
    cases rx
    obtain ⟨its, r, ht, hz⟩ := I.tuple t.sq
    have hlen : its.toArray.size = xs.length := by rw [List.size_toArray]; exact r.length.symm
    refine ⟨"tuple", _, PyProof.Rows.slot_tuple_getitem.lookup, ht.typeIs, ?_⟩
    by_cases hw : HT.sIx xs.length 0 lo = 0 ∧ HT.sIx xs.length xs.length hi = xs.length
    · refine getItem_tuple_whole ht hs pl pu (by rw [hlen]; exact hw) ⟨.ref a, H, I, rfl, q _ _ ?_⟩
      have e : cut ds lo hi = ds := by
        unfold cut
        show (ds.drop (HT.sIx ds.length 0 lo)).take (HT.sIx ds.length ds.length hi - HT.sIx ds.length 0 lo) = ds
        rw [← rd.length, hw.1, hw.2, rd.length]
        simp
      rw [e]
      exact res_tup_at t rd
    · refine HT.getItem_tuple_cut ht hs pl pu (by rw [hlen]; exact hw) ?_ (by rw [hlen]; exact hz)
      rw [hlen]
      exact ep_tup (t' := s.toks) I ((r.drop (HT.sIx xs.length 0 lo)).take (HT.sIx xs.length xs.length hi - HT.sIx xs.length 0 lo)) (Nat.le_trans (cutV_length xs lo hi) hz) (cut_rp rd lo hi) q
  | _ => cases ho
end
/-! ### t[::-1] -/
theorem fm_congr {α β : Type} {f g : α → Option β} : ∀ {l : List α}, (∀ x ∈ l, f x = g x) → l.filterMap f = l.filterMap g
  | [], _ => rfl
  | x :: xs, h => by
    rw [List.filterMap_cons, List.filterMap_cons, h x List.mem_cons_self, fm_congr fun y hy => h y (List.mem_cons_of_mem _ hy)]
section
variable {prog : Program} {w : World} {A : Around} {E : Value → Shared → Prop} {s : Shared}
theorem getItem_tuple_back {t sl : Addr} {items : Array Value} {vs : Value} {Q : Value → Shared → Prop} (ht : IsTup s.heap t items) (hs : s.heap.IsSliceOf sl .none .none vs) (ps : IsPart vs (some (-1)))
    (h : Q (.ref s.heap.objs.size) { s with heap := s.heap.push { cls := .type "tuple", data := .seq items.toList.reverse.toArray } })
    (hsz : items.size ≤ sizeLine) : wpAny (model prog w) A (getItem (.ref t) (.ref sl)) Q E s := by
  obtain ⟨os, hos, hcs, hds⟩ := id hs
  have hTs : s.TypeIs (.ref sl) "slice" := ⟨os, hos, hcs⟩
  unfold getItem
  try with_reducible refine wpAny_holding ?_
  first | refine wpAny_bind (wpAny_pure ?_) | skip
  refine wpAny_bind (wpAny_sequenceKey ht.typeIs (by decide) ?_)
  refine wpAny_bind (wpAny_callSpecial?_slot (name := Str.ofString "__getitem__") ht.typeIs PyProof.Rows.slot_tuple_getitem
    (wpAny_call_entry PyProof.Rows.slot_tuple_getitem ht.typeIs entry_tuple_getitem ?_ (args_tuple_getitem _ _)))
  show wpAny _ _ (Builtin.Tuple.tupleItemsOf (.ref t) >>= _) _ _ s
  refine wpAny_bind (tupleItemsOf_ ht ?_)
  refine wpAny_bind (wpAny_typeOf hTs ?_)
  rw [if_pos (by decide)]
  have happ : ∀ (A' : Around) (Q' : Int × Int × Nat → Shared → Prop), Q' ((items.size : Int) - 1, -1, items.size) s → wpAny (model prog w) A' (Builtin.Slice.sliceApplied (.ref sl) (pure (items.size : Int))) Q' E s := by
    intro A' Q' hq
    unfold Builtin.Slice.sliceApplied Builtin.Slice.sliceFields
    refine wpAny_bind (wpAny_bind (wpAny_field hos hds (x := .none) rfl (wpAny_bind (wpAny_field hos hds (x := .none) rfl (wpAny_bind (wpAny_field hos hds (x := vs) rfl (wpAny_pure ?_)))))))
    refine wpAny_bind (HT.slicePart_ ps ?_)
    show wpAny _ _ (if ((-1 : Int) == 0) = true then _ else _) _ _ s
    rw [if_neg (by decide)]
    refine wpAny_bind (HT.slicePart_ .none (wpAny_bind (HT.slicePart_ .none (wpAny_bind (wpAny_pure ?_)))))
    show wpAny _ _ (match Builtin.Slice.sliceAdjust none none (-1) (items.size : Int) with | (lo, hi) => pure (lo, (-1 : Int), Builtin.Slice.slicePlaces lo hi (-1))) _ _ s
    have e1 : Builtin.Slice.sliceAdjust none none (-1) (items.size : Int) = ((items.size : Int) - 1, -1) := rfl
    rw [e1]
    show wpAny _ _ (pure ((items.size : Int) - 1, (-1 : Int), Builtin.Slice.slicePlaces ((items.size : Int) - 1) (-1) (-1))) _ _ s
    have e2 : Builtin.Slice.slicePlaces ((items.size : Int) - 1) (-1) (-1) = items.size := by
      unfold Builtin.Slice.slicePlaces
      rw [if_neg (by decide)]
      by_cases h0 : (items.size : Int) - 1 > -1
      · rw [if_pos h0]
        have : ((items.size : Int) - 1 - -1 - 1) / - -1 + 1 = items.size := by
          rw [show (- -1 : Int) = 1 from rfl, Int.ediv_one]; omega
        rw [this, Int.toNat_natCast]
      · rw [if_neg h0]
        have : items.size = 0 := by omega
        rw [this]; rfl
    rw [e2]
    exact wpAny_pure hq
  refine wpAny_bind (happ _ _ ?_)
  have hno : ¬ (((items.size : Int) - 1 == 0 && (-1 : Int) == 1 && items.size == items.size) = true) := by simp
  show wpAny _ _ (if ((items.size : Int) - 1 == 0 && (-1 : Int) == 1 && items.size == items.size) = true then _ else _) _ _ s
  rw [if_neg hno]
  have hpick : ((List.range items.size).filterMap fun (k : Nat) => items[((items.size : Int) - 1 + (k : Int) * -1).toNat]?).toArray = items.toList.reverse.toArray := by
    have e : (List.range items.size).filterMap (fun (k : Nat) => items[((items.size : Int) - 1 + (k : Int) * -1).toNat]?) = ((List.range items.size).map fun k => items.size - 1 - k).filterMap (items[·]?) := by
      rw [List.filterMap_map]
      refine fm_congr fun k hk => ?_
      have hk' := List.mem_range.mp hk
      show items[((items.size : Int) - 1 + (k : Int) * -1).toNat]? = items[items.size - 1 - k]?
      rw [show ((items.size : Int) - 1 + (k : Int) * -1).toNat = items.size - 1 - k by omega]
    rw [e, PySem.W.krv_range, List.filterMap_reverse, PySem.W.krv_all]
  rw [hpick]
  have htake : sizeOk (.seq items.toList.reverse.toArray) := by
    show items.toList.reverse.toArray.size ≤ sizeLine
    rw [List.size_toArray, List.length_reverse, Array.length_toList]
    exact hsz
  first
    | exact wpAny_bind (m := Builtin.Tuple.tupleExact _) (wpAny_newObj_type (wpAny_pure ⟨_, rfl, wpAny_pure h⟩) htake)
    | exact wpAny_bind (m := Builtin.Tuple.tupleExact _) (wpAny_newObj_type (wpAny_bind (wpAny_pure (wpAny_pure ⟨_, rfl, wpAny_pure h⟩))) htake)
    | exact wpAny_bind (wpAny_bind (m := Builtin.Tuple.tupleExact _) (wpAny_newObj_type (wpAny_pure (wpAny_pure ⟨_, rfl, wpAny_pure h⟩)) htake))
    | exact wpAny_bind (wpAny_bind (m := Builtin.Tuple.tupleExact _) (wpAny_newObj_type (wpAny_pure ⟨_, rfl, wpAny_pure h⟩) htake))
end
def rRev (K : PySem.W.Frag) (x : V) (H : Hp) (Q : VK) : Prop := ∃ d r, VwR K H d x ∧ revD d = some r ∧ ∀ v H', ResR K H r v H' → Q v H'
theorem pe_rev {X : Cx} {e : Expr} {te : TE} {k : Nat} {p1 p2 p3 pos : Pos} (he : PE X e te) : PE X (.Subscript e (.Slice none none (some (.UnaryOp .USub (.Constant (.int 1) k p1) p2)) p3) pos) (fun σ H Q => te σ H fun x H1 => rRev X.K x H1 Q) := by
  refine ⟨fun pins s σ H Q I h => ?_⟩
  refine Subscript_ (thn (he.run pins s σ H _ I h) fun v s1 ⟨x, H1, I1, r1, q1⟩ => ?_)
  obtain ⟨d, res, vd, ho, q⟩ := q1
  have hst : PO X (some (.UnaryOp .USub (.Constant (.int 1) k p1) p2)) (tPart (tUn (rU fun i => .int (-i)) (tC (.int 1)))) := po_some (pe_un un_neg pe_int)
  refine wpAny_Slice (thn (po_none.run pins s1 σ H1 (fun o H2 => o = none ∧ H2 = H1) I1 ⟨rfl, rfl⟩) fun vl s2 ⟨l, H2, I2, pl, el, e2⟩ => ?_)
  subst el e2
  refine thn (po_none.run pins s2 σ H2 (fun o H3 => o = none ∧ H3 = H2) I2 ⟨rfl, rfl⟩) fun vu s3 ⟨u, H3, I3, pu, eu, e3⟩ => ?_
  subst eu e3
  refine thn (hst.run pins s3 σ H3 (fun o H4 => o = some (-1) ∧ H4 = H3) I3 ⟨1, rfl, -1, rfl, rfl, rfl⟩) fun vs s4 ⟨o, H4, I4, ps, eo, e4⟩ => ?_
  subst eo e4
  have I5 : L2.Inv X pins σ H4 { s4 with heap := s4.heap.push { cls := .type "slice", data := .fields #[vl, vu, vs] } } := I4.kept (t' := s4.toks) fun b ob q => Heap.get?_push_of_some _ q
  show wpAny (model X.prog X.w) X.A (subscriptTail e (.Slice none none (some (.UnaryOp .USub (.Constant (.int 1) k p1) p2)) p3) v (.ref s4.heap.objs.size)) (EP X pins σ Q) X.xe { s4 with heap := s4.heap.push { cls := .type "slice", data := .fields #[vl, vu, vs] } }
  cases d with
  | lst ds =>
    cases ho
    obtain ⟨a, xs, rfl, t, rd⟩ := vd.lst
    cases r1
    obtain ⟨its, r, ht, hz⟩ := I5.list (.inl t)
    have hlen := r.length
    refine tail_any (ops := [.ref a, .ref s4.heap.objs.size]) ht.isList.typeIs (PySem.slot_list_getitem.lookup) ?_ (by with_unfolding_all rfl)
    refine wpAny_getItem_list_slice ht.isList (Heap.IsSliceOf.new _ vl vu vs) pl pu ps (by decide) ?_ (by rw [List.size_toArray]; omega)
    rw [PySem.W.krv_pick]
    refine ⟨.ref _, _, I5.laid (t' := s4.toks) (o := .lst xs.reverse) (fun b ob q => Heap.get?_push_of_some _ q) (Nat.le_refl _) ?_, rfl, q _ _ (res_lst rd.reverse (I5.hok.fresh (Nat.le_refl _)))⟩
    exact ⟨by rw [List.length_reverse]; exact hz, _, 0, r.reverse, Heap.get?_push_size _ rfl⟩
  | tup ds =>
    cases ho
    obtain ⟨a, xs, rfl, t, rd⟩ := vd.tup
    cases r1
    obtain ⟨its, r, ht, hz⟩ := I5.tuple t.sq
    have hlen := r.length
    cases pl
    cases pu
    refine tail_any (ops := [.ref a, .ref s4.heap.objs.size]) ht.typeIs PyProof.Rows.slot_tuple_getitem.lookup ?_ (by with_unfolding_all rfl)
    refine getItem_tuple_back ht (Heap.IsSliceOf.new _ .none .none vs) ps ?_ (by rw [List.size_toArray]; omega)
    exact ep_tup (t' := s4.toks) I5 r.reverse (by rw [List.length_reverse]; exact hz) rd.reverse q
  | _ => cases ho

end PF
namespace PF
open PySem PySem.Spec PyProof.Rows L2

/-! ### built-in functions -/
def rBlt (K : PySem.W.Frag) (b : Blt) : List V → Hp → VK → Prop := fun vs H Q => ∃ ds r, VwRs K H ds vs ∧ bltD b ds = some r ∧ ∀ v H', ResR K H r v H' → Q v H'
theorem VwRs.one {K : PySem.W.Frag} {H : Hp} {d : D} {vs : List V} (h : VwRs K H [d] vs) : ∃ v, vs = [v] ∧ VwR K H d v := by
  cases h with
  | cons h t => cases t; exact ⟨_, rfl, h⟩
theorem VwRs.two {K : PySem.W.Frag} {H : Hp} {d e : D} {vs : List V} (h : VwRs K H [d, e] vs) : ∃ v u, vs = [v, u] ∧ VwR K H d v ∧ VwR K H e u := by
  cases h with
  | cons h t =>
    cases t with
    | cons h2 t => cases t; exact ⟨_, _, rfl, h, h2⟩
section
variable {X : Cx}
theorem sum_raw_tup {prog : Program} {w : World} {A : Around} {E : Value → Shared → Prop} {s : Shared} {l : Addr} {its : List Value} {ns : List Int} {Q : Value → Shared → Prop} (hh : A.handled = none) (hl : s.heap.IsTuple l its.toArray) (hi : IntsAre its ns)
    (h : ∀ h' tk t', (∀ b o, s.heap.get? b = some o → h'.get? b = some o) → Q (.int ns.sum t') { s with heap := h', toks := tk }) : wpAny (model prog w) A (call (.builtin "sum") [.ref l]) Q E s := by
  obtain ⟨xs, e⟩ := hi.allInts.items
  have hn : numsOf (intItems xs).toList = ns := by rw [← e]; exact hi.numsOf
  rw [nums_intItems] at hn
  rw [e] at hl
  have hlt : l < s.heap.objs.size := by obtain ⟨_, e, _⟩ := hl; exact Heap.lt_size e
  refine call_sum_walkG (wpAny_pyIter_tuple hl ?_)
  refine ⟨_, _, _, _, _, _, numAt xs, rfl, Walks.tuple (A := A.in1) hh _ l (Nat.ne_of_lt hlt) (intItems xs), ⟨⟨_, Heap.get?_push_size _ rfl, rfl, rfl⟩, hl.push _⟩, fun b hb => ?_, (fun _ _ => intItems_at), fun h' tk t' hk => ?_⟩
  · rw [Heap.size_push]
    rcases List.mem_cons.mp hb with rfl | hb
    · exact Nat.lt_succ_self _
    · rw [List.mem_singleton.mp hb]; exact Nat.lt_succ_of_lt hlt
  · have := h h' tk t' (fun b o eo => hk b o (fun hm => by rw [List.mem_singleton.mp hm] at eo; exact absurd (Heap.lt_size eo) (Nat.lt_irrefl _)) (Heap.get?_push_of_some _ eo))
    rw [preSum_eq, List.take_of_length_le (by simp [intItems])]
    rw [hn]; exact this
def rSumT (K : PySem.W.Frag) : List V → Hp → VK → Prop := fun vs H Q => ∃ (a : Addr) (ns : List Int), vs = [V.ref a] ∧ SqT K H a (ns.map V.int) ∧ Q (.int ns.sum) H
theorem cr_sumT (hc : X.calm = true) : CallR X (.builtin "sum") (rSumT X.K) := by
  intro pins s σ H vs us Q I r h
  obtain ⟨a, ns, rfl, hs, q⟩ := h
  obtain ⟨its, rv, hl, _⟩ := I.tuple hs
  rw [Vals.ref1 r]
  exact sum_raw_tup (I.ok.hd hc) hl rv.ints fun h' tk t' hk => ⟨.int _, H, I.kept hk, ⟨_, rfl⟩, q⟩
/-- tuple(x) -/
def rTupOf (K : PySem.W.Frag) : List V → Hp → VK → Prop := fun vs H Q => ∃ p ys ds, vs = [.ref p] ∧ Rps K H ds ys ∧ (SqL K H p ys ∨ TupAt K H p ys) ∧ ∀ v H', ResR K H (.dat (.tup ds)) v H' → Q v H'
theorem call_tupOf : CallR X (.type "tuple") (rTupOf X.K) := by
  intro pins s σ H xs us Q I r h
  obtain ⟨p, ys, ds, rfl, rd, h, q⟩ := h
  obtain ⟨u, rfl, rx⟩ := vals1 r
  cases rx
  rcases h with hq | hq
  · obtain ⟨its, r', pl, hz⟩ := I.list hq
    have hlen := r'.length
    refine call_tuple_list pl.isList (fun h' kp => ?_) (by simp only [List.size_toArray] <;> omega)
    have I1 : L2.Inv X pins σ H { s with heap := h' } := I.kept (t' := s.toks) kp
    exact ep_tup (s := { s with heap := h' }) (t' := s.toks) I1 r' hz rd q
  · obtain ⟨its, r', pl, hz⟩ := I.tuple hq.sq
    exact call_tuple_same pl ⟨.ref p, H, I, rfl, q _ _ (res_tup_at hq rd)⟩
theorem call_lenDR : CallR X (.builtin "len") (fun xs H Q => ∃ a kvs, xs = [V.ref a] ∧ Rd H a (.dK kvs) ∧ Q (.int kvs.length) H) := by
  intro pins s σ H xs us Q I r h
  obtain ⟨a, kvs, rfl, ha, q⟩ := h
  obtain ⟨u, rfl, ru⟩ := vals1 r
  cases ru
  exact d_len I ha fun t s' I' => ⟨.int kvs.length, H, I', ⟨t, rfl⟩, q⟩
theorem call_lenS : CallR X (.builtin "len") (fun xs H Q => ∃ a ns, xs = [V.ref a] ∧ H a = some (ISet a ns) ∧ Q (.int (ns.length : Nat)) H) := by
  intro pins s σ H xs us Q I r h
  obtain ⟨a, ns, rfl, ha, q⟩ := h
  rw [Vals.ref1 r]
  obtain ⟨_, _, _, hl⟩ := (I.hok a _ ha).1
  obtain ⟨o, es, ep, t, ho, hex, hd, _, _, _, hf, hn⟩ := iset_get I ha
  exact call_len_set ho hex hd hf (by rw [hn] <;> omega) ⟨.int (ns.length : Nat), H, I.tok _, ⟨_, by rw [hn]⟩, q⟩
theorem fm_mem (ns : List Int) (k : Int) : (PyProof.Rows.firstMet (fun i => ns.getD i 0) ns.length).any (· == k) = decide (k ∈ dedI ns) := by
  have e : (List.range ns.length).map (fun i => ns.getD i 0) = ns := by
    refine List.ext_getElem (by simp) fun i h1 h2 => ?_
    simp [List.getD_eq_getElem?_getD, List.getElem?_eq_getElem h2]
  rw [PyProof.Rows.firstMet_any, e]
  have m : ∀ l : List Int, (k ∈ dedI l ↔ k ∈ l) := by
    intro l
    induction l with
    | nil => simp [dedI]
    | cons x xs ih =>
      simp only [dedI, List.mem_cons, List.mem_filter, ih]
      by_cases h : k = x <;> simp [h]
  rw [Bool.eq_iff_iff]
  simp only [List.any_eq_true, beq_iff_eq, exists_eq_right, decide_eq_true_eq, m]
theorem fm_nodup (f : Nat → Int) : ∀ n, (PyProof.Rows.firstMet f n).Nodup
  | 0 => by rw [PyProof.Rows.firstMet_zero]; exact List.nodup_nil
  | n + 1 => by
    rw [PyProof.Rows.firstMet_succ]
    unfold PyProof.Rows.step_dedup
    split
    · exact fm_nodup f n
    · rename_i h
      refine List.nodup_append.mpr ⟨fm_nodup f n, by simp, fun a ha b hb => ?_⟩
      rw [List.mem_singleton.mp hb]
      rintro rfl
      exact h (List.any_eq_true.mpr ⟨_, ha, beq_self_eq_true _⟩)
theorem ded_nodup : ∀ ns : List Int, (dedI ns).Nodup
  | [] => List.nodup_nil
  | x :: xs => List.nodup_cons.mpr ⟨by simp, (ded_nodup xs).filter _⟩
theorem fm_len (ns : List Int) : (PyProof.Rows.firstMet (fun i => ns.getD i 0) ns.length).length = (dedI ns).length := by
  refine List.Perm.length_eq ((List.perm_ext_iff_of_nodup (fm_nodup _ _) (ded_nodup _)).mpr fun a => ?_)
  have h := fm_mem ns a
  rw [Bool.eq_iff_iff] at h
  simpa using h
theorem ded_len : ∀ ns : List Int, (dedI ns).length ≤ ns.length
  | [] => Nat.le_refl _
  | x :: xs => Nat.succ_le_succ (Nat.le_trans (List.length_filter_le _ _) (ded_len xs))
theorem bltR_set (hc : X.calm = true) : CallR X (.type "set") (rBlt X.K .set) := by
  intro pins s σ H xs us Q I r h
  obtain ⟨ds, rr, hv, ho, q⟩ := h
  match ds, hv, ho with
  | [.lst ys], hv, ho =>
    simp only [bltD] at ho
    split at ho
    · rename_i ns e
      split at ho
      · rename_i hl
        cases ho
        obtain ⟨v, rfl, hw⟩ := hv.one
        obtain ⟨p, vs, rfl, t, rd⟩ := hw.lst
        have e2 := rd.intsD e
        subst e2
        rw [Vals.ref1 r]
        obtain ⟨its, rv, pl, hz⟩ := I.list (.inl t)
        have hlen : its.toArray.size = ns.length := by rw [List.size_toArray, ← rv.length, List.length_map]
        refine call_set_list (I.ok.hd hc) pl.isList (by simpa using rv.ints) (by rw [hlen]; unfold scanBound; omega) fun h' tk hS hk => ?_
        rw [hlen, fm_len] at hS
        have hS' : h'.SetOf (intKind X.prog X.w) s.heap.objs.size (fun k => decide (k ∈ dedI ns)) (dedI ns).length := by
          have ef : (fun k => decide (k ∈ dedI ns)) = fun k' => (PyProof.Rows.firstMet (fun i => ns.getD i 0) ns.length).any (· == k') := by
            funext k; rw [fm_mem]
          rw [ef]; exact hS
        have hf : H s.heap.objs.size = none := I.hok.fresh (Nat.le_refl _)
        have lt := ded_len ns
        refine ⟨.ref s.heap.objs.size, upd H s.heap.objs.size (ISet s.heap.objs.size (dedI ns)), I.laid (t' := tk) (fun b o e => hk b o (Heap.lt_size e) e) (Nat.le_refl _) (iset_new hS' (by omega)), rfl, q _ _ ?_⟩
        exact ⟨same_new hf, s.heap.objs.size, rfl, hf, ⟨dedI ns, rfl, upd_same⟩⟩
      · cases ho
    · cases ho
theorem bltR_len (hc : X.calm = true) : CallR X (.builtin "len") (rBlt X.K .len) := by
  refine CallR.imp (((call_len_seq (X := X)).or (CallR.or call_len_str call_lenDR)).or (CallR.or call_lenDT call_lenS)) fun vs H Q h => ?_
  obtain ⟨ds, r, hv, ho, q⟩ := h
  match ds, hv, ho with
  | [.tup xs], hv, ho =>
    cases ho
    obtain ⟨v, rfl, hw⟩ := hv.one
    obtain ⟨p, vs, rfl, t, rd⟩ := hw.tup
    exact .inl (.inl ⟨p, vs, rfl, .inr t.sq, by rw [rd.length]; exact q _ _ (res_here rfl)⟩)
  | [.lst xs], hv, ho =>
    cases ho
    obtain ⟨v, rfl, hw⟩ := hv.one
    obtain ⟨p, vs, rfl, t, rd⟩ := hw.lst
    exact .inl (.inl ⟨p, vs, rfl, .inl (.inl t), by rw [rd.length]; exact q _ _ (res_here rfl)⟩)
  | [.str z], hv, ho =>
    simp only [bltD] at ho
    split at ho
    · rename_i hz
      cases ho
      obtain ⟨v, rfl, hw⟩ := hv.one
      exact .inl (.inr (.inl ⟨z, by rw [hw.str], by rw [← line_eq]; exact hz, q _ _ (res_here rfl)⟩))
    · cases ho
  | [.dct ks ws], hv, ho =>
    cases ho
    obtain ⟨v, rfl, hw⟩ := hv.one
    obtain ⟨p, kvs, rfl, rfl, hp, rd⟩ := hw.dct
    refine .inl (.inr (.inr ⟨p, _, rfl, hp, ?_⟩))
    rw [List.length_map]
    rw [List.length_map] at q
    exact q _ _ (res_here rfl)
  | [.dkt ks ws], hv, ho =>
    cases ho
    obtain ⟨v, rfl, hw⟩ := hv.one
    obtain ⟨p, rfl, _⟩ := hw.dkt
    exact .inr (.inl ⟨p, _, ks, ws, rfl, hw, rfl, q _ _ (res_here rfl)⟩)
  | [.set ws], hv, ho =>
    cases ho
    obtain ⟨v, rfl, hw⟩ := hv.one
    obtain ⟨p, ns, rfl, rfl, hp⟩ := hw.set
    refine .inr (.inr ⟨p, ns, rfl, hp, ?_⟩)
    rw [List.length_map] at q
    exact q _ _ (res_here rfl)
theorem bltR_sum (hc : X.calm = true) : CallR X (.builtin "sum") (rBlt X.K .sum) := by
  refine CallR.imp ((cr_sum hc).or (cr_sumT hc)) fun vs H Q h => ?_
  obtain ⟨ds, r, hv, ho, q⟩ := h
  match ds, hv, ho with
  | [.tup xs], hv, ho =>
    obtain ⟨ns, e, rfl⟩ := Option.map_eq_some_iff.mp ho
    obtain ⟨v, rfl, hw⟩ := hv.one
    obtain ⟨p, vs, rfl, t, rd⟩ := hw.tup
    have e2 := rd.intsD e
    subst e2
    exact .inr ⟨p, ns, rfl, t.sq, q _ _ (res_here rfl)⟩
  | [.lst xs], hv, ho =>
    obtain ⟨ns, e, rfl⟩ := Option.map_eq_some_iff.mp ho
    obtain ⟨v, rfl, hw⟩ := hv.one
    obtain ⟨p, vs, rfl, t, rd⟩ := hw.lst
    have e2 := rd.intsD e
    subst e2
    exact .inl ⟨p, ns, rfl, .inl t, q _ _ (res_here rfl)⟩
theorem bltR_abs : CallR X (.builtin "abs") (rBlt X.K .abs) := by
  refine CallR.imp (call_abs (X := X)) fun vs H Q h => ?_
  obtain ⟨ds, r, hv, ho, q⟩ := h
  match ds, hv, ho with
  | [.int i], hv, ho =>
    cases ho
    obtain ⟨v, rfl, hw⟩ := hv.one
    exact ⟨i, by rw [hw.int], q _ _ (res_here rfl)⟩
theorem bltR_int : CallR X (.type "int") (rBlt X.K .int) := by
  refine CallR.imp (call_int1 (X := X)) fun vs H Q h => ?_
  obtain ⟨ds, r, hv, ho, q⟩ := h
  match ds, hv, ho with
  | [.int i], hv, ho =>
    cases ho
    obtain ⟨v, rfl, hw⟩ := hv.one
    exact .inl ⟨i, by rw [hw.int], q _ _ (res_here rfl)⟩
  | [.bl i], hv, ho =>
    cases ho
    obtain ⟨v, rfl, hw⟩ := hv.one
    exact .inr ⟨i, by rw [hw.bl], q _ _ (res_here rfl)⟩
theorem bltR_tuple : CallR X (.type "tuple") (rBlt X.K .tuple) := by
  refine CallR.imp (call_tupOf (X := X)) fun vs H Q h => ?_
  obtain ⟨ds, r, hv, ho, q⟩ := h
  match ds, hv, ho with
  | [.tup xs], hv, ho =>
    cases ho
    obtain ⟨v, rfl, hw⟩ := hv.one
    obtain ⟨p, vs, rfl, t, rd⟩ := hw.tup
    exact ⟨p, vs, xs, rfl, rd, .inr t, q⟩
  | [.lst xs], hv, ho =>
    cases ho
    obtain ⟨v, rfl, hw⟩ := hv.one
    obtain ⟨p, vs, rfl, t, rd⟩ := hw.lst
    exact ⟨p, vs, xs, rfl, rd, .inl (.inl t), q⟩
theorem bltR_list : CallR X (.type "list") (rBlt X.K .list) := by
  refine CallR.imp (call_list_of (X := X)) fun vs H Q h => ?_
  obtain ⟨ds, r, hv, ho, q⟩ := h
  match ds, hv, ho with
  | [.tup xs], hv, ho =>
    cases ho
    obtain ⟨v, rfl, hw⟩ := hv.one
    obtain ⟨p, vs, rfl, t, rd⟩ := hw.tup
    exact ⟨p, vs, rfl, .inr t.sq, fun l n => q _ _ (res_lst rd n)⟩
  | [.lst xs], hv, ho =>
    cases ho
    obtain ⟨v, rfl, hw⟩ := hv.one
    obtain ⟨p, vs, rfl, t, rd⟩ := hw.lst
    exact ⟨p, vs, rfl, .inl (.inl t), fun l n => q _ _ (res_lst rd n)⟩
theorem maxI_mem : ∀ (ns : List Int) (n : Int), maxI n ns ∈ n :: ns ∧ ∀ y ∈ n :: ns, y ≤ maxI n ns
  | [], n => ⟨by simp [maxI], by simp [maxI]⟩
  | x :: xs, n => by
    have h := maxI_mem xs (if x > n then x else n)
    unfold maxI
    refine ⟨?_, fun y hy => ?_⟩
    · have h1 := h.1
      by_cases hx : x > n
      · rw [if_pos hx] at h1 ⊢; exact List.mem_cons_of_mem _ h1
      · rw [if_neg hx] at h1 ⊢
        rcases List.mem_cons.mp h1 with e | e
        · rw [e]; exact List.mem_cons_self
        · exact List.mem_cons_of_mem _ (List.mem_cons_of_mem _ e)
    · have h2 : (if x > n then x else n) ≤ maxI (if x > n then x else n) xs := h.2 _ List.mem_cons_self
      have h3 : n ≤ (if x > n then x else n) ∧ x ≤ (if x > n then x else n) := by split <;> omega
      rcases List.mem_cons.mp hy with rfl | hy
      · omega
      · rcases List.mem_cons.mp hy with rfl | hy
        · omega
        · exact h.2 y (List.mem_cons_of_mem _ hy)
theorem bltR_max (hc : X.calm = true) : CallR X (.builtin "max") (rBlt X.K .max) := by
  refine CallR.imp ((call_max2 hc).or (cr_max hc)) fun vs H Q h => ?_
  obtain ⟨ds, r, hv, ho, q⟩ := h
  match ds, hv, ho with
  | [.int i, .int j], hv, ho =>
    cases ho
    obtain ⟨v, u, rfl, h1, h2⟩ := hv.two
    exact .inl ⟨i, j, by rw [h1.int, h2.int], q _ _ (res_here rfl)⟩
  | [.lst xs], hv, ho =>
    simp only [bltD] at ho
    split at ho
    · rename_i n ns e
      cases ho
      obtain ⟨v, rfl, hw⟩ := hv.one
      obtain ⟨p, vs, rfl, t, rd⟩ := hw.lst
      have e2 := rd.intsD e
      subst e2
      refine .inr ⟨p, n :: ns, rfl, .inl t, by simp, fun m hm hle => ?_⟩
      obtain ⟨k1, k2⟩ := maxI_mem ns n
      have : m = maxI n ns := Int.le_antisymm (k2 m hm) (hle _ k1)
      rw [this]
      exact q _ _ (res_here rfl)
    · cases ho
theorem minI_mem : ∀ (ns : List Int) (n : Int), minI n ns ∈ n :: ns ∧ ∀ y ∈ n :: ns, minI n ns ≤ y
  | [], n => ⟨by simp [minI], by simp [minI]⟩
  | x :: xs, n => by
    have h := minI_mem xs (if x < n then x else n)
    unfold minI
    refine ⟨?_, fun y hy => ?_⟩
    · have h1 := h.1
      by_cases hx : x < n
      · rw [if_pos hx] at h1 ⊢; exact List.mem_cons_of_mem _ h1
      · rw [if_neg hx] at h1 ⊢
        rcases List.mem_cons.mp h1 with e | e
        · rw [e]; exact List.mem_cons_self
        · exact List.mem_cons_of_mem _ (List.mem_cons_of_mem _ e)
    · have h2 : minI (if x < n then x else n) xs ≤ (if x < n then x else n) := h.2 _ List.mem_cons_self
      have h3 : (if x < n then x else n) ≤ n ∧ (if x < n then x else n) ≤ x := by split <;> omega
      rcases List.mem_cons.mp hy with rfl | hy
      · omega
      · rcases List.mem_cons.mp hy with rfl | hy
        · omega
        · exact h.2 y (List.mem_cons_of_mem _ hy)
theorem bltR_min (hc : X.calm = true) : CallR X (.builtin "min") (rBlt X.K .min) := by
  refine CallR.imp ((call_min2 hc).or (cr_min hc)) fun vs H Q h => ?_
  obtain ⟨ds, r, hv, ho, q⟩ := h
  match ds, hv, ho with
  | [.int i, .int j], hv, ho =>
    cases ho
    obtain ⟨v, u, rfl, h1, h2⟩ := hv.two
    exact .inl ⟨i, j, by rw [h1.int, h2.int], q _ _ (res_here rfl)⟩
  | [.lst xs], hv, ho =>
    simp only [bltD] at ho
    split at ho
    · rename_i n ns e
      cases ho
      obtain ⟨v, rfl, hw⟩ := hv.one
      obtain ⟨p, vs, rfl, t, rd⟩ := hw.lst
      have e2 := rd.intsD e
      subst e2
      refine .inr ⟨p, n :: ns, rfl, .inl t, by simp, fun m hm hle => ?_⟩
      obtain ⟨k1, k2⟩ := minI_mem ns n
      have : m = minI n ns := Int.le_antisymm (hle _ k1) (k2 m hm)
      rw [this]
      exact q _ _ (res_here rfl)
    · cases ho
theorem bltR_any (hc : X.calm = true) : CallR X (.builtin "any") (rBlt X.K .any) := by
  refine CallR.imp (cr_any hc) fun vs H Q h => ?_
  obtain ⟨ds, r, hv, ho, q⟩ := h
  match ds, hv, ho with
  | [.lst xs], hv, ho =>
    obtain ⟨bs, e, rfl⟩ := Option.map_eq_some_iff.mp ho
    obtain ⟨v, rfl, hw⟩ := hv.one
    obtain ⟨p, vs, rfl, t, rd⟩ := hw.lst
    have e2 := rd.blsD e
    subst e2
    exact ⟨p, bs, rfl, .inl t, q _ _ (res_here rfl)⟩
theorem bltR_all (hc : X.calm = true) : CallR X (.builtin "all") (rBlt X.K .all) := by
  refine CallR.imp (cr_all hc) fun vs H Q h => ?_
  obtain ⟨ds, r, hv, ho, q⟩ := h
  match ds, hv, ho with
  | [.lst xs], hv, ho =>
    obtain ⟨bs, e, rfl⟩ := Option.map_eq_some_iff.mp ho
    obtain ⟨v, rfl, hw⟩ := hv.one
    obtain ⟨p, vs, rfl, t, rd⟩ := hw.lst
    have e2 := rd.blsD e
    subst e2
    exact ⟨p, bs, rfl, .inl t, q _ _ (res_here rfl)⟩
theorem insI_perm (x : Int) : ∀ l : List Int, (insI x l).Perm (x :: l)
  | [] => .refl _
  | y :: ys => by
    unfold insI
    split
    · exact .refl _
    · exact ((insI_perm x ys).cons y).trans (.swap x y ys)
theorem sortI_perm : ∀ l : List Int, (sortI l).Perm l
  | [] => .refl _
  | x :: xs => (insI_perm x _).trans ((sortI_perm xs).cons x)
theorem insI_sorted (x : Int) : ∀ l : List Int, l.Pairwise (· ≤ ·) → (insI x l).Pairwise (· ≤ ·)
  | [], _ => List.pairwise_singleton _ _
  | y :: ys, h => by
    obtain ⟨h1, h2⟩ := List.pairwise_cons.mp h
    unfold insI
    split
    · rename_i le
      refine List.pairwise_cons.mpr ⟨fun z hz => ?_, h⟩
      rcases List.mem_cons.mp hz with rfl | hz
      · exact le
      · exact Int.le_trans le (h1 z hz)
    · rename_i nle
      refine List.pairwise_cons.mpr ⟨fun z hz => ?_, insI_sorted x ys h2⟩
      rcases List.mem_cons.mp ((insI_perm x ys).mem_iff.mp hz) with rfl | hz
      · omega
      · exact h1 z hz
theorem sortI_sorted : ∀ l : List Int, (sortI l).Pairwise (· ≤ ·)
  | [] => .nil
  | x :: xs => insI_sorted x _ (sortI_sorted xs)
theorem sorted_eq {xs ys : List Int} (p : ys.Perm xs) (s : ys.Pairwise (· ≤ ·)) : ys = sortI xs :=
  List.Perm.eq_of_pairwise (le := (· ≤ ·)) (fun _ _ _ _ h1 h2 => Int.le_antisymm h1 h2) s (sortI_sorted xs) (p.trans (sortI_perm xs).symm)
theorem keysI : ∀ {kvs : List (Int × V)} {ns : List Int}, intsD (kvs.map fun q => D.int q.1) = some ns → (dK kvs).map (·.1) = ns.map Sum.inl
  | [], ns, h => by
    have : ns = [] := by simpa [PF.intsD] using h.symm
    subst this; rfl
  | q :: kvs, ns, h => by
    obtain ⟨ms, e, rfl⟩ := Option.map_eq_some_iff.mp (show (intsD (kvs.map fun q => D.int q.1)).map (q.1 :: ·) = some ns from h)
    have := keysI e
    simp only [dK, List.map_cons] at this ⊢
    rw [this]
theorem bltR_sorted (hc : X.calm = true) : CallR X (.builtin "sorted") (rBlt X.K .sorted) := by
  refine CallR.imp (cr_sortedI.or (call_sortedDI hc)) fun vs H Q h => ?_
  obtain ⟨ds, r, hv, ho, q⟩ := h
  match ds, hv, ho with
  | [.lst xs], hv, ho =>
    obtain ⟨ns, e, rfl⟩ := Option.map_eq_some_iff.mp ho
    obtain ⟨v, rfl, hw⟩ := hv.one
    obtain ⟨p, vs, rfl, t, rd⟩ := hw.lst
    have e2 := rd.intsD e
    subst e2
    refine .inl ⟨p, ns, rfl, .inl t, fun ns' p' hp hs hn => ?_⟩
    rw [sorted_eq hp hs]
    exact q _ _ (res_lst (Rps.of_ints _) hn)
  | [.dct ks ws], hv, ho =>
    simp only [bltD] at ho
    split at ho
    · rename_i ns e
      split at ho
      · rename_i h64
        cases ho
        obtain ⟨v, rfl, hw⟩ := hv.one
        obtain ⟨p, kvs, rfl, rfl, hp, rd⟩ := hw.dct
        refine .inr ⟨p, _, ns, rfl, hp, keysI e, h64, fun ns' p' hp' hs hn => ?_⟩
        rw [sorted_eq hp' hs]
        exact q _ _ (res_lst (Rps.of_ints _) hn)
      · cases ho
    · cases ho
theorem rep_dct {K : PySem.W.Frag} {H : Hp} {d : D} {v : V} (k : Int) (r : Rp K H d v) : ∀ {kvs : List (Int × V)} {vs : List D}, Rps K H vs (kvs.map (·.2)) → Rps K H (repI (kvs.map fun q => D.int q.1) vs k d) ((kvs.map fun q => if q.1 = k then (q.1, v) else q).map (·.2))
  | [], vs, _ => .nil
  | q :: kvs, [], h => by have := h.length; simp at this
  | q :: kvs, w :: vs, h => by
    obtain ⟨z, r', e, rz, rr⟩ := h
    cases e
    simp only [List.map_cons, repI]
    refine .cons ?_ (rep_dct k r rr)
    by_cases hq : q.1 = k
    · rw [if_pos hq, if_pos hq]; exact r
    · rw [if_neg hq, if_neg hq]; exact rz
/-- a dict's pairs with one put in -/
theorem put_dct {K : PySem.W.Frag} {H : Hp} {d : D} {v : V} (k : Int) {kvs : List (Int × V)} {vs : List D} (h : Rps K H vs (kvs.map (·.2))) (r : Rp K H d v) :
    ∃ kvs', putK (dK kvs) (Sum.inl k) v = dK kvs' ∧ addI k (kvs.map fun q => D.int q.1) = kvs'.map (fun q => D.int q.1) ∧ Rps K H (putI (kvs.map fun q => D.int q.1) vs k d) (kvs'.map (·.2)) := by
  have hm : ((dK kvs).any fun kv => decide (kv.1 = Sum.inl k)) = memI k (kvs.map fun q => D.int q.1) := by rw [memI_dct, valV_any]
  unfold putK addI putI
  rw [hm]
  by_cases hk : memI k (kvs.map fun q => D.int q.1) = true
  · rw [if_pos hk, if_pos hk, if_pos hk]
    refine ⟨kvs.map fun q => if q.1 = k then (q.1, v) else q, ?_, ?_, rep_dct k r h⟩
    · unfold dK
      rw [List.map_map, List.map_map]
      refine List.map_congr_left fun q _ => ?_
      by_cases hq : q.1 = k <;> simp [hq]
    · rw [List.map_map]
      refine List.map_congr_left fun q _ => ?_
      by_cases hq : q.1 = k <;> simp [hq]
  · rw [if_neg hk, if_neg hk, if_neg hk]
    exact ⟨kvs ++ [(k, v)], by simp [dK], by simp, by rw [List.map_append]; exact h.append (.cons r .nil)⟩
theorem mkD_cons {x : D} {xs ks vs : List D} {r : List D × List D} (h : mkD ks vs (x :: xs) = some r) : ∃ k d, x = .tup [.int k, d] ∧ mkD (addI k ks) (putI ks vs k d) xs = some r := by
  unfold mkD at h
  split at h
  · rename_i e; cases e
  · rename_i k d r' e
    cases e
    exact ⟨k, d, rfl, h⟩
  · cases h
/-- pairs made into a dict -/
theorem mkD_ok {K : PySem.W.Frag} {H : Hp} : ∀ (xs : List D) {us : List V} {vs ks' vs' : List D} {base : List (Int × V)}, Rps K H xs us → mkD (base.map fun q => D.int q.1) vs xs = some (ks', vs') → Rps K H vs (base.map (·.2)) →
    ∃ (ps : List Addr) (kvs kvs' : List (Int × V)), us = ps.map V.ref ∧ Paired (fun p (kv : Key × V) => TupAt K H p [kV kv.1, kv.2]) ps (dK kvs) ∧ mergeK (dK base) (dK kvs) = dK kvs' ∧ ks' = kvs'.map (fun q => D.int q.1) ∧ Rps K H vs' (kvs'.map (·.2)) := by
  intro xs
  induction xs with
  | nil =>
    intro us vs ks' vs' base hx hm hb
    have : us = [] := hx
    subst this
    have hm' : some (base.map fun q => D.int q.1, vs) = some (ks', vs') := by
      rw [← hm]; rfl
    cases hm'
    exact ⟨[], [], base, rfl, .nil, rfl, rfl, hb⟩
  | cons x xs ih =>
    intro us vs ks' vs' base hx hm hb
    obtain ⟨u, r, rfl, hu, hr⟩ := hx
    obtain ⟨k, d, rfl, hm'⟩ := mkD_cons hm
    obtain ⟨p, ws, rfl, t, w1, r1, rfl, e1, w2, r3, rfl, e2, r4⟩ := hu
    have : r3 = [] := r4
    subst this
    have : w1 = .int k := e1
    subst this
    obtain ⟨b2, f1, f2, f3⟩ := put_dct k hb e2
    rw [f2] at hm'
    obtain ⟨ps, kvs, kvs', g1, g2, g3, g4, g5⟩ := ih hr hm' f3
    refine ⟨p :: ps, (k, w2) :: kvs, kvs', by rw [g1]; rfl, .cons t g2, ?_, g4, g5⟩
    rw [← g3]
    show mergeK (putK (dK base) (Sum.inl k) w2) (dK kvs) = _
    rw [f1]
theorem tup_plain {pins : List (Addr × Obj)} {σ : St} {H : Hp} {s : Shared} (I : L2.Inv X pins σ H s) {a : Addr} {xs : List V} (h : TupAt X.K H a xs) : ∃ its : List Value, Vals xs its ∧ PlainSeq "tuple" s.heap a its.toArray ∧ xs.length ≤ sizeLine := by
  rcases h with ⟨o, e, d⟩ | ⟨o, its, n, e, c, d, dt, hz, r⟩
  · obtain ⟨g, z, its, r, o', g', c, n, dt⟩ := I.hok a _ e
    rw [g] at g'; cases g'
    exact ⟨its, r, ⟨o, n, g, c, d, dt⟩, z⟩
  · refine ⟨its.toList, r, ⟨o, n, I.kIn a o e, c, d, by simpa using dt⟩, ?_⟩
    have q : xs.length = its.toList.length := r.length
    have q2 : its.toList.length = its.size := Array.length_toList
    omega
theorem pairs_at {pins : List (Addr × Obj)} {σ : St} {H : Hp} {s : Shared} (I : L2.Inv X pins σ H s) : ∀ {ps : List Addr} {kvs : List (Key × V)}, Paired (fun p (kv : Key × V) => TupAt X.K H p [kV kv.1, kv.2]) ps kvs →
    ∃ (prs : List (Key × Value)) (uvs : List (Value × Value)), KV kvs prs ∧ prs.length = ps.length ∧ uvs.length = ps.length ∧ ∀ (j : Nat) u v, uvs[j]? = some (u, v) → ∃ (b : Addr) (k : Key), ps[j]? = some b ∧ s.heap.IsTuple b #[u, v] ∧ prs[j]? = some (k, v) ∧ keyIs k u = true
  | _, _, .nil => ⟨[], [], .nil, rfl, rfl, fun j u v e => by simp at e⟩
  | _, _, .cons (a := p) (b := kv) h t => by
    obtain ⟨prs, uvs, r, hl, hl2, hp⟩ := pairs_at I t
    obtain ⟨its, rv, ht, _⟩ := I.tuple h.sq
    obtain ⟨u, y, ei, ru, ry⟩ := vals2 rv
    subst ei
    refine ⟨(kv.1, y) :: prs, (u, y) :: uvs, .cons ⟨rfl, ry⟩ r, by rw [List.length_cons, List.length_cons, hl], by rw [List.length_cons, List.length_cons, hl2], fun j u' v' e => ?_⟩
    cases j with
    | zero =>
      have e' : (u, y) = (u', v') := Option.some.inj e
      cases e'
      exact ⟨p, kv.1, rfl, ht, rfl, kV_is (P := X.prog) (w := X.w) ru⟩
    | succ j =>
      obtain ⟨b, k, e1, e2, e3, e4⟩ := hp j u' v' (by simpa using e)
      exact ⟨b, k, by simpa using e1, e2, by simpa using e3, e4⟩
/-- dict(t) of a tuple of pairs -/
theorem cr_dictT (hcalm : X.calm = true) : CallR X (.type "dict") (fun xs H Q => ∃ (a : Addr) (ps : List Addr) (kvs : List (Key × V)), xs = [.ref a] ∧ TupAt X.K H a (ps.map V.ref) ∧ Paired (fun p (kv : Key × V) => TupAt X.K H p [kV kv.1, kv.2]) ps kvs ∧
    ∀ p, H p = none → Q (.ref p) (upd H p (.dK (mergeK [] kvs)))) := by
  intro pins s σ H xs us Q I r q
  obtain ⟨a, ps, kvs, ex, hq, hp, q⟩ := q
  subst ex
  obtain ⟨u, eu, rx⟩ := vals1 r
  subst eu
  cases rx
  obtain ⟨its, rv, pl, hz⟩ := tup_plain I hq
  have ei := refs_at rv
  subst ei
  rw [List.length_map] at hz
  obtain ⟨prs, uvs, rel, hl, hl2, hpr⟩ := pairs_at I hp
  have items : PairItems s.heap (ps.map Value.ref).toArray (fun j => ps.getD j 0) uvs := ⟨by simp [hl2], fun j k v e => by
    obtain ⟨b, k', e1, e2, e3, e4⟩ := hpr j k v e
    have eb : ps.getD j 0 = b := by rw [List.getD_eq_getElem?_getD, e1]; rfl
    refine ⟨?_, ?_⟩
    · show _ = some (Value.ref (ps.getD j 0))
      rw [eb]; simp [e1]
    · show PairAt _ (ps.getD j 0) _ _
      rw [eb]; exact .inl e2⟩
  refine PySem.call_dict_pairs (knd := mixKind X.prog X.w) (kvs := prs) (PairArg.tuple a _ (fun j => ps.getD j 0) uvs) (I.ok.hd hcalm) ⟨pl, items⟩ ⟨by rw [hl, hl2], fun i key v e => ?_⟩ (by rw [hl2]; exact hz) fun h' tk hd' k => ?_
  · obtain ⟨b, k', e1, e2, e3, e4⟩ := hpr i key v e
    exact ⟨k', e3, e4⟩
  · have hm : (s.heap.objs.size == sysModules) = false := beq_eq_false_iff_ne.mpr (Nat.ne_of_gt I.big)
    have hlen : (mergeK [] kvs).length ≤ sizeLine := by
      refine Nat.le_trans (length_mergeK kvs []) ?_
      rw [List.length_nil, Nat.zero_add, rel.length, hl]
      exact hz
    exact ⟨.ref s.heap.objs.size, upd H s.heap.objs.size (.dK (mergeK [] kvs)), I.laid (t' := tk) (fun b o e => k b o (fun z => nomatch z) e) (Nat.le_refl _) (show ObjOk X.prog X.w _ _ _ (.dK (mergeK [] kvs)) from ⟨hlen, hm, merged [] prs, KV.merge rel .nil, hd'⟩), rfl, q _ (I.hok.fresh (Nat.le_refl _))⟩
theorem paired_sq {K : PySem.W.Frag} {H : Hp} : ∀ {ps : List Addr} {kvs : List (Key × V)}, Paired (fun p (kv : Key × V) => TupAt K H p [kV kv.1, kv.2]) ps kvs → Paired (fun p (kv : Key × V) => SqT K H p [kV kv.1, kv.2]) ps kvs
  | _, _, .nil => .nil
  | _, _, .cons h t => .cons h.sq (paired_sq t)
theorem bltR_dict (hc : X.calm = true) : CallR X (.type "dict") (rBlt X.K .dict) := by
  refine CallR.imp ((call_dictP hc).or (cr_dictT hc)) fun vs H Q h => ?_
  obtain ⟨ds, r, hv, ho, q⟩ := h
  match ds, hv, ho with
  | [.lst xs], hv, ho =>
    simp only [bltD] at ho
    split at ho
    · obtain ⟨⟨ks', vs'⟩, e, rfl⟩ := Option.map_eq_some_iff.mp ho
      obtain ⟨v, rfl, hw⟩ := hv.one
      obtain ⟨p, us, rfl, t, rd⟩ := hw.lst
      obtain ⟨ps, kvs, kvs', g1, g2, g3, g4, g5⟩ := mkD_ok xs (base := []) rd e Rps.nil
      subst g1
      refine .inl ⟨p, ps, dK kvs, rfl, .inl t, paired_sq g2, fun a ha => ?_⟩
      rw [show mergeK [] (dK kvs) = dK kvs' from g3]
      exact q _ _ ⟨same_new ha, a, rfl, ha, kvs', g4, upd_same, g5.mono (kp_same (same_new ha))⟩
    · cases ho
  | [.tup xs], hv, ho =>
    simp only [bltD] at ho
    split at ho
    · obtain ⟨⟨ks', vs'⟩, e, rfl⟩ := Option.map_eq_some_iff.mp ho
      obtain ⟨v, rfl, hw⟩ := hv.one
      obtain ⟨p, us, rfl, t, rd⟩ := hw.tup
      obtain ⟨ps, kvs, kvs', g1, g2, g3, g4, g5⟩ := mkD_ok xs (base := []) rd e Rps.nil
      subst g1
      refine .inr ⟨p, ps, dK kvs, rfl, t, g2, fun a ha => ?_⟩
      rw [show mergeK [] (dK kvs) = dK kvs' from g3]
      exact q _ _ ⟨same_new ha, a, rfl, ha, kvs', g4, upd_same, g5.mono (kp_same (same_new ha))⟩
    · cases ho
def Ty.py : Ty → String
  | .bool => "bool" | .int => "int" | .str => "str" | .tuple => "tuple" | .list => "list"
def kdName : Kd → String
  | .non => "NoneType" | .bl => "bool" | .int => "int" | .str => "str" | .tup => "tuple" | .lst => "list"
theorem kit_kd (t : Ty) (k : Kd) : kitB (kdName k) t.py = some (isK t k) := by
  cases t <;> cases k <;> decide +kernel
theorem isiR {K : PySem.W.Frag} {H : Hp} {d : D} {x : V} (h : VwR K H d x) (t : Ty) {b : Bool} (hb : isiD t d = some b) : ∃ ty, TyX K H x ty ∧ PySem.W.kitOne K ty (.type t.py) = some b := by
  have fin : ∀ k, kd d = some k → TyX K H x (.type (kdName k)) → ∃ ty, TyX K H x ty ∧ PySem.W.kitOne K ty (.type t.py) = some b := by
    intro k hk ht
    unfold isiD at hb
    rw [hk] at hb
    have hb' : isK t k = b := Option.some.inj hb
    exact ⟨_, ht, by rw [← hb']; exact kit_ty (kit_kd t k)⟩
  cases d with
  | non => rw [h.non] at fin ⊢; exact fin .non rfl (.base .non)
  | bl k => rw [h.bl] at fin ⊢; exact fin .bl rfl (.base (.bl k))
  | int k => rw [h.int] at fin ⊢; exact fin .int rfl (.base (.int k))
  | str k => rw [h.str] at fin ⊢; exact fin .str rfl (.base (.str k))
  | tup ds =>
    obtain ⟨p, vs, rfl, t', rd⟩ := h.tup
    refine fin .tup rfl ?_
    rcases t' with ⟨o, e, _⟩ | ⟨o, its, n, e, c, _⟩
    · exact .fTuple e
    · exact .kTuple e c
  | lst ds =>
    obtain ⟨p, vs, rfl, t', rd⟩ := h.lst
    refine fin .lst rfl ?_
    rcases t' with e | ⟨o, e⟩
    · exact .base (.lst e)
    · exact .base (.frz e)
  | _ => unfold isiD at hb; cases hb
def Blt.val : Blt → Value
  | .len => .builtin "len" | .sum => .builtin "sum" | .max => .builtin "max" | .min => .builtin "min" | .abs => .builtin "abs" | .int => .type "int" | .tuple => .type "tuple" | .list => .type "list" | .set => .type "set" | .sorted => .builtin "sorted" | .any => .builtin "any" | .all => .builtin "all" | .dict => .type "dict"
/-- the built-in functions that are served -/
def Blt.ok : Blt → Bool
  | _ => true
theorem bltR (hc : X.calm = true) (b : Blt) (hb : b.ok = true) : CallR X b.val (rBlt X.K b) := by
  cases b with
  | len => exact bltR_len hc
  | sum => exact bltR_sum hc
  | max => exact bltR_max hc
  | abs => exact bltR_abs
  | int => exact bltR_int
  | tuple => exact bltR_tuple
  | list => exact bltR_list
  | min => exact bltR_min hc
  | sorted => exact bltR_sorted hc
  | any => exact bltR_any hc
  | all => exact bltR_all hc
  | dict => exact bltR_dict hc
  | set => exact bltR_set hc
end

/-! ### methods -/
def Mt.id : Mt → String
  | .append => "list.append" | .pop => "list.pop" | .reverse => "list.reverse" | .extend => "list.extend" | .add => "set.add" | .insert => "list.insert" | .index => "list.index" | .count => "list.count" | .get => "dict.get"
/-- a method that changes the list that a name owns -/
def rMut (K : PySem.W.Frag) (m : Mt) : V → List V → Hp → VK → Prop := fun x vs H Q => ∃ p d ds r d', x = .ref p ∧ OwnAt K H d p ∧ Rps K H ds vs ∧ mutD m d ds = some (r, d') ∧
  ∀ v H', (∀ b u, b ≠ p → H b = some u → H' b = some u) → (∀ b, b ≠ p → H' b = H b) → OwnAt K H' d' p → Rp K H' r v → Q v H'
theorem upd_own {K : PySem.W.Frag} {H : Hp} {p : Addr} {vs : List V} {ds : List D} {xs : List V} (h : H p = some (.lst xs)) (r : Rps K H ds vs) : Kp H (upd H p (.lst vs)) ∧ OwnAt K (upd H p (.lst vs)) (.lst ds) p := by
  have k : Kp H (upd H p (.lst vs)) := upd_kp fun ob u e => by rw [h] at e; cases e
  exact ⟨k, vs, upd_same, r.mono k⟩
section
variable {X : Cx}
theorem mutR_append : MtM X "list.append" (rMut X.K .append) := by
  intro pins s σ H x vs v us Q I rx rv h
  obtain ⟨p, d, ds, r, d', rfl, ho, rd, hm, q⟩ := h
  match d, ds, ho, rd, hm with
  | .lst xs, [y], ho, rd, hm =>
    simp only [mutD] at hm
    split at hm
    · rename_i hz
      cases hm
      obtain ⟨ws, e, rw'⟩ := ho
      obtain ⟨y', r', rfl, ry, rn⟩ := rd
      have : r' = [] := rn
      subst this
      obtain ⟨k, o2⟩ := upd_own (p := p) e (rw'.append (Rps.cons ry .nil))
      exact mt_append pins s σ H _ _ v us Q I rx rv ⟨p, ws, y', rfl, rfl, e, by rw [← line_eq, rw'.length]; exact hz, q _ _ (fun b u n h => by rw [upd_ne n]; exact h) (fun b n => upd_ne n) o2 rfl⟩
    · cases hm
theorem eraseIdx_rp {K : PySem.W.Frag} {H : Hp} : ∀ {ds : List D} {vs : List V} (n : Nat), Rps K H ds vs → Rps K H (ds.eraseIdx n) (vs.eraseIdx n)
  | [], vs, n, h => by rw [show vs = [] from h]; exact .nil
  | d :: ds, vs, 0, h => by obtain ⟨v, r, rfl, _, t⟩ := h; exact t
  | d :: ds, vs, n + 1, h => by obtain ⟨v, r, rfl, x, t⟩ := h; exact .cons x (eraseIdx_rp n t)
theorem mutR_pop : MtM X "list.pop" (rMut X.K .pop) := by
  intro pins s σ H x vs v us Q I rx rv h
  obtain ⟨p, d, ds, r, d', rfl, ho, rd, hm, q⟩ := h
  cases d with
  | lst xs =>
    cases ds with
    | nil =>
      simp only [mutD] at hm
      split at hm
      · rename_i y hy
        cases hm
        obtain ⟨ws, e, rw'⟩ := ho
        have : vs = [] := rd
        subst this
        obtain ⟨k, o2⟩ := upd_own (p := p) e rw'.dropLast
        rw [List.getLast?_eq_getElem?] at hy
        obtain ⟨y', hy', ry⟩ := rw'.get hy
        exact mt_pop pins s σ H _ _ v us Q I rx rv ⟨p, ws, y', rfl, rfl, e, by rw [rw'.length]; exact hy', q _ _ (fun b u n h => by rw [upd_ne n]; exact h) (fun b n => upd_ne n) o2 (ry.mono k)⟩
      · cases hm
    | cons d1 ds =>
      cases ds with
      | cons d2 ds => cases d1 <;> cases hm
      | nil =>
        cases d1 with
        | int i =>
          obtain ⟨z, r', rfl, rz, rn⟩ := rd
          have : r' = [] := rn
          subst this
          have : z = .int i := rz
          subst this
          simp only [mutD] at hm
          by_cases h0 : 0 ≤ i
          · rw [if_pos h0] at hm
            cases hy : xs[i.toNat]? with
            | none => rw [hy] at hm; cases hm
            | some y =>
              rw [hy] at hm
              cases hm
              obtain ⟨ws, e, rw'⟩ := ho
              obtain ⟨k, o2⟩ := upd_own (p := p) e (eraseIdx_rp i.toNat rw')
              obtain ⟨y', hy', ry⟩ := rw'.get hy
              have hz : ws.length ≤ sizeLine := by obtain ⟨its, n, r, ho, hz⟩ := I.lst e; exact hz
              have hl : i.toNat < ws.length := (List.getElem?_eq_some_iff.mp hy').1
              rw [sizeLine_eq] at hz
              have sq : seqIndex? i ws.length = some i.toNat := seqIndex_of h0 (by omega)
              exact mt_popAt pins s σ H _ _ v us Q I rx rv ⟨p, ws, i, i.toNat, y', rfl, rfl, e, by omega, by omega, sq, hy', q _ _ (fun b u n h => by rw [upd_ne n]; exact h) (fun b n => upd_ne n) o2 (ry.mono k)⟩
          · rw [if_neg h0] at hm; cases hm
        | _ => cases hm
  | _ => cases ds <;> (try cases hm) <;> (rename_i ds; cases ds <;> cases hm)
theorem mutR_reverse : MtM X "list.reverse" (rMut X.K .reverse) := by
  intro pins s σ H x vs v us Q I rx rv h
  obtain ⟨p, d, ds, r, d', rfl, ho, rd, hm, q⟩ := h
  match d, ds, ho, rd, hm with
  | .lst xs, [], ho, rd, hm =>
    cases hm
    obtain ⟨ws, e, rw'⟩ := ho
    have : vs = [] := rd
    subst this
    obtain ⟨k, o2⟩ := upd_own (p := p) e rw'.reverse
    exact mt_reverse pins s σ H _ _ v us Q I rx rv ⟨p, ws, rfl, rfl, e, q _ _ (fun b u n h => by rw [upd_ne n]; exact h) (fun b n => upd_ne n) o2 rfl⟩
/-- s.add(k) -/
theorem addI_map (k : Int) (ns : List Int) : addI k (ns.map D.int) = (if k ∈ ns then ns else ns ++ [k]).map D.int := by
  unfold addI
  rw [memI_map]
  by_cases hk : k ∈ ns <;> simp [hk]
theorem add_set {P : Program} {w : World} {h : Heap} {p : Addr} {ns : List Int} {k : Int} (new : h.SetOf (intKind P w) p (fun k' => (fun k => decide (k ∈ ns)) k' || decide (k' = k)) (if (fun k => decide (k ∈ ns)) k = true then ns.length else ns.length + 1)) :
    h.SetOf (intKind P w) p (fun j => decide (j ∈ (if k ∈ ns then ns else ns ++ [k]))) (if k ∈ ns then ns else ns ++ [k]).length := by
  by_cases hk : k ∈ ns
  · rw [if_pos (by simpa using hk)] at new
    rw [if_pos hk]
    refine SetOf_congr new (fun j => ?_) rfl
    by_cases hj : j = k
    · subst hj; simp [hk]
    · simp [hj]
  · rw [if_neg (by simpa using hk)] at new
    rw [if_neg hk]
    exact SetOf_congr new (fun j => by simp) (by simp)
theorem mutR_add : MtR X "set.add" (rMut X.K .add) := by
  intro pins s σ H x vs v us Q I rx rv h
  obtain ⟨p, d, ds, r, d', rfl, ho, rd, hm, q⟩ := h
  cases d with
  | set xs =>
    cases ds with
    | nil => cases hm
    | cons d1 ds =>
      cases ds with
      | cons d2 ds => cases d1 <;> cases hm
      | nil =>
        cases d1 with
        | int k =>
          simp only [mutD] at hm
          by_cases hz : xs.length + 1 < 4000
          · rw [if_pos hz] at hm
            cases hm
            obtain ⟨ns, rfl, hp⟩ := ho
            obtain ⟨z, r', rfl, rz, rn⟩ := rd
            have : r' = [] := rn
            subst this
            have : z = .int k := rz
            subst this
            cases rx
            obtain ⟨u, rfl, tk, rfl⟩ := vals1 rv
            have hl : ns.length + 1 < 4000 := by simpa using hz
            refine call_set_add (knd := intKind X.prog X.w) (intKind_is _ _ k tk) rfl (iset_get I hp) (by unfold scanBound; omega) fun h' sb new => ?_
            have R := add_set new
            have hl2 : (if k ∈ ns then ns else ns ++ [k]).length < 4000 := by
              split
              · omega
              · rw [List.length_append, List.length_singleton]; exact hl
            have he : ∃ u, h'.get? p = some u := by
              obtain ⟨o, _, _, _, ho, _⟩ := R
              exact ⟨o, ho⟩
            refine ⟨.non, upd H p (ISet p (if k ∈ ns then ns else ns ++ [k])), I.write (e := p) (t' := s.toks + 1) (by rw [hp]; trivial) (.inl rfl) (fun b u hb hu => (sb.2 b hb).trans hu) he (iset_new R hl2), rfl, q _ _ (fun b u n h => by rw [upd_ne n]; exact h) (fun b n => upd_ne n) ?_ rfl⟩
            exact ⟨_, addI_map k ns, upd_same⟩
          · rw [if_neg hz] at hm; cases hm
        | _ => cases hm
  | _ => cases ds <;> (try cases hm) <;> (rename_i ds; cases ds <;> cases hm)
/-- index of a tuple or a list of ints -/
def rMth (K : PySem.W.Frag) (m : Mt) : V → List V → Hp → VK → Prop := fun x vs H Q => ∃ d ds r, VwR K H d x ∧ Rps K H ds vs ∧ mthD m d ds = some r ∧ ∀ v, Rp K H r v → Q v H
theorem mthR_index_tup : MtR X "tuple.index" (fun x vs H Q => ∃ ds e r, VwR X.K H (.tup ds) x ∧ Rps X.K H [e] vs ∧ indexD ds e = some r ∧ ∀ v, Rp X.K H r v → Q v H) := by
  intro pins s σ H x xs v us Q I rx rxs h
  obtain ⟨ds, e, r, vd, re, hm, q⟩ := h
  obtain ⟨p, vs, rfl, t, rd⟩ := vd.tup
  obtain ⟨y', r', rfl, ry, rn⟩ := re
  have e1 : r' = [] := rn
  subst e1
  cases e with
  | int k =>
    have e2 : y' = .int k := ry
    subst e2
    unfold indexD at hm
    cases e : intsD ds with
    | none => rw [e] at hm; cases hm
    | some ns =>
      rw [e] at hm
      have hm' : (if k ∈ ns then some (D.int (ns.idxOf k : Nat)) else none) = some r := hm
      by_cases hk : k ∈ ns
      · rw [if_pos hk] at hm'
        cases hm'
        have e3 := rd.intsD e
        subst e3
        cases rx
        obtain ⟨u, rfl, tk, rfl⟩ := vals1 rxs
        obtain ⟨its, r, pl, hz⟩ := I.tuple t.sq
        exact PySem.SeqAt.tuple_index_ints pl (intsAre_of r) hk ⟨.int _, H, I.tok _, ⟨_, rfl⟩, q _ rfl⟩
      · rw [if_neg hk] at hm'; cases hm'
  | _ => cases hm
theorem mthR_index_lst : MtR X "list.index" (fun x vs H Q => ∃ ds e r, VwR X.K H (.lst ds) x ∧ Rps X.K H [e] vs ∧ indexD ds e = some r ∧ ∀ v, Rp X.K H r v → Q v H) := by
  intro pins s σ H x xs v us Q I rx rxs h
  obtain ⟨ds, e, r, vd, re, hm, q⟩ := h
  obtain ⟨p, vs, rfl, t, rd⟩ := vd.lst
  obtain ⟨y', r', rfl, ry, rn⟩ := re
  have e1 : r' = [] := rn
  subst e1
  cases e with
  | int k =>
    have e2 : y' = .int k := ry
    subst e2
    unfold indexD at hm
    cases e : intsD ds with
    | none => rw [e] at hm; cases hm
    | some ns =>
      rw [e] at hm
      have hm' : (if k ∈ ns then some (D.int (ns.idxOf k : Nat)) else none) = some r := hm
      by_cases hk : k ∈ ns
      · rw [if_pos hk] at hm'
        cases hm'
        have e3 := rd.intsD e
        subst e3
        cases rx
        obtain ⟨u, rfl, tk, rfl⟩ := vals1 rxs
        obtain ⟨its, r, pl, hz⟩ := I.list (.inl t)
        exact PySem.SeqAt.list_index_ints pl.isList (intsAre_of r) (by have q := r.length; rw [List.length_map] at q; rw [List.length_map] at hz; exact hz) hk ⟨.int _, H, I.tok _, ⟨_, rfl⟩, q _ rfl⟩
      · rw [if_neg hk] at hm'; cases hm'
  | _ => cases hm
theorem fst_vals {h : Heap} {xs : List PyData} {vs : List Value} {as : List Addr} (hxs : PyData.canLayAll0 xs = true) (rs : ReadsAll h vs xs as) (d : PyData) : vs.findIdx? (fun y => PyData.eqv (SeqAt.readOf h y) d) = xs.findIdx? (fun y => PyData.eqv y d) := by
  rw [← SeqAt.readsAll_map xs _ _ hxs rs, List.findIdx?_map]; rfl
/-- index in a list, of data -/
theorem mthR_index_any (hu : X.A.units + 65 < cLine) : MtR X "list.index" (fun x vs H Q => ∃ (ds : List PF.D) (e : PF.D) (j : Nat), VwR X.K H (.lst ds) x ∧ Rps X.K H [e] vs ∧ shp e = true ∧ shp (.lst ds) = true ∧ ds.length ≤ line ∧ fstD e ds = some j ∧ ∀ v, Rp X.K H (.int (j : Int)) v → Q v H) := by
  intro pins s σ H x xs v us Q I rx rxs h
  obtain ⟨ds, e, j, vd, re, se, sd, hln, hm, q⟩ := h
  obtain ⟨y', r', rfl, ry, rn⟩ := re
  have e1 : r' = [] := rn
  subst e1
  obtain ⟨u, rfl, ru⟩ := vals1 rxs
  obtain ⟨as, r1⟩ := Dp.reads I _ x v (vd.dp sd) rx
  obtain ⟨bs, r2⟩ := Dp.reads I _ y' u (ry.dp (shp_lay se)) ru
  have hxs : PyData.canLayAll0 (PF.D.pys ds) = true := by
    have := shp_lay sd
    simpa [PF.D.py, PyData.canLay0] using this
  have hd := shp_lay se
  have hr := room_in_shaped (xs := PF.D.pys ds) (shp_sh se) hu
  have r1' : Reads s.heap v (.list (PF.D.pys ds)) as := r1
  cases r1' with
  | @list l o items n _ _ h1 h2 h3 h4 =>
    obtain ⟨cls, dd, data, sl⟩ := o
    have h2' : cls = .type "list" := h2
    have h3' : data = .seq items n := h3
    subst h2' h3'
    have hq := SeqAt.items_eqAt h4 r2 hxs hd hr
    have hf := fst_vals hxs h4 e.py
    have hf2 : (PF.D.pys ds).findIdx? (fun y => PyData.eqv y e.py) = some j := by
      rw [pys_map, List.findIdx?_map]; exact hm
    rw [hf2] at hf
    obtain ⟨hj, hit, hno⟩ := List.findIdx?_eq_some_iff_getElem.mp hf
    have hjl : j < ds.length := (List.findIdx?_eq_some_iff_getElem.mp hm).1
    refine call_meets PySem.F.slot_list_index ⟨_, h1, rfl⟩ PySem.F.entry_list_index (PySem.F.args_list_index_2 _ _)
      (SeqAt.list_indexAt l items n dd sl u (fun y => PyData.eqv (SeqAt.readOf s.heap y) e.py) j (by simpa using hj) (by unfold line at hln; omega) (by simpa using hit) (fun m hm' hlt => by simpa using hno m hlt)) ⟨h1, hq, ?_⟩
    exact ⟨.int (j : Int), H, I.tok _, ⟨_, rfl⟩, q _ rfl⟩
theorem mthR_index_both (hu : X.A.units + 65 < cLine) : MtR X "list.index" (fun x vs H Q => ∃ ds e r, VwR X.K H (.lst ds) x ∧ Rps X.K H [e] vs ∧ mthD .index (.lst ds) [e] = some r ∧ ∀ v, Rp X.K H r v → Q v H) := by
  intro pins s σ H x xs v us Q I rx rxs h
  obtain ⟨ds, e, r, vd, re, hm, q⟩ := h
  simp only [mthD] at hm
  cases hi : indexD ds e with
  | some r' =>
    rw [hi] at hm
    cases hm
    exact mthR_index_lst pins s σ H x xs v us Q I rx rxs ⟨ds, e, _, vd, re, hi, q⟩
  | none =>
    rw [hi] at hm
    simp only at hm
    split at hm
    · rename_i hs
      rw [Bool.and_eq_true, Bool.and_eq_true] at hs
      obtain ⟨j, hj, rfl⟩ := Option.map_eq_some_iff.mp hm
      exact mthR_index_any hu pins s σ H x xs v us Q I rx rxs ⟨ds, e, j, vd, re, hs.1.1, hs.1.2, of_decide_eq_true hs.2, hj, q⟩
    · cases hm
theorem cnt_b (b : Bool) : ∀ {bs : List Bool} {us : List Value}, Vals (bs.map V.bl) us → us.countP (fun y => y == Value.bool b) = bs.count b
  | [], _, .nil => rfl
  | x :: bs, u :: us, .cons r t => by
    have e : u = Value.bool x := r
    subst e
    rw [List.countP_cons, cnt_b b t, List.count_cons]
    by_cases h : x = b
    · subst h; simp
    · have h2 : (Value.bool x == Value.bool b) = false := beq_eq_false_iff_ne.mpr fun z => h (Value.bool.inj z)
      have h3 : (x == b) = false := beq_eq_false_iff_ne.mpr h
      rw [h2, h3]
theorem mem_b : ∀ {bs : List Bool} {us : List Value}, Vals (bs.map V.bl) us → ∀ y ∈ us, ∃ c, y = Value.bool c
  | [], _, .nil, y, hy => by cases hy
  | x :: bs, u :: us, .cons r t, y, hy => by
    rcases List.mem_cons.mp hy with rfl | hy
    · exact ⟨x, r⟩
    · exact mem_b t y hy
theorem mthR_count_lst : MtR X "list.count" (fun x vs H Q => ∃ ds e r, VwR X.K H (.lst ds) x ∧ Rps X.K H [e] vs ∧ mthD .count (.lst ds) [e] = some r ∧ ∀ v, Rp X.K H r v → Q v H) := by
  intro pins s σ H x xs v us Q I rx rxs h
  obtain ⟨ds, e, r, vd, re, hm, q⟩ := h
  obtain ⟨p, vs, rfl, t, rd⟩ := vd.lst
  obtain ⟨y', r', rfl, ry, rn⟩ := re
  have e1 : r' = [] := rn
  subst e1
  cases e with
  | bl b =>
    have e2 : y' = .bl b := ry
    subst e2
    obtain ⟨bs, eb, rfl⟩ := Option.map_eq_some_iff.mp (show (blsD ds).map (fun bs => PF.D.int (bs.count b : Nat)) = some r from hm)
    have e3 := rd.blsD eb
    subst e3
    cases rx
    obtain ⟨u, rfl, ru⟩ := vals1 rxs
    have eu : u = .bool b := ru
    subst eu
    obtain ⟨its, rv, pl, hz⟩ := I.list (.inl t)
    obtain ⟨⟨cls, dd, data, sl⟩, n, ho, hc, hdn, hd⟩ := pl
    simp only at hc hd
    subst hc hd
    refine call_meets PySem.F.slot_list_count ⟨_, ho, rfl⟩ PySem.F.entry_list_count (PySem.F.args_list_count_2 _ _)
      (SeqAt.list_countAt p its.toArray n dd sl (.bool b) (fun y => y == Value.bool b)) ⟨ho, fun y hy => ?_, ?_⟩
    · obtain ⟨c, rfl⟩ := mem_b rv y (by simpa using hy)
      have ec : (Value.bool c == Value.bool b) = (c == b) := by cases c <;> cases b <;> decide
      show SeqAt.EqAt _ _ _ _ (Value.bool c == Value.bool b)
      rw [ec]
      exact SeqAt.EqAt.bool_bool c b
    · refine ⟨.int (bs.count b : Nat), H, I.tok _, ⟨s.toks, ?_⟩, q _ rfl⟩
      show Value.int ((its.toArray.toList.countP _ : Nat) : Int) s.toks = Value.int ((bs.count b : Nat) : Int) s.toks
      rw [show its.toArray.toList = its from rfl, cnt_b b rv]
  | _ => simp [mthD] at hm
end
end PF
/-! PF5: readings of the small language's parts, and how they are put together. -/
namespace PF
open PySem PySem.Spec PyProof.Rows L2

abbrev Ev := Env → Option (Opd × Env)
def tE (K : PySem.W.Frag) (f : Ev) : TE := fun σ H Q => ∃ env o env', EnvR K H σ env ∧ f env = some (o, env') ∧ ∀ v H', Po K σ H env o env' v H' → Q v H'
def tD (K : PySem.W.Frag) (f : Env → Option (D × Env)) : TE := fun σ H Q => ∃ env d env', EnvR K H σ env ∧ f env = some (d, env') ∧ ∀ v H', EnvR K H' σ env' → Tr σ H env σ H' env' → Rp K H' d v → Q v H'
def tT (K : PySem.W.Frag) (f : Ev) : TT := fun σ H Q => ∃ env b env', EnvR K H σ env ∧ f env = some (.dat (.bl b), env') ∧ ∀ H', EnvR K H' σ env' → Tr σ H env σ H' env' → Q b H'
/-- what an iterator yields -/
def ItOk (K : PySem.W.Frag) (H : Hp) (J : It) (xs : List D) : Prop := ∀ i H2, Kp H H2 →
  (i < xs.length → J.go i H2 ∧ ∀ x H3, J.yld i H2 x H3 → H3 = H2 ∧ ∃ d, xs[i]? = some d ∧ Rp K H2 d x) ∧ (i = xs.length → J.stop i H2)
def tI (K : PySem.W.Frag) (f : Ev) : TI := fun σ H R => ∃ env xs env', EnvR K H σ env ∧ f env = some (.dat (.tup xs), env') ∧ ∀ J H', EnvR K H' σ env' → Tr σ H env σ H' env' → ItOk K H' J xs → R J H'
def tDs (K : PySem.W.Frag) (f : Env → Option (List D × Env)) : TA := fun σ H Q => ∃ env ds env', EnvR K H σ env ∧ f env = some (ds, env') ∧ ∀ vs H', EnvR K H' σ env' → Tr σ H env σ H' env' → Rps K H' ds vs → Q vs H'
/-- operands, from the left -/
inductive OpdsR (K : PySem.W.Frag) (σ : St) (H0 : Hp) (env0 : Env) (H : Hp) (env : Env) : List Opd → List V → Prop
  | nil : OpdsR K σ H0 env0 H env [] []
  | cons {o : Opd} {v : V} {os : List Opd} {vs : List V} (r : OpdR K H σ env o v) (n : ∀ d p, o = .own d → v = .ref p → H0 p = none ∨ OwnA env0 σ p) (t : OpdsR K σ H0 env0 H env os vs)
      (dj : ∀ (d : D) (p : Addr), o = .own d → v = .ref p → ∀ (k : Nat) (e : D), os[k]? = some (.own e) → vs[k]? ≠ some (.ref p)) : OpdsR K σ H0 env0 H env (o :: os) (v :: vs)
def tAs (K : PySem.W.Frag) (f : Env → Option (List Opd × Env)) : TA := fun σ H Q => ∃ env os env', EnvR K H σ env ∧ f env = some (os, env') ∧ ∀ vs H', EnvR K H' σ env' → Tr σ H env σ H' env' → OpdsR K σ H env H' env' os vs → Q vs H'

section
variable {X : Cx} {K : PySem.W.Frag}
/-- an operation's end -/
theorem po_res {σ : St} {H H1 H' : Hp} {env env1 : Env} {r : Opd} {v : V} (E : EnvR K H1 σ env1) (t : Tr σ H env σ H1 env1) (h : ResR K H1 r v H') : Po K σ H env r env1 v H' := by
  obtain ⟨sm, hr⟩ := h
  have E' := E.same sm
  refine ⟨E', t.trans (tr_same sm), ?_, ?_⟩
  · cases r with
    | dat d => exact hr
    | own d =>
      obtain ⟨p, e, n, o⟩ := hr
      refine ⟨p, e, o, fun z => ?_⟩
      obtain ⟨u, q, _⟩ := E.nfrz z
      rw [n] at q; cases q
    | slot i => exact hr.elim
  · intro d p e1 e2
    subst e1
    obtain ⟨p', e, n, o⟩ := hr
    rw [e2] at e; cases e
    exact t.fresh n
theorem po_dat {σ : St} {H H1 : Hp} {env env1 : Env} {d : D} {v : V} (E : EnvR K H1 σ env1) (t : Tr σ H env σ H1 env1) (h : Rp K H1 d v) : Po K σ H env (.dat d) env1 v H1 :=
  ⟨E, t, h, fun _ _ e => nomatch e⟩

/-! ### data from an expression: a list is kept as it is -/
theorem pe_frz {e : Expr} {f : Ev} (h : PE X e (tE X.K f)) : PE X e (tD X.K fun env => match f env with | none => none | some (o, env) => toD env o) := by
  refine ⟨fun pins s σ H Q I hw => ?_⟩
  obtain ⟨env, d, env', E, hf, q⟩ := hw
  dsimp only at hf
  cases hfe : f env with
  | none => rw [hfe] at hf; cases hf
  | some oe =>
    obtain ⟨o, env1⟩ := oe
    rw [hfe] at hf
    have hf : toD env1 o = some (d, env') := hf
    refine thn (h.run pins s σ H (fun v H1 => Po X.K σ H env o env1 v H1) I ⟨env, o, env1, E, hfe, fun v H1 p => p⟩) fun u s1 ⟨v, H1, I1, r1, po⟩ => ?_
    cases o with
    | dat d0 =>
      cases hf
      exact ⟨v, H1, I1, r1, q v H1 po.e po.t po.r⟩
    | own d0 =>
      cases d0 with
      | lst xs =>
        cases hf
        obtain ⟨p, rfl, ⟨vs, e1, rv⟩, nown⟩ := po.r
        obtain ⟨ob, I2⟩ := inv_freeze I1 e1
        have k : Kp H1 (upd H1 p (.frz ob (.lst vs))) := upd_kp fun ob u e => by rw [e1] at e; cases e
        have oth : ∀ b u, b ≠ p → H1 b = some u → upd H1 p (.frz ob (.lst vs)) b = some u := fun b u n e => by rw [upd_ne n]; exact e
        refine ⟨.ref p, _, I2, r1, q _ _ ⟨po.e.len, fun i sl e => ?_, po.e.dj⟩ ⟨fun b u e n => ?_, po.t.s⟩ ⟨p, ob, vs, rfl, upd_same, rv.mono k⟩⟩
        · obtain ⟨x, e2, r⟩ := po.e.sl i sl e
          refine ⟨x, e2, ?_⟩
          cases sl with
          | un => trivial
          | val d => obtain ⟨v, e3, r⟩ := r; exact ⟨v, e3, r.mono k⟩
          | own d =>
            obtain ⟨p2, e3, r⟩ := r
            subst e3
            refine ⟨p2, rfl, r.keep k fun u qq => oth p2 u ?_ qq⟩
            rintro rfl
            exact nown ⟨i, d, e, e2⟩
        · refine oth b u ?_ (po.t.f b u e n)
          rintro rfl
          rcases po.n _ _ rfl rfl with z | z
          · rw [e] at z; cases z
          · exact n z
      | dct ks ds =>
        cases hf
        obtain ⟨p, rfl, ⟨kvs, ek, e1, rv⟩, nown⟩ := po.r
        obtain ⟨ob, I2⟩ := inv_freezeD I1 e1
        have k : Kp H1 (upd H1 p (.frz ob (.dK (dK kvs)))) := upd_kp fun ob u e => by rw [e1] at e; cases e
        have oth : ∀ b u, b ≠ p → H1 b = some u → upd H1 p (.frz ob (.dK (dK kvs))) b = some u := fun b u n e => by rw [upd_ne n]; exact e
        refine ⟨.ref p, _, I2, r1, q _ _ ⟨po.e.len, fun i sl e => ?_, po.e.dj⟩ ⟨fun b u e n => ?_, po.t.s⟩ ⟨p, ob, kvs, rfl, ek, upd_same, rv.mono k⟩⟩
        · obtain ⟨x, e2, r⟩ := po.e.sl i sl e
          refine ⟨x, e2, ?_⟩
          cases sl with
          | un => trivial
          | val d => obtain ⟨v, e3, r⟩ := r; exact ⟨v, e3, r.mono k⟩
          | own d =>
            obtain ⟨p2, e3, r⟩ := r
            subst e3
            refine ⟨p2, rfl, r.keep k fun u qq => oth p2 u ?_ qq⟩
            rintro rfl
            exact nown ⟨i, d, e, e2⟩
        · refine oth b u ?_ (po.t.f b u e n)
          rintro rfl
          rcases po.n _ _ rfl rfl with z | z
          · rw [e] at z; cases z
          · exact n z
      | _ => cases hf
    | slot i =>
      cases hl : look env1 i with
      | own d0 =>
        cases d0 with
        | lst xs =>
          simp only [toD, hl] at hf
          cases hf
          obtain ⟨p, e2, ⟨vs, e1, rv⟩, ow⟩ := po.e.own hl
          have e3 : σ[i]? = some (some v) := po.r
          rw [e2] at e3
          cases e3
          obtain ⟨ob, I2⟩ := inv_freeze I1 e1
          have k : Kp H1 (upd H1 p (.frz ob (.lst vs))) := upd_kp fun ob u e => by rw [e1] at e; cases e
          have oth : ∀ b u, b ≠ p → H1 b = some u → upd H1 p (.frz ob (.lst vs)) b = some u := fun b u n e => by rw [upd_ne n]; exact e
          have rl : Rp X.K (upd H1 p (.frz ob (.lst vs))) (.lst xs) (.ref p) := ⟨p, ob, vs, rfl, upd_same, rv.mono k⟩
          have getS : ∀ {j : Nat} {sl : Slot}, (env1.set i (.val (.lst xs)))[j]? = some sl → (j = i ∧ sl = .val (.lst xs)) ∨ (j ≠ i ∧ env1[j]? = some sl) := fun {j sl} e => by
            by_cases hj : i = j
            · subst hj
              rw [List.getElem?_set_self' ] at e
              cases hh : env1[i]? with
              | none => rw [hh] at e; cases e
              | some w => rw [hh] at e; cases e; exact .inl ⟨rfl, rfl⟩
            · rw [List.getElem?_set_ne hj] at e
              exact .inr ⟨Ne.symm hj, e⟩
          have hio := look_own hl
          have ow' : ∀ b, OwnA (env1.set i (.val (.lst xs))) σ b → OwnA env1 σ b ∧ b ≠ p := fun b ⟨j, d, h1, h2⟩ => by
            rcases getS h1 with ⟨_, z⟩ | ⟨hj, z⟩
            · cases z
            · refine ⟨⟨j, d, z, h2⟩, ?_⟩
              rintro rfl
              exact hj (po.e.dj j i d _ b z hio h2 e2)
          refine ⟨.ref p, _, I2, r1, q _ _ ⟨by rw [List.length_set]; exact po.e.len, fun j sl e => ?_, fun j l a b c h1 h2 h3 h4 => ?_⟩ ⟨fun b u e n => ?_, fun b z => po.t.s b (ow' b z).1⟩ rl⟩
          · rcases getS e with ⟨rfl, rfl⟩ | ⟨hj, e⟩
            · exact ⟨_, e2, .ref p, rfl, rl⟩
            · obtain ⟨x, e4, r⟩ := po.e.sl j sl e
              refine ⟨x, e4, ?_⟩
              cases sl with
              | un => trivial
              | val d => obtain ⟨v, e3, r⟩ := r; exact ⟨v, e3, r.mono k⟩
              | own d =>
                obtain ⟨p2, e3, r⟩ := r
                subst e3
                refine ⟨p2, rfl, r.keep k fun u qq => oth p2 u ?_ qq⟩
                rintro rfl
                exact hj (po.e.dj j i d _ p2 e hio e4 e2)
          · rcases getS h1 with ⟨_, z⟩ | ⟨_, h1⟩
            · cases z
            · rcases getS h2 with ⟨_, z⟩ | ⟨_, h2⟩
              · cases z
              · exact po.e.dj j l a b c h1 h2 h3 h4
          · refine oth b u ?_ (po.t.f b u e n)
            rintro rfl
            rcases po.t.s b ow with z | z
            · exact n z
            · rw [e] at z; cases z
        | dct ks ds =>
          simp only [toD, hl] at hf
          cases hf
          obtain ⟨p, e2, ⟨kvs, ek, e1, rv⟩, ow⟩ := po.e.own hl
          have e3 : σ[i]? = some (some v) := po.r
          rw [e2] at e3
          cases e3
          obtain ⟨ob, I2⟩ := inv_freezeD I1 e1
          have k : Kp H1 (upd H1 p (.frz ob (.dK (dK kvs)))) := upd_kp fun ob u e => by rw [e1] at e; cases e
          have oth : ∀ b u, b ≠ p → H1 b = some u → upd H1 p (.frz ob (.dK (dK kvs))) b = some u := fun b u n e => by rw [upd_ne n]; exact e
          have rl : Rp X.K (upd H1 p (.frz ob (.dK (dK kvs)))) (.dct ks ds) (.ref p) := ⟨p, ob, kvs, rfl, ek, upd_same, rv.mono k⟩
          have getS : ∀ {j : Nat} {sl : Slot}, (env1.set i (.val (.dct ks ds)))[j]? = some sl → (j = i ∧ sl = .val (.dct ks ds)) ∨ (j ≠ i ∧ env1[j]? = some sl) := fun {j sl} e => by
            by_cases hj : i = j
            · subst hj
              rw [List.getElem?_set_self' ] at e
              cases hh : env1[i]? with
              | none => rw [hh] at e; cases e
              | some w => rw [hh] at e; cases e; exact .inl ⟨rfl, rfl⟩
            · rw [List.getElem?_set_ne hj] at e
              exact .inr ⟨Ne.symm hj, e⟩
          have hio := look_own hl
          have ow' : ∀ b, OwnA (env1.set i (.val (.dct ks ds))) σ b → OwnA env1 σ b ∧ b ≠ p := fun b ⟨j, d, h1, h2⟩ => by
            rcases getS h1 with ⟨_, z⟩ | ⟨hj, z⟩
            · cases z
            · refine ⟨⟨j, d, z, h2⟩, ?_⟩
              rintro rfl
              exact hj (po.e.dj j i d _ b z hio h2 e2)
          refine ⟨.ref p, _, I2, r1, q _ _ ⟨by rw [List.length_set]; exact po.e.len, fun j sl e => ?_, fun j l a b c h1 h2 h3 h4 => ?_⟩ ⟨fun b u e n => ?_, fun b z => po.t.s b (ow' b z).1⟩ rl⟩
          · rcases getS e with ⟨rfl, rfl⟩ | ⟨hj, e⟩
            · exact ⟨_, e2, .ref p, rfl, rl⟩
            · obtain ⟨x, e4, r⟩ := po.e.sl j sl e
              refine ⟨x, e4, ?_⟩
              cases sl with
              | un => trivial
              | val d => obtain ⟨v, e3, r⟩ := r; exact ⟨v, e3, r.mono k⟩
              | own d =>
                obtain ⟨p2, e3, r⟩ := r
                subst e3
                refine ⟨p2, rfl, r.keep k fun u qq => oth p2 u ?_ qq⟩
                rintro rfl
                exact hj (po.e.dj j i d _ p2 e hio e4 e2)
          · rcases getS h1 with ⟨_, z⟩ | ⟨_, h1⟩
            · cases z
            · rcases getS h2 with ⟨_, z⟩ | ⟨_, h2⟩
              · cases z
              · exact po.e.dj j l a b c h1 h2 h3 h4
          · refine oth b u ?_ (po.t.f b u e n)
            rintro rfl
            rcases po.t.s b ow with z | z
            · exact n z
            · rw [e] at z; cases z
        | _ => simp [toD, hl] at hf
      | un => simp [toD, hl] at hf
      | val d0 => simp [toD, hl] at hf

/-! ### tests and what is walked, from a value -/
theorem VwR.tru {H : Hp} {d : D} {v : V} {b : Bool} (h : VwR K H d v) (ht : truth d = some b) : TruV K v H b := by
  cases d with
  | non => cases ht; rw [h.non]; rfl
  | bl k => cases ht; rw [h.bl]; rfl
  | int k => cases ht; rw [h.int]; rfl
  | tup ds =>
    cases ht
    obtain ⟨p, vs, rfl, t, rd⟩ := h.tup
    refine .inr (.inl ⟨vs, t.sq, ?_⟩)
    have := rd.length
    cases ds <;> cases vs <;> first | rfl | simp at this
  | lst ds =>
    cases ht
    obtain ⟨p, vs, rfl, t, rd⟩ := h.lst
    refine .inl ⟨vs, .inl t, ?_⟩
    have := rd.length
    cases ds <;> cases vs <;> first | rfl | simp at this
  | _ => cases ht
theorem pt_fin {e : Expr} {f : Ev} (h : PE X e (tE X.K f)) (he : ∀ whole, isTrue e X.env whole = (do let v ← whole; standAt e.pos; holding [v] (truthy v))) : PT X e (tT X.K fun env => fin .t (f env)) := by
  refine PT.imp (pt_truth h he) fun σ H Q hw => ?_
  obtain ⟨env, b, env', E, hf, q⟩ := hw
  dsimp only at hf
  cases hfe : f env with
  | none => rw [hfe] at hf; cases hf
  | some oe =>
    obtain ⟨o, env1⟩ := oe
    rw [hfe] at hf
    simp only [fin] at hf
    cases hv : view env1 o with
    | none => rw [hv] at hf; cases hf
    | some d =>
      rw [hv] at hf
      cases ht : truth d with
      | none => simp only [ht] at hf; cases hf
      | some b' =>
        simp only [ht] at hf
        cases hf
        exact ⟨env, o, _, E, hfe, fun v H' po => ⟨b, VwR.tru (po.r.view po.e hv) ht, q H' po.e po.t⟩⟩
theorem itl_ok {H : Hp} {a : Addr} {o : Obj} {vs : List V} {xs : List D} (h : H a = some (.frz o (.lst vs))) (r : Rps K H xs vs) : ItOk K H (Itl K a) xs := fun i H2 k => by
  have h2 : SqL K H2 a vs := .inl (.inr ⟨o, k _ _ _ h⟩)
  have hl := r.length
  refine ⟨fun hi => ?_, fun hi => ⟨vs, h2, by omega⟩⟩
  refine ⟨⟨vs, vs[i]'(by omega), h2, List.getElem?_eq_getElem (by omega)⟩, fun x H3 y => ?_⟩
  obtain ⟨e, y⟩ := y
  refine ⟨e, ?_⟩
  have ex := y vs h2
  exact ⟨xs[i], List.getElem?_eq_getElem hi, (r.mono k).at (List.getElem?_eq_getElem hi) ex⟩
theorem itt_ok {H : Hp} {a : Addr} {vs : List V} {xs : List D} (h : TupAt K H a vs) (r : Rps K H xs vs) : ItOk K H (Itt K a) xs := fun i H2 k => by
  have h2 : SqT K H2 a vs := (h.mono k).sq
  have hl := r.length
  refine ⟨fun hi => ?_, fun hi => ⟨vs, h2, by omega⟩⟩
  refine ⟨⟨vs, vs[i]'(by omega), h2, List.getElem?_eq_getElem (by omega)⟩, fun x H3 y => ?_⟩
  obtain ⟨e, y⟩ := y
  refine ⟨e, ?_⟩
  have ex := y vs h2
  exact ⟨xs[i], List.getElem?_eq_getElem hi, (r.mono k).at (List.getElem?_eq_getElem hi) ex⟩
theorem itk_ok {H : Hp} {a : Addr} {o : Obj} {kvs : List (Int × V)} (h : H a = some (.frz o (.dK (dK kvs)))) : ItOk K H (Itk a o (dK kvs)) (kvs.map fun q => D.int q.1) := fun i H2 k => by
  have h2 := k _ _ _ h
  refine ⟨fun hi => ?_, fun hi => ⟨h2, by rw [hi]; simp⟩⟩
  have hi' : i < kvs.length := by simpa using hi
  refine ⟨⟨h2, by simpa using hi'⟩, fun x H3 y => ?_⟩
  obtain ⟨e, k', v', e2, e3⟩ := y
  refine ⟨e, .int kvs[i].1, by simp [hi'], ?_⟩
  have e4 : (dK kvs)[i]? = some (Sum.inl kvs[i].1, kvs[i].2) := by simp [dK, hi']
  rw [e4] at e2
  cases e2
  exact e3
theorem pi_fin {tg e : Expr} {f : Ev} (h : PE X e (tE X.K f)) : PI X tg e (tI X.K fun env => fin .i (f env)) := by
  refine PI.imp (PI.or (pi_tup (pe_frz h)) (PI.or (pi_list (pe_frz h)) (pi_keys (pe_frz h)))) fun σ H R hw => ?_
  obtain ⟨env, xs, env', E, hf, q⟩ := hw
  dsimp only at hf
  cases hfe : f env with
  | none => rw [hfe] at hf; cases hf
  | some oe =>
    obtain ⟨o, env1⟩ := oe
    rw [hfe] at hf
    simp only [fin, itemsOf] at hf
    cases hd : toD env1 o with
    | none => rw [hd] at hf; cases hf
    | some de =>
      obtain ⟨d, env2⟩ := de
      rw [hd] at hf
      cases d with
      | tup ys =>
        simp only at hf
        cases hf
        refine .inl ⟨env, .tup xs, env', E, by simp only [hfe]; exact hd, fun v H' E' t' r => ?_⟩
        obtain ⟨a, vs, rfl, t, rd⟩ := r
        exact ⟨a, rfl, ⟨vs, t.sq⟩, q _ _ E' t' (itt_ok t rd)⟩
      | lst ys =>
        simp only at hf
        cases hf
        refine .inr (.inl ⟨env, .lst xs, env', E, by simp only [hfe]; exact hd, fun v H' E' t' r => ?_⟩)
        obtain ⟨a, ob, vs, rfl, t, rd⟩ := r
        exact ⟨a, rfl, ⟨vs, .inl (.inr ⟨ob, t⟩)⟩, q _ _ E' t' (itl_ok t rd)⟩
      | dct ks ws =>
        simp only at hf
        cases hf
        refine .inr (.inr ⟨env, .dct xs ws, env', E, by simp only [hfe]; exact hd, fun v H' E' t' r => ?_⟩)
        obtain ⟨a, ob, kvs, rfl, rfl, t, rd⟩ := r
        exact ⟨a, ob, rfl, .inl ⟨_, t, q _ _ E' t' (itk_ok t)⟩⟩
      | _ => cases hf
end
end PF
/-! PF6: the small language's expressions against Python's; that what the evaluator gives is what runs. -/
namespace PF
open PySem PySem.Spec PyProof.Rows L2

/-! ### classes of errors -/
/-- what the top holds under a name -/
def xvl (K : PySem.W.Frag) (x : Str) : Value := match PySem.W.nsIn K mainGlobals x with
  | some (some v) => v
  | _ => .none
/-- facts of classes: one that is raised; except y takes (or doesn't take) one of x; isinstance of one of x and y, of one of x and ValueError -/
inductive XF where
  | exc (x : Str) | exm (x y : Str) (b : Bool) | isn (x y : Str) (b : Bool) | isb (x : Str) (b : Bool)
deriving DecidableEq
def veB : List Value := [.type "ValueError", .type "Exception", .type "BaseException", .type "object"]
def excB (K : PySem.W.Frag) (C : Addr) : Bool :=
  PySem.W.excIn K C veB "ValueError.__new__" && (PySem.W.keepIn K (.ref C) && (decide (PySem.W.typeIn K (.ref C) = some (.type "type")) &&
  (decide (PySem.W.findIn K (.ref C) "__getattribute__" = some (some (.builtin "BaseException.__getattribute__"))) && (decide (PySem.W.findIn K (.ref C) "__getattr__" = some none) && (decide (PySem.W.subIn K (.ref C) (.type "BaseException") = some true) &&
  (PySem.W.hasDictIn K C && (decide (PySem.W.findIn K (.ref C) "__class__" = some (some (.builtin "object.__class__"))) && (decide (PySem.W.specialIn K (.builtin "object.__class__") "__get__" = some (some (.builtin "getset_descriptor.__get__"))) &&
  (decide (PySem.W.takesIn K (.builtin "object.__class__") = some true) && decide (PySem.W.mroIn K C (.type "object") = some true))))))))))
def XF.ok (K : PySem.W.Frag) : XF → Bool
  | .exc x => match xvl K x with
    | .ref C => excB K C
    | _ => false
  | .exm x y b => decide (PySem.W.exmOne K (xvl K x) (xvl K y) = some b)
  | .isn x y b => decide (PySem.W.kitOne K (xvl K x) (xvl K y) = some b) && (match xvl K y with | .ref _ => true | _ => false)
  | .isb x b => decide (PySem.W.kitOne K (xvl K x) (.type "ValueError") = some b)
theorem excB_ok {K : PySem.W.Frag} {C : Addr} (h : excB K C = true) : PySem.W.excIn K C veB "ValueError.__new__" = true ∧ PySem.W.keepIn K (.ref C) = true ∧ PySem.W.typeIn K (.ref C) = some (.type "type") ∧ ExcC K C := by
  unfold excB at h
  simp only [Bool.and_eq_true, decide_eq_true_eq] at h
  obtain ⟨h1, h2, h3, h4, h5, h6, h7, h8, h9, h10, h11⟩ := h
  exact ⟨h1, h2, h3, ⟨h4, h5, h6, h7, h8, h9, h10, h11⟩⟩
theorem exc_ref {K : PySem.W.Frag} {x : Str} (h : (XF.exc x).ok K = true) : ∃ C, xvl K x = .ref C ∧ excB K C = true := by
  have h' : (match xvl K x with | .ref C => excB K C | _ => false) = true := h
  split at h'
  · rename_i C e; exact ⟨C, e, h'⟩
  · cases h'

/-- what a text is checked against: names by slot, the scope, the names that may be stored to, those that no global bears, the defs with how many parameters -/
structure Ck where
  N : List Str
  sc : Scope
  st : Str → Bool
  bn : List Str
  fns : List (Str × Nat)
  /-- classes' names; facts of them -/
  xn : List Str
  xs : List XF
def visB (sc : Scope) (x : Str) : Bool := match sc.names.lookup x with
  | some .local => true | some .cell => true | some .free => true | _ => false
theorem vis_of {sc : Scope} {x : Str} (h : visB sc x = true) : Vis sc x := by
  unfold visB at h
  unfold Vis
  split at h <;> simp_all
def ldOk (G : Ck) (i : Nat) (x : Str) : Bool := decide (G.N[i]? = some x) && visB G.sc x && !(x == ("__debug__" : Str)) && !(x == ("__classdict__" : Str))
def locB (G : Ck) (x : Str) : Bool := match G.sc.names.lookup x with
  | some .local => true | some .cell => G.st x | _ => false
def stOk (G : Ck) (i : Nat) (x : Str) : Bool := decide (G.N[i]? = some x) && locB G x
def gbOk (G : Ck) (x : Str) : Bool := (match G.sc.names.lookup x with | some .globalImplicit => true | _ => false) && !(x == ("__debug__" : Str))
def blOk (G : Ck) (x : Str) : Bool := gbOk G x && G.bn.contains x
def Blt.name : Blt → Str
  | .len => "len" | .sum => "sum" | .max => "max" | .min => "min" | .abs => "abs" | .int => "int" | .tuple => "tuple" | .list => "list" | .set => "set" | .sorted => "sorted" | .any => "any" | .all => "all" | .dict => "dict"
def Ty.name : Ty → Str
  | .bool => "bool" | .int => "int" | .str => "str" | .tuple => "tuple" | .list => "list"
def Mt.name : Mt → Str
  | .append => "append" | .pop => "pop" | .reverse => "reverse" | .extend => "extend" | .add => "add" | .insert => "insert" | .index => "index" | .count => "count" | .get => "get"
/-- how many arguments a changing method takes here -/
def Mt.mut : Mt → Nat → Bool
  | .append, 1 => true | .pop, 0 => true | .pop, 1 => true | .reverse, 0 => true | .add, 1 => true | _, _ => false
def isSetE : Expr → Bool
  | .Set _ _ _ => true | _ => false
def isCallO : Expr → Bool
  | .Call (.Name _ _) [] [] _ => true | _ => false
def isIteE : E → Bool
  | .ite _ _ _ => true | .sdsp _ => true | _ => false
def isNonE : E → Bool
  | .non => true | _ => false
def Tg.is : Tg → List Nat
  | .nm i => [i] | .tp is => is
def ckTs (G : Ck) : List Nat → List Expr → Bool
  | [], [] => true
  | i :: is, .Name x _ :: es => stOk G i x && ckTs G is es
  | _, _ => false
def ckTg (G : Ck) : Tg → Expr → Bool
  | .nm i, .Name x _ => stOk G i x
  | .tp is, .Tuple es _ _ => ckTs G is es
  | _, _ => false
/-- the checks within a comprehension's block -/
def Ck.blk (G : Ck) (scope : Scope) : Ck := { G with sc := relS scope G.sc, st := fun x => scope.names.lookup x == some .cell }
def ownN (N : List Str) (own : List Nat) : List (Str × Nat) := own.map fun i => (N.getD i "", i)
def kdsPlainB (e : Expr) : Bool := PySem.W.kdsPlain e
mutual
def ckE : E → Ck → Expr → Bool
  | .var i, G, .Name x _ => ldOk G i x
  | .int i, _, .Constant (.int j) _ _ => decide (i = j)
  | .bl b, _, .Constant (.bool c) _ _ => decide (b = c)
  | .non, _, .Constant .none _ _ => true
  | .str s, _, .Constant (.str t) _ _ => decide (s = t)
  | .tup es, G, .Tuple xs _ _ => ckEs es G xs
  | .lst es, G, .List xs _ => ckEs es G xs
  | .bin op a b, G, .BinOp x o y _ => decide (op.py = o) && ckE a G x && ckE b G y
  | .neg a, G, .UnaryOp .USub x _ => ckE a G x
  | .not a, G, .UnaryOp .Not x _ => ckE a G x
  | .cmp op a b, G, .Compare x [o] [y] _ => decide (op.py = o) && ckE a G x && ckE b G y && !isSetE y
  | .chain op op2 a b c, G, .Compare x [o, o2] [y, z] _ => decide (op.py = o) && decide (op2.py = o2) && ckE a G x && ckE b G y && ckE c G z && !isSetE z
  | .and es, G, .BoolOp .And xs _ => !es.isEmpty && ckEs es G xs
  | .or es, G, .BoolOp .Or xs _ => !es.isEmpty && ckEs es G xs
  | .ite t a b, G, .IfExp t' x y _ => ckE t G t' && ckE a G x && ckE b G y
  | .idx a i, G, .Subscript x y _ => ckE a G x && ckE i G y
  | .rev a, G, .Subscript x (.Slice none none (some (.UnaryOp .USub (.Constant (.int 1) _ _) _)) _) _ => ckE a G x
  | .slc a lo hi, G, .Subscript x (.Slice l h none _) _ => ckE a G x && (match l with | none => isNonE lo | some l => !isNonE lo && ckE lo G l) && (match h with | none => isNonE hi | some h => !isNonE hi && ckE hi G h)
  | .call f es, G, .Call (.Name x _) xs [] _ => decide (x = f) && gbOk G x && G.fns.contains (f, es.length) && ckEs es G xs
  | .blt b es, G, .Call (.Name x _) xs [] _ => decide (x = b.name) && b.ok && blOk G x && !es.isEmpty && ckEs es G xs
  | .isi a t, G, .Call (.Name x _) [y, .Name z _] [] _ => decide (x = "isinstance") && blOk G x && decide (z = t.name) && blOk G z && ckE a G y
  | .mut m i es, G, .Call (.Attribute (.Name x _) nm apos) xs [] cpos => decide (nm = m.name) && m.mut es.length && ldOk G i x && (apos.endLine == cpos.line) && ckEs es G xs
  | .dget a k z, G, .Call (.Attribute o nm apos) [x, y] [] cpos => decide (nm = "get") && !isCallO o && (apos.endLine == cpos.line) && ckE a G o && ckE k G x && ckE z G y
  | .dpop i k z, G, .Call (.Attribute (.Name w _) nm apos) [x, y] [] cpos => decide (nm = "pop") && (apos.endLine == cpos.line) && ldOk G i w && ckE k G x && ckE z G y
  | .mth m a es, G, .Call (.Attribute o nm apos) xs [] cpos => (decide (m = .index) || decide (m = .count)) && decide (nm = m.name) && !isCallO o && (apos.endLine == cpos.line) && decide (es.length = 1) && ckE a G o && ckEs es G xs
  | .lc own tg (.rng es) cond elt, G, .ListComp elt' [⟨t0, .Call (.Name x _) xs [] _, ifs0, 0⟩] scope _ => blkC G.N G.sc scope (ownN G.N own) && ckTg (G.blk scope) tg t0 && (tg.is.all fun i => own.contains i) && (decide (x = "range") && blOk G x && (decide (es.length = 1) || decide (es.length = 2)) && ckEs es G xs) && decide (cond.length ≤ 1) && ckEs cond (G.blk scope) ifs0 && ckE elt (G.blk scope) elt'
  | .lc own tg src cond elt, G, .ListComp elt' [⟨t0, i0, ifs0, 0⟩] scope _ => blkC G.N G.sc scope (ownN G.N own) && ckTg (G.blk scope) tg t0 && (tg.is.all fun i => own.contains i) && (!isIteE src && ckE src G i0) && decide (cond.length ≤ 1) && ckEs cond (G.blk scope) ifs0 && ckE elt (G.blk scope) elt'
  | .lc2 own tg src cond vs1 tg1 src1 cond1 elt, G, .ListComp elt' [⟨t0, i0, ifs0, 0⟩, ⟨t1, i1, ifs1, 0⟩] scope _ => blkC G.N G.sc scope (ownN G.N own) && ckTg (G.blk scope) tg t0 && (tg.is.all fun i => own.contains i) && ckTg (G.blk scope) tg1 t1 && (tg1.is.all fun i => vs1.contains i) && (vs1.all fun i => own.contains i) && (!isIteE src && ckE src G i0) && (!isIteE src1 && ckE src1 (G.blk scope) i1) && decide (cond.length ≤ 1) && decide (cond1.length ≤ 1) && ckEs cond (G.blk scope) ifs0 && ckEs cond1 (G.blk scope) ifs1 && ckE elt (G.blk scope) elt'
  | .rng es, G, .Call (.Name x _) xs [] _ => decide (x = "range") && blOk G x && (decide (es.length = 1) || decide (es.length = 2)) && ckEs es G xs
  | .sdsp a, G, .Set [z] k _ => decide (k = 0) && kdsPlainB z && ckE a G z
  | .dnew, _, .Dict [] [] _ => true
  | .dsp1 k v, G, .Dict [some x] [y] _ => ckE k G x && ckE v G y
  | .lrng t es, G, .Call (.Name y _) [.Call (.Name x _) xs [] _] [] _ => decide (y = (if t then "tuple" else "list" : Str)) && blOk G y && (decide (x = "range") && blOk G x && (decide (es.length = 1) || decide (es.length = 2)) && ckEs es G xs)
  | .sset a, G, .Call (.Name x _) [.Call (.Name y _) [z] [] _] [] _ => decide (x = "sorted") && decide (y = "set") && blOk G x && blOk G y && ckE a G z
  | _, _, _ => false
def ckEs : List E → Ck → List Expr → Bool
  | [], _, [] => true
  | e :: es, G, x :: xs => ckE e G x && ckEs es G xs
  | _, _, _ => false
end

/-- what is walked -/
def ckI (e : E) (G : Ck) (x : Expr) : Bool := match e, x with
  | .rng es, .Call (.Name x _) xs [] _ => decide (x = "range") && blOk G x && (decide (es.length = 1) || decide (es.length = 2)) && ckEs es G xs
  | e, x => !isIteE e && ckE e G x

/-- a def's promise, by the evaluator -/
def spC (K : PySem.W.Frag) (c : Cl) (f : Str) : Sp := fun vs H Q E => (∃ ss r fs, EnvR K H (vs.map some) ss ∧ c f ss = some (r, fs) ∧
  ∀ v H', EnvR K H' (vs.map some) fs → Tr (vs.map some) H ss (vs.map some) H' fs → OpdR K H' (vs.map some) fs r v → (∀ i, r ≠ .slot i) → (∀ d p, r = .own d → v = .ref p → H p = none ∨ OwnA ss (vs.map some) p) → Q v H') ∨
  ∃ ss g, EnvR K H (vs.map some) ss ∧ noOwn ss = true ∧ c f (mark :: ss) = some (.dat (.str g), []) ∧ ∀ H', (∀ b u, H b = some u → H' b = some u) → E (xvl K g) none H'
structure CallOk (X : Cx) (c : Cl) (f : Str) (n : Nat) : Prop where
  ok : ∃ (a : Addr) (fdt : FuncData) (ps : List Str) (k : Nat), X.mg f = some (.ref a) ∧ PySem.W.keepIn X.K (.ref a) = true ∧ Binds X.K fdt ps [] ∧ FnOk X.prog X.w X.K X.mg X.base (L2.CX X.prog X.w) k a fdt ps (spC X.K c f) ∧ Room k X.A ∧ ps.length = n
structure XOk (X : Cx) (G : Ck) (c : Cl) : Prop where
  n : X.N = G.N
  nd : X.N.Nodup
  calm : X.calm = true
  sc : X.env.scope = G.sc
  kd : G.sc.kind = .function
  fn : ∀ x, G.st x = true → X.fn x = true
  bn : ∀ x, x ∈ G.bn → X.mg x = none
  un : X.A.units + 65 < cLine
  fns : ∀ f n, (f, n) ∈ G.fns → CallOk X c f n
  px : PassesOwn (model X.prog X.w) X.A X.env X.xe
  cd : PySem.W.kdsCode X.K X.env.code = true
  xg : ∀ x, x ∈ G.xn → X.mg x = some (xvl X.K x)
  xf : ∀ φ, φ ∈ G.xs → φ.ok X.K = true
/-- what is shown of a part -/
def SE (c : Cl) (e : E) : Prop := ∀ X G, XOk X G c → ∀ x, ckE e G x = true → PE X x (tE X.K (ev c e .v)) ∧ PT X x (tT X.K (ev c e .t))
section
variable {c : Cl} {X : Cx} {G : Ck}
theorem ld_of (O : XOk X G c) {i : Nat} {x : Str} {pos : Pos} (h : ldOk G i x = true) : PE X (.Name x pos) (tVar i) := by
  unfold ldOk at h
  simp only [Bool.and_eq_true, decide_eq_true_eq, Bool.not_eq_true'] at h
  obtain ⟨⟨⟨h1, h2⟩, h3⟩, h4⟩ := h
  exact pe_var (by rw [O.n]; exact h1) (by rw [O.sc]; exact vis_of h2) h3 h4
theorem gl_of (O : XOk X G c) {x : Str} (h : gbOk G x = true) : Gl X x ∧ (x == ("__debug__" : Str)) = false := by
  unfold gbOk at h
  simp only [Bool.and_eq_true, Bool.not_eq_true'] at h
  refine ⟨?_, h.2⟩
  show X.env.scope.names.lookup x = some .globalImplicit
  rw [O.sc]
  have h1 := h.1
  split at h1 <;> simp_all
theorem bl_of (O : XOk X G c) {x : Str} (h : blOk G x = true) : Gl X x ∧ X.mg x = none ∧ (x == ("__debug__" : Str)) = false := by
  unfold blOk at h
  rw [Bool.and_eq_true] at h
  obtain ⟨h1, h2⟩ := gl_of O h.1
  exact ⟨h1, O.bn _ (by simpa using h.2), h2⟩
/-- from a value's reading to a test's -/
theorem se_of {e : E} (he : ∀ env, ev c e .t env = fin .t (ev c e .v env)) (h : ∀ X G, XOk X G c → ∀ x, ckE e G x = true → PE X x (tE X.K (ev c e .v)) ∧ (∀ whole, isTrue x X.env whole = (do let v ← whole; standAt x.pos; holding [v] (truthy v)))) : SE c e := fun X G O x hx => by
  obtain ⟨h1, h2⟩ := h X G O x hx
  refine ⟨h1, ?_⟩
  have := pt_fin h1 h2
  rw [show ev c e .t = fun env => fin .t (ev c e .v env) from funext he]
  exact this
theorem se_var (i : Nat) : SE c (.var i) := by
  refine se_of (fun _ => rfl) fun X G O x hx => ?_
  cases x <;> first | (cases hx; done) | skip
  rename_i id pos
  refine ⟨PE.imp (ld_of O hx) fun σ H Q h => ?_, fun _ => rfl⟩
  obtain ⟨env, o, env', E, hf, q⟩ := h
  simp only [ev, fin] at hf
  cases hl : look env i with
  | un => rw [hl] at hf; cases hf
  | val d =>
    rw [hl] at hf
    cases hf
    obtain ⟨v, e, r⟩ := E.val hl
    exact ⟨v, e, q v H (po_dat E .refl r)⟩
  | own d =>
    rw [hl] at hf
    cases hf
    obtain ⟨p, e, r, ow⟩ := E.own hl
    exact ⟨.ref p, e, q _ H ⟨E, .refl, e, fun _ _ z => nomatch z⟩⟩
theorem pe_const {x : Expr} {d : D} {v : V} (h : PE X x (tC v)) (hr : ∀ H, Rp X.K H d v) : PE X x (tE X.K fun env => some (.dat d, env)) :=
  PE.imp h fun σ H Q ⟨env, o, env', E, hf, q⟩ => by
    cases hf
    exact q v H (po_dat E .refl (hr H))
theorem se_int (i : Int) : SE c (.int i) := by
  refine se_of (fun _ => rfl) fun X G O x hx => ?_
  cases x <;> first | (cases hx; done) | skip
  rename_i cst k pos
  cases cst <;> first | (cases hx; done) | skip
  rename_i j
  have e : i = j := of_decide_eq_true hx
  subst e
  exact ⟨pe_const pe_int fun _ => rfl, fun _ => rfl⟩
theorem se_bl (i : Bool) : SE c (.bl i) := by
  refine se_of (fun _ => rfl) fun X G O x hx => ?_
  cases x <;> first | (cases hx; done) | skip
  rename_i cst k pos
  cases cst <;> first | (cases hx; done) | skip
  rename_i j
  have e : i = j := of_decide_eq_true hx
  subst e
  exact ⟨pe_const pe_bl fun _ => rfl, fun _ => rfl⟩
theorem se_non : SE c .non := by
  refine se_of (fun _ => rfl) fun X G O x hx => ?_
  cases x <;> first | (cases hx; done) | skip
  rename_i cst k pos
  cases cst <;> first | (cases hx; done) | skip
  exact ⟨pe_const pe_non fun _ => rfl, fun _ => rfl⟩
theorem se_str (i : Str) : SE c (.str i) := by
  refine se_of (fun _ => rfl) fun X G O x hx => ?_
  cases x <;> first | (cases hx; done) | skip
  rename_i cst k pos
  cases cst <;> first | (cases hx; done) | skip
  rename_i j
  have e : i = j := of_decide_eq_true hx
  subst e
  exact ⟨pe_const pe_str fun _ => rfl, fun _ => rfl⟩

/-! ### argument lists -/
theorem star_of {e : E} {G : Ck} {x : Expr} {env : PySem.Env} (h : ckE e G x = true) (xs : List Expr) : starEach (x :: xs) env = (false, eval x env) :: starEach xs env := by
  cases x <;> first | rfl | (exfalso; cases e <;> first | (cases h; done) | (rename_i src _ _; cases src <;> cases h))
theorem any_star : ∀ {es : List E} {G : Ck} {xs : List Expr} {env : PySem.Env} {pos : Pos}, ckEs es G xs = true → (backTo pos (starEach xs env)).any (·.1) = false
  | [], _, [], _, _, _ => rfl
  | [], _, _ :: _, _, _, h => by cases h
  | _ :: _, _, [], _, _, h => by cases h
  | e :: es, G, x :: xs, env, pos, h => by
    have h' : (ckE e G x && ckEs es G xs) = true := h
    rw [Bool.and_eq_true] at h'
    rw [star_of h'.1]
    show (false || (backTo pos (starEach xs env)).any (·.1)) = false
    rw [any_star h'.2]
    rfl
theorem len_of : ∀ {es : List E} {G : Ck} {xs : List Expr}, ckEs es G xs = true → xs.length = es.length
  | [], _, [], _ => rfl
  | [], _, _ :: _, h => by cases h
  | _ :: _, _, [], h => by cases h
  | e :: es, G, x :: xs, h => by
    have h' : (ckE e G x && ckEs es G xs) = true := h
    rw [Bool.and_eq_true] at h'
    rw [List.length_cons, List.length_cons, len_of h'.2]
theorem pa_ds (O : XOk X G c) : ∀ {es : List E}, (∀ e ∈ es, SE c e) → ∀ {xs : List Expr}, ckEs es G xs = true → PA X xs (tDs X.K (evds c es))
  | [], _, [], _ => PA.imp pa_nil fun σ H Q ⟨env, ds, env', E, hf, q⟩ => by
    cases hf
    exact q [] H E .refl rfl
  | [], _, _ :: _, h => by cases h
  | _ :: _, _, [], h => by cases h
  | e :: es, hs, x :: xs, h => by
    have h' : (ckE e G x && ckEs es G xs) = true := h
    rw [Bool.and_eq_true] at h'
    have h1 := pe_frz (hs e List.mem_cons_self X G O x h'.1).1
    have h2 := pa_ds O (fun e he => hs e (List.mem_cons_of_mem _ he)) h'.2
    refine PA.imp (pa_cons h1 h2 (star_of h'.1 xs)) fun σ H Q ⟨env, ds, env', E, hf, q⟩ => ?_
    simp only [evds] at hf
    cases e1 : ev c e .v env with
    | none => rw [e1] at hf; cases hf
    | some oe =>
      obtain ⟨o, env1⟩ := oe
      rw [e1] at hf
      simp only at hf
      cases e2 : toD env1 o with
      | none => rw [e2] at hf; cases hf
      | some de =>
        obtain ⟨d, env2⟩ := de
        rw [e2] at hf
        simp only at hf
        cases e3 : evds c es env2 with
        | none => rw [e3] at hf; cases hf
        | some dse =>
          obtain ⟨ds', env3⟩ := dse
          rw [e3] at hf
          cases hf
          refine ⟨env, d, env2, E, by simp only [e1, e2], fun v H1 E1 t1 r1 => ⟨env2, ds', env', E1, e3, fun vs H2 E2 t2 r2 => q _ H2 E2 (t1.trans t2) (.cons (r1.mono (t2.kp E1)) r2)⟩⟩
theorem OpdsR.later {K : PySem.W.Frag} {σ : St} {H0 H H1 : Hp} {env0 env env1 : Env} (E : EnvR K H σ env) (t : Tr σ H env σ H1 env1) : ∀ {os : List Opd} {vs : List V}, OpdsR K σ H0 env0 H env os vs → OpdsR K σ H0 env0 H1 env1 os vs
  | _, _, .nil => .nil
  | _, _, .cons r n t' dj => .cons (r.later E t) n (OpdsR.later E t t') dj
theorem OpdsR.from {K : PySem.W.Frag} {σ : St} {H0 H H1 : Hp} {env0 env env1 : Env} (t : Tr σ H env σ H0 env0) : ∀ {os : List Opd} {vs : List V}, OpdsR K σ H0 env0 H1 env1 os vs → OpdsR K σ H env H1 env1 os vs
  | _, _, .nil => .nil
  | _, _, .cons r n t' dj => .cons r (fun d p e1 e2 => by
      rcases n d p e1 e2 with z | z
      · exact t.fresh z
      · exact (t.s p z).symm) (OpdsR.from t t') dj
theorem OpdsR.own {K : PySem.W.Frag} {σ : St} {H0 H1 : Hp} {env0 env1 : Env} : ∀ {os : List Opd} {vs : List V}, OpdsR K σ H0 env0 H1 env1 os vs → ∀ (k : Nat) (e : D) (p : Addr), os[k]? = some (.own e) → vs[k]? = some (.ref p) → H0 p = none ∨ OwnA env0 σ p
  | _, _, .nil, k, e, p, h, _ => by simp at h
  | _, _, .cons r n t dj, 0, e, p, h, h2 => by
    simp at h h2
    exact n e p h h2
  | _, _, .cons r n t dj, k + 1, e, p, h, h2 => OpdsR.own t k e p (by simpa using h) (by simpa using h2)
theorem pa_os (O : XOk X G c) : ∀ {es : List E}, (∀ e ∈ es, SE c e) → ∀ {xs : List Expr}, ckEs es G xs = true → PA X xs (tAs X.K (evs c es))
  | [], _, [], _ => PA.imp pa_nil fun σ H Q ⟨env, ds, env', E, hf, q⟩ => by
    cases hf
    exact q [] H E .refl .nil
  | [], _, _ :: _, h => by cases h
  | _ :: _, _, [], h => by cases h
  | e :: es, hs, x :: xs, h => by
    have h' : (ckE e G x && ckEs es G xs) = true := h
    rw [Bool.and_eq_true] at h'
    have h1 := (hs e List.mem_cons_self X G O x h'.1).1
    have h2 := pa_os O (fun e he => hs e (List.mem_cons_of_mem _ he)) h'.2
    refine PA.imp (pa_cons h1 h2 (star_of h'.1 xs)) fun σ H Q ⟨env, ds, env', E, hf, q⟩ => ?_
    simp only [evs] at hf
    cases e1 : ev c e .v env with
    | none => rw [e1] at hf; cases hf
    | some oe =>
      obtain ⟨o, env1⟩ := oe
      rw [e1] at hf
      simp only at hf
      cases e3 : evs c es env1 with
      | none => rw [e3] at hf; cases hf
      | some dse =>
        obtain ⟨os', env3⟩ := dse
        rw [e3] at hf
        cases hf
        refine ⟨env, o, env1, E, e1, fun v H1 po => ⟨env1, os', env', po.e, e3, fun vs H2 E2 t2 r2 => q _ H2 E2 (po.t.trans t2) (.cons (po.r.later po.e t2) po.n (r2.from po.t) ?_)⟩⟩
        intro d p eo ev k e' hk hv
        subst eo
        obtain ⟨p', e2, oa, no⟩ := po.r
        rw [ev] at e2; cases e2
        rcases r2.own k e' p hk hv with z | z
        · obtain ⟨u, qq, _⟩ := oa.nfrz
          rw [qq] at z; cases z
        · exact no z
end
end PF
/-! PF7: the expressions, one by one. -/
namespace PF
open PySem PySem.Spec PyProof.Rows L2
section
variable {c : Cl}
theorem two_inv {α : Type} {a b : E} {env : Env} {r : α} {k : D → D → Env → Opd → Option α}
    (h : (match ev c a .v env with
      | none => none
      | some (x, env) => match ev c b .v env with
        | none => none
        | some (y, env) => match view env x, view env y with
          | some d, some e => k d e env y
          | _, _ => none) = some r) :
    ∃ x env1 y env2 d e, ev c a .v env = some (x, env1) ∧ ev c b .v env1 = some (y, env2) ∧ view env2 x = some d ∧ view env2 y = some e ∧ k d e env2 y = some r := by
  cases e1 : ev c a .v env with
  | none => rw [e1] at h; cases h
  | some xe =>
    obtain ⟨x, env1⟩ := xe
    rw [e1] at h
    simp only at h
    cases e2 : ev c b .v env1 with
    | none => rw [e2] at h; cases h
    | some ye =>
      obtain ⟨y, env2⟩ := ye
      rw [e2] at h
      simp only at h
      cases e3 : view env2 x with
      | none => rw [e3] at h; cases h
      | some d =>
        cases e4 : view env2 y with
        | none => rw [e3, e4] at h; cases h
        | some e =>
          rw [e3, e4] at h
          exact ⟨x, env1, y, env2, d, e, rfl, e2, e3, e4, h⟩
theorem se_tup {es : List E} (hs : ∀ e ∈ es, SE c e) : SE c (.tup es) := by
  refine se_of (fun _ => rfl) fun X G O x hx => ?_
  cases x <;> first | (cases hx; done) | skip
  rename_i xs k pos
  refine ⟨PE.imp (pe_tupF (pa_ds O hs hx)) fun σ H Q ⟨env, o, env', E, hf, q⟩ => ?_, fun _ => rfl⟩
  simp only [ev, fin] at hf
  cases e1 : evds c es env with
  | none => rw [e1] at hf; cases hf
  | some de =>
    obtain ⟨ds, env1⟩ := de
    rw [e1] at hf
    simp only at hf
    by_cases hz : ds.length ≤ line
    · rw [if_pos hz] at hf
      cases hf
      refine ⟨env, ds, env', E, e1, fun vs H1 E1 t1 r1 => ⟨by rw [r1.length, ← line_eq]; exact hz, fun p ob n hd => q _ _ (po_res E1 t1 (res_tup r1 n hd))⟩⟩
    · rw [if_neg hz] at hf; cases hf
theorem se_lst {es : List E} (hs : ∀ e ∈ es, SE c e) : SE c (.lst es) := by
  refine se_of (fun _ => rfl) fun X G O x hx => ?_
  cases x <;> first | (cases hx; done) | skip
  rename_i xs pos
  refine ⟨PE.imp (pe_lst (pa_ds O hs hx)) fun σ H Q ⟨env, o, env', E, hf, q⟩ => ?_, fun _ => rfl⟩
  simp only [ev, fin] at hf
  cases e1 : evds c es env with
  | none => rw [e1] at hf; cases hf
  | some de =>
    obtain ⟨ds, env1⟩ := de
    rw [e1] at hf
    simp only at hf
    by_cases hz : ds.length ≤ line
    · rw [if_pos hz] at hf
      cases hf
      refine ⟨env, ds, env', E, e1, fun vs H1 E1 t1 r1 => ⟨by rw [r1.length, ← line_eq]; exact hz, fun p n => q _ _ (po_res E1 t1 (res_lst r1 n))⟩⟩
    · rw [if_neg hz] at hf; cases hf
theorem and2 {a b : Bool} (h : (a && b) = true) : a = true ∧ b = true := by rwa [Bool.and_eq_true] at h
theorem se_bin {op : Op2} {a b : E} (ha : SE c a) (hb : SE c b) : SE c (.bin op a b) := by
  refine se_of (fun _ => rfl) fun X G O x hx => ?_
  cases x <;> first | (cases hx; done) | skip
  rename_i l o r pos
  obtain ⟨hx1, h3⟩ := and2 hx
  obtain ⟨h1, h2⟩ := and2 hx1
  have eo : op.py = o := of_decide_eq_true h1
  subst eo
  refine ⟨PE.imp (pe_op (opR2 op) (ha X G O _ h2).1 (hb X G O _ h3).1) fun σ H Q ⟨env, o, env', E, hf, q⟩ => ?_, fun _ => rfl⟩
  simp only [ev, fin] at hf
  obtain ⟨x, env1, y, env2, d, e, e1, e2, e3, e4, hk⟩ := two_inv (k := fun d e env _ => match op2 op d e with | some r => some (r, env) | none => none) hf
  cases ho : op2 op d e with
  | none => rw [ho] at hk; cases hk
  | some r =>
    rw [ho] at hk
    cases hk
    exact ⟨env, x, env1, E, e1, fun v H1 p1 => ⟨env1, y, env', p1.e, e2, fun u H2 p2 => ⟨d, e, o, (p1.r.later p1.e p2.t).view p2.e e3, p2.r.view p2.e e4, ho, fun w H3 res => q w H3 (po_res p2.e (p1.t.trans p2.t) res)⟩⟩⟩
theorem nomk {op : CmpOp} {y : Expr} (h : isSetE y = false) : behindInMarks op y = false := by
  cases y <;> first | rfl | cases h
theorem po_bl {K : PySem.W.Frag} {σ : St} {H H1 : Hp} {env env1 : Env} {b : Bool} (E : EnvR K H1 σ env1) (t : Tr σ H env σ H1 env1) : Po K σ H env (.dat (.bl b)) env1 (.bl b) H1 := po_dat E t rfl
theorem se_cmp {op : Cm} {a b : E} (ha : SE c a) (hb : SE c b) : SE c (.cmp op a b) := by
  intro X G O x hx
  cases x <;> first | (cases hx; done) | skip
  rename_i l ops rs pos
  match ops, rs, hx with
  | [o], [r], hx =>
    obtain ⟨hx1, h4⟩ := and2 hx
    obtain ⟨hx2, h3⟩ := and2 hx1
    obtain ⟨h1, h2⟩ := and2 hx2
    have eo : op.py = o := of_decide_eq_true h1
    subst eo
    have hm : behindInMarks op.py r = false := nomk (by simpa using h4)
    have key : ∀ {σ : St} {H : Hp} {env env' : Env} {bb : Bool} {Q : VK}, EnvR X.K H σ env → ev c (.cmp op a b) .v env = some (.dat (.bl bb), env') → (∀ H', EnvR X.K H' σ env' → Tr σ H env σ H' env' → Q (.bl bb) H') →
        tOp (rCm X.K op) (tE X.K (ev c a .v)) (tE X.K (ev c b .v)) σ H Q := by
      intro σ H env env' bb Q E hf q
      simp only [ev, fin] at hf
      obtain ⟨x, env1, y, env2, d, e, e1, e2, e3, e4, hk⟩ := two_inv (k := fun d e env _ => match cm op d e with | some r => some (Opd.dat (.bl r), env) | none => none) hf
      cases ho : cm op d e with
      | none => rw [ho] at hk; cases hk
      | some r =>
        rw [ho] at hk
        cases hk
        exact ⟨env, x, env1, E, e1, fun v H1 p1 => ⟨env1, y, env', p1.e, e2, fun u H2 p2 => ⟨d, e, bb, (p1.r.later p1.e p2.t).view p2.e e3, p2.r.view p2.e e4, ho, q H2 p2.e (p1.t.trans p2.t)⟩⟩⟩
    have vb : ∀ {env : Env} {o : Opd} {env' : Env}, ev c (.cmp op a b) .v env = some (o, env') → ∃ bb, o = .dat (.bl bb) := by
      intro env o env' hf
      simp only [ev, fin] at hf
      obtain ⟨x, env1, y, env2, d, e, e1, e2, e3, e4, hk⟩ := two_inv (k := fun d e env _ => match cm op d e with | some r => some (Opd.dat (.bl r), env) | none => none) hf
      cases ho : cm op d e with
      | none => rw [ho] at hk; cases hk
      | some r => rw [ho] at hk; cases hk; exact ⟨_, rfl⟩
    refine ⟨PE.imp (pe_cmpR (cmR O.un op) (ha X G O _ h2).1 (hb X G O _ h3).1 hm) fun σ H Q ⟨env, o, env', E, hf, q⟩ => ?_, PT.imp (pt_cmpR (cmR O.un op) (ha X G O _ h2).1 (hb X G O _ h3).1 hm) fun σ H Q ⟨env, b', env', E, hf, q⟩ => ?_⟩
    · obtain ⟨bb, rfl⟩ := vb hf
      exact key E hf fun H' E' t' => q _ H' (po_bl E' t')
    · have hf' : fin .t (ev c (.cmp op a b) .v env) = some (.dat (.bl b'), env') := hf
      cases hv : ev c (.cmp op a b) .v env with
      | none => rw [hv] at hf'; cases hf'
      | some oe =>
        obtain ⟨o, env2⟩ := oe
        obtain ⟨bb, rfl⟩ := vb hv
        rw [hv] at hf'
        cases hf'
        exact key E hv fun H' E' t' => ⟨b', rfl, q H' E' t'⟩
theorem se_chain {op op2 : Cm} {a b d : E} (ha : SE c a) (hb : SE c b) (hd : SE c d) : SE c (.chain op op2 a b d) := by
  intro X G O x hx
  cases x <;> first | (cases hx; done) | skip
  rename_i l ops rs pos
  match ops, rs, hx with
  | [o, o2], [r, r2], hx =>
    obtain ⟨hx1, h6⟩ := and2 hx
    obtain ⟨hx2, h5⟩ := and2 hx1
    obtain ⟨hx3, h4⟩ := and2 hx2
    obtain ⟨hx4, h3⟩ := and2 hx3
    obtain ⟨h1, h2⟩ := and2 hx4
    have eo : op.py = o := of_decide_eq_true h1
    have eo2 : op2.py = o2 := of_decide_eq_true h2
    subst eo eo2
    have hm : lastMarks [op.py, op2.py] [r, r2] = false := nomk (op := op2.py) (by simpa using h6)
    have inv : ∀ {env : Env} {o : Opd} {env' : Env}, ev c (.chain op op2 a b d) .v env = some (o, env') →
        ∃ x env1 y env2 g e, ev c a .v env = some (x, env1) ∧ ev c b .v env1 = some (y, env2) ∧ view env2 x = some g ∧ view env2 y = some e ∧
          ((cm op g e = some false ∧ o = .dat (.bl false) ∧ env' = env2) ∨ (cm op g e = some true ∧ ∃ z env3 e2 h k, ev c d .v env2 = some (z, env3) ∧ view env3 y = some e2 ∧ view env3 z = some h ∧ cm op2 e2 h = some k ∧ o = .dat (.bl k) ∧ env' = env3)) := by
      intro env o env' hf
      simp only [ev, fin] at hf
      obtain ⟨x, env1, y, env2, g, e, e1, e2, e3, e4, hk⟩ := two_inv (k := fun g e env y => match cm op g e with
          | none => none
          | some false => some (Opd.dat (.bl false), env)
          | some true => match ev c d .v env with
            | none => none
            | some (z, env) => match view env y, view env z with
              | some e, some g => match cm op2 e g with | some r => some (Opd.dat (.bl r), env) | none => none
              | _, _ => none) hf
      refine ⟨x, env1, y, env2, g, e, e1, e2, e3, e4, ?_⟩
      cases ho : cm op g e with
      | none => rw [ho] at hk; cases hk
      | some bb =>
        rw [ho] at hk
        cases bb with
        | false => cases hk; exact .inl ⟨rfl, rfl, rfl⟩
        | true =>
          simp only at hk
          cases e5 : ev c d .v env2 with
          | none => rw [e5] at hk; cases hk
          | some ze =>
            obtain ⟨z, env3⟩ := ze
            rw [e5] at hk
            simp only at hk
            cases e6 : view env3 y with
            | none => rw [e6] at hk; cases hk
            | some e2' =>
              cases e7 : view env3 z with
              | none => rw [e6, e7] at hk; cases hk
              | some h' =>
                rw [e6, e7] at hk
                simp only at hk
                cases e8 : cm op2 e2' h' with
                | none => rw [e8] at hk; cases hk
                | some k =>
                  rw [e8] at hk
                  cases hk
                  exact .inr ⟨rfl, z, _, e2', h', k, rfl, e6, e7, e8, rfl, rfl⟩
    have key : ∀ {σ : St} {H : Hp} {env env' : Env} {o : Opd} {Q : VK}, EnvR X.K H σ env → ev c (.chain op op2 a b d) .v env = some (o, env') → (∀ bb H', o = .dat (.bl bb) → EnvR X.K H' σ env' → Tr σ H env σ H' env' → Q (.bl bb) H') →
        tChain (rCm X.K op) (rCm X.K op2) (tE X.K (ev c a .v)) (tE X.K (ev c b .v)) (tE X.K (ev c d .v)) σ H Q := by
      intro σ H env env' o Q E hf q
      obtain ⟨x, env1, y, env2, g, e, e1, e2, e3, e4, hk⟩ := inv hf
      refine ⟨env, x, env1, E, e1, fun v H1 p1 => ⟨env1, y, env2, p1.e, e2, fun u H2 p2 => ?_⟩⟩
      rcases hk with ⟨ho, rfl, rfl⟩ | ⟨ho, z, env3, e2', h', k, e5, e6, e7, e8, rfl, rfl⟩
      · refine ⟨g, e, false, (p1.r.later p1.e p2.t).view p2.e e3, p2.r.view p2.e e4, ho, false, rfl, ?_⟩
        rw [if_neg Bool.false_ne_true]
        exact q _ H2 rfl p2.e (p1.t.trans p2.t)
      · refine ⟨g, e, true, (p1.r.later p1.e p2.t).view p2.e e3, p2.r.view p2.e e4, ho, true, rfl, ?_⟩
        rw [if_pos rfl]
        exact ⟨env2, z, env', p2.e, e5, fun w' H3 p3 => ⟨e2', h', k, (p2.r.later p2.e p3.t).view p3.e e6, p3.r.view p3.e e7, e8, q _ H3 rfl p3.e ((p1.t.trans p2.t).trans p3.t)⟩⟩
    have vb : ∀ {env : Env} {o : Opd} {env' : Env}, ev c (.chain op op2 a b d) .v env = some (o, env') → ∃ bb, o = .dat (.bl bb) := by
      intro env o env' hf
      obtain ⟨x, env1, y, env2, g, e, e1, e2, e3, e4, hk⟩ := inv hf
      rcases hk with ⟨ho, rfl, rfl⟩ | ⟨ho, z, env3, e2', h', k, e5, e6, e7, e8, rfl, rfl⟩
      · exact ⟨_, rfl⟩
      · exact ⟨_, rfl⟩
    have ca := cmR (X := X) O.un op
    have cb := cmR (X := X) O.un op2
    refine ⟨PE.imp (pe_chain ca cb (ha X G O _ (by assumption)).1 (hb X G O _ (by assumption)).1 (hd X G O _ (by assumption)).1 hm) fun σ H Q ⟨env, o, env', E, hf, q⟩ => key E hf fun bb H' e E' t' => ?_,
      PT.imp (pt_chain ca cb (ha X G O _ (by assumption)).1 (hb X G O _ (by assumption)).1 (hd X G O _ (by assumption)).1 hm) fun σ H Q ⟨env, b', env', E, hf, q⟩ => ?_⟩
    · subst e
      exact q _ H' (po_bl E' t')
    · have hf' : fin .t (ev c (.chain op op2 a b d) .v env) = some (.dat (.bl b'), env') := hf
      cases hv : ev c (.chain op op2 a b d) .v env with
      | none => rw [hv] at hf'; cases hf'
      | some oe =>
        obtain ⟨o, env2⟩ := oe
        obtain ⟨bb, rfl⟩ := vb hv
        rw [hv] at hf'
        cases hf'
        exact key E hv fun bb H' e E' t' => by
          cases e
          exact ⟨_, rfl, q H' E' t'⟩
theorem se_neg {a : E} (ha : SE c a) : SE c (.neg a) := by
  refine se_of (fun _ => rfl) fun X G O x hx => ?_
  cases x <;> first | (cases hx; done) | skip
  rename_i op y pos
  cases op <;> first | (cases hx; done) | skip
  refine ⟨PE.imp (pe_un un_neg (ha X G O _ hx).1) fun σ H Q ⟨env, o, env', E, hf, q⟩ => ?_, fun _ => rfl⟩
  simp only [ev, fin] at hf
  cases e1 : ev c a .v env with
  | none => rw [e1] at hf; cases hf
  | some xe =>
    obtain ⟨x, env1⟩ := xe
    rw [e1] at hf
    cases x with
    | dat d =>
      cases d with
      | int i =>
        cases hf
        exact ⟨env, _, _, E, e1, fun v H1 p1 => ⟨i, p1.r, q _ H1 (po_dat p1.e p1.t rfl)⟩⟩
      | _ => cases hf
    | _ => cases hf
theorem not_inv {a : E} {x : Option (Opd × Env)} {o : Opd} {env' : Env} (h : (match x with
    | some (.dat (.bl b), env) => some (Opd.dat (.bl (!b)), env)
    | _ => none) = some (o, env')) : ∃ b, x = some (.dat (.bl b), env') ∧ o = .dat (.bl (!b)) := by
  cases x with
  | none => cases h
  | some xe =>
    obtain ⟨x, env1⟩ := xe
    cases x with
    | dat d =>
      cases d with
      | bl b => cases h; exact ⟨b, rfl, rfl⟩
      | _ => cases h
    | _ => cases h
theorem fin_t_inv {x : Option (Opd × Env)} {o : Opd} {env' : Env} (h : fin .t x = some (o, env')) : ∃ y d b, x = some (y, env') ∧ view env' y = some d ∧ truth d = some b ∧ o = .dat (.bl b) := by
  cases x with
  | none => cases h
  | some xe =>
    obtain ⟨y, env1⟩ := xe
    simp only [fin] at h
    cases e3 : view env1 y with
    | none => rw [e3] at h; cases h
    | some d =>
      rw [e3] at h
      cases e4 : truth d with
      | none => simp only [e4] at h; cases h
      | some b =>
        simp only [e4] at h
        cases h
        exact ⟨y, d, b, rfl, e3, e4, rfl⟩
theorem se_not {a : E} (ha : SE c a) : SE c (.not a) := by
  intro X G O x hx
  cases x <;> first | (cases hx; done) | skip
  rename_i op y pos
  cases op <;> first | (cases hx; done) | skip
  refine ⟨PE.imp (pe_notT (ha X G O _ hx).1) fun σ H Q ⟨env, o, env', E, hf, q⟩ => ?_, PT.imp (pt_not (ha X G O _ hx).2) fun σ H Q ⟨env, b, env', E, hf, q⟩ => ?_⟩
  · simp only [ev, fin] at hf
    obtain ⟨b, e1, rfl⟩ := not_inv (a := a) hf
    obtain ⟨y, d, b', e2, e3, e4, e5⟩ := fin_t_inv e1
    cases e5
    exact ⟨env, y, env', E, e2, fun v H1 p1 => ⟨b, VwR.tru (p1.r.view p1.e e3) e4, q _ H1 (po_bl p1.e p1.t)⟩⟩
  · simp only [ev] at hf
    obtain ⟨y, d, b', e2, e3, e4, e5⟩ := fin_t_inv hf
    obtain ⟨b2, e6, rfl⟩ := not_inv (a := a) e2
    cases e3
    cases e4
    cases e5
    exact ⟨env, b2, env', E, e6, fun H1 E1 t1 => q H1 E1 t1⟩
/-! ### and, or -/
theorem and_cons {e : E} {es : List E} {md : Md} {env : Env} {b : Bool} {env' : Env} (h : evAnd c (e :: es) md env = some (.dat (.bl b), env')) :
    (b = false ∧ ev c e md env = some (.dat (.bl false), env')) ∨ ∃ env1, ev c e md env = some (.dat (.bl true), env1) ∧ evAnd c es md env1 = some (.dat (.bl b), env') := by
  simp only [evAnd] at h
  cases e1 : ev c e md env with
  | none => rw [e1] at h; cases h
  | some oe =>
    obtain ⟨o, env1⟩ := oe
    rw [e1] at h
    cases o with
    | dat d =>
      cases d with
      | bl k =>
        cases k with
        | false => cases h; exact .inl ⟨rfl, rfl⟩
        | true => exact .inr ⟨env1, rfl, h⟩
      | _ => cases h
    | _ => cases h
theorem or_cons {e : E} {es : List E} {md : Md} {env : Env} {b : Bool} {env' : Env} (h : evOr c (e :: es) md env = some (.dat (.bl b), env')) :
    (b = true ∧ ev c e md env = some (.dat (.bl true), env')) ∨ ∃ env1, ev c e md env = some (.dat (.bl false), env1) ∧ evOr c es md env1 = some (.dat (.bl b), env') := by
  simp only [evOr] at h
  cases e1 : ev c e md env with
  | none => rw [e1] at h; cases h
  | some oe =>
    obtain ⟨o, env1⟩ := oe
    rw [e1] at h
    cases o with
    | dat d =>
      cases d with
      | bl k =>
        cases k with
        | true => cases h; exact .inl ⟨rfl, rfl⟩
        | false => exact .inr ⟨env1, rfl, h⟩
      | _ => cases h
    | _ => cases h
theorem and_bl : ∀ {es : List E} {md : Md} {env : Env} {o : Opd} {env' : Env}, evAnd c es md env = some (o, env') → ∃ b, o = .dat (.bl b)
  | [], md, env, o, env', h => by cases h; exact ⟨_, rfl⟩
  | e :: es, md, env, o, env', h => by
    simp only [evAnd] at h
    split at h
    · cases h; exact ⟨_, rfl⟩
    · exact and_bl h
    · cases h
theorem or_bl : ∀ {es : List E} {md : Md} {env : Env} {o : Opd} {env' : Env}, evOr c es md env = some (o, env') → ∃ b, o = .dat (.bl b)
  | [], md, env, o, env', h => by cases h; exact ⟨_, rfl⟩
  | e :: es, md, env, o, env', h => by
    simp only [evOr] at h
    split at h
    · cases h; exact ⟨_, rfl⟩
    · exact or_bl h
    · cases h
theorem pe_ands {X : Cx} {G : Ck} (O : XOk X G c) {pos : Pos} : ∀ {e : E} {es : List E}, (∀ e' ∈ e :: es, SE c e') → ∀ {xs : List Expr}, ckEs (e :: es) G xs = true → PE X (.BoolOp .And xs pos) (tE X.K (evAnd c (e :: es) .v))
  | e, [], hs, [], h => by cases h
  | e, _ :: _, hs, [], h => by cases h
  | e, [], hs, x :: y :: xs, h => by
    obtain ⟨h1, h2⟩ := and2 (show (ckE e G x && ckEs [] G (y :: xs)) = true from h)
    cases h2
  | e, e2 :: es, hs, [x], h => by
    obtain ⟨h1, h2⟩ := and2 (show (ckE e G x && ckEs (e2 :: es) G []) = true from h)
    cases h2
  | e, [], hs, [x], h => by
    obtain ⟨h1, h2⟩ := and2 (show (ckE e G x && ckEs [] G []) = true from h)
    refine PE.imp (pe_one (hs e List.mem_cons_self X G O x h1).1) fun σ H Q ⟨env, o, env', E, hf, q⟩ => ?_
    obtain ⟨b, rfl⟩ := and_bl hf
    rcases and_cons hf with ⟨rfl, e1⟩ | ⟨env1, e1, e2⟩
    · exact ⟨env, _, env', E, e1, q⟩
    · cases e2
      exact ⟨env, _, env', E, e1, q⟩
  | e, e2 :: es, hs, x :: y :: xs, h => by
    obtain ⟨h1, h2⟩ := and2 (show (ckE e G x && ckEs (e2 :: es) G (y :: xs)) = true from h)
    refine PE.imp (pe_and (hs e List.mem_cons_self X G O x h1).1 (pe_ands O (fun e' he => hs e' (List.mem_cons_of_mem _ he)) h2)) fun σ H Q ⟨env, o, env', E, hf, q⟩ => ?_
    obtain ⟨b, rfl⟩ := and_bl hf
    rcases and_cons hf with ⟨rfl, e1⟩ | ⟨env1, e1, e2⟩
    · refine ⟨env, _, env', E, e1, fun v H1 p1 => ⟨false, p1.r, ?_⟩⟩
      rw [if_neg Bool.false_ne_true]
      exact q _ H1 (po_bl p1.e p1.t)
    · refine ⟨env, _, env1, E, e1, fun v H1 p1 => ⟨true, p1.r, ?_⟩⟩
      rw [if_pos rfl]
      exact ⟨env1, _, env', p1.e, e2, fun w' H2 p2 => by
        have : w' = .bl b := p2.r
        subst this
        exact q _ H2 (po_bl p2.e (p1.t.trans p2.t))⟩
theorem pe_ors {X : Cx} {G : Ck} (O : XOk X G c) {pos : Pos} : ∀ {e : E} {es : List E}, (∀ e' ∈ e :: es, SE c e') → ∀ {xs : List Expr}, ckEs (e :: es) G xs = true → PE X (.BoolOp .Or xs pos) (tE X.K (evOr c (e :: es) .v))
  | e, [], hs, [], h => by cases h
  | e, _ :: _, hs, [], h => by cases h
  | e, [], hs, x :: y :: xs, h => by
    obtain ⟨h1, h2⟩ := and2 (show (ckE e G x && ckEs [] G (y :: xs)) = true from h)
    cases h2
  | e, e2 :: es, hs, [x], h => by
    obtain ⟨h1, h2⟩ := and2 (show (ckE e G x && ckEs (e2 :: es) G []) = true from h)
    cases h2
  | e, [], hs, [x], h => by
    obtain ⟨h1, h2⟩ := and2 (show (ckE e G x && ckEs [] G []) = true from h)
    refine PE.imp (pe_one (hs e List.mem_cons_self X G O x h1).1) fun σ H Q ⟨env, o, env', E, hf, q⟩ => ?_
    obtain ⟨b, rfl⟩ := or_bl hf
    rcases or_cons hf with ⟨rfl, e1⟩ | ⟨env1, e1, e2⟩
    · exact ⟨env, _, env', E, e1, q⟩
    · cases e2
      exact ⟨env, _, env', E, e1, q⟩
  | e, e2 :: es, hs, x :: y :: xs, h => by
    obtain ⟨h1, h2⟩ := and2 (show (ckE e G x && ckEs (e2 :: es) G (y :: xs)) = true from h)
    refine PE.imp (pe_or (hs e List.mem_cons_self X G O x h1).1 (pe_ors O (fun e' he => hs e' (List.mem_cons_of_mem _ he)) h2)) fun σ H Q ⟨env, o, env', E, hf, q⟩ => ?_
    obtain ⟨b, rfl⟩ := or_bl hf
    rcases or_cons hf with ⟨rfl, e1⟩ | ⟨env1, e1, e2⟩
    · refine ⟨env, _, env', E, e1, fun v H1 p1 => ⟨true, p1.r, ?_⟩⟩
      rw [if_pos rfl]
      exact q _ H1 (po_bl p1.e p1.t)
    · refine ⟨env, _, env1, E, e1, fun v H1 p1 => ⟨false, p1.r, ?_⟩⟩
      rw [if_neg Bool.false_ne_true]
      exact ⟨env1, _, env', p1.e, e2, fun w' H2 p2 => by
        have : w' = .bl b := p2.r
        subst this
        exact q _ H2 (po_bl p2.e (p1.t.trans p2.t))⟩
theorem pw_ands {X : Cx} {G : Ck} (O : XOk X G c) {pos : Pos} : ∀ {e : E} {es : List E}, (∀ e' ∈ e :: es, SE c e') → ∀ {xs : List Expr}, ckEs (e :: es) G xs = true → PW X (.BoolOp .And xs pos) (tT X.K (evAnd c (e :: es) .t))
  | e, [], hs, [], h => by cases h
  | e, _ :: _, hs, [], h => by cases h
  | e, [], hs, x :: y :: xs, h => by
    obtain ⟨h1, h2⟩ := and2 (show (ckE e G x && ckEs [] G (y :: xs)) = true from h)
    cases h2
  | e, e2 :: es, hs, [x], h => by
    obtain ⟨h1, h2⟩ := and2 (show (ckE e G x && ckEs (e2 :: es) G []) = true from h)
    cases h2
  | e, [], hs, [x], h => by
    obtain ⟨h1, h2⟩ := and2 (show (ckE e G x && ckEs [] G []) = true from h)
    refine ⟨fun wh pins s σ H Q I hw => (pw_and1 (hs e List.mem_cons_self X G O x h1).2).run wh pins s σ H Q I ?_⟩
    obtain ⟨env, b, env', E, hf, q⟩ := hw
    rcases and_cons hf with ⟨rfl, e1⟩ | ⟨env1, e1, e2⟩
    · exact ⟨env, _, env', E, e1, q⟩
    · cases e2
      exact ⟨env, _, env', E, e1, q⟩
  | e, e2 :: es, hs, x :: y :: xs, h => by
    obtain ⟨h1, h2⟩ := and2 (show (ckE e G x && ckEs (e2 :: es) G (y :: xs)) = true from h)
    refine ⟨fun wh pins s σ H Q I hw => (pw_and (hs e List.mem_cons_self X G O x h1).2 (pw_ands O (fun e' he => hs e' (List.mem_cons_of_mem _ he)) h2)).run wh pins s σ H Q I ?_⟩
    obtain ⟨env, b, env', E, hf, q⟩ := hw
    rcases and_cons hf with ⟨rfl, e1⟩ | ⟨env1, e1, e2⟩
    · refine ⟨env, _, env', E, e1, fun H1 E1 t1 => ?_⟩
      dsimp only
      rw [if_neg Bool.false_ne_true]
      exact q H1 E1 t1
    · refine ⟨env, _, env1, E, e1, fun H1 E1 t1 => ?_⟩
      dsimp only
      rw [if_pos rfl]
      exact ⟨env1, _, env', E1, e2, fun H2 E2 t2 => q H2 E2 (t1.trans t2)⟩
theorem pw_ors {X : Cx} {G : Ck} (O : XOk X G c) {pos : Pos} : ∀ {e : E} {es : List E}, (∀ e' ∈ e :: es, SE c e') → ∀ {xs : List Expr}, ckEs (e :: es) G xs = true → PW X (.BoolOp .Or xs pos) (tT X.K (evOr c (e :: es) .t))
  | e, [], hs, [], h => by cases h
  | e, _ :: _, hs, [], h => by cases h
  | e, [], hs, x :: y :: xs, h => by
    obtain ⟨h1, h2⟩ := and2 (show (ckE e G x && ckEs [] G (y :: xs)) = true from h)
    cases h2
  | e, e2 :: es, hs, [x], h => by
    obtain ⟨h1, h2⟩ := and2 (show (ckE e G x && ckEs (e2 :: es) G []) = true from h)
    cases h2
  | e, [], hs, [x], h => by
    obtain ⟨h1, h2⟩ := and2 (show (ckE e G x && ckEs [] G []) = true from h)
    refine ⟨fun wh pins s σ H Q I hw => (pw_or1 (hs e List.mem_cons_self X G O x h1).2).run wh pins s σ H Q I ?_⟩
    obtain ⟨env, b, env', E, hf, q⟩ := hw
    rcases or_cons hf with ⟨rfl, e1⟩ | ⟨env1, e1, e2⟩
    · exact ⟨env, _, env', E, e1, q⟩
    · cases e2
      exact ⟨env, _, env', E, e1, q⟩
  | e, e2 :: es, hs, x :: y :: xs, h => by
    obtain ⟨h1, h2⟩ := and2 (show (ckE e G x && ckEs (e2 :: es) G (y :: xs)) = true from h)
    refine ⟨fun wh pins s σ H Q I hw => (pw_or (hs e List.mem_cons_self X G O x h1).2 (pw_ors O (fun e' he => hs e' (List.mem_cons_of_mem _ he)) h2)).run wh pins s σ H Q I ?_⟩
    obtain ⟨env, b, env', E, hf, q⟩ := hw
    rcases or_cons hf with ⟨rfl, e1⟩ | ⟨env1, e1, e2⟩
    · refine ⟨env, _, env', E, e1, fun H1 E1 t1 => ?_⟩
      dsimp only
      rw [if_pos rfl]
      exact q H1 E1 t1
    · refine ⟨env, _, env1, E, e1, fun H1 E1 t1 => ?_⟩
      dsimp only
      rw [if_neg Bool.false_ne_true]
      exact ⟨env1, _, env', E1, e2, fun H2 E2 t2 => q H2 E2 (t1.trans t2)⟩
theorem fin_bl {md : Md} {x : Option (Opd × Env)} (h : ∀ o env, x = some (o, env) → ∃ b, o = .dat (.bl b)) (hm : md = .t) : fin md x = x := by
  subst hm
  cases x with
  | none => rfl
  | some oe =>
    obtain ⟨o, env⟩ := oe
    obtain ⟨b, rfl⟩ := h o env rfl
    rfl
theorem se_and {es : List E} (hs : ∀ e ∈ es, SE c e) : SE c (.and es) := by
  intro X G O x hx
  cases x <;> first | (cases hx; done) | skip
  rename_i op xs pos
  cases op <;> first | (cases hx; done) | skip
  obtain ⟨h1, h2⟩ := and2 hx
  cases es with
  | nil => cases h1
  | cons e es =>
    refine ⟨pe_ands O hs h2, ?_⟩
    rw [show ev c (.and (e :: es)) .t = evAnd c (e :: es) .t from funext fun env => fin_bl (fun o env h => and_bl h) rfl]
    exact (pw_ands O hs h2).pt
theorem se_or {es : List E} (hs : ∀ e ∈ es, SE c e) : SE c (.or es) := by
  intro X G O x hx
  cases x <;> first | (cases hx; done) | skip
  rename_i op xs pos
  cases op <;> first | (cases hx; done) | skip
  obtain ⟨h1, h2⟩ := and2 hx
  cases es with
  | nil => cases h1
  | cons e es =>
    refine ⟨pe_ors O hs h2, ?_⟩
    rw [show ev c (.or (e :: es)) .t = evOr c (e :: es) .t from funext fun env => fin_bl (fun o env h => or_bl h) rfl]
    exact (pw_ors O hs h2).pt
end
end PF
/-! PF8: names lent to a call and given back. -/
namespace PF
open PySem PySem.Spec PyProof.Rows L2
section
variable {K : PySem.W.Frag} {H H1 H2 : Hp} {σ : St} {env env1 env2 : Env}
theorem OwnA.cons {s : Slot} {ss : Env} {x : Option V} {σ : St} {p : Addr} : OwnA (s :: ss) (x :: σ) p ↔ (∃ d, s = .own d ∧ x = some (.ref p)) ∨ OwnA ss σ p := by
  constructor
  · rintro ⟨i, d, h1, h2⟩
    cases i with
    | zero => simp at h1 h2; exact .inl ⟨d, h1, h2⟩
    | succ i => exact .inr ⟨i, d, by simpa using h1, by simpa using h2⟩
  · rintro (⟨d, rfl, rfl⟩ | ⟨i, d, h1, h2⟩)
    · exact ⟨0, d, rfl, rfl⟩
    · exact ⟨i + 1, d, by simpa using h1, by simpa using h2⟩
theorem EnvR.nil : EnvR K H [] [] := ⟨rfl, fun i s e => by simp at e, fun i j d e p h => by simp at h⟩
theorem EnvR.cons' {s : Slot} {ss : Env} {x : Option V} (h : SlotR K H s x) (E : EnvR K H σ ss) (dj : ∀ d p, s = .own d → x = some (.ref p) → ¬ OwnA ss σ p) : EnvR K H (x :: σ) (s :: ss) := by
  refine ⟨by rw [List.length_cons, List.length_cons, E.len], fun i sl e => ?_, fun i j d e p h1 h2 h3 h4 => ?_⟩
  · cases i with
    | zero => simp at e; subst e; exact ⟨x, rfl, h⟩
    | succ i =>
      obtain ⟨y, e2, r⟩ := E.sl i sl (by simpa using e)
      exact ⟨y, by simpa using e2, r⟩
  · cases i with
    | zero =>
      cases j with
      | zero => rfl
      | succ j =>
        simp at h1 h3
        exact (dj d p h1 h3 ⟨j, e, by simpa using h2, by simpa using h4⟩).elim
    | succ i =>
      cases j with
      | zero =>
        simp at h2 h4
        exact (dj e p h2 h4 ⟨i, d, by simpa using h1, by simpa using h3⟩).elim
      | succ j =>
        rw [E.dj i j d e p (by simpa using h1) (by simpa using h2) (by simpa using h3) (by simpa using h4)]
theorem EnvR.uncons {s : Slot} {ss : Env} {x : Option V} (E : EnvR K H (x :: σ) (s :: ss)) : SlotR K H s x ∧ EnvR K H σ ss ∧ ∀ d p, s = .own d → x = some (.ref p) → ¬ OwnA ss σ p := by
  refine ⟨?_, ⟨by have := E.len; simpa using this, fun i sl e => ?_, fun i j d e p h1 h2 h3 h4 => ?_⟩, fun d p e1 e2 z => ?_⟩
  · obtain ⟨y, e2, r⟩ := E.sl 0 s rfl
    cases e2
    exact r
  · obtain ⟨y, e2, r⟩ := E.sl (i + 1) sl (by simpa using e)
    exact ⟨y, by simpa using e2, r⟩
  · have := E.dj (i + 1) (j + 1) d e p (by simpa using h1) (by simpa using h2) (by simpa using h3) (by simpa using h4)
    omega
  · obtain ⟨i, d', h1, h2⟩ := z
    subst e1 e2
    have := E.dj 0 (i + 1) d d' p rfl (by simpa using h1) rfl (by simpa using h2)
    omega
/-- a slot let go -/
theorem EnvR.un (E : EnvR K H σ env) (i : Nat) : EnvR K H σ (env.set i .un) ∧ (∀ p, OwnA (env.set i .un) σ p → OwnA env σ p) ∧ ∀ p, σ[i]? = some (some (.ref p)) → (∃ d, env[i]? = some (.own d)) → ¬ OwnA (env.set i .un) σ p := by
  have getS : ∀ {j : Nat} {sl : Slot}, (env.set i .un)[j]? = some sl → (j = i ∧ sl = .un) ∨ (j ≠ i ∧ env[j]? = some sl) := fun {j sl} e => by
    by_cases hj : i = j
    · subst hj
      rw [List.getElem?_set_self'] at e
      cases hh : env[i]? with
      | none => rw [hh] at e; cases e
      | some w => rw [hh] at e; cases e; exact .inl ⟨rfl, rfl⟩
    · rw [List.getElem?_set_ne hj] at e
      exact .inr ⟨Ne.symm hj, e⟩
  have own : ∀ {j : Nat} {d : D}, (env.set i .un)[j]? = some (.own d) → j ≠ i ∧ env[j]? = some (.own d) := fun {j d} e => by
    rcases getS e with ⟨_, z⟩ | z
    · cases z
    · exact z
  refine ⟨⟨by rw [List.length_set]; exact E.len, fun j sl e => ?_, fun j l d e p h1 h2 h3 h4 => E.dj j l d e p (own h1).2 (own h2).2 h3 h4⟩, fun p ⟨j, d, h1, h2⟩ => ⟨j, d, (own h1).2, h2⟩, fun p h ⟨d, hd⟩ ⟨j, e, h1, h2⟩ => (own h1).1 (E.dj j i e d p (own h1).2 hd h2 h)⟩
  rcases getS e with ⟨rfl, rfl⟩ | ⟨hj, e⟩
  · have hlt : j < env.length := by
      obtain ⟨q, _⟩ := List.getElem?_eq_some_iff.mp e
      rw [List.length_set] at q; exact q
    rw [E.len] at hlt
    exact ⟨σ[j], List.getElem?_eq_getElem hlt, trivial⟩
  · exact E.sl j sl e
/-- a slot that takes a value -/
theorem EnvR.put (E : EnvR K H σ env) {i : Nat} {s : Slot} {x : Option V} (hx : σ[i]? = some x) (h : SlotR K H s x) (dj : ∀ d p, s = .own d → x = some (.ref p) → ¬ OwnA env σ p) :
    EnvR K H σ (env.set i s) ∧ ∀ p, OwnA (env.set i s) σ p → OwnA env σ p ∨ ∃ d, s = .own d ∧ x = some (.ref p) := by
  have getS : ∀ {j : Nat} {sl : Slot}, (env.set i s)[j]? = some sl → (j = i ∧ sl = s) ∨ (j ≠ i ∧ env[j]? = some sl) := fun {j sl} e => by
    by_cases hj : i = j
    · subst hj
      rw [List.getElem?_set_self'] at e
      cases hh : env[i]? with
      | none => rw [hh] at e; cases e
      | some w => rw [hh] at e; cases e; exact .inl ⟨rfl, rfl⟩
    · rw [List.getElem?_set_ne hj] at e
      exact .inr ⟨Ne.symm hj, e⟩
  refine ⟨⟨by rw [List.length_set]; exact E.len, fun j sl e => ?_, fun j l d e p h1 h2 h3 h4 => ?_⟩, fun p ⟨j, d, h1, h2⟩ => ?_⟩
  · rcases getS e with ⟨rfl, rfl⟩ | ⟨hj, e⟩
    · exact ⟨x, hx, h⟩
    · exact E.sl j sl e
  · rcases getS h1 with ⟨rfl, z1⟩ | ⟨hj, z1⟩
    · rcases getS h2 with ⟨rfl, z2⟩ | ⟨hl, z2⟩
      · rfl
      · rw [hx] at h3; cases h3
        exact (dj d p z1.symm rfl ⟨l, e, z2, h4⟩).elim
    · rcases getS h2 with ⟨rfl, z2⟩ | ⟨hl, z2⟩
      · rw [hx] at h4; cases h4
        exact (dj e p z2.symm rfl ⟨j, d, z1, h3⟩).elim
      · exact E.dj j l d e p z1 z2 h3 h4
  · rcases getS h1 with ⟨rfl, z⟩ | ⟨hj, z⟩
    · rw [hx] at h2; cases h2
      exact .inr ⟨d, z.symm, rfl⟩
    · exact .inl ⟨j, d, z, h2⟩
theorem OpdsR.under {H0 : Hp} {env0 : Env} (ho : ∀ p, OwnA env1 σ p → OwnA env σ p) : ∀ {os : List Opd} {vs : List V}, OpdsR K σ H0 env0 H env os vs → OpdsR K σ H0 env0 H env1 os vs
  | _, _, .nil => .nil
  | .dat d :: _, _, .cons r n t dj => .cons r n (OpdsR.under ho t) dj
  | .own d :: _, _, .cons ⟨p, e, o, no⟩ n t dj => .cons ⟨p, e, o, fun z => no (ho p z)⟩ n (OpdsR.under ho t) dj
  | .slot i :: _, _, .cons r n t dj => .cons r n (OpdsR.under ho t) dj
theorem lend_ok {H0 : Hp} {env0 : Env} : ∀ {os : List Opd} {vs : List V} {env : Env} {ss : List Slot} {env2 : Env}, EnvR K H σ env → OpdsR K σ H0 env0 H env os vs → lend os env = some (ss, env2) →
    EnvR K H σ env2 ∧ (∀ p, OwnA env2 σ p → OwnA env σ p) ∧ EnvR K H (vs.map some) ss ∧
      ∀ p, OwnA ss (vs.map some) p → ¬ OwnA env2 σ p ∧ (OwnA env σ p ∨ ∃ (k : Nat) (e : D), os[k]? = some (.own e) ∧ vs[k]? = some (.ref p))
  | [], _, env, ss, env2, E, .nil, h => by
    cases h
    exact ⟨E, fun _ z => z, .nil, fun p ⟨i, d, h, _⟩ => by simp at h⟩
  | o :: r, v :: vs, env, ss, env2, E, .cons ro n t dj, h => by
    cases o with
    | dat d =>
      simp only [lend] at h
      cases e1 : lend r env with
      | none => rw [e1] at h; cases h
      | some q =>
        obtain ⟨ss', env'⟩ := q
        rw [e1] at h
        cases h
        obtain ⟨a1, a2, a3, a4⟩ := lend_ok E t e1
        refine ⟨a1, a2, .cons' ⟨v, rfl, ro⟩ a3 (fun d p z => nomatch z), fun p z => ?_⟩
        rcases OwnA.cons.mp z with ⟨d, z, _⟩ | z
        · cases z
        · obtain ⟨b1, b2⟩ := a4 p z
          refine ⟨b1, b2.imp id fun ⟨k, e, k1, k2⟩ => ⟨k + 1, e, by simpa using k1, by simpa using k2⟩⟩
    | own d =>
      simp only [lend] at h
      cases e1 : lend r env with
      | none => rw [e1] at h; cases h
      | some q =>
        obtain ⟨ss', env'⟩ := q
        rw [e1] at h
        cases h
        obtain ⟨a1, a2, a3, a4⟩ := lend_ok E t e1
        obtain ⟨p, rfl, oa, no⟩ := ro
        refine ⟨a1, a2, .cons' ⟨p, rfl, oa⟩ a3 (fun d' p' z1 z2 z3 => ?_), fun p' z => ?_⟩
        · cases z2
          obtain ⟨b1, b2⟩ := a4 p z3
          rcases b2 with b2 | ⟨k, e, k1, k2⟩
          · exact no b2
          · exact dj d p rfl rfl k e k1 k2
        · rcases OwnA.cons.mp z with ⟨d', z1, z2⟩ | z
          · cases z2
            exact ⟨fun q => no (a2 _ q), .inr ⟨0, d, rfl, rfl⟩⟩
          · obtain ⟨b1, b2⟩ := a4 p' z
            refine ⟨b1, b2.imp id fun ⟨k, e, k1, k2⟩ => ⟨k + 1, e, by simpa using k1, by simpa using k2⟩⟩
    | slot i =>
      simp only [lend] at h
      cases hl : look env i with
      | own d =>
        rw [hl] at h
        simp only at h
        cases e1 : lend r (env.set i .un) with
        | none => rw [e1] at h; cases h
        | some q =>
          obtain ⟨ss', env'⟩ := q
          rw [e1] at h
          cases h
          obtain ⟨u1, u2, u3⟩ := E.un i
          obtain ⟨a1, a2, a3, a4⟩ := lend_ok u1 (t.under u2) e1
          obtain ⟨p, e2, oa, ow⟩ := E.own hl
          have e3 : σ[i]? = some (some v) := ro
          rw [e2] at e3
          cases e3
          have nun := u3 p e2 ⟨d, look_own hl⟩
          refine ⟨a1, fun p z => u2 p (a2 p z), .cons' ⟨p, rfl, oa⟩ a3 (fun d' p' z1 z2 z3 => ?_), fun p' z => ?_⟩
          · cases z2
            obtain ⟨b1, b2⟩ := a4 p z3
            rcases b2 with b2 | ⟨k, e, k1, k2⟩
            · exact nun b2
            · have : ∀ {os : List Opd} {vs : List V}, OpdsR K σ H0 env0 H env os vs → ∀ (k : Nat) (e : D), os[k]? = some (.own e) → vs[k]? = some (.ref p) → ¬ OwnA env σ p := by
                intro os vs t
                induction t with
                | nil => intro k e h; simp at h
                | cons r n t dj ih =>
                  intro k e h h2
                  cases k with
                  | zero =>
                    simp at h h2
                    subst h h2
                    obtain ⟨p', e', _, no⟩ := r
                    cases e'
                    exact no
                  | succ k => exact ih k e (by simpa using h) (by simpa using h2)
              exact this t k e k1 k2 ow
          · rcases OwnA.cons.mp z with ⟨d', z1, z2⟩ | z
            · cases z2
              exact ⟨fun q => nun (a2 _ q), .inl ow⟩
            · obtain ⟨b1, b2⟩ := a4 p' z
              refine ⟨b1, b2.imp (u2 p') fun ⟨k, e, k1, k2⟩ => ⟨k + 1, e, by simpa using k1, by simpa using k2⟩⟩
      | un => rw [hl] at h; cases h
      | val d => rw [hl] at h; cases h
/-- what is given back stands -/
theorem give_ok : ∀ {os : List Opd} {vs : List V} {fs : List Slot} {env : Env}, (∀ (k i : Nat), os[k]? = some (.slot i) → ∀ v, vs[k]? = some v → σ[i]? = some (some v)) → EnvR K H σ env → EnvR K H (vs.map some) fs → (∀ p, OwnA env σ p → ¬ OwnA fs (vs.map some) p) →
    EnvR K H σ (giveBack os fs env) ∧ ∀ p, OwnA (giveBack os fs env) σ p → OwnA env σ p ∨ OwnA fs (vs.map some) p
  | [], _, fs, env, _, E, _, _ => by
    cases fs <;> exact ⟨E, fun _ z => .inl z⟩
  | .dat d :: r, vs, [], env, _, E, _, _ => ⟨E, fun _ z => .inl z⟩
  | .own d :: r, vs, [], env, _, E, _, _ => ⟨E, fun _ z => .inl z⟩
  | .slot d :: r, vs, [], env, _, E, _, _ => ⟨E, fun _ z => .inl z⟩
  | o :: r, [], s :: fs, env, _, E, F, _ => by have := F.len; simp at this
  | o :: r, v :: vs, s :: fs, env, hk, E, F, dj => by
    obtain ⟨f1, f2, f3⟩ := EnvR.uncons (σ := vs.map some) F
    have hk' : ∀ (k i : Nat), r[k]? = some (.slot i) → ∀ v, vs[k]? = some v → σ[i]? = some (some v) := fun k i h v' h' => hk (k + 1) i (by simpa using h) v' (by simpa using h')
    have skip : EnvR K H σ (giveBack r fs env) ∧ ∀ p, OwnA (giveBack r fs env) σ p → OwnA env σ p ∨ OwnA (s :: fs) ((v :: vs).map some) p := by
      obtain ⟨g1, g2⟩ := give_ok hk' E f2 fun p z q => dj p z (OwnA.cons.mpr (.inr q))
      exact ⟨g1, fun p z => (g2 p z).imp id fun q => OwnA.cons.mpr (.inr q)⟩
    cases o with
    | dat d => exact skip
    | own d => exact skip
    | slot i =>
      have hi : σ[i]? = some (some v) := hk 0 i rfl v rfl
      obtain ⟨e1, e2⟩ := E.put hi f1 fun d p z1 z2 z3 => dj p z3 (OwnA.cons.mpr (.inl ⟨d, z1, z2⟩))
      obtain ⟨g1, g2⟩ := give_ok hk' e1 f2 fun p z q => by
        rcases e2 p z with z | ⟨d, z1, z2⟩
        · exact dj p z (OwnA.cons.mpr (.inr q))
        · exact f3 d p z1 z2 q
      refine ⟨g1, fun p z => ?_⟩
      rcases g2 p z with z | z
      · rcases e2 p z with z | ⟨d, z1, z2⟩
        · exact .inl z
        · exact .inr (OwnA.cons.mpr (.inl ⟨d, z1, z2⟩))
      · exact .inr (OwnA.cons.mpr (.inr z))
end
end PF
/-! PF9: the other expressions. -/
namespace PF
open PySem PySem.Spec PyProof.Rows L2
section
variable {c : Cl}
theorem isTrue_ifx {M : Model} {A : Around} {E : Value → Shared → Prop} {s : Shared} {env : PySem.Env} {t a b : Expr} {pos : Pos} {whole : Sem Value} {Q : Bool → Shared → Prop}
    (h : wpAny M A (isTrue t env (eval t env)) (fun k s' => wpAny M A (if k = true then isTrue a env (eval a env) else isTrue b env (eval b env)) Q E s') E s) : wpAny M A (isTrue (.IfExp t a b pos) env whole) Q E s := by
  show wpAny M A (do if ← isTrue t env (eval t env) then isTrue a env (eval a env) else isTrue b env (eval b env)) Q E s
  exact wpAny_bind (wpAny_mono h (fun k s' h' => h') fun _ _ x => x)
theorem pt_ifx {X : Cx} {t a b : Expr} {pos : Pos} {tt ta tb : TT} (ht : PT X t tt) (ha : PT X a ta) (hb : PT X b tb) : PT X (.IfExp t a b pos) (fun σ H Q => tt σ H fun k H1 => if k = true then ta σ H1 Q else tb σ H1 Q) := by
  refine ⟨fun pins s σ H Q I h => isTrue_ifx (thn (ht.run pins s σ H _ I h) fun k s1 ⟨H1, I1, q1⟩ => ?_)⟩
  cases k with
  | true => rw [if_pos rfl] at q1 ⊢; exact ha.run pins s1 σ H1 Q I1 q1
  | false => rw [if_neg Bool.false_ne_true] at q1 ⊢; exact hb.run pins s1 σ H1 Q I1 q1
theorem ite_inv {t a b : E} {md : Md} {env : Env} {r : Opd × Env} (h : ev c (.ite t a b) md env = some r) : ∃ k env1, ev c t .t env = some (.dat (.bl k), env1) ∧ (if k = true then ev c a md env1 else ev c b md env1) = some r := by
  simp only [ev] at h
  cases e1 : ev c t .t env with
  | none => rw [e1] at h; cases h
  | some oe =>
    obtain ⟨o, env1⟩ := oe
    rw [e1] at h
    cases o with
    | dat d =>
      cases d with
      | bl k => cases k <;> exact ⟨_, env1, rfl, h⟩
      | _ => cases h
    | _ => cases h
theorem se_ite {t a b : E} (ht : SE c t) (ha : SE c a) (hb : SE c b) : SE c (.ite t a b) := by
  intro X G O x hx
  cases x <;> first | (cases hx; done) | skip
  rename_i t' a' b' pos
  obtain ⟨hx1, h3⟩ := and2 hx
  obtain ⟨h1, h2⟩ := and2 hx1
  refine ⟨PE.imp (pe_ifExp (ht X G O _ h1).2 (ha X G O _ h2).1 (hb X G O _ h3).1) fun σ H Q ⟨env, o, env', E, hf, q⟩ => ?_, PT.imp (pt_ifx (ht X G O _ h1).2 (ha X G O _ h2).2 (hb X G O _ h3).2) fun σ H Q ⟨env, o, env', E, hf, q⟩ => ?_⟩
  · obtain ⟨k, env1, e1, e2⟩ := ite_inv hf
    refine ⟨env, k, env1, E, e1, fun H1 E1 t1 => ?_⟩
    dsimp only
    have next : ∀ v H2, Po X.K σ H1 env1 o env' v H2 → Q v H2 := fun v H2 p => q v H2 ⟨p.e, t1.trans p.t, p.r, fun d p' a b => by
      rcases p.n d p' a b with z | z
      · exact t1.fresh z
      · exact (t1.s p' z).symm⟩
    cases k with
    | true => rw [if_pos rfl] at e2 ⊢; exact ⟨env1, o, env', E1, e2, next⟩
    | false => rw [if_neg Bool.false_ne_true] at e2 ⊢; exact ⟨env1, o, env', E1, e2, next⟩
  · obtain ⟨k, env1, e1, e2⟩ := ite_inv hf
    refine ⟨env, k, env1, E, e1, fun H1 E1 t1 => ?_⟩
    dsimp only
    cases k with
    | true => rw [if_pos rfl] at e2 ⊢; exact ⟨env1, o, env', E1, e2, fun H2 E2 t2 => q H2 E2 (t1.trans t2)⟩
    | false => rw [if_neg Bool.false_ne_true] at e2 ⊢; exact ⟨env1, o, env', E1, e2, fun H2 E2 t2 => q H2 E2 (t1.trans t2)⟩
theorem plain_of {e : E} {G : Ck} {x : Expr} (h : ckE e G x = true) : PlainIx x := by
  intro o i
  cases x <;> first | rfl | (exfalso; cases e <;> first | (cases h; done) | (rename_i src _ _; cases src <;> cases h))
theorem se_idx {a b : E} (ha : SE c a) (hb : SE c b) : SE c (.idx a b) := by
  refine se_of (fun _ => rfl) fun X G O x hx => ?_
  cases x <;> first | (cases hx; done) | skip
  rename_i l r pos
  obtain ⟨h1, h2⟩ := and2 hx
  refine ⟨PE.imp (pe_ix (idxR (by have := O.un; omega)) (ha X G O _ h1).1 (hb X G O _ h2).1 (plain_of h2)) fun σ H Q ⟨env, o, env', E, hf, q⟩ => ?_, fun _ => rfl⟩
  simp only [ev, fin] at hf
  obtain ⟨x, env1, y, env2, d, e, e1, e2, e3, e4, hk⟩ := two_inv (k := fun d e env _ => match idxD d e with | some r => some (Opd.dat r, env) | none => none) hf
  cases ho : idxD d e with
  | none => rw [ho] at hk; cases hk
  | some r =>
    rw [ho] at hk
    cases hk
    exact ⟨env, x, env1, E, e1, fun v H1 p1 => ⟨env1, y, env', p1.e, e2, fun u H2 p2 => ⟨d, e, r, (p1.r.later p1.e p2.t).view p2.e e3, p2.r.view p2.e e4, ho, fun w rw => q w H2 (po_dat p2.e (p1.t.trans p2.t) rw)⟩⟩⟩
theorem se_rev {a : E} (ha : SE c a) : SE c (.rev a) := by
  refine se_of (fun _ => rfl) fun X G O x hx => ?_
  cases x <;> first | (cases hx; done) | skip
  rename_i l r pos
  cases r <;> first | (cases hx; done) | skip
  rename_i lo hi st p2
  cases lo <;> first | (cases hx; done) | skip
  cases hi <;> first | (cases hx; done) | skip
  cases st <;> first | (cases hx; done) | skip
  rename_i st
  cases st <;> first | (cases hx; done) | skip
  rename_i op st p3
  cases op <;> first | (cases hx; done) | skip
  cases st <;> first | (cases hx; done) | skip
  rename_i cst k p4
  cases cst <;> first | (cases hx; done) | skip
  rename_i i
  by_cases hi : i = 1
  · subst hi
    refine ⟨PE.imp (pe_rev (ha X G O _ hx).1) fun σ H Q ⟨env, o, env', E, hf, q⟩ => ?_, fun _ => rfl⟩
    simp only [ev, fin] at hf
    cases e1 : ev c a .v env with
    | none => rw [e1] at hf; cases hf
    | some xe =>
      obtain ⟨x, env1⟩ := xe
      rw [e1] at hf
      simp only at hf
      cases e2 : view env1 x with
      | none => rw [e2] at hf; cases hf
      | some d =>
        rw [e2] at hf
        simp only at hf
        cases e3 : revD d with
        | none => rw [e3] at hf; cases hf
        | some r =>
          rw [e3] at hf
          cases hf
          exact ⟨env, x, _, E, e1, fun v H1 p1 => ⟨d, _, p1.r.view p1.e e2, e3, fun w H2 res => q w H2 (po_res p1.e p1.t res)⟩⟩
  · exfalso
    unfold ckE at hx
    split at hx <;> simp_all
/-- a slice's part -/
def tP (K : PySem.W.Frag) (c : Cl) (e : E) : TO := fun σ H Q => ∃ env d env' p, EnvR K H σ env ∧ ev c e .v env = some (.dat d, env') ∧ part e d = some p ∧ ∀ H', EnvR K H' σ env' → Tr σ H env σ H' env' → Q p H'
theorem po_of {X : Cx} {G : Ck} (O : XOk X G c) {e : E} (he : SE c e) {l : Option Expr} (h : (match l with | none => isNonE e | some l => !isNonE e && ckE e G l) = true) : PO X l (tP X.K c e) := by
  cases l with
  | none =>
    cases e <;> first | (cases h; done) | skip
    refine ⟨fun pins s σ H Q I hw => po_none.run pins s σ H Q I ?_⟩
    obtain ⟨env, d, env', p, E, e1, e2, q⟩ := hw
    cases e1
    cases e2
    exact q H E .refl
  | some l =>
    obtain ⟨h0, h1⟩ := and2 h
    have hp := po_some (he X G O l h1).1
    refine ⟨fun pins s σ H Q I hw => hp.run pins s σ H Q I ?_⟩
    obtain ⟨env, d, env', p, E, e1, e2, q⟩ := hw
    refine ⟨env, _, env', E, e1, fun v H1 p1 => ?_⟩
    cases d with
    | int i =>
      have : p = some i := by
        cases e <;> first | (cases h0; done) | (cases e2; rfl)
      subst this
      exact ⟨i, p1.r, q H1 p1.e p1.t⟩
    | _ => cases e <;> first | (cases h0; done) | cases e2
theorem slc_inv {a lo hi : E} {env : Env} {o : Opd} {env' : Env} (h : ev c (.slc a lo hi) .v env = some (o, env')) :
    ∃ x env1 l env2 g d p q, ev c a .v env = some (x, env1) ∧ ev c lo .v env1 = some (.dat l, env2) ∧ ev c hi .v env2 = some (.dat g, env') ∧ view env' x = some d ∧ part lo l = some p ∧ part hi g = some q ∧ slcD d p q = some o := by
  simp only [ev, fin] at h
  cases e1 : ev c a .v env with
  | none => rw [e1] at h; cases h
  | some xe =>
    obtain ⟨x, env1⟩ := xe
    rw [e1] at h
    simp only at h
    cases e2 : ev c lo .v env1 with
    | none => rw [e2] at h; cases h
    | some le =>
      obtain ⟨l, env2⟩ := le
      rw [e2] at h
      cases l with
      | dat l =>
        simp only at h
        cases e3 : ev c hi .v env2 with
        | none => rw [e3] at h; cases h
        | some ge =>
          obtain ⟨g, env3⟩ := ge
          rw [e3] at h
          cases g with
          | dat g =>
            simp only at h
            cases e4 : view env3 x with
            | none => rw [e4] at h; cases h
            | some d =>
              cases e5 : part lo l with
              | none => rw [e4, e5] at h; cases h
              | some p =>
                cases e6 : part hi g with
                | none => rw [e4, e5, e6] at h; cases h
                | some q =>
                  rw [e4, e5, e6] at h
                  simp only at h
                  cases e7 : slcD d p q with
                  | none => rw [e7] at h; cases h
                  | some r =>
                    rw [e7] at h
                    cases h
                    exact ⟨x, env1, l, env2, g, d, p, q, rfl, e2, e3, e4, e5, e6, e7⟩
          | _ => cases h
      | _ => cases h
theorem se_slc {a lo hi : E} (ha : SE c a) (hl : SE c lo) (hh : SE c hi) : SE c (.slc a lo hi) := by
  refine se_of (fun _ => rfl) fun X G O x hx => ?_
  cases x <;> first | (cases hx; done) | skip
  rename_i l r pos
  cases r <;> first | (cases hx; done) | skip
  rename_i le he st p2
  cases st <;> first | (cases hx; done) | skip
  obtain ⟨hx1, h3⟩ := and2 hx
  obtain ⟨h1, h2⟩ := and2 hx1
  refine ⟨PE.imp (pe_slice slcR (ha X G O _ h1).1 (po_of O hl h2) (po_of O hh h3)) fun σ H Q ⟨env, o, env', E, hf, q⟩ => ?_, fun _ => rfl⟩
  obtain ⟨x, env1, l, env2, g, d, p, r, e1, e2, e3, e4, e5, e6, e7⟩ := slc_inv hf
  exact ⟨env, x, env1, E, e1, fun v H1 p1 => ⟨env1, l, env2, p, p1.e, e2, e5, fun H2 E2 t2 => ⟨env2, g, env', r, E2, e3, e6, fun H3 E3 t3 => ⟨d, o, ((p1.r.later p1.e t2).later E2 t3).view E3 e4, e7, fun w H4 res => q w H4 (po_res E3 ((p1.t.trans t2).trans t3) res)⟩⟩⟩⟩
/-! ### calls -/
theorem boot_of (b : Blt) (h : b.ok = true) : bootBuiltins b.name = some b.val := by
  cases b <;> first | (cases h; done) | decide +kernel
theorem pe_callV {X : Cx} {f : Value} {r : List V → Hp → VK → Prop} {x : Str} {p pos : Pos} {e : Expr} {es : List Expr} {t : TA} (hc : CallR X f r) (hf : (∃ id, f = .builtin id) ∨ ∃ T, f = .type T) (hg : Gl X x) (hm : X.mg x = none) (hv : bootBuiltins x = some f) (ha : PA X (e :: es) t) (hn : x ≠ "__name__") (hdb : (x == ("__debug__" : Str)) = false)
    (he : starEach (e :: es) X.env = (false, eval e X.env) :: starEach es X.env) (hpl : (backTo pos (starEach es X.env)).any (·.1) = false) : PE X (.Call (.Name x p) (e :: es) [] pos) (tCB r t) := by
  rcases hf with ⟨id, rfl⟩ | ⟨T, rfl⟩
  · exact pe_callB hc hg hm hv ha hn hdb he hpl
  · exact pe_callTy hc hg hm hv ha hn hdb he hpl
theorem views_ok {K : PySem.W.Frag} {σ : St} {H0 H : Hp} {env0 env : Env} (E : EnvR K H σ env) : ∀ {os : List Opd} {vs : List V} {ds : List D}, OpdsR K σ H0 env0 H env os vs → views env os = some ds → VwRs K H ds vs
  | [], _, ds, .nil, h => by cases h; exact .nil
  | o :: os, _, ds, .cons r n t dj, h => by
    simp only [views] at h
    cases e1 : view env o with
    | none => rw [e1] at h; cases h
    | some d =>
      cases e2 : views env os with
      | none => rw [e1, e2] at h; cases h
      | some ds' =>
        rw [e1, e2] at h
        cases h
        exact .cons (r.view E e1) (views_ok E t e2)
theorem blt_inv {b : Blt} {es : List E} {env : Env} {o : Opd} {env' : Env} (h : ev c (.blt b es) .v env = some (o, env')) : ∃ os ds, evs c es env = some (os, env') ∧ views env' os = some ds ∧ bltD b ds = some o := by
  simp only [ev, fin] at h
  cases e1 : evs c es env with
  | none => rw [e1] at h; cases h
  | some xe =>
    obtain ⟨os, env1⟩ := xe
    rw [e1] at h
    simp only at h
    cases e2 : views env1 os with
    | none => rw [e2] at h; cases h
    | some ds =>
      rw [e2] at h
      simp only at h
      cases e3 : bltD b ds with
      | none => rw [e3] at h; cases h
      | some r =>
        rw [e3] at h
        cases h
        exact ⟨os, ds, rfl, e2, e3⟩
theorem se_blt {b : Blt} {es : List E} (hs : ∀ e ∈ es, SE c e) : SE c (.blt b es) := by
  refine se_of (fun _ => rfl) fun X G O x hx => ?_
  cases x <;> first | (cases hx; done) | skip
  rename_i f args kws pos
  cases f <;> first | (cases hx; done) | skip
  rename_i x p
  cases kws <;> first | (cases hx; done) | skip
  obtain ⟨hx1, h5⟩ := and2 hx
  obtain ⟨hx2, h4⟩ := and2 hx1
  obtain ⟨hx3, h3⟩ := and2 hx2
  obtain ⟨h1, h2⟩ := and2 hx3
  have ex : x = b.name := of_decide_eq_true h1
  subst ex
  obtain ⟨g1, g2, g3⟩ := bl_of O h3
  cases es with
  | nil => cases h4
  | cons e es =>
    cases args with
    | nil => cases h5
    | cons a args =>
      obtain ⟨k1, k2⟩ := and2 (show (ckE e G a && ckEs es G args) = true from h5)
      have hn : b.name ≠ "__name__" := by cases b <;> decide
      have hv : (∃ id, b.val = .builtin id) ∨ ∃ T, b.val = .type T := by cases b <;> first | exact .inl ⟨_, rfl⟩ | exact .inr ⟨_, rfl⟩
      refine ⟨PE.imp (pe_callV (bltR O.calm b h2) hv g1 g2 (boot_of b h2) (pa_os O hs h5) hn g3 (star_of k1 _) (any_star k2)) fun σ H Q ⟨env, o, env', E, hf, q⟩ => ?_, fun _ => rfl⟩
      obtain ⟨os, ds, e1, e2, e3⟩ := blt_inv hf
      exact ⟨env, os, env', E, e1, fun vs H1 E1 t1 r1 => ⟨ds, o, views_ok E1 r1 e2, e3, fun w H2 res => q w H2 (po_res E1 t1 res)⟩⟩
theorem boot_ty (t : Ty) : bootBuiltins t.name = some (.type t.py) := by
  cases t <;> decide +kernel
theorem boot_isi : bootBuiltins ("isinstance" : Str) = some (.builtin "isinstance") := by decide +kernel
theorem se_isi {a : E} {t : Ty} (ha : SE c a) : SE c (.isi a t) := by
  refine se_of (fun _ => rfl) fun X G O x hx => ?_
  cases x <;> first | (cases hx; done) | skip
  rename_i f args kws pos
  cases f <;> first | (cases hx; done) | skip
  rename_i x p
  match args, kws, hx with
  | [y, .Name z pz], [], hx =>
    obtain ⟨hx1, h5⟩ := and2 hx
    obtain ⟨hx2, h4⟩ := and2 hx1
    obtain ⟨hx3, h3⟩ := and2 hx2
    obtain ⟨h1, h2⟩ := and2 hx3
    have ex : x = "isinstance" := of_decide_eq_true h1
    have ez : z = t.name := of_decide_eq_true h3
    subst ex ez
    obtain ⟨g1, g2, g3⟩ := bl_of O h2
    obtain ⟨k1, k2, k3⟩ := bl_of O h4
    have hn : t.name ≠ "__name__" := by cases t <;> decide
    have pz : PE X (.Name t.name pz) (tC (.ty t.py)) := pe_bltn k1 k2 (boot_ty t) rfl hn k3
    refine ⟨PE.imp (pe_callB call_isi g1 g2 boot_isi (pa_cons (ha X G O _ h5).1 (pa_cons pz pa_nil) (star_of h5 _)) (by decide) g3 (star_of h5 _) rfl) fun σ H Q ⟨env, o, env', E, hf, q⟩ => ?_, fun _ => rfl⟩
    simp only [ev, fin] at hf
    cases e1 : ev c a .v env with
    | none => rw [e1] at hf; cases hf
    | some xe =>
      obtain ⟨x, env1⟩ := xe
      rw [e1] at hf
      simp only at hf
      cases e2 : view env1 x with
      | none => rw [e2] at hf; cases hf
      | some d =>
        rw [e2] at hf
        simp only at hf
        cases e3 : isiD t d with
        | none => rw [e3] at hf; cases hf
        | some b =>
          rw [e3] at hf
          cases hf
          refine ⟨env, x, _, E, e1, fun v H1 p1 => ?_⟩
          obtain ⟨ty, k1, k2⟩ := isiR (p1.r.view p1.e e2) t e3
          exact ⟨v, .ty t.py, ty, _, b, rfl, .ty _, k1, k2, q _ H1 (po_bl p1.e p1.t)⟩
/-! ### methods -/
theorem mut_inv {m : Mt} {i : Nat} {es : List E} {env : Env} {o : Opd} {env' : Env} (h : ev c (.mut m i es) .v env = some (o, env')) :
    ∃ d0 ds env1 d r d', look env i = .own d0 ∧ evds c es env = some (ds, env1) ∧ look env1 i = .own d ∧ mutD m d ds = some (r, d') ∧ o = .dat r ∧ env' = env1.set i (.own d') ∧ wantsM m d0 = true := by
  simp only [ev, fin] at h
  cases e0 : look env i with
  | own d0 =>
    rw [e0] at h
    simp only at h
    by_cases hw : wantsM m d0 = true
    case neg => rw [if_neg hw] at h; cases h
    rw [if_pos hw] at h
    cases e1 : evds c es env with
    | none => rw [e1] at h; cases h
    | some xe =>
      obtain ⟨ds, env1⟩ := xe
      rw [e1] at h
      simp only at h
      cases e2 : look env1 i with
      | own d =>
        rw [e2] at h
        simp only at h
        cases e3 : mutD m d ds with
        | none => rw [e3] at h; cases h
        | some rd =>
          obtain ⟨r, d'⟩ := rd
          rw [e3] at h
          cases h
          exact ⟨d0, ds, env1, d, r, d', rfl, rfl, e2, e3, rfl, rfl, hw⟩
      | un => rw [e2] at h; cases h
      | val _ => rw [e2] at h; cases h
  | un => rw [e0] at h; cases h
  | val _ => rw [e0] at h; cases h
theorem own_sql {K : PySem.W.Frag} {H : Hp} {d : D} {p : Addr} {m : Mt} (hm : m ≠ .add) (hw : wantsM m d = true) (h : OwnAt K H d p) : ∃ xs, SqL K H p xs := by
  cases d with
  | lst ds =>
    obtain ⟨vs, e, _⟩ := h
    exact ⟨vs, .inl (.inl e)⟩
  | _ => cases m <;> first | exact (hm rfl).elim | (cases hw; done)
theorem mut_end {K : PySem.W.Frag} {σ : St} {H H1 H2 : Hp} {env env1 : Env} {i : Nat} {d d' r : D} {p : Addr} {v : V} (E : EnvR K H1 σ env1) (t : Tr σ H env σ H1 env1) (hl : look env1 i = .own d) (hp : σ[i]? = some (some (.ref p)))
    (k : ∀ b, b ≠ p → H2 b = H1 b) (o : OwnAt K H2 d' p) (o1 : OwnAt K H1 d p) (hr : Rp K H2 r v) : Po K σ H env (.dat r) (env1.set i (.own d')) v H2 := by
  have hio := look_own hl
  have kp : Kp H1 H2 := fun a ob u e => by
    rw [k a ?_]; exact e
    rintro rfl
    obtain ⟨u', q, n⟩ := o1.nfrz
    rw [e] at q; cases q
    exact n _ _ rfl
  have E2 : EnvR K H2 σ (env1.set i .un) := by
    obtain ⟨u1, u2, u3⟩ := E.un i
    refine ⟨u1.len, fun j sl e => ?_, u1.dj⟩
    obtain ⟨x, e2, rr⟩ := u1.sl j sl e
    refine ⟨x, e2, ?_⟩
    cases sl with
    | un => trivial
    | val d => obtain ⟨v, e3, rr⟩ := rr; exact ⟨v, e3, rr.mono kp⟩
    | own d2 =>
      obtain ⟨p2, e3, rr⟩ := rr
      subst e3
      refine ⟨p2, rfl, rr.keep kp fun u qq => ?_⟩
      rw [k p2 ?_]; exact qq
      rintro rfl
      exact u3 p2 hp ⟨d, hio⟩ ⟨j, d2, e, e2⟩
  have nun : ¬ OwnA (env1.set i .un) σ p := (E.un i).2.2 p hp ⟨d, hio⟩
  obtain ⟨E3, o3⟩ := E2.put (s := .own d') hp ⟨p, rfl, o⟩ fun d2 p2 z1 z2 z3 => by cases z2; exact nun z3
  rw [List.set_set] at E3 o3
  have ow : OwnA env1 σ p := ⟨i, d, hio, hp⟩
  refine ⟨E3, ⟨fun b u e n => ?_, fun b z => ?_⟩, hr, fun _ _ z => nomatch z⟩
  · have hb := t.f b u e n
    rw [k b fun z => ?_]
    · exact hb
    · have ow' : OwnA env1 σ b := by rw [z]; exact ow
      rcases t.s b ow' with z | z
      · exact n z
      · rw [e] at z; cases z
  · rcases o3 b z with z | ⟨d2, z1, z2⟩
    · exact t.s b ((E.un i).2.1 b z)
    · cases z2; exact t.s _ ow
theorem base_name {x : Str} {p : Pos} {nm : Str} {env : PySem.Env} : attributeBase (.Name x p) nm env (eval (.Name x p) env) = eval (.Name x p) env := rfl
theorem mut_go {X : Cx} {m : Mt} (hm : m ≠ .add) {i : Nat} {es : List E} {σ : St} {H : Hp} {Q : VK} {env : Env} {o : Opd} {env' : Env} (E : EnvR X.K H σ env) (hf : ev c (.mut m i es) .v env = some (o, env')) (q : ∀ v H', Po X.K σ H env o env' v H' → Q v H') :
    ∃ v, σ[i]? = some (some v) ∧ tyV X.K "list" v H ∧ tDs X.K (evds c es) σ H fun xs H2 => rMut X.K m v xs H2 Q := by
  obtain ⟨d0, ds, env1, d, r, d', e0, e1, e2, e3, rfl, rfl, hw⟩ := mut_inv hf
  obtain ⟨p0, g1, g2, g3⟩ := E.own e0
  refine ⟨_, g1, .inl ⟨rfl, own_sql hm hw g2⟩, env, ds, env1, E, e1, fun vs H1 E1 t1 r1 => ?_⟩
  obtain ⟨p1, k1, k2, k3⟩ := E1.own e2
  rw [g1] at k1
  cases k1
  exact ⟨p0, d, ds, r, d', rfl, k2, r1, e3, fun v H2 f1 f2 o2 rr => q v H2 (mut_end E1 t1 e2 g1 f2 o2 k2 rr)⟩
/-- a set's method -/
theorem pe_bmS {X : Cx} {o e : Expr} {name : Str} {id : String} {apos cpos : Pos} {to : TE} {t : TA} {r : V → List V → Hp → VK → Prop} (pa : PlainAttrs "set") (slot : PySem.Slot "set" name id) (hty : typeOf (.builtin id) = pure (.type "method_descriptor")) (hm : MtR X id r) (ho : PE X o to) (ha : PA X [e] t)
    (hbase : attributeBase o name X.env (eval o X.env) = eval o X.env) (hs : starEach [e] X.env = (false, eval e X.env) :: starEach [] X.env) (hline : (apos.endLine == cpos.line) = true) :
    PE X (.Call (.Attribute o name apos) [e] [] cpos) (fun σ H Q => to σ H fun x H1 => (∃ p ns, x = .ref p ∧ H1 p = some (ISet p ns)) ∧ t σ H1 fun xs H2 => r x xs H2 Q) := by
  refine ⟨fun pins s σ H Q I h => ?_⟩
  refine wpAny_Call_method_late hbase (by rw [hs]; rfl) hline rfl (thn (ho.run pins s σ H _ I h) fun v s1 ⟨x, H1, I1, r1, ⟨p, ns, ex, hp⟩, q1⟩ => ?_)
  subst ex
  cases r1
  have hS := iset_get I1 hp
  refine ⟨"set", id, pa, slot, hty, hS.typeIs, hS.noDict, ?_⟩
  have hA := ha.run cpos pins s1 σ H1 _ I1 q1
  rw [hs] at hA ⊢
  refine Calls.callWith_builtin rfl (Calls.evalArgs_plain ?_)
  exact thn hA fun us s2 ⟨vs, H2, I2, r2, q2⟩ => hm pins s2 σ H2 (V.ref p) vs _ us Q I2 rfl r2 q2
theorem se_mut {m : Mt} {i : Nat} {es : List E} (hs : ∀ e ∈ es, SE c e) : SE c (.mut m i es) := by
  refine se_of (fun _ => rfl) fun X G O x hx => ?_
  cases x <;> first | (cases hx; done) | skip
  rename_i f args kws pos
  cases f <;> first | (cases hx; done) | skip
  rename_i ob nm apos
  cases ob <;> first | (cases hx; done) | skip
  rename_i x p
  cases kws <;> first | (cases hx; done) | skip
  obtain ⟨hx1, h5⟩ := and2 hx
  obtain ⟨hx2, h4⟩ := and2 hx1
  obtain ⟨hx3, h3⟩ := and2 hx2
  obtain ⟨h1, h2⟩ := and2 hx3
  have en : nm = m.name := of_decide_eq_true h1
  subst en
  have hv := ld_of (pos := p) O h3
  clear hx hx1 hx2 hx3 h1 h3
  refine ⟨?_, fun _ => rfl⟩
  cases m <;> first | (cases es <;> cases h2; done) | skip
  · -- append
    match es, args, h2, h5, hs with
    | [e], _ :: _ :: _, h2, h5, hs => cases (and2 h5).2
    | [e], [a], h2, h5, hs =>
      obtain ⟨k1, k2⟩ := and2 (show (ckE e G a && ckEs [] G []) = true from h5)
      refine PE.imp (pe_bm PySem.F.plainAttrs_list PySem.F.slot_list_append PySem.F.type_list_append (mutR_append (X := X)) hv (pa_ds O hs h5) base_name (by rw [star_of k1]; rfl) h4 (star_of k1 _) rfl) fun σ H Q ⟨env, o, env', E, hf, q⟩ => ?_
      exact mut_go (by decide) E hf q
  · -- pop
    match es, args, h2, h5, hs with
    | [], [], h2, h5, hs =>
      refine PE.imp (pe_bm0 PySem.F.plainAttrs_list PySem.F.slot_list_pop PySem.F.type_list_pop (mutR_pop (X := X)) hv base_name h4) fun σ H Q ⟨env, o, env', E, hf, q⟩ => ?_
      obtain ⟨v, g1, g2, env1, ds, env2, E1, e1, g3⟩ := mut_go (by decide) E hf q
      cases e1
      exact ⟨v, g1, g2, g3 [] H E1 .refl rfl⟩
    | [e], _ :: _ :: _, h2, h5, hs => cases (and2 h5).2
    | [e], [a], h2, h5, hs =>
      obtain ⟨k1, k2⟩ := and2 (show (ckE e G a && ckEs [] G []) = true from h5)
      refine PE.imp (pe_bm PySem.F.plainAttrs_list PySem.F.slot_list_pop PySem.F.type_list_pop (mutR_pop (X := X)) hv (pa_ds O hs h5) base_name (by rw [star_of k1]; rfl) h4 (star_of k1 _) rfl) fun σ H Q ⟨env, o, env', E, hf, q⟩ => ?_
      exact mut_go (by decide) E hf q
  · -- reverse
    match es, args, h2, h5, hs with
    | [], [], h2, h5, hs =>
      refine PE.imp (pe_bm0 PySem.F.plainAttrs_list PySem.F.slot_list_reverse PySem.F.type_list_reverse (mutR_reverse (X := X)) hv base_name h4) fun σ H Q ⟨env, o, env', E, hf, q⟩ => ?_
      obtain ⟨v, g1, g2, env1, ds, env2, E1, e1, g3⟩ := mut_go (by decide) E hf q
      cases e1
      exact ⟨v, g1, g2, g3 [] H E1 .refl rfl⟩
  · -- add
    match es, args, h2, h5, hs with
    | [e], _ :: _ :: _, h2, h5, hs => cases (and2 h5).2
    | [e], [a], h2, h5, hs =>
      obtain ⟨k1, k2⟩ := and2 (show (ckE e G a && ckEs [] G []) = true from h5)
      refine PE.imp (pe_bmS PySem.F.plainAttrs_set PySem.F.slot_set_add PySem.F.type_set_add (mutR_add (X := X)) hv (pa_ds O hs h5) base_name (star_of k1 _) h4) fun σ H Q ⟨env, o, env', E, hf, q⟩ => ?_
      obtain ⟨d0, ds, env1, d, r, d', e0, e1, e2, e3, rfl, rfl, hw⟩ := mut_inv hf
      obtain ⟨p0, g1, g2, g3⟩ := E.own e0
      have hset : ∃ ns, H p0 = some (ISet p0 ns) := by
        cases d0 with
        | set xs => obtain ⟨ns, _, h⟩ := g2; exact ⟨ns, h⟩
        | _ => cases hw
      obtain ⟨ns, hp⟩ := hset
      refine ⟨.ref p0, g1, ⟨p0, ns, rfl, hp⟩, env, ds, env1, E, e1, fun vs H1 E1 t1 r1 => ?_⟩
      obtain ⟨p1, k1, k2, k3⟩ := E1.own e2
      rw [g1] at k1
      cases k1
      exact ⟨p0, d, ds, r, d', rfl, k2, r1, e3, fun v H2 f1 f2 o2 rr => q v H2 (mut_end E1 t1 e2 g1 f2 o2 k2 rr)⟩
/-- a tuple's method -/
theorem pe_bmT {X : Cx} {o e : Expr} {name : Str} {id : String} {apos cpos : Pos} {to : TE} {t : TA} {r : V → List V → Hp → VK → Prop} (pa : PlainAttrs "tuple") (slot : PySem.Slot "tuple" name id) (hty : typeOf (.builtin id) = pure (.type "method_descriptor")) (hm : MtR X id r) (ho : PE X o to) (ha : PA X [e] t)
    (hbase : attributeBase o name X.env (eval o X.env) = eval o X.env) (hs : starEach [e] X.env = (false, eval e X.env) :: starEach [] X.env) (hline : (apos.endLine == cpos.line) = true) :
    PE X (.Call (.Attribute o name apos) [e] [] cpos) (fun σ H Q => to σ H fun x H1 => (∃ p xs, x = .ref p ∧ TupAt X.K H1 p xs) ∧ t σ H1 fun xs H2 => r x xs H2 Q) := by
  refine ⟨fun pins s σ H Q I h => ?_⟩
  refine wpAny_Call_method_late hbase (by rw [hs]; rfl) hline rfl (thn (ho.run pins s σ H _ I h) fun v s1 ⟨x, H1, I1, r1, ⟨p, xs, ex, tp⟩, q1⟩ => ?_)
  subst ex
  cases r1
  have hd : s1.TypeIs (.ref p) "tuple" ∧ ∀ a, Value.ref p = .ref a → ∃ ob, s1.heap.get? a = some ob ∧ ob.dict = none := by
    obtain ⟨its, _, pl, _⟩ := I1.tuple tp.sq
    refine ⟨pl.typeIs, fun a e => ?_⟩
    cases e
    rcases tp with ⟨ob, e1, e2⟩ | ⟨ob, its, n, e1, _, e2, _⟩
    · exact ⟨ob, (I1.hok p _ e1).1, e2⟩
    · exact ⟨ob, I1.kIn p ob e1, e2⟩
  refine ⟨"tuple", id, pa, slot, hty, hd.1, hd.2, ?_⟩
  have hA := ha.run cpos pins s1 σ H1 _ I1 q1
  rw [hs] at hA ⊢
  refine Calls.callWith_builtin rfl (Calls.evalArgs_plain ?_)
  exact thn hA fun us s2 ⟨vs, H2, I2, r2, q2⟩ => hm pins s2 σ H2 (V.ref p) vs _ us Q I2 rfl r2 q2
theorem base_of {o : Expr} {nm : Str} {env : PySem.Env} (h : isCallO o = false) : attributeBase o nm env (eval o env) = eval o env := by
  unfold attributeBase
  split
  · cases h
  · rfl
theorem mth_inv {m : Mt} {a : E} {es : List E} {env : Env} {o : Opd} {env' : Env} (h : ev c (.mth m a es) .v env = some (o, env')) :
    ∃ x env1 d0 ds d r, ev c a .v env = some (x, env1) ∧ view env1 x = some d0 ∧ isSeq d0 = true ∧ evds c es env1 = some (ds, env') ∧ view env' x = some d ∧ sameQ d0 d = true ∧ mthD m d ds = some r ∧ o = .dat r := by
  simp only [ev, fin] at h
  cases e1 : ev c a .v env with
  | none => rw [e1] at h; cases h
  | some xe =>
    obtain ⟨x, env1⟩ := xe
    rw [e1] at h
    simp only at h
    cases e0 : view env1 x with
    | none => rw [e0] at h; cases h
    | some d0 =>
      rw [e0] at h
      simp only at h
      by_cases hq : isSeq d0 = true
      case neg => rw [if_neg hq] at h; cases h
      rw [if_pos hq] at h
      cases e2 : evds c es env1 with
      | none => rw [e2] at h; cases h
      | some de =>
        obtain ⟨ds, env2⟩ := de
        rw [e2] at h
        simp only at h
        cases e4 : view env2 x with
        | none => rw [e4] at h; cases h
        | some d =>
          rw [e4] at h
          simp only at h
          by_cases hk : sameQ d0 d = true
          case neg => rw [if_neg hk] at h; cases h
          rw [if_pos hk] at h
          cases e3 : mthD m d ds with
          | none => rw [e3] at h; cases h
          | some r =>
            rw [e3] at h
            cases h
            exact ⟨x, env1, d0, ds, d, r, rfl, e0, hq, e2, e4, hk, e3, rfl⟩
/-- a method of a tuple or of a list -/
theorem pe_bmQ {X : Cx} {o e : Expr} {name : Str} {idt idl : String} {apos cpos : Pos} {to : TE} {t : TA} {r rl : V → List V → Hp → VK → Prop} (pa : PlainAttrs "tuple") (slot : PySem.Slot "tuple" name idt) (hty : typeOf (.builtin idt) = pure (.type "method_descriptor")) (hm : MtR X idt r)
    (pal : PlainAttrs "list") (slotl : PySem.Slot "list" name idl) (htyl : typeOf (.builtin idl) = pure (.type "method_descriptor")) (hml : MtR X idl rl) (ho : PE X o to) (ha : PA X [e] t)
    (hbase : attributeBase o name X.env (eval o X.env) = eval o X.env) (hs : starEach [e] X.env = (false, eval e X.env) :: starEach [] X.env) (hline : (apos.endLine == cpos.line) = true) :
    PE X (.Call (.Attribute o name apos) [e] [] cpos) (fun σ H Q => to σ H fun x H1 => (∃ p xs, x = .ref p ∧ TupAt X.K H1 p xs ∧ t σ H1 fun xs H2 => r x xs H2 Q) ∨ ∃ p xs, x = .ref p ∧ Rd H1 p (.lst xs) ∧ t σ H1 fun xs H2 => rl x xs H2 Q) := by
  refine ⟨fun pins s σ H Q I h => ?_⟩
  refine wpAny_Call_method_late hbase (by rw [hs]; rfl) hline rfl (thn (ho.run pins s σ H _ I h) fun v s1 ⟨x, H1, I1, r1, hx⟩ => ?_)
  rcases hx with ⟨p, xs, ex, tp, q1⟩ | ⟨p, xs, ex, tp, q1⟩
  · subst ex
    cases r1
    have hd : s1.TypeIs (.ref p) "tuple" ∧ ∀ a, Value.ref p = .ref a → ∃ ob, s1.heap.get? a = some ob ∧ ob.dict = none := by
      obtain ⟨its, _, pl, _⟩ := I1.tuple tp.sq
      refine ⟨pl.typeIs, fun a e => ?_⟩
      cases e
      rcases tp with ⟨ob, e1, e2⟩ | ⟨ob, its, n, e1, _, e2, _⟩
      · exact ⟨ob, (I1.hok p _ e1).1, e2⟩
      · exact ⟨ob, I1.kIn p ob e1, e2⟩
    refine ⟨"tuple", idt, pa, slot, hty, hd.1, hd.2, ?_⟩
    have hA := ha.run cpos pins s1 σ H1 _ I1 q1
    rw [hs] at hA ⊢
    refine Calls.callWith_builtin rfl (Calls.evalArgs_plain ?_)
    exact thn hA fun us s2 ⟨vs, H2, I2, r2, q2⟩ => hm pins s2 σ H2 (V.ref p) vs _ us Q I2 rfl r2 q2
  · subst ex
    cases r1
    have hd : s1.TypeIs (.ref p) "list" ∧ ∀ a, Value.ref p = .ref a → ∃ ob, s1.heap.get? a = some ob ∧ ob.dict = none := by
      obtain ⟨its, _, pl, _⟩ := I1.list (.inl tp)
      refine ⟨pl.isList.typeIs, fun a e => ?_⟩
      cases e
      have z : ObjOk X.prog X.w H1 s1.heap p (.lst xs) := rd_of I1.hok tp
      obtain ⟨_, its, n, _, e⟩ := z
      exact ⟨_, e, rfl⟩
    refine ⟨"list", idl, pal, slotl, htyl, hd.1, hd.2, ?_⟩
    have hA := ha.run cpos pins s1 σ H1 _ I1 q1
    rw [hs] at hA ⊢
    refine Calls.callWith_builtin rfl (Calls.evalArgs_plain ?_)
    exact thn hA fun us s2 ⟨vs, H2, I2, r2, q2⟩ => hml pins s2 σ H2 (V.ref p) vs _ us Q I2 rfl r2 q2
theorem evds_one {e : E} {env env' : Env} {ds : List D} (h : evds c [e] env = some (ds, env')) : ∃ z, ds = [z] := by
  simp only [evds] at h
  cases e1 : ev c e .v env with
  | none => rw [e1] at h; cases h
  | some oe =>
    obtain ⟨o, env1⟩ := oe
    rw [e1] at h
    simp only at h
    cases e2 : toD env1 o with
    | none => rw [e2] at h; cases h
    | some de =>
      obtain ⟨d, env2⟩ := de
      rw [e2] at h
      cases h
      exact ⟨d, rfl⟩
theorem se_mthG {m : Mt} {a : E} {es : List E} {idt idl : String} (slot : PySem.Slot "tuple" m.name idt) (hty : typeOf (.builtin idt) = pure (.type "method_descriptor")) (slotl : PySem.Slot "list" m.name idl) (htyl : typeOf (.builtin idl) = pure (.type "method_descriptor"))
    (hm : ∀ X, MtR X idt (fun x vs H Q => ∃ ds e r, VwR X.K H (.tup ds) x ∧ Rps X.K H [e] vs ∧ mthD m (.tup ds) [e] = some r ∧ ∀ v, Rp X.K H r v → Q v H))
    (hml : ∀ X : Cx, X.A.units + 65 < cLine → MtR X idl (fun x vs H Q => ∃ ds e r, VwR X.K H (.lst ds) x ∧ Rps X.K H [e] vs ∧ mthD m (.lst ds) [e] = some r ∧ ∀ v, Rp X.K H r v → Q v H))
    (ha : SE c a) (hs : ∀ e ∈ es, SE c e) : SE c (.mth m a es) := by
  refine se_of (fun _ => rfl) fun X G O x hx => ?_
  cases x <;> first | (cases hx; done) | skip
  rename_i f args kws pos
  cases f <;> first | (cases hx; done) | skip
  rename_i ob nm apos
  cases kws <;> first | (cases hx; done) | skip
  obtain ⟨hx1, h7⟩ := and2 hx
  obtain ⟨hx2, h6⟩ := and2 hx1
  obtain ⟨hx3, h5⟩ := and2 hx2
  obtain ⟨hx4, h4⟩ := and2 hx3
  obtain ⟨hx5, h3⟩ := and2 hx4
  obtain ⟨h1, h2⟩ := and2 hx5
  have en : nm = m.name := of_decide_eq_true h2
  have hl : es.length = 1 := of_decide_eq_true h5
  subst en
  match es, args, hl, h7, hs with
  | [e], _ :: _ :: _, hl, h7, hs => cases (and2 h7).2
  | [e], [y], hl, h7, hs =>
    obtain ⟨k1, k2⟩ := and2 (show (ckE e G y && ckEs [] G []) = true from h7)
    refine ⟨PE.imp (pe_bmQ PySem.F.plainAttrs_tuple slot hty (hm X) PySem.F.plainAttrs_list slotl htyl (hml X O.un) (ha X G O _ h6).1 (pa_ds O hs h7) (base_of (by simpa using h3)) (star_of k1 _) h4) fun σ H Q ⟨env, o, env', E, hf, q⟩ => ?_, fun _ => rfl⟩
    obtain ⟨x, env1, d0, ds, d, r, e1, e0, hq, e2, e4, hk, e3, rfl⟩ := mth_inv hf
    refine ⟨env, _, env1, E, e1, fun v H1 p1 => ?_⟩
    have v0 := p1.r.view p1.e e0
    have later : ∀ {H2 : Hp}, EnvR X.K H2 σ env' → Tr σ H1 env1 σ H2 env' → VwR X.K H2 d v := fun E2 t2 => (p1.r.later p1.e t2).view E2 e4
    have hds : ∃ z, ds = [z] := by
      exact evds_one e2
    obtain ⟨z, rfl⟩ := hds
    cases d0 with
    | tup ys =>
      obtain ⟨p, vs, ev, t, rd⟩ := v0.tup
      subst ev
      refine .inl ⟨p, vs, rfl, t, env1, [z], env', p1.e, e2, fun us H2 E2 t2 r2 => ?_⟩
      have v2 := later E2 t2
      cases d with
      | tup zs => exact ⟨zs, z, r, v2, r2, e3, fun w rw => q w H2 (po_dat E2 (p1.t.trans t2) rw)⟩
      | _ => cases hk
    | lst ys =>
      obtain ⟨p, vs, ev, t, rd⟩ := v0.lst
      subst ev
      refine .inr ⟨p, vs, rfl, t, env1, [z], env', p1.e, e2, fun us H2 E2 t2 r2 => ?_⟩
      have v2 := later E2 t2
      cases d with
      | lst zs => exact ⟨zs, z, r, v2, r2, e3, fun w rw => q w H2 (po_dat E2 (p1.t.trans t2) rw)⟩
      | _ => cases hk
    | _ => cases hq
theorem se_mth {m : Mt} {a : E} {es : List E} (ha : SE c a) (hs : ∀ e ∈ es, SE c e) : SE c (.mth m a es) := by
  cases m with
  | index => exact se_mthG (m := .index) PySem.F.slot_tuple_index PySem.F.type_tuple_index PySem.F.slot_list_index PySem.F.type_list_index (fun X => mthR_index_tup (X := X)) (fun X hu => mthR_index_both (X := X) hu) ha hs
  | count => exact se_mthG (m := .count) PySem.F.slot_tuple_count PySem.F.type_tuple_count PySem.F.slot_list_count PySem.F.type_list_count (fun X pins s σ H x xs v us Q I rx rxs ⟨ds, e, r, _, _, hm, _⟩ => by cases hm) (fun X _ => mthR_count_lst (X := X)) ha hs
  | _ =>
    refine se_of (fun _ => rfl) fun X G O x hx => ?_
    cases x <;> first | (cases hx; done) | skip
    rename_i f args kws pos
    cases f <;> first | (cases hx; done) | skip
    rename_i ob nm apos
    cases kws <;> cases hx
end
end PF
/-! PF9S: sorted(set(x)) of tuples of numbers below 64. -/
namespace PF
open PySem PySem.Spec PyProof.Rows L2
/-! ### set(x) of a tuple -/
section
variable {P : Program} {w : World} {A : Around} {E : Value → Shared → Prop} {s : Shared}
abbrev bareSet (w : World) : Obj := { cls := .type "set", dict := none, data := .set #[] 0 (.fresh 0 0 (!w.params.followText "set-order")) }
abbrev tupIt (t : Addr) : Obj := { cls := .type "tuple_iterator", data := .fields #[.ref t, .int 0 0] }
/-- the answer of set.__init__ -/
def SetMade (P : Program) (w : World) (s : Shared) (ks : List (Addr × List Int)) (s2 : Shared) : Prop :=
  ∃ h' tk L es ep t, s2 = { s with heap := h', toks := tk } ∧ SetTR P w h' s.heap.objs.size L es ep t ∧ Got ks ks.length L ∧ ∀ b o, s.heap.get? b = some o → h'.get? b = some o
theorem fill_set {l : Addr} {vs : Array Value} (ks : List (Addr × List Int)) (hh : A.handled = none) (hl : s.heap.IsTuple l vs) (hv : vs.toList = ks.map fun p => Value.ref p.1)
    (hk : ∀ p ∈ ks, IsT P w s.heap p.2 p.1) (hn : ks.length < 64) (hu : A.units + 3 < cLine) {R : Result → Shared → Prop} (hR : ∀ s2, SetMade P w s ks s2 → R (.ok (.ret .none)) s2) :
    codeAny (model P w) A.in1.in1 (.builtin "set.update.loop" ⟨[.ref s.heap.objs.size, .ref (s.heap.push (bareSet w)).objs.size], []⟩) R { s with heap := (s.heap.push (bareSet w)).push (tupIt l) } := by
  have z1 : (s.heap.push (bareSet w)).objs.size = s.heap.objs.size + 1 := Heap.size_push ..
  have ll : l < s.heap.objs.size := by obtain ⟨_, e, _⟩ := hl; exact Heap.lt_size e
  have zs : vs.size = ks.length := by
    have q := congrArg List.length hv
    simpa using q
  have at' : ∀ (i : Nat) (v : Value), vs[i]? = some v → ∃ p, ks[i]? = some p ∧ v = .ref p.1 := fun i v e => by
    rw [← Array.getElem?_toList, hv, List.getElem?_map] at e
    obtain ⟨p, e1, e2⟩ := Option.map_eq_some_iff.mp e
    exact ⟨p, e1, e2.symm⟩
  have no : ∀ b, s.heap.objs.size ≤ b → s.heap.get? b = none := fun b hb => by
    cases q : s.heap.get? b with
    | none => rfl
    | some o => exact (Nat.lt_irrefl _ (Nat.lt_of_lt_of_le (Heap.lt_size q) hb)).elim
  have ne : l ≠ (s.heap.push (bareSet w)).objs.size := by rw [z1]; exact Nat.ne_of_lt (Nat.lt_succ_of_lt ll)
  have h3 : A.in1.in1.in1.handled = none := by simp [hh]
  have hsf : s.heap.objs.size ∉ [(s.heap.push (bareSet w)).objs.size, l] := by
    rw [z1]; simp only [List.mem_cons, List.not_mem_nil, or_false, not_or]; exact ⟨Nat.ne_of_lt (Nat.lt_succ_self _), Nat.ne_of_gt ll⟩
  have g1 : ((s.heap.push (bareSet w)).push (tupIt l)).get? s.heap.objs.size = some (bareSet w) := Heap.get?_push_of_some _ (Heap.get?_push_size _ rfl)
  refine set_update_tups (A := A.in1.in1) ((Walks.tuple h3 _ l ne vs).toS) s.heap.objs.size hsf ks zs hn at' s.heap hk (no _ (Nat.le_refl _)) (fun b hb => no b (by rw [List.mem_singleton.mp hb, z1]; exact Nat.le_succ _)) hu (vs.size - 0) 0 _ (by omega) (Nat.zero_le _)
    ⟨⟨_, Heap.get?_push_size _ rfl, rfl, rfl⟩, ((hl.push _).push _)⟩ (fun b o e => Heap.get?_push_of_some _ (Heap.get?_push_of_some _ e)) ⟨[], #[], 0, _, setTR_fresh g1, Got.zero ks⟩ ?_
  intro s' L es ep t hm hS g hkp
  refine hR s' ⟨s'.heap, s'.toks, L, es, ep, t, ?_, hS, by rw [← zs]; exact g, hkp⟩
  have e1 : s'.gens = s.gens := hm.gens
  have e2 : s'.drawn = s.drawn := hm.drawn
  have e3 : s'.os = s.os := hm.os
  cases s'
  simp only at e1 e2 e3
  subst e1 e2 e3
  rfl
theorem set_of_tuple {l : Addr} {vs : Array Value} (ks : List (Addr × List Int)) {Q : Value → Shared → Prop} (hh : A.handled = none) (hl : s.heap.IsTuple l vs) (hv : vs.toList = ks.map fun p => Value.ref p.1)
    (hk : ∀ p ∈ ks, IsT P w s.heap p.2 p.1) (hn : ks.length < 64) (hu : A.units + 3 < cLine)
    (h : ∀ (h' : Heap) (tk : Nat) L es ep t, SetTR P w h' s.heap.objs.size L es ep t → Got ks ks.length L → (∀ b o, s.heap.get? b = some o → h'.get? b = some o) → Q (.ref s.heap.objs.size) { s with heap := h', toks := tk }) : wpAny (model P w) A (call (.type "set") [.ref l]) Q E s := by
  obtain ⟨m1, m2, hmro⟩ := F.called_set.mro
  have cmade := F.called_set.made
  have csub := F.called_set.sub
  refine wpAny_call (codeAny_of_tree ?_); show wpAny _ _ (callAny (.type "set") _) _ _ _
  refine wpAny_pure ⟨Code.quiet_builtin _ (by decide +kernel), codeAny_builtin F.entry_type_call ?_⟩; rw [Around.under_plain (weight_type_call_type "set" [.ref l] []) rfl]
  have c1 := F.called_set.notType
  have c2 := F.called_set.canCreate
  have c3 := F.typeCall_set_1 (.ref l)
  repeat (any_goals (first | assumption | wp_step))
  refine codeAny_mono (code_set_led1 (.ref l) (E := E) (Q₁ := fun ob s1 => ob = .ref s.heap.objs.size ∧ s1 = { s with heap := s.heap.push (bareSet w) }) ⟨rfl, rfl⟩) fun r s1 hr => ?_
  cases r with
  | error e => exact hr
  | ok fl =>
    cases fl with
    | ret ob =>
      obtain ⟨rfl, rfl⟩ := hr
      have gS : (s.heap.push (bareSet w)).get? s.heap.objs.size = some (bareSet w) := Heap.get?_push_size _ rfl
      have tS : Shared.TypeIs { s with heap := s.heap.push (bareSet w) } (.ref s.heap.objs.size) "set" := ⟨_, gS, rfl⟩
      have i1 := F.called_set.init.lookup
      have i2 := F.called_set.init.bind (.ref s.heap.objs.size)
      repeat (any_goals (first | assumption | wp_step))
      refine codeAny_mono (codeAny_call_builtin (R := wants (fun r s2 => r = .none ∧ SetMade P w s ks s2) E) F.called_set.init.plain F.entry_set_init (check_set_init_1 tS ?_)) fun r2 s2 hr2 => ?_
      · obtain ⟨ol, hol, hcl, nl, hdl⟩ := hl
        obtain ⟨oc, od, odata, os⟩ := ol
        simp only at hcl hdl
        subst hcl hdl
        have gl : (s.heap.push (bareSet w)).get? l = some { cls := .type "tuple", dict := od, data := .seq vs nl, slots := os } := Heap.get?_push_of_some _ hol
        have b1 : isSubtype (.type "tuple") (.type "set") = pure false := by rw [isSubtype_type]; kernel_rfl
        have b2 : isSubtype (.type "tuple") (.type "frozenset") = pure false := by rw [isSubtype_type]; kernel_rfl
        have b3 : (Value.type "tuple" == Value.type "dict") = false := by decide
        have hl1 : (s.heap.push (bareSet w)).IsTuple l vs := ⟨_, gl, rfl, nl, rfl⟩
        unfold Builtin.«set.__init__» noKeywords Builtin.Frozenset.updateFrom; generalize hPI : pyIter = PI
        wp_walk
        subst hPI
        refine wpAny_pyIter_tuple hl1 ?_; refine wpAny_bind (wpAny_runValue ?_)
        refine fill_set (P := P) (w := w) (l := l) ks hh ⟨_, hol, rfl, nl, rfl⟩ hv hk hn hu fun s2 hs2 => ?_
        show wpAny _ _ _ _ _ _
        refine wpAny_pure ?_; show wpAny _ _ (ret Value.none) _ _ _
        exact wpAny_pure ⟨rfl, hs2⟩
      · cases r2 with
        | error e => exact hr2
        | ok fl2 =>
          cases fl2 with
          | ret r =>
            obtain ⟨rfl, h', tk, L, es, ep, t, rfl, hS, g, hk'⟩ := hr2
            repeat (any_goals (first | assumption | wp_step))
            exact h _ _ _ _ _ _ hS g hk'
          | _ => exact hr2.elim
    | _ => exact hr.elim
/-! ### set(x) of a list of numbers -/
abbrev lstIt (t : Addr) : Obj := { cls := .type "list_iterator", data := .fields #[.ref t, .int 0 0] }
def SetMadeI (P : Program) (w : World) (s : Shared) (ns : List Int) (s2 : Shared) : Prop :=
  ∃ h' tk c, s2 = { s with heap := h', toks := tk } ∧ SetR w h' s.heap.objs.size (fun j => decide (j ∈ ns)) c ∧ c ≤ ns.length ∧ ∀ b o, s.heap.get? b = some o → h'.get? b = some o
theorem fill_ints {l : Addr} {vs : Array Value} (ns : List Int) (hh : A.handled = none) (hl : s.heap.IsList l vs) (hv : IntsAre vs.toList ns) (hn : ns.length < 64) {R : Result → Shared → Prop} (hR : ∀ s2, SetMadeI P w s ns s2 → R (.ok (.ret .none)) s2) :
    codeAny (model P w) A.in1.in1 (.builtin "set.update.loop" ⟨[.ref s.heap.objs.size, .ref (s.heap.push (bareSet w)).objs.size], []⟩) R { s with heap := (s.heap.push (bareSet w)).push (lstIt l) } := by
  have z1 : (s.heap.push (bareSet w)).objs.size = s.heap.objs.size + 1 := Heap.size_push ..
  have ll : l < s.heap.objs.size := by obtain ⟨_, e, _⟩ := hl; exact Heap.lt_size e
  have zs : vs.size = ns.length := by
    have q := hv.length
    simpa using q
  have at' : ∀ (i : Nat) (v : Value), vs[i]? = some v → ∃ k t, ns[i]? = some k ∧ v = .int k t := fun i v hv' => by
    have hi : i < ns.length := by rw [← zs]; exact (Array.getElem?_eq_some_iff.mp hv').1
    obtain ⟨t, e⟩ := PyProof.Rows.IntsAre.int_at hv i v (by rw [Array.getElem?_toList]; exact hv')
    refine ⟨ns[i], t, List.getElem?_eq_getElem hi, ?_⟩
    rw [e, List.getD_eq_getElem?_getD, List.getElem?_eq_getElem hi] <;> rfl
  have ne : l ≠ (s.heap.push (bareSet w)).objs.size := by rw [z1]; exact Nat.ne_of_lt (Nat.lt_succ_of_lt ll)
  have h3 : A.in1.in1.in1.handled = none := by simp [hh]
  have hsf : s.heap.objs.size ∉ [(s.heap.push (bareSet w)).objs.size, l] := by
    rw [z1]; simp only [List.mem_cons, List.not_mem_nil, or_false, not_or]; exact ⟨Nat.ne_of_lt (Nat.lt_succ_self _), Nat.ne_of_gt ll⟩
  have g1 : ((s.heap.push (bareSet w)).push (lstIt l)).get? s.heap.objs.size = some (bareSet w) := Heap.get?_push_of_some _ (Heap.get?_push_size _ rfl)
  refine set_update_ints (A := A.in1.in1) ((Walks.list h3 _ l ne vs).toS) s.heap.objs.size hsf ns zs (by unfold scanBound; omega) at' (vs.size - 0) 0 _ (by omega) (Nat.zero_le _)
    ⟨⟨_, Heap.get?_push_size _ rfl, rfl, rfl⟩, ((hl.at fun o e => Heap.get?_push_of_some _ e).at fun o e => Heap.get?_push_of_some _ e)⟩ ⟨0, Nat.le_refl _, setR_new_at g1⟩ ?_
  intro s' c hm hc hS
  refine hR s' ⟨s'.heap, s'.toks, c, ?_, hS, by rw [← zs]; exact hc, fun b o e => ?_⟩
  · have e1 : s'.gens = s.gens := hm.gens
    have e2 : s'.drawn = s.drawn := hm.drawn
    have e3 : s'.os = s.os := hm.os
    cases s'
    simp only at e1 e2 e3
    subst e1 e2 e3
    rfl
  · have hb0 : b < s.heap.objs.size := Heap.lt_size e
    exact hm.heap b o (by simp only [List.mem_cons, List.mem_singleton, List.not_mem_nil, or_false, not_or]; exact ⟨Nat.ne_of_lt hb0, by rw [z1]; exact Nat.ne_of_lt (Nat.lt_succ_of_lt hb0)⟩) (Heap.get?_push_of_some _ (Heap.get?_push_of_some _ e))
theorem set_of_ints {l : Addr} {vs : Array Value} (ns : List Int) {Q : Value → Shared → Prop} (hh : A.handled = none) (hl : s.heap.IsList l vs) (hv : IntsAre vs.toList ns) (hn : ns.length < 64)
    (h : ∀ (h' : Heap) (tk c : Nat), SetR w h' s.heap.objs.size (fun j => decide (j ∈ ns)) c → c ≤ ns.length → (∀ b o, s.heap.get? b = some o → h'.get? b = some o) → Q (.ref s.heap.objs.size) { s with heap := h', toks := tk }) : wpAny (model P w) A (call (.type "set") [.ref l]) Q E s := by
  obtain ⟨m1, m2, hmro⟩ := F.called_set.mro
  have cmade := F.called_set.made
  have csub := F.called_set.sub
  refine wpAny_call (codeAny_of_tree ?_); show wpAny _ _ (callAny (.type "set") _) _ _ _
  refine wpAny_pure ⟨Code.quiet_builtin _ (by decide +kernel), codeAny_builtin F.entry_type_call ?_⟩; rw [Around.under_plain (weight_type_call_type "set" [.ref l] []) rfl]
  have c1 := F.called_set.notType
  have c2 := F.called_set.canCreate
  have c3 := F.typeCall_set_1 (.ref l)
  repeat (any_goals (first | assumption | wp_step))
  refine codeAny_mono (code_set_led1 (.ref l) (E := E) (Q₁ := fun ob s1 => ob = .ref s.heap.objs.size ∧ s1 = { s with heap := s.heap.push (bareSet w) }) ⟨rfl, rfl⟩) fun r s1 hr => ?_
  cases r with
  | error e => exact hr
  | ok fl =>
    cases fl with
    | ret ob =>
      obtain ⟨rfl, rfl⟩ := hr
      have gS : (s.heap.push (bareSet w)).get? s.heap.objs.size = some (bareSet w) := Heap.get?_push_size _ rfl
      have tS : Shared.TypeIs { s with heap := s.heap.push (bareSet w) } (.ref s.heap.objs.size) "set" := ⟨_, gS, rfl⟩
      have i1 := F.called_set.init.lookup
      have i2 := F.called_set.init.bind (.ref s.heap.objs.size)
      repeat (any_goals (first | assumption | wp_step))
      refine codeAny_mono (codeAny_call_builtin (R := wants (fun r s2 => r = .none ∧ SetMadeI P w s ns s2) E) F.called_set.init.plain F.entry_set_init (check_set_init_1 tS ?_)) fun r2 s2 hr2 => ?_
      · obtain ⟨ol, hol, hcl, nl, hdl⟩ := hl
        obtain ⟨oc, od, odata, os⟩ := ol
        simp only at hcl hdl
        subst hcl hdl
        have gl : (s.heap.push (bareSet w)).get? l = some { cls := .type "list", dict := od, data := .seq vs nl, slots := os } := Heap.get?_push_of_some _ hol
        have b1 := F.sub_list_set
        have b2 := F.sub_list_frozenset
        have b3 : (Value.type "list" == Value.type "dict") = false := by decide
        have hl1 : (s.heap.push (bareSet w)).IsList l vs := ⟨_, gl, rfl, nl, rfl⟩
        unfold Builtin.«set.__init__» noKeywords Builtin.Frozenset.updateFrom; generalize hPI : pyIter = PI
        wp_walk
        subst hPI
        refine wpAny_pyIter_list hl1 ?_; refine wpAny_bind (wpAny_runValue ?_)
        refine fill_ints (P := P) (w := w) (l := l) ns hh ⟨_, hol, rfl, nl, rfl⟩ hv hn fun s2 hs2 => ?_
        show wpAny _ _ _ _ _ _
        refine wpAny_pure ?_; show wpAny _ _ (ret Value.none) _ _ _
        exact wpAny_pure ⟨rfl, hs2⟩
      · cases r2 with
        | error e => exact hr2
        | ok fl2 =>
          cases fl2 with
          | ret r =>
            obtain ⟨rfl, h', tk, c, rfl, hS, g, hk'⟩ := hr2
            repeat (any_goals (first | assumption | wp_step))
            exact h _ _ _ hS g hk'
          | _ => exact hr2.elim
    | _ => exact hr.elim
/-! ### sorted -/
/-- what sorted leaves of a set with rows of d numbers, or with one row -/
theorem sort_few {a : Addr} {vs : List Value} {n d : Nat} {B : Int} {Pf : PySem.Fin → Shared → Prop} (ho : s.heap.get? a = some (seqObj "list" vs.toArray n)) (h1 : vs.length ≤ 1)
    (h : ∀ out : Array Value, out.toList.Perm vs → Pf (.done (.ret .none)) { s with heap := sortedHeap s.heap a vs out }) : wpAny (model P w) A (Builtin.«list.sort» ⟨[.ref a], []⟩) Pf E s := by
  refine SK.plain_sort (r := fun _ => 0) ho (by omega) (fun h2 => absurd h2 (by omega)) fun ps out q1 q2 q3 => ?_
  refine h out ?_
  rw [q1]
  have z := q2.map Prod.snd
  rwa [List.map_snd_zip (Nat.le_refl _)] at z
theorem sorted_one {a : Addr} {q : Addr × List Int} {es : Array (Int × Value)} {ep : Nat} {t : SetTable} {Q : Value → Shared → Prop} (R : SetTR P w s.heap a [q] es ep t) (hh : A.handled = none)
    (hQ : ∀ s' p (c : Nat), (∀ b o, s.heap.get? b = some o → s'.heap.get? b = some o) → s'.gens = s.gens → s'.os = s.os → s.heap.objs.size ≤ p → s'.heap.get? p = some (seqObj "list" #[Value.ref q.1] c) → Q (.ref p) s') :
    wpAny (model P w) A (call (.builtin "sorted") [.ref a]) Q E s := by
  obtain ⟨o, ho, hex, hd⟩ := R.ob
  have z1 := R.size
  refine Calls.call_function_entry kind_sorted plain_sorted entry_sorted (args_sorted1 _) ?_; unfold Builtin.«sorted»
  refine wpAny_bind (m := checkCount "sorted" 1 1 _) (wpAny_pure ?_)
  refine wpAny_bind (collect_set (A := A.in1) hh ⟨o, ho, hex.1, hd⟩ R.fits (by rw [z1]; show 1 < scanBound; decide) R.tab.ris R.led fun s1 vs k1 hz g1 o1 pm => ?_)
  have e1 : es.toList.map (·.2) = [Value.ref q.1] := by rw [R.rows]; rfl
  rw [e1] at pm
  have e2 : vs = [Value.ref q.1] := List.perm_singleton.mp pm
  subst e2
  refine wpAny_bind (wpAny_newList ?_ (by rw [sizeLine_eq]; show 1 ≤ 16777216; decide))
  have gl : (s1.heap.push (seqObj "list" [Value.ref q.1].toArray 0)).get? s1.heap.objs.size = some (seqObj "list" [Value.ref q.1].toArray 0) := Heap.get?_push_size _ rfl
  refine wpAny_bind (wpAny_holding (wpAny_call_entry (s := { s1 with heap := s1.heap.push (seqObj "list" [Value.ref q.1].toArray 0) }) slot_list_sort ⟨_, gl, rfl⟩ entry_list_sort (sort_few (d := 0) (B := 0) (vs := [Value.ref q.1]) gl (Nat.le_refl _) fun out a1 => ⟨_, rfl, ?_⟩) (args_list_sort _)))
  have e3 : out.toList = [Value.ref q.1] := List.perm_singleton.mp a1
  obtain ⟨c, hc⟩ := sortedHeap_at (vs := [Value.ref q.1]) (out := out) gl
  have e4 : out = #[Value.ref q.1] := by rw [← Array.toArray_toList (xs := out), e3]
  rw [e4] at hc
  refine wpAny_pure ⟨_, rfl, hQ _ s1.heap.objs.size c (fun b u e => ?_) g1 o1 hz (by rw [e4]; exact hc)⟩
  have q := k1 b u e
  have hlt := Heap.lt_size q
  show (sortedHeap (s1.heap.push (seqObj "list" [Value.ref _].toArray 0)) s1.heap.objs.size [Value.ref _] out).get? b = some u
  rw [sortedHeap_old (Nat.ne_of_lt hlt) (by rw [size_push']; exact Nat.lt_succ_of_lt hlt)]; exact Heap.get?_push_of_some _ q
end
section
variable {X : Cx}
/-- set(x), x tuples of numbers in a list or in a tuple -/
def rSetA (K : PySem.W.Frag) (P : Program) (w : World) : List V → Hp → VK → Prop := fun xs H Q => ∃ (l : Addr) (ks : List (Addr × List Int)), xs = [V.ref l] ∧ (SqL K H l (ks.map fun p => V.ref p.1) ∨ TupAt K H l (ks.map fun p => V.ref p.1)) ∧
  (∀ p ∈ ks, SqT K H p.1 (p.2.map V.int)) ∧ ks.length < 64 ∧ ∀ a L, H a = none → (∀ p ∈ L, p ∈ ks) → (∀ p ∈ ks, p.2 ∈ L.map (·.2)) → (L.map (·.2)).Nodup → Q (.ref a) (upd H a (SetTO P w a L))
theorem cr_setA (hc : X.calm = true) (hu : X.A.units + 64 < cLine) : CallR X (.type "set") (rSetA X.K X.prog X.w) := by
  intro pins s σ H xs us Q I r ⟨l, ks, e, hl, hk, hf, q⟩
  subst e
  rw [Vals.ref1 r]
  have hn : H s.heap.objs.size = none := I.hok.fresh (Nat.le_refl _)
  have fin : ∀ (h' : Heap) (tk : Nat) L es ep t, SetTR X.prog X.w h' s.heap.objs.size L es ep t → Got ks ks.length L → (∀ b o, s.heap.get? b = some o → h'.get? b = some o) →
      EP X pins σ Q (.ref s.heap.objs.size) { s with heap := h', toks := tk } := fun h' tk L es ep t R g k =>
    ⟨.ref s.heap.objs.size, upd H s.heap.objs.size (SetTO X.prog X.w s.heap.objs.size L), I.laid (t' := tk) k (Nat.le_refl _) (setTO_new R.t0), rfl, q _ L hn (fun p hp => List.mem_of_mem_take (g.sub p hp)) (fun p hp => g.all p (by rw [List.take_length]; exact hp)) R.nd⟩
  rcases hl with hl | hl
  · obtain ⟨its, rv, pl, hz⟩ := I.list hl
    exact call_set_tups (P := X.prog) (w := X.w) ks (I.ok.hd hc) pl.isList (by simpa using refs_of_vals rv) (fun p hp => I.isT (hk p hp)) hf (by omega) fin
  · obtain ⟨its, rv, pl, hz⟩ := I.tuple hl.sq
    exact set_of_tuple (P := X.prog) (w := X.w) ks (I.ok.hd hc) pl (by simpa using refs_of_vals rv) (fun p hp => I.isT (hk p hp)) hf (by omega) fin
/-- set(x) of a list of numbers -/
def rSetN (K : PySem.W.Frag) (w : World) : List V → Hp → VK → Prop := fun vs H Q => ∃ (l : Addr) (ns : List Int), vs = [V.ref l] ∧ (SqL K H l (ns.map V.int) ∨ TupAt K H l (ns.map V.int)) ∧ ns.length < 64 ∧
  ∀ a c, H a = none → c ≤ ns.length → Q (.ref a) (upd H a (SetO w a (fun j => decide (j ∈ ns)) c))
theorem cr_setN (hc : X.calm = true) : CallR X (.type "set") (rSetN X.K X.w) := by
  intro pins s σ H xs us Q I r ⟨l, ns, e, hl, hn, q⟩
  subst e
  rw [Vals.ref1 r]
  have hf : H s.heap.objs.size = none := I.hok.fresh (Nat.le_refl _)
  have fin : ∀ (h' : Heap) (tk c : Nat), SetR X.w h' s.heap.objs.size (fun j => decide (j ∈ ns)) c → c ≤ ns.length → (∀ b o, s.heap.get? b = some o → h'.get? b = some o) → EP X pins σ Q (.ref s.heap.objs.size) { s with heap := h', toks := tk } := fun h' tk c R g k =>
    ⟨.ref s.heap.objs.size, upd H s.heap.objs.size (SetO X.w s.heap.objs.size (fun j => decide (j ∈ ns)) c), I.laid (t' := tk) k (Nat.le_refl _) (setO_new R), rfl, q _ c hf g⟩
  rcases hl with hl | hl
  · obtain ⟨its, rv, pl, hz⟩ := I.list hl
    exact set_of_ints (P := X.prog) (w := X.w) ns (I.ok.hd hc) pl.isList (by simpa using rv.ints) hn fin
  · obtain ⟨its, rv, pl, hz⟩ := I.tuple hl.sq
    exact call_set_tupI (P := X.prog) (w := X.w) ns (I.ok.hd hc) pl (by simpa using rv.ints) (by unfold scanBound; omega) fin
/-- sorted(set) -/
def rSortA (K : PySem.W.Frag) (P : Program) (w : World) : List V → Hp → VK → Prop := fun vs H Q => ∃ (a : Addr) (L : List (Addr × List Int)) (d : Nat), vs = [V.ref a] ∧ H a = some (SetTO P w a L) ∧ (∀ p ∈ L, SqT K H p.1 (p.2.map V.int)) ∧ (1 ≤ d ∨ ∃ q, L = [q]) ∧
  (∀ p ∈ L, p.2.length = d ∧ TS.Bd 64 p.2) ∧ ∀ (L' : List (Addr × List Int)) (p : Addr), L'.Perm L → L'.length < 64 → L'.Pairwise (fun q r => TS.code 64 q.2 ≤ TS.code 64 r.2) → H p = none → Q (.ref p) (upd H p (.lst (L'.map fun q => V.ref q.1)))
theorem cr_sortA (hc : X.calm = true) : CallR X (.builtin "sorted") (rSortA X.K X.prog X.w) := by
  intro pins s σ H vs us Q I r ⟨a, L, d, e, ha, hk, hd, hB, q⟩
  subst e
  have R0 : SetT0 X.prog X.w s.heap a L := (I.hok a _ ha).1
  obtain ⟨es, ep, t, R⟩ := R0.full fun p hp => I.isT (hk p hp)
  rw [Vals.ref1 r]
  have fin : ∀ s' p (out : Array Value) (c : Nat) (L' : List (Addr × List Int)), (∀ b o, s.heap.get? b = some o → s'.heap.get? b = some o) → s'.gens = s.gens → s'.os = s.os → s.heap.objs.size ≤ p →
      s'.heap.get? p = some (seqObj "list" out c) → out.toList = L'.map (fun q => Value.ref q.1) → L'.Perm L → L'.Pairwise (fun q r => TS.code 64 q.2 ≤ TS.code 64 r.2) → EP X pins σ Q (.ref p) s' := by
    intro s' p out c L' k g o hp hg hout pm pw
    have few : L'.length < 64 := by rw [pm.length_eq]; exact R.few
    have hlen : (L'.map fun q => V.ref q.1).length ≤ sizeLine := by rw [List.length_map, sizeLine_eq]; omega
    have hn : H p = none := I.hok.fresh hp
    have hv : Vals (L'.map fun q => V.ref q.1) out.toList := by rw [hout]; exact vals_of_refs L'
    have J : Inv X pins σ (upd H p (.lst (L'.map fun q => V.ref q.1))) { s with heap := s'.heap, gens := s'.gens, drawn := s'.drawn, toks := s'.toks } :=
      I.call (ch := []) (Un.laid k hp hn) (I.hok.laid k hp ⟨hlen, out.toList, c, hv, hg⟩) (by rw [g]; exact I.bare) (fun _ z => nomatch z)
    have e : s' = { s with heap := s'.heap, gens := s'.gens, drawn := s'.drawn, toks := s'.toks } := by
      cases s'; cases s; cases o; rfl
    rw [e]
    exact ⟨.ref p, _, J, rfl, q L' p pm few pw hn⟩
  rcases hd with hd | ⟨x, rfl⟩
  · exact sorted_setT R (I.ok.hd hc) hd hB fin
  · exact sorted_one R (I.ok.hd hc) fun s' p c k g o hp hg => fin s' p _ c [x] k g o hp hg rfl (.refl _) (List.pairwise_singleton _ _)
end
/-! ### in plain Lean -/
theorem code_inj {B : Int} : ∀ {x y : List Int}, x.length = y.length → TS.Bd B x → TS.Bd B y → TS.code B x = TS.code B y → x = y
  | [], [], _, _, _, _ => rfl
  | [], _ :: _, h, _, _, _ => by simp at h
  | _ :: _, [], h, _, _, _ => by simp at h
  | a :: x, b :: y, h, hx, hy, e => by
    have hl : x.length = y.length := by simpa using h
    rcases Int.lt_trichotomy a b with z | z | z
    · have := TS.code_lt hl hx.tail hy.tail z; omega
    · subst z
      have e2 : TS.code B x = TS.code B y := by
        have e' : a * B ^ x.length + TS.code B x = a * B ^ y.length + TS.code B y := e
        rw [hl] at e'
        omega
      rw [code_inj hl hx.tail hy.tail e2]
    · have := TS.code_lt hl.symm hy.tail hx.tail z; omega
theorem insR_mem {B : Int} {x z : List Int} : ∀ {l : List (List Int)}, z ∈ insR B x l ↔ z = x ∨ z ∈ l
  | [] => by simp [insR]
  | y :: ys => by
    unfold insR
    split
    · rename_i e; subst e; simp
    · split
      · simp
      · simp only [List.mem_cons, insR_mem (l := ys)]
        constructor
        · rintro (h | h | h) <;> simp [h]
        · rintro (h | h | h) <;> simp [h]
theorem sortR_mem {B : Int} {z : List Int} : ∀ {l : List (List Int)}, z ∈ sortR B l ↔ z ∈ l
  | [] => by simp [sortR]
  | y :: ys => by unfold sortR; rw [insR_mem, sortR_mem, List.mem_cons]
theorem insR_sorted {B : Int} {x : List Int} : ∀ {l : List (List Int)}, (∀ z ∈ l, TS.code B x = TS.code B z → x = z) → l.Pairwise (fun a b => TS.code B a < TS.code B b) → (insR B x l).Pairwise fun a b => TS.code B a < TS.code B b
  | [], _, _ => List.pairwise_singleton _ _
  | y :: ys, hi, h => by
    obtain ⟨h1, h2⟩ := List.pairwise_cons.mp h
    unfold insR
    split
    · exact h
    · rename_i ne
      split
      · rename_i le
        have lt : TS.code B x < TS.code B y := Int.lt_iff_le_and_ne.mpr ⟨by assumption, fun e => ne (hi y List.mem_cons_self e)⟩
        refine List.pairwise_cons.mpr ⟨fun z hz => ?_, h⟩
        rcases List.mem_cons.mp hz with rfl | hz
        · exact lt
        · have := h1 z hz; omega
      · rename_i nle
        refine List.pairwise_cons.mpr ⟨fun z hz => ?_, insR_sorted (fun z hz => hi z (List.mem_cons_of_mem _ hz)) h2⟩
        rcases insR_mem.mp hz with rfl | hz
        · omega
        · exact h1 z hz
theorem sortR_sorted {B : Int} {d : Nat} : ∀ {l : List (List Int)}, (∀ z ∈ l, z.length = d ∧ TS.Bd B z) → (sortR B l).Pairwise fun a b => TS.code B a < TS.code B b
  | [], _ => List.Pairwise.nil
  | y :: ys, h => by
    unfold sortR
    refine insR_sorted (fun z hz e => ?_) (sortR_sorted fun z hz => h z (List.mem_cons_of_mem _ hz))
    obtain ⟨a1, a2⟩ := h y List.mem_cons_self
    obtain ⟨b1, b2⟩ := h z (List.mem_cons_of_mem _ (sortR_mem.mp hz))
    exact code_inj (a1.trans b1.symm) a2 b2 e
theorem sort_is {d : Nat} {rs ls : List (List Int)} (h : ∀ z ∈ rs, z.length = d ∧ TS.Bd 64 z) (hm : ∀ z, z ∈ ls ↔ z ∈ rs) (nd : ls.Nodup) (pw : ls.Pairwise fun a b => TS.code 64 a ≤ TS.code 64 b) : ls = sortR 64 rs := by
  have hs := sortR_sorted h
  have nd2 : (sortR 64 rs).Nodup := hs.imp fun {a b} lt e => by rw [e] at lt; exact Int.lt_irrefl _ lt
  refine List.Perm.eq_of_pairwise (le := fun a b => TS.code 64 a ≤ TS.code 64 b) (fun a b ha hb h1 h2 => ?_) pw (hs.imp fun {a b} lt => Int.le_of_lt lt) ((List.perm_ext_iff_of_nodup nd nd2).mpr fun z => (hm z).trans sortR_mem.symm)
  obtain ⟨a1, a2⟩ := h a ((hm a).mp ha)
  obtain ⟨b1, b2⟩ := h b (sortR_mem.mp hb)
  exact code_inj (a1.trans b1.symm) a2 b2 (Int.le_antisymm h1 h2)
theorem rows_ks {K : PySem.W.Frag} {H : Hp} : ∀ {xs : List D} {vs : List V} {rs : List (List Int)}, Rps K H xs vs → rowsD xs = some rs → ∃ ks : List (Addr × List Int), vs = ks.map (fun p => V.ref p.1) ∧ ks.map (·.2) = rs ∧ ∀ p ∈ ks, TupAt K H p.1 (p.2.map V.int)
  | [], vs, rs, r, h => by
    cases h
    have e : vs = [] := r
    exact ⟨[], by rw [e]; rfl, rfl, fun p hp => nomatch hp⟩
  | x :: xs, vs, rs, r, h => by
    obtain ⟨v, r', rfl, r1, r2⟩ := r
    cases x with
    | tup ys =>
      unfold rowsD at h
      cases e1 : intsD ys with
      | none => rw [e1] at h; cases h
      | some a =>
        cases e2 : rowsD xs with
        | none => rw [e1, e2] at h; cases h
        | some b =>
          rw [e1, e2] at h
          cases h
          obtain ⟨ks, k1, k2, k3⟩ := rows_ks r2 e2
          obtain ⟨p, us, rfl, t, ru⟩ := r1
          have e3 := ru.intsD e1
          subst e3
          refine ⟨(p, a) :: ks, by rw [k1]; rfl, by rw [← k2]; rfl, fun q hq => ?_⟩
          rcases List.mem_cons.mp hq with rfl | hq
          · exact t
          · exact k3 q hq
    | _ => cases h
theorem dedI_mem {z : Int} : ∀ {l : List Int}, z ∈ dedI l ↔ z ∈ l
  | [] => by simp [dedI]
  | y :: ys => by
    unfold dedI
    rw [List.mem_cons, List.mem_filter, dedI_mem, List.mem_cons]
    by_cases h : z = y
    · simp [h]
    · simp [h]
theorem dedI_nodup : ∀ l : List Int, (dedI l).Nodup
  | [] => .nil
  | y :: ys => by
    unfold dedI
    refine List.nodup_cons.mpr ⟨fun h => ?_, (dedI_nodup ys).filter _⟩
    have := (List.mem_filter.mp h).2
    simp at this
theorem sort_strict {ns ls : List Int} (hm : ∀ z, z ∈ ls ↔ z ∈ ns) (pw : ls.Pairwise (· < ·)) : ls = sortI (dedI ns) := by
  have nd : ls.Nodup := pw.imp fun {a b} lt e => by rw [e] at lt; exact Int.lt_irrefl _ lt
  refine sorted_eq ((List.perm_ext_iff_of_nodup nd (dedI_nodup ns)).mpr fun z => (hm z).trans dedI_mem.symm) (pw.imp fun {a b} lt => Int.le_of_lt lt)
theorem ssetR_case {d : D} {xs : List D} (h : ssetD d = some xs) : (∃ ys ns, (d = .lst ys ∨ d = .tup ys) ∧ intsD ys = some ns ∧ ns.length < 64 ∧ xs = (sortI (dedI ns)).map .int) ∨ ssetR d = some xs := by
  unfold ssetD at h
  split at h
  · rename_i ys
    split at h
    · rename_i ns e
      split at h
      · rename_i hz
        cases h
        exact .inl ⟨ys, ns, .inl rfl, e, hz, rfl⟩
      · cases h
    · exact .inr h
  · rename_i ys
    split at h
    · rename_i ns e
      split at h
      · rename_i hz
        cases h
        exact .inl ⟨ys, ns, .inr rfl, e, hz, rfl⟩
      · cases h
    · exact .inr h
  · exact .inr h
/-- sorted(set(x)) -/
theorem se_sset {c : Cl} {a : E} (ha : SE c a) : SE c (.sset a) := by
  refine se_of (fun _ => rfl) fun X G O x hx => ?_
  cases x <;> first | (cases hx; done) | skip
  rename_i f args kws pos
  cases f <;> first | (cases hx; done) | skip
  rename_i x p
  match args, kws, hx with
  | [.Call (.Name y py) [z] [] pz], [], hx =>
    obtain ⟨h1, h5⟩ := and2 (show (decide (x = "sorted") && decide (y = "set") && blOk G x && blOk G y && ckE a G z) = true from hx)
    obtain ⟨h2, h4⟩ := and2 h1
    obtain ⟨h6, h3⟩ := and2 h2
    obtain ⟨h7, h8⟩ := and2 h6
    have ex : x = "sorted" := of_decide_eq_true h7
    have ey : y = "set" := of_decide_eq_true h8
    subst ex ey
    obtain ⟨g1, g2, g3⟩ := bl_of O h3
    obtain ⟨k1, k2, k3⟩ := bl_of O h4
    have hu : X.A.units + 64 < cLine := by have := O.un; omega
    have bs : bootBuiltins ("set" : Str) = some (.type "set") := by decide +kernel
    have bo : bootBuiltins ("sorted" : Str) = some (.builtin "sorted") := by decide +kernel
    have inner := pe_callTy (pos := pz) (p := py) ((cr_setN O.calm).or (cr_setA O.calm hu)) k1 k2 bs (pa_cons (ha X G O z h5).1 pa_nil (by rw [star_of h5])) (by decide) k3 (by rw [star_of h5]) (by rfl)
    refine ⟨PE.imp (pe_callB (pos := pos) (p := p) ((cr_sortedSet O.calm).or (cr_sortA O.calm)) g1 g2 bo (pa_cons inner pa_nil) (by decide) g3) fun σ H Q ⟨env, o, env', E, hf, q⟩ => ?_, fun _ => rfl⟩
    simp only [ev, fin] at hf
    cases e1 : ev c a .v env with
    | none => rw [e1] at hf; cases hf
    | some oe =>
      obtain ⟨oa, env1⟩ := oe
      rw [e1] at hf
      simp only at hf
      cases e2 : view env1 oa with
      | none => rw [e2] at hf; cases hf
      | some d =>
        rw [e2] at hf
        simp only at hf
        cases e3 : ssetD d with
        | none => rw [e3] at hf; cases hf
        | some xs =>
          rw [e3] at hf
          cases hf
          refine ⟨env, oa, env', E, e1, fun v H1 p1 => ?_⟩
          have vw := p1.r.view p1.e e2
          rcases ssetR_case e3 with ⟨ys, ns, hd, e5, lt, rfl⟩ | e3
          · have srcI : ∃ l vs, v = .ref l ∧ (SqL X.K H1 l vs ∨ TupAt X.K H1 l vs) ∧ Rps X.K H1 ys vs := by
              rcases hd with rfl | rfl
              · obtain ⟨l, vs, e, t, rd⟩ := vw.lst; exact ⟨l, vs, e, .inl (.inl t), rd⟩
              · obtain ⟨l, vs, e, t, rd⟩ := vw.tup; exact ⟨l, vs, e, .inr t, rd⟩
            obtain ⟨l, vs, rfl, t, rd⟩ := srcI
            have e6 := rd.intsD e5
            subst e6
            refine .inl ⟨l, ns, rfl, t, lt, fun b c nb hc => ?_⟩
            have sb : Same H1 (upd H1 b (SetO X.w b (fun j => decide (j ∈ ns)) c)) := same_new nb
            refine .inl ⟨b, _, c, rfl, upd_same, by omega, fun ls t' pw hm hl nt => ?_⟩
            have e7 : ls = sortI (dedI ns) := sort_strict (fun z => by rw [hm z]; simp) pw
            have nt1 : H1 t' = none := by
              by_cases hb : t' = b
              · subst hb; exact nb
              · rwa [upd_ne hb] at nt
            have sa : Same (upd H1 b (SetO X.w b (fun j => decide (j ∈ ns)) c)) (upd (upd H1 b (SetO X.w b (fun j => decide (j ∈ ns)) c)) t' (.lst (ls.map V.int))) := same_new nt
            refine q _ _ (po_res p1.e p1.t ⟨sb.trans sa, t', rfl, nt1, _, upd_same, ?_⟩)
            rw [e7]
            exact Rps.of_ints _
          -- the rows
          unfold ssetR at e3
          cases e4 : seqOf d with
          | none => rw [e4] at e3; cases e3
          | some ys =>
            rw [e4] at e3
            simp only at e3
            cases e5 : rowsD ys with
            | none => rw [e5] at e3; cases e3
            | some rs =>
              rw [e5] at e3
              cases rs with
              | nil => cases e3
              | cons r rs =>
                simp only at e3
                split at e3
                · rename_i hz
                  cases e3
                  obtain ⟨hz1, hz2⟩ := and2 hz
                  obtain ⟨hz3, hz4⟩ := and2 hz1
                  have lt : ys.length < 64 := of_decide_eq_true hz2
                  have ok : ∀ z ∈ r :: rs, z.length = r.length ∧ TS.Bd 64 z := fun z hz => by
                    have := List.all_eq_true.mp hz4 z hz
                    obtain ⟨b1, b2⟩ := and2 this
                    refine ⟨of_decide_eq_true b1, fun m hm => ?_⟩
                    have b3 := List.all_eq_true.mp b2 m hm
                    simpa using b3
                  have src : ∃ l vs, v = .ref l ∧ (SqL X.K H1 l vs ∨ TupAt X.K H1 l vs) ∧ Rps X.K H1 ys vs := by
                    cases d with
                    | tup zs => cases e4; obtain ⟨l, vs, e, t, rd⟩ := vw.tup; exact ⟨l, vs, e, .inr t, rd⟩
                    | lst zs => cases e4; obtain ⟨l, vs, e, t, rd⟩ := vw.lst; exact ⟨l, vs, e, .inl (.inl t), rd⟩
                    | _ => cases e4
                  obtain ⟨l, vs, rfl, hs, rd⟩ := src
                  obtain ⟨ks, kv, kr, kt⟩ := rows_ks rd e5
                  have kl : ks.length < 64 := by
                    have q1 := rd.length
                    rw [kv, List.length_map] at q1
                    omega
                  rw [kv] at hs
                  refine .inr ⟨l, ks, rfl, hs, fun p hp => (kt p hp).sq, kl, fun b L nb L1 L2 L3 => ?_⟩
                  have sb : Same H1 (upd H1 b (SetTO X.prog X.w b L)) := same_new nb
                  have mem : ∀ z, z ∈ L.map (·.2) ↔ z ∈ r :: rs := fun z => by
                    rw [← kr]
                    constructor
                    · intro hz
                      obtain ⟨p, hp, e⟩ := List.mem_map.mp hz
                      exact List.mem_map.mpr ⟨p, L1 p hp, e⟩
                    · intro hz
                      obtain ⟨p, hp, e⟩ := List.mem_map.mp hz
                      rw [← e]; exact L2 p hp
                  refine .inr ⟨b, L, r.length, rfl, upd_same, fun p hp => ((kt p (L1 p hp)).mono (kp_same sb)).sq, ?_, fun p hp => ok _ ((mem _).mp (List.mem_map.mpr ⟨p, hp, rfl⟩)), fun L' t pm few pw nt => ?_⟩
                  · rw [Bool.or_eq_true] at hz3
                    rcases hz3 with h | h
                    · exact .inl (of_decide_eq_true h)
                    · refine .inr ?_
                      have : rs = [] := by simpa using h
                      subst this
                      have m1 : ∀ z ∈ L.map (·.2), z = r := fun z hz => by simpa using (mem z).mp hz
                      match L, L3, m1, (mem r).mpr (by simp) with
                      | [], _, _, h => simp at h
                      | [x], _, _, _ => exact ⟨x, rfl⟩
                      | x :: y :: L, nd, m1, _ =>
                        exfalso
                        have a1 := m1 x.2 (by simp)
                        have a2 := m1 y.2 (by simp)
                        simp only [List.map_cons, List.nodup_cons] at nd
                        exact nd.1 (by rw [a1, a2]; simp)
                  · have e6 : L'.map (·.2) = sortR 64 (r :: rs) := sort_is ok (fun z => ((pm.map (·.2)).mem_iff).trans (mem z)) ((pm.map (·.2)).nodup_iff.mpr L3) (List.pairwise_map.mpr pw)
                    have nt1 : H1 t = none := by
                      by_cases hb : t = b
                      · subst hb; exact nb
                      · rwa [upd_ne hb] at nt
                    have sa : Same (upd H1 b (SetTO X.prog X.w b L)) (upd (upd H1 b (SetTO X.prog X.w b L)) t (.lst (L'.map fun q => V.ref q.1))) := same_new nt
                    refine q _ _ (po_res p1.e p1.t ⟨sb.trans sa, t, rfl, nt1, _, upd_same, ?_⟩)
                    rw [← e6, List.map_map]
                    have : ∀ l : List (Addr × List Int), (∀ p ∈ l, p ∈ ks) → Rps X.K (upd (upd H1 b (SetTO X.prog X.w b L)) t (.lst (L'.map fun q => V.ref q.1))) (l.map ((fun z => D.tup (z.map .int)) ∘ fun p => p.2)) (l.map fun q => V.ref q.1) := by
                      intro l
                      induction l with
                      | nil => intro _; exact .nil
                      | cons p l ih =>
                        intro h
                        exact .cons ⟨p.1, _, rfl, (kt p (h p List.mem_cons_self)).mono (kp_same (sb.trans sa)), Rps.of_ints _⟩ (ih fun q hq => h q (List.mem_cons_of_mem _ hq))
                    exact this L' fun p hp => L1 p (pm.mem_iff.mp hp)
                · cases e3
end PF
/-! PF10: calls of defs, comprehensions, all expressions. -/
namespace PF
open PySem PySem.Spec PyProof.Rows L2
section
variable {c : Cl}
theorem call_inv {f : Str} {es : List E} {env : Env} {o : Opd} {env' : Env} (h : ev c (.call f es) .v env = some (o, env')) :
    ∃ os env1 ss env2 fs, evs c es env = some (os, env1) ∧ lend os env1 = some (ss, env2) ∧ c f ss = some (o, fs) ∧ env' = giveBack os fs env2 := by
  simp only [ev, fin] at h
  cases e1 : evs c es env with
  | none => rw [e1] at h; cases h
  | some xe =>
    obtain ⟨os, env1⟩ := xe
    rw [e1] at h
    simp only at h
    cases e2 : lend os env1 with
    | none => rw [e2] at h; cases h
    | some de =>
      obtain ⟨ss, env2⟩ := de
      rw [e2] at h
      simp only at h
      cases e3 : c f ss with
      | none => rw [e3] at h; cases h
      | some rf =>
        obtain ⟨r, fs⟩ := rf
        rw [e3] at h
        cases h
        exact ⟨os, env1, ss, env2, fs, rfl, e2, e3, rfl⟩
theorem opds_slot {K : PySem.W.Frag} {σ : St} {H0 H : Hp} {env0 env : Env} : ∀ {os : List Opd} {vs : List V}, OpdsR K σ H0 env0 H env os vs → ∀ (k i : Nat), os[k]? = some (.slot i) → ∀ v, vs[k]? = some v → σ[i]? = some (some v)
  | _, _, .nil, k, i, h, _, _ => by simp at h
  | _, _, .cons r n t dj, 0, i, h, v, h2 => by
    simp at h h2
    subst h h2
    exact r
  | _, _, .cons r n t dj, k + 1, i, h, v, h2 => opds_slot t k i (by simpa using h) v (by simpa using h2)
theorem opds_own {K : PySem.W.Frag} {σ : St} {H0 H : Hp} {env0 env : Env} : ∀ {os : List Opd} {vs : List V}, OpdsR K σ H0 env0 H env os vs → ∀ (k : Nat) (e : D) (p : Addr), os[k]? = some (.own e) → vs[k]? = some (.ref p) → OwnAt K H e p ∧ ¬ OwnA env σ p
  | _, _, .nil, k, i, p, h, _ => by simp at h
  | _, _, .cons r n t dj, 0, i, p, h, h2 => by
    simp at h h2
    subst h h2
    obtain ⟨p', e, o, no⟩ := r
    cases e
    exact ⟨o, no⟩
  | _, _, .cons r n t dj, k + 1, i, p, h, h2 => opds_own t k i p (by simpa using h) (by simpa using h2)
/-- behind a call -/
theorem call_end {K : PySem.W.Frag} {σ : St} {H H1 H2 : Hp} {env env1 env2 : Env} {os : List Opd} {vs : List V} {ss fs : List Slot} {o : Opd} {v : V}
    (E1 : EnvR K H1 σ env1) (t1 : Tr σ H env σ H1 env1) (r1 : OpdsR K σ H env H1 env1 os vs) (hl : lend os env1 = some (ss, env2))
    (F : EnvR K H2 (vs.map some) fs) (tc : Tr (vs.map some) H1 ss (vs.map some) H2 fs) (ro : OpdR K H2 (vs.map some) fs o v) (ns : ∀ i, o ≠ .slot i) (nr : ∀ d p, o = .own d → v = .ref p → H1 p = none ∨ OwnA ss (vs.map some) p) :
    Po K σ H env o (giveBack os fs env2) v H2 := by
  obtain ⟨l1, l2, l3, l4⟩ := lend_ok E1 r1 hl
  have kp : Kp H1 H2 := tc.kp l3
  -- what the caller keeps
  have n2 : ∀ p, OwnA env2 σ p → ¬ OwnA ss (vs.map some) p := fun p z q => (l4 p q).1 z
  have E2 : EnvR K H2 σ env2 := by
    refine ⟨l1.len, fun j sl e => ?_, l1.dj⟩
    obtain ⟨x, e2, rr⟩ := l1.sl j sl e
    refine ⟨x, e2, ?_⟩
    cases sl with
    | un => trivial
    | val d => obtain ⟨v, e3, rr⟩ := rr; exact ⟨v, e3, rr.mono kp⟩
    | own d2 =>
      obtain ⟨p2, e3, rr⟩ := rr
      subst e3
      exact ⟨p2, rfl, rr.keep kp fun u qq => tc.f p2 u qq (n2 p2 ⟨j, d2, e, e2⟩)⟩
  have dj : ∀ p, OwnA env2 σ p → ¬ OwnA fs (vs.map some) p := fun p z q => by
    rcases tc.s p q with q | q
    · exact n2 p z q
    · obtain ⟨u, e, _⟩ := l1.nfrz z
      rw [q] at e; cases e
  obtain ⟨g1, g2⟩ := give_ok (opds_slot r1) E2 F dj
  -- what the callee may touch
  have touched : ∀ p, OwnA ss (vs.map some) p → H p = none ∨ OwnA env σ p := fun p z => by
    rcases (l4 p z).2 with q | ⟨k, e, k1, k2⟩
    · exact (t1.s p q).symm
    · exact r1.own k e p k1 k2
  refine ⟨g1, ⟨fun b u e n => ?_, fun p z => ?_⟩, ?_, fun d p e1 e2 => ?_⟩
  · refine tc.f b u (t1.f b u e n) fun z => ?_
    rcases touched b z with q | q
    · rw [e] at q; cases q
    · exact n q
  · rcases g2 p z with z | z
    · exact t1.s p (l2 p z)
    · rcases tc.s p z with q | q
      · exact (touched p q).symm
      · exact (t1.fresh q).symm
  · cases o with
    | dat d => exact ro
    | own d =>
      obtain ⟨p, e, oa, no⟩ := ro
      refine ⟨p, e, oa, fun z => ?_⟩
      rcases g2 p z with z | z
      · rcases nr d p rfl e with q | q
        · obtain ⟨u, e', _⟩ := l1.nfrz z
          rw [q] at e'; cases e'
        · exact n2 p z q
      · exact no z
    | slot i => exact (ns i rfl).elim
  · rcases nr d p e1 e2 with q | q
    · exact t1.fresh q
    · exact touched p q
theorem se_call {f : Str} {es : List E} (hs : ∀ e ∈ es, SE c e) : SE c (.call f es) := by
  refine se_of (fun _ => rfl) fun X G O x hx => ?_
  cases x <;> first | (cases hx; done) | skip
  rename_i fe args kws pos
  cases fe <;> first | (cases hx; done) | skip
  rename_i x p
  cases kws <;> first | (cases hx; done) | skip
  obtain ⟨hx1, h4⟩ := and2 hx
  obtain ⟨hx2, h3⟩ := and2 hx1
  obtain ⟨h1, h2⟩ := and2 hx2
  have ex : x = f := of_decide_eq_true h1
  subst ex
  obtain ⟨g1, g2⟩ := gl_of O h2
  obtain ⟨a, fdt, ps, k, m1, m2, m3, m4, m5, m6⟩ := (O.fns x es.length (by simpa using h3)).ok
  refine ⟨?_, fun _ => rfl⟩
  have fin : ∀ {σ : St} {H : Hp} {Q : VK}, tE X.K (ev c (.call x es) .v) σ H Q → tCall (spC X.K c x) [] E0 (tAs X.K (evs c es)) σ H Q := by
    rintro σ H Q ⟨env, o, env', E, hf, q⟩
    obtain ⟨os, env1, ss, env2, fs, e1, e2, e3, rfl⟩ := call_inv hf
    refine ⟨env, os, env1, E, e1, fun vs H1 E1 t1 r1 => ?_⟩
    dsimp only
    rw [List.append_nil]
    obtain ⟨l1, l2, l3, l4⟩ := lend_ok E1 r1 e2
    exact .inl ⟨ss, o, fs, l3, e3, fun v H2 F tc ro ns nr => q v H2 (call_end E1 t1 r1 e2 F tc ro ns nr)⟩
  match es, args, h4, hs with
  | [], [], h4, hs =>
    refine PE.imp (pe_call0 m4 m5 g1 m1 m2 m3 .nil passL g2) fun σ H Q h => ?_
    obtain ⟨env, os, env1, E, e1, q⟩ := fin h
    cases e1
    exact q [] H E .refl .nil
  | [], _ :: _, h4, hs => cases h4
  | _ :: _, [], h4, hs => cases h4
  | e :: es, y :: ys, h4, hs =>
    obtain ⟨k1, k2⟩ := and2 (show (ckE e G y && ckEs es G ys) = true from h4)
    exact PE.imp (pe_call m4 m5 g1 m1 m2 m3 .nil passL (pa_os O hs h4) g2 (star_of k1 _) (any_star k2)) fun σ H Q h => fin h
/-! ### targets -/
theorem setAll_ok {K : PySem.W.Frag} {H : Hp} : ∀ {is : List Nat} {ds : List D} {vs : List V} {env env' : Env} {σ : St}, setAll env is ds = some env' → Rps K H ds vs → EnvR K H σ env →
    ∃ σ', EnvR K H σ' env' ∧ σ'.length = σ.length ∧ (∀ j, j ∉ is → σ'[j]? = σ[j]?) ∧ (∀ p, OwnA env' σ' p → OwnA env σ p) ∧ vs.length = is.length ∧ σ' = (is.zip vs).foldl (fun σ q => σ.set q.1 (some q.2)) σ
  | [], [], vs, env, env', σ, h, r, E => by
    cases h
    have : vs = [] := r
    subst this
    exact ⟨σ, E, rfl, fun _ _ => rfl, fun _ z => z, rfl, rfl⟩
  | i :: is, d :: ds, vs, env, env', σ, h, r, E => by
    obtain ⟨v, vr, rfl, r1, r2⟩ := r
    have E1 : EnvR K H (σ.set i (some v)) (env.set i (.val d)) ∧ ∀ p, OwnA (env.set i (.val d)) (σ.set i (some v)) p → OwnA env σ p := by
      have own : ∀ {j : Nat} {e : D}, (env.set i (.val d))[j]? = some (.own e) → j ≠ i ∧ env[j]? = some (.own e) := fun {j e} q => by
        by_cases hj : i = j
        · subst hj
          rw [List.getElem?_set_self'] at q
          cases hh : env[i]? with
          | none => rw [hh] at q; cases q
          | some w => rw [hh] at q; cases q
        · rw [List.getElem?_set_ne hj] at q
          exact ⟨Ne.symm hj, q⟩
      refine ⟨⟨by rw [List.length_set, List.length_set]; exact E.len, fun j sl e => ?_, fun j l a b p h1 h2 h3 h4 => ?_⟩, fun p ⟨j, e, h1, h2⟩ => ?_⟩
      · by_cases hj : i = j
        · subst hj
          rw [List.getElem?_set_self'] at e
          cases hh : env[i]? with
          | none => rw [hh] at e; cases e
          | some w =>
            rw [hh] at e
            cases e
            have hlt : i < σ.length := by rw [← E.len]; exact (List.getElem?_eq_some_iff.mp hh).1
            exact ⟨some v, by rw [List.getElem?_set_self hlt], v, rfl, r1⟩
        · rw [List.getElem?_set_ne hj] at e ⊢
          exact E.sl j sl e
      · obtain ⟨n1, z1⟩ := own h1
        obtain ⟨n2, z2⟩ := own h2
        rw [List.getElem?_set_ne (Ne.symm n1)] at h3
        rw [List.getElem?_set_ne (Ne.symm n2)] at h4
        exact E.dj j l a b p z1 z2 h3 h4
      · obtain ⟨n1, z1⟩ := own h1
        rw [List.getElem?_set_ne (Ne.symm n1)] at h2
        exact ⟨j, e, z1, h2⟩
    obtain ⟨σ', a1, a2, a3, a4, a5, a6⟩ := setAll_ok (is := is) h r2 E1.1
    refine ⟨σ', a1, by rw [a2, List.length_set], fun j hj => ?_, fun p z => E1.2 p (a4 p z), by rw [List.length_cons, List.length_cons, a5], a6⟩
    rw [a3 j fun z => hj (List.mem_cons_of_mem _ z), List.getElem?_set_ne fun (z : i = j) => hj (by rw [z]; exact List.mem_cons_self)]
/-- a target's reading -/
def gT (K : PySem.W.Frag) (tg : Tg) : TG := fun v σ H Q => ∃ env d env', EnvR K H σ env ∧ Rp K H d v ∧ bindT env tg d = some env' ∧
  ∀ σ', EnvR K H σ' env' → σ'.length = σ.length → (∀ j, j ∉ tg.is → σ'[j]? = σ[j]?) → (∀ p, OwnA env' σ' p → OwnA env σ p) → Q σ' H
theorem pgs_of {X : Cx} {G : Ck} (O : XOk X G c) : ∀ {is : List Nat} {ts : List Expr}, ckTs G is ts = true → PGs X ts (fun vs σ H Q => vs.length = is.length ∧ Q ((is.zip vs).foldl (fun σ q => σ.set q.1 (some q.2)) σ) H) ∧ (assignEach ts X.env).length = is.length ∧ (assignEach ts X.env).findIdx? (·.1) = none
  | [], [], _ => ⟨⟨fun pins s σ H vs us Q I r h => pgs_nil.run pins s σ H vs us Q I r ⟨List.eq_nil_of_length_eq_zero h.1, by
      have := List.eq_nil_of_length_eq_zero h.1
      subst this
      exact h.2⟩⟩, rfl, rfl⟩
  | [], _ :: _, h => by cases h
  | _ :: _, [], h => by cases h
  | i :: is, t :: ts, h => by
    cases t <;> first | (cases h; done) | skip
    rename_i x p
    obtain ⟨h1, h2⟩ := and2 (show (stOk G i x && ckTs G is ts) = true from h)
    obtain ⟨k1, k2⟩ := and2 h1
    have hx : X.N[i]? = some x := by rw [O.n]; exact of_decide_eq_true k1
    have hl : L2.Loc X.env.scope x ∧ (X.fn x = true ∨ X.env.scope.names.lookup x = some .local) := by
      unfold L2.Loc
      rw [O.sc]
      unfold locB at k2
      split at k2
      · rename_i e; exact ⟨.inl e, .inr e⟩
      · rename_i e; exact ⟨.inr e, .inl (O.fn x k2)⟩
      · cases k2
    obtain ⟨a1, a2, a3⟩ := pgs_of O h2
    refine ⟨⟨fun pins s σ H vs us Q I r hq => ?_⟩, ?_, ?_⟩
    · refine (pgs_cons (pg_name O.nd hx hl.1 hl.2) a1).run pins s σ H vs us Q I r ?_
      obtain ⟨q1, q2⟩ := hq
      cases vs with
      | nil => simp at q1
      | cons v vr => exact ⟨v, vr, rfl, by simpa using q1, q2⟩
    · show (assignEach ts X.env).length + 1 = _
      rw [a2]; rfl
    · show ((false, assign (.Name x p) X.env) :: assignEach ts X.env).findIdx? (·.1) = none
      rw [List.findIdx?_cons]
      simp [a3]
theorem pg_of {X : Cx} {G : Ck} (O : XOk X G c) {tg : Tg} {t : Expr} (h : ckTg G tg t = true) : PG X t (gT X.K tg) := by
  cases tg with
  | nm i =>
    cases t <;> first | (cases h; done) | skip
    rename_i x p
    obtain ⟨k1, k2⟩ := and2 (show (decide (G.N[i]? = some x) && locB G x) = true from h)
    have hx : X.N[i]? = some x := by rw [O.n]; exact of_decide_eq_true k1
    have hl : L2.Loc X.env.scope x ∧ (X.fn x = true ∨ X.env.scope.names.lookup x = some .local) := by
      unfold L2.Loc
      rw [O.sc]
      unfold locB at k2
      split at k2
      · rename_i e; exact ⟨.inl e, .inr e⟩
      · rename_i e; exact ⟨.inr e, .inl (O.fn x k2)⟩
      · cases k2
    refine ⟨fun pins s σ H v u Q I r hq => (pg_name O.nd hx hl.1 hl.2).run pins s σ H v u Q I r ?_⟩
    obtain ⟨env, d, env', E, rd, hb, q⟩ := hq
    have hb' : setAll env [i] [d] = some env' := hb
    obtain ⟨σ', a1, a2, a3, a4, a5, a6⟩ := setAll_ok (vs := [v]) hb' (Rps.cons rd .nil) E
    subst a6
    exact q _ a1 a2 a3 a4
  | tp is =>
    cases t <;> first | (cases h; done) | skip
    rename_i ts k p
    obtain ⟨a1, a2, a3⟩ := pgs_of O (show ckTs G is ts = true from h)
    refine ⟨fun pins s σ H v u Q I r hq => (pg_tup O.calm a1 a2 a3).run pins s σ H v u Q I r ?_⟩
    obtain ⟨env, d, env', E, rd, hb, q⟩ := hq
    cases d with
    | tup ds =>
      obtain ⟨a, xs, rfl, t, rs⟩ := rd
      obtain ⟨σ', b1, b2, b3, b4, b5, b6⟩ := setAll_ok (show setAll env is ds = some env' from hb) rs E
      subst b6
      exact ⟨a, xs, rfl, t.sq, b5, b5, q _ b1 b2 b3 b4⟩
    | _ => cases hb
/-! ### comprehensions -/
theorem wipe_get (σ : St) : ∀ (vs : List Nat) (j : Nat), (wipe σ vs)[j]? = if j ∈ vs ∧ j < σ.length then some none else σ[j]?
  | [], j => by simp [wipe]
  | v :: vs, j => by
    unfold wipe
    have ih := wipe_get σ vs j
    by_cases hv : v = j
    · subst hv
      rw [List.getElem?_set_self', ih]
      by_cases hl : v < σ.length
      · by_cases hm : v ∈ vs
        · simp [hl, hm]
        · simp [hl, hm, List.getElem?_eq_getElem hl]
      · simp [hl, List.getElem?_eq_none (Nat.le_of_not_lt hl)]
    · rw [List.getElem?_set_ne hv, ih]
      by_cases hm : j ∈ vs
      · by_cases hl : j < σ.length
        · rw [if_pos ⟨hm, hl⟩, if_pos ⟨List.mem_cons_of_mem _ hm, hl⟩]
        · rw [if_neg fun z => hl z.2, if_neg fun z => hl z.2]
      · rw [if_neg fun z => hm z.1, if_neg fun z => by
          rcases List.mem_cons.mp z.1 with e | e
          · exact hv e.symm
          · exact hm e]
theorem wipe_same {σ σ2 : St} {vs : List Nat} (hl : σ2.length = σ.length) (h : ∀ j, j ∉ vs → σ2[j]? = (wipe σ vs)[j]?) : wipe σ2 vs = wipe σ vs := by
  refine List.ext_getElem? fun j => ?_
  rw [wipe_get, wipe_get]
  by_cases hm : j ∈ vs
  · by_cases hj : j < σ.length
    · rw [if_pos ⟨hm, by omega⟩, if_pos ⟨hm, hj⟩]
    · rw [if_neg fun z => hj (by have := z.2; omega), if_neg fun z => hj z.2, List.getElem?_eq_none (by omega), List.getElem?_eq_none (by omega)]
  · rw [if_neg fun z => hm z.1, if_neg fun z => hm z.1, h j hm, wipe_get, if_neg fun z => hm z.1]
theorem wipeE_get (env : Env) : ∀ (vs : List Nat) (j : Nat), (wipeE env vs)[j]? = if j ∈ vs ∧ j < env.length then some .un else env[j]?
  | [], j => by simp [wipeE]
  | v :: vs, j => by
    unfold wipeE
    have ih := wipeE_get env vs j
    by_cases hv : v = j
    · subst hv
      rw [List.getElem?_set_self', ih]
      by_cases hl : v < env.length
      · by_cases hm : v ∈ vs
        · simp [hl, hm]
        · simp [hl, hm, List.getElem?_eq_getElem hl]
      · simp [hl, List.getElem?_eq_none (Nat.le_of_not_lt hl)]
    · rw [List.getElem?_set_ne hv, ih]
      by_cases hm : j ∈ vs
      · by_cases hl : j < env.length
        · rw [if_pos ⟨hm, hl⟩, if_pos ⟨List.mem_cons_of_mem _ hm, hl⟩]
        · rw [if_neg fun z => hl z.2, if_neg fun z => hl z.2]
      · rw [if_neg fun z => hm z.1, if_neg fun z => by
          rcases List.mem_cons.mp z.1 with e | e
          · exact hv e.symm
          · exact hm e]
theorem wipeE_len (env : Env) : ∀ vs : List Nat, (wipeE env vs).length = env.length
  | [] => rfl
  | v :: vs => by unfold wipeE; rw [List.length_set, wipeE_len env vs]
theorem backE_get (old env : Env) (he : old.length = env.length) : ∀ (vs : List Nat) (j : Nat), (backE old env vs)[j]? = if j ∈ vs then old[j]? else env[j]?
  | [], j => by simp [backE]
  | v :: vs, j => by
    unfold backE
    have ih := backE_get old env he vs j
    by_cases hv : v = j
    · subst hv
      rw [List.getElem?_set_self', ih, if_pos List.mem_cons_self]
      by_cases hl : v < old.length
      · have e1 : old[v]? = some old[v] := List.getElem?_eq_getElem hl
        have e2 : env[v]? = some env[v] := List.getElem?_eq_getElem (by omega)
        have e3 : look old v = old[v] := by unfold look; rw [e1]; rfl
        rw [e3, e1, e2]
        split <;> rfl
      · rw [List.getElem?_eq_none (by omega), List.getElem?_eq_none (by omega)]
        split <;> rfl
    · rw [List.getElem?_set_ne hv, ih]
      by_cases hm : j ∈ vs
      · rw [if_pos hm, if_pos (List.mem_cons_of_mem _ hm)]
      · rw [if_neg hm, if_neg fun z => by
          rcases List.mem_cons.mp z with e | e
          · exact hv e.symm
          · exact hm e]
theorem backE_len (old env : Env) : ∀ vs : List Nat, (backE old env vs).length = env.length
  | [] => rfl
  | v :: vs => by unfold backE; rw [List.length_set, backE_len old env vs]
/-- a turn of a comprehension -/
def lcF (c : Cl) (own : List Nat) (tg : Tg) (cond : List E) (elt : E) : D → Env → Option (Option D × Env) := fun x env => match bindT (wipeE env own) tg x with
  | none => none
  | some env => match evAnd c cond .t env with
    | some (.dat (.bl true), env) => match ev c elt .v env with
      | none => none
      | some (o, env) => match toD env o with
        | some (d, env) => some (some d, env)
        | none => none
    | some (.dat (.bl false), env) => some (none, env)
    | _ => none
theorem lcF_inv {own : List Nat} {tg : Tg} {cond : List E} {elt : E} {x : D} {env : Env} {r : Option D} {env' : Env} (h : lcF c own tg cond elt x env = some (r, env')) :
    ∃ env1, bindT (wipeE env own) tg x = some env1 ∧ ((r = none ∧ evAnd c cond .t env1 = some (.dat (.bl false), env')) ∨
      ∃ env2 d, r = some d ∧ evAnd c cond .t env1 = some (.dat (.bl true), env2) ∧ (match ev c elt .v env2 with | none => none | some (o, env) => toD env o) = some (d, env')) := by
  unfold lcF at h
  cases e1 : bindT (wipeE env own) tg x with
  | none => rw [e1] at h; cases h
  | some env1 =>
    rw [e1] at h
    simp only at h
    refine ⟨env1, rfl, ?_⟩
    cases e2 : evAnd c cond .t env1 with
    | none => rw [e2] at h; cases h
    | some oe =>
      obtain ⟨o, env2⟩ := oe
      obtain ⟨b, rfl⟩ := and_bl e2
      rw [e2] at h
      cases b with
      | false => cases h; exact .inl ⟨rfl, rfl⟩
      | true =>
        simp only at h
        cases e3 : ev c elt .v env2 with
        | none => rw [e3] at h; cases h
        | some oe =>
          obtain ⟨o, env3⟩ := oe
          rw [e3] at h
          simp only at h
          cases e4 : toD env3 o with
          | none => rw [e4] at h; cases h
          | some de =>
            obtain ⟨d, env4⟩ := de
            rw [e4] at h
            cases h
            exact .inr ⟨env2, d, rfl, rfl, by rw [e3]; exact e4⟩
theorem EnvR.wipe {K : PySem.W.Frag} {H : Hp} {σ σ2 : St} {env : Env} {own : List Nat} (E : EnvR K H σ2 env) (hl : σ2.length = σ.length) (hs : ∀ j, j ∉ own → σ2[j]? = σ[j]?) :
    EnvR K H (L2.wipe σ own) (wipeE env own) ∧ ∀ p, OwnA (wipeE env own) (L2.wipe σ own) p → OwnA env σ2 p := by
  have get : ∀ {j : Nat} {sl : Slot}, (wipeE env own)[j]? = some sl → (j ∈ own ∧ sl = .un ∧ j < env.length) ∨ (j ∉ own ∧ env[j]? = some sl) := fun {j sl} e => by
    rw [wipeE_get] at e
    by_cases hm : j ∈ own
    · by_cases hj : j < env.length
      · rw [if_pos ⟨hm, hj⟩] at e; cases e; exact .inl ⟨hm, rfl, hj⟩
      · rw [if_neg fun z => hj z.2, List.getElem?_eq_none (by omega)] at e; cases e
    · rw [if_neg fun z => hm z.1] at e; exact .inr ⟨hm, e⟩
  have gets : ∀ {j : Nat}, j ∉ own → (L2.wipe σ own)[j]? = σ2[j]? := fun {j} hm => by rw [wipe_get, if_neg fun z => hm z.1, hs j hm]
  have own' : ∀ {j : Nat} {d : D}, (wipeE env own)[j]? = some (.own d) → j ∉ own ∧ env[j]? = some (.own d) := fun {j d} e => by
    rcases get e with ⟨_, z, _⟩ | z
    · cases z
    · exact z
  refine ⟨⟨by rw [wipeE_len, wipe_length, E.len, hl], fun j sl e => ?_, fun j l a b p h1 h2 h3 h4 => ?_⟩, fun p ⟨j, d, h1, h2⟩ => ?_⟩
  · rcases get e with ⟨hm, rfl, hj⟩ | ⟨hm, e⟩
    · have : j < (L2.wipe σ own).length := by rw [wipe_length, ← hl, ← E.len]; exact hj
      exact ⟨_, List.getElem?_eq_getElem this, trivial⟩
    · rw [gets hm]; exact E.sl j sl e
  · obtain ⟨n1, z1⟩ := own' h1
    obtain ⟨n2, z2⟩ := own' h2
    rw [gets n1] at h3
    rw [gets n2] at h4
    exact E.dj j l a b p z1 z2 h3 h4
  · obtain ⟨n1, z1⟩ := own' h1
    rw [gets n1] at h2
    exact ⟨j, d, z1, h2⟩
theorem wipe_wipe (σ : St) (own : List Nat) : L2.wipe (L2.wipe σ own) own = L2.wipe σ own := wipe_same (wipe_length σ own) fun _ _ => rfl
/-- the reading of a comprehension -/
theorem lc_read {K : PySem.W.Frag} {own : List Nat} {tg : Tg} {cond : List E} {elt : E} {σ : St} {H0 H1 : Hp} {env0 env1 envF : Env} {xs total : List D} {J : It} {Q : VK} (htg : ∀ j ∈ tg.is, j ∈ own)
    (E1 : EnvR K H1 σ env1) (t1 : Tr σ H0 env0 σ H1 env1) (hJ : ItOk K H1 J xs) (hl : lcLoop (lcF c own tg cond elt) xs env1 = some (total, envF)) (hz : total.length ≤ line)
    (q : ∀ v H', Po K σ H0 env0 (.own (.lst total)) (backE env1 envF own) v H' → Q v H') :
    ∀ D, H1 D = none → ∃ W : Nat → Nat → Hp → Prop, (∃ m, W 0 m (upd H1 D (.lst []))) ∧ ∀ i m H, W i m H →
      (J.stop i H ∧ Q (.ref D) H) ∨ (J.go i H ∧ ∃ Nx : Hp → Prop, (∀ H', Nx H' → ∃ m', m' < m ∧ W (i + 1) m' H') ∧ ∀ x H', J.yld i H x H' → gT K tg x (L2.wipe σ own) H' fun σ2 H2 => L2.wipe σ2 own = L2.wipe σ own ∧ tT K (evAnd c cond .t) σ2 H2 fun b H3 =>
        if b = true then tD K (fun env => match ev c elt .v env with | none => none | some (o, env) => toD env o) σ2 H3 fun y H4 => ∃ acc, H4 D = some (.lst acc) ∧ acc.length < sizeLine ∧ Nx (upd H4 D (.lst (acc ++ [y]))) else Nx H3) := by
  intro D hD
  have sD : Same H1 (upd H1 D (.lst [])) := same_new hD
  -- what holds at a turn
  let P : Nat → Hp → Prop := fun i H => ∃ env accD rest acc, lcLoop (lcF c own tg cond elt) (xs.drop i) env = some (rest, envF) ∧ EnvR K H (L2.wipe σ own) (wipeE env own) ∧ H D = some (.lst acc) ∧ Rps K H accD acc ∧ accD ++ rest = total ∧
    Tr σ H1 env1 (L2.wipe σ own) H (wipeE env own) ∧ ¬ OwnA (wipeE env own) (L2.wipe σ own) D ∧ (∀ p, OwnA (wipeE env own) (L2.wipe σ own) p → OwnA (wipeE env1 own) (L2.wipe σ own) p ∨ H1 p = none) ∧ (∀ b u, H1 b = some u → ¬ OwnA (wipeE env1 own) (L2.wipe σ own) b → H b = some u)
  obtain ⟨w1, w2⟩ := EnvR.wipe (own := own) E1 rfl (fun _ _ => rfl)
  have nD1 : ¬ OwnA env1 σ D := fun z => by
    obtain ⟨u, e, _⟩ := E1.nfrz z
    rw [hD] at e; cases e
  have p0 : P 0 (upd H1 D (.lst [])) := by
    refine ⟨env1, [], total, [], hl, w1.same sD, upd_same, .nil, rfl, ⟨fun b u e _ => sD b u e, fun p z => .inl (w2 p z)⟩, fun z => nD1 (w2 D z), fun p z => .inl z, fun b u e _ => sD b u e⟩
  refine ⟨fun i m H => m = xs.length - i ∧ i ≤ xs.length ∧ P i H, ⟨xs.length, by simp, Nat.zero_le _, p0⟩, ?_⟩
  rintro i m H ⟨rfl, hi, env, accD, rest, acc, hlp, EH, hDa, hacc, htot, tr, nD, ow, fr⟩
  have kp1 : Kp H1 H := fun a ob u e => fr a _ e fun z => by
    obtain ⟨u', e', n⟩ := w1.nfrz z
    rw [e] at e'; cases e'
    exact n _ _ rfl
  by_cases hlt : i < xs.length
  · refine .inr ⟨(hJ i H kp1).1 hlt |>.1, P (i + 1), fun H' p => ⟨xs.length - (i + 1), by omega, rfl, hlt, p⟩, fun x H' y => ?_⟩
    obtain ⟨e, d, hd, rd⟩ := ((hJ i H kp1).1 hlt).2 x H' y
    subst e
    have hdrop : xs.drop i = d :: xs.drop (i + 1) := by
      rw [List.drop_eq_getElem_cons hlt]
      have : xs[i] = d := by rw [List.getElem?_eq_getElem hlt] at hd; exact Option.some.inj hd
      rw [this]
    rw [hdrop] at hlp
    simp only [lcLoop] at hlp
    cases ef : lcF c own tg cond elt d env with
    | none => rw [ef] at hlp; cases hlp
    | some re =>
      obtain ⟨r, envN⟩ := re
      rw [ef] at hlp
      obtain ⟨envB, hb, hcase⟩ := lcF_inv ef
      refine ⟨wipeE env own, d, envB, EH, rd, hb, fun σ2 E2 l2 s2 o2 => ⟨?_, ?_⟩⟩
      · rw [← wipe_wipe σ own]
        exact wipe_same l2 fun j hj => by rw [wipe_get (L2.wipe σ own), if_neg fun z => hj z.1, s2 j fun z => hj (htg j z)]
      · have hs2 : ∀ j, j ∉ own → σ2[j]? = (L2.wipe σ own)[j]? := fun j hj => s2 j fun z => hj (htg j z)
        rcases hcase with ⟨rfl, ec⟩ | ⟨envC, dd, rfl, ec, ee⟩
        · refine ⟨envB, false, envN, E2, ec, fun H3 E3 t3 => ?_⟩
          dsimp only
          rw [if_neg Bool.false_ne_true]
          obtain ⟨v1, v2⟩ := EnvR.wipe (σ := L2.wipe σ own) (own := own) E3 l2 hs2
          rw [wipe_wipe] at v1 v2
          have nDB : ¬ OwnA envB σ2 D := fun z => nD (o2 D z)
          have up : ∀ p, OwnA (wipeE envN own) (L2.wipe σ own) p → OwnA (wipeE env own) (L2.wipe σ own) p ∨ H' p = none := fun p z => (t3.s p (v2 p z)).imp (o2 p) id
          have frB : ∀ b u, H' b = some u → ¬ OwnA (wipeE env own) (L2.wipe σ own) b → H3 b = some u := fun b u e n => t3.f b u e fun z => n (o2 b z)
          have trB : Tr (L2.wipe σ own) H' (wipeE env own) (L2.wipe σ own) H3 (wipeE envN own) := ⟨frB, up⟩
          have hD3 : H3 D = some (.lst acc) := frB D _ hDa nD
          refine ⟨envN, accD, rest, acc, hlp, v1, hD3, hacc.mono (t3.kp E2), htot, tr.trans trB, fun z => ?_, fun p z => ?_, fun b u e n => ?_⟩
          · rcases up D z with z | z
            · exact nD z
            · rw [hDa] at z; cases z
          · rcases up p z with z | z
            · exact ow p z
            · by_cases n : OwnA (wipeE env1 own) (L2.wipe σ own) p
              · exact .inl n
              · refine .inr ?_
                cases e : H1 p with
                | none => rfl
                | some u => rw [fr p u e n] at z; cases z
          · refine frB b u (fr b u e n) fun z => ?_
            rcases ow b z with z | z
            · exact n z
            · rw [e] at z; cases z
        · refine ⟨envB, true, envC, E2, ec, fun H3 E3 t3 => ?_⟩
          dsimp only
          rw [if_pos rfl]
          refine ⟨envC, dd, envN, E3, ee, fun y H4 E4 t4 ry => ?_⟩
          have t34 := t3.trans t4
          obtain ⟨v1, v2⟩ := EnvR.wipe (σ := L2.wipe σ own) (own := own) E4 l2 hs2
          rw [wipe_wipe] at v1 v2
          have up : ∀ p, OwnA (wipeE envN own) (L2.wipe σ own) p → OwnA (wipeE env own) (L2.wipe σ own) p ∨ H' p = none := fun p z => (t34.s p (v2 p z)).imp (o2 p) id
          have frB : ∀ b u, H' b = some u → ¬ OwnA (wipeE env own) (L2.wipe σ own) b → H4 b = some u := fun b u e n => t34.f b u e fun z => n (o2 b z)
          have hD4 : H4 D = some (.lst acc) := frB D _ hDa nD
          have nD4 : ¬ OwnA (wipeE envN own) (L2.wipe σ own) D := fun z => by
            rcases up D z with z | z
            · exact nD z
            · rw [hDa] at z; cases z
          cases er : lcLoop (lcF c own tg cond elt) (xs.drop (i + 1)) envN with
          | none => simp only [er] at hlp; cases hlp
          | some rr =>
            obtain ⟨rest', envF'⟩ := rr
            simp only [er] at hlp
            cases hlp
            have hla : acc.length < sizeLine := by
              have h1 : total.length = accD.length + (rest'.length + 1) := by rw [← htot, List.length_append, List.length_cons]
              rw [hacc.length, ← line_eq]
              omega
            refine ⟨acc, hD4, hla, ?_⟩
            have kD : Kp H4 (upd H4 D (.lst (acc ++ [y]))) := upd_kp fun ob u e => by rw [hD4] at e; cases e
            have oth : ∀ b u, b ≠ D → H4 b = some u → upd H4 D (.lst (acc ++ [y])) b = some u := fun b u n e => by rw [upd_ne n]; exact e
            refine ⟨envN, accD ++ [dd], rest', acc ++ [y], er, ⟨v1.len, fun j sl e => ?_, v1.dj⟩, upd_same, ((hacc.mono (t34.kp E2)).append (.cons ry .nil)).mono kD, by rw [← htot]; simp, ⟨fun b u e n => ?_, fun p z => ?_⟩, nD4, fun p z => ?_, fun b u e n => ?_⟩
            · obtain ⟨x', e2, rr⟩ := v1.sl j sl e
              refine ⟨x', e2, ?_⟩
              cases sl with
              | un => trivial
              | val d => obtain ⟨v, e3, rr⟩ := rr; exact ⟨v, e3, rr.mono kD⟩
              | own d2 =>
                obtain ⟨p2, e3, rr⟩ := rr
                subst e3
                refine ⟨p2, rfl, rr.keep kD fun u qq => oth p2 u ?_ qq⟩
                rintro rfl
                exact nD4 ⟨j, d2, e, e2⟩
            · refine oth b u ?_ (frB b u (tr.f b u e n) fun z => ?_)
              · rintro rfl; rw [hD] at e; cases e
              · rcases tr.s b z with z | z
                · exact n z
                · rw [e] at z; cases z
            · rcases up p z with z | z
              · exact tr.s p z
              · exact (tr.fresh z).symm
            · rcases up p z with z | z
              · exact ow p z
              · by_cases n : OwnA (wipeE env1 own) (L2.wipe σ own) p
                · exact .inl n
                · refine .inr ?_
                  cases e : H1 p with
                  | none => rfl
                  | some u => rw [fr p u e n] at z; cases z
            · refine oth b u ?_ (frB b u (fr b u e n) fun z => ?_)
              · rintro rfl; rw [hD] at e; cases e
              · rcases ow b z with z | z
                · exact n z
                · rw [e] at z; cases z
  · have e : i = xs.length := by omega
    subst e
    refine .inl ⟨(hJ _ H kp1).2 rfl, ?_⟩
    rw [List.drop_length] at hlp
    simp only [lcLoop] at hlp
    cases hlp
    rw [List.append_nil] at htot
    subst htot
    -- the names of the block as they stood
    have hlen : env1.length = envF.length := by
      have a := EH.len
      rw [wipeE_len, wipe_length] at a
      rw [a, E1.len]
    have bget := backE_get env1 envF hlen own
    have kept : ∀ j d p, j ∈ own → env1[j]? = some (.own d) → σ[j]? = some (some (.ref p)) → H p = H1 p := fun j d p hj h1 h2 => by
      have o1 : OwnA env1 σ p := ⟨j, d, h1, h2⟩
      obtain ⟨u, e, _⟩ := E1.nfrz o1
      rw [e]
      refine fr p u e fun ⟨l, b, k1, k2⟩ => ?_
      rw [wipeE_get] at k1
      by_cases hm : l ∈ own
      · by_cases hl' : l < env1.length
        · rw [if_pos ⟨hm, hl'⟩] at k1; cases k1
        · rw [if_neg fun z => hl' z.2, List.getElem?_eq_none (by omega)] at k1; cases k1
      · rw [if_neg fun z => hm z.1] at k1
        rw [wipe_get, if_neg fun z => hm z.1] at k2
        have := E1.dj l j b d p k1 h1 k2 h2
        subst this
        exact hm hj
    have outs : ∀ {j : Nat} {sl : Slot}, j ∉ own → envF[j]? = some sl → (wipeE envF own)[j]? = some sl ∧ (L2.wipe σ own)[j]? = σ[j]? := fun {j sl} hj e => by
      rw [wipeE_get, if_neg fun z => hj z.1, wipe_get, if_neg fun z => hj z.1]
      exact ⟨e, rfl⟩
    have ownB : ∀ p, OwnA (backE env1 envF own) σ p → (∃ j d, j ∈ own ∧ env1[j]? = some (.own d) ∧ σ[j]? = some (some (.ref p))) ∨ OwnA (wipeE envF own) (L2.wipe σ own) p := fun p ⟨j, d, h1, h2⟩ => by
      rw [bget j] at h1
      by_cases hj : j ∈ own
      · rw [if_pos hj] at h1; exact .inl ⟨j, d, hj, h1, h2⟩
      · rw [if_neg hj] at h1
        obtain ⟨k1, k2⟩ := outs hj h1
        exact .inr ⟨j, d, k1, by rw [k2]; exact h2⟩
    have EB : EnvR K H σ (backE env1 envF own) := by
      refine ⟨by rw [backE_len, ← hlen, E1.len], fun j sl e => ?_, fun j l a b p h1 h2 h3 h4 => ?_⟩
      · rw [bget j] at e
        by_cases hj : j ∈ own
        · rw [if_pos hj] at e
          obtain ⟨x', e2, rr⟩ := E1.sl j sl e
          refine ⟨x', e2, ?_⟩
          cases sl with
          | un => trivial
          | val d => obtain ⟨v, e3, rr⟩ := rr; exact ⟨v, e3, rr.mono kp1⟩
          | own d2 =>
            obtain ⟨p2, e3, rr⟩ := rr
            subst e3
            exact ⟨p2, rfl, rr.keep kp1 fun u qq => by rw [kept j d2 p2 hj e e2]; exact qq⟩
        · rw [if_neg hj] at e
          obtain ⟨k1, k2⟩ := outs hj e
          rw [← k2]
          exact EH.sl j sl k1
      · rw [bget j] at h1
        rw [bget l] at h2
        by_cases hj : j ∈ own
        · rw [if_pos hj] at h1
          by_cases hl' : l ∈ own
          · rw [if_pos hl'] at h2
            exact E1.dj j l a b p h1 h2 h3 h4
          · rw [if_neg hl'] at h2
            obtain ⟨k1, k2⟩ := outs hl' h2
            exfalso
            have o1 : OwnA env1 σ p := ⟨j, a, h1, h3⟩
            rcases ow p ⟨l, b, k1, by rw [k2]; exact h4⟩ with ⟨i', d', z1, z2⟩ | z
            · rw [wipeE_get] at z1
              by_cases hm : i' ∈ own
              · by_cases hx : i' < env1.length
                · rw [if_pos ⟨hm, hx⟩] at z1; cases z1
                · rw [if_neg fun z => hx z.2, List.getElem?_eq_none (by omega)] at z1; cases z1
              · rw [if_neg fun z => hm z.1] at z1
                rw [wipe_get, if_neg fun z => hm z.1] at z2
                have := E1.dj i' j d' a p z1 h1 z2 h3
                subst this
                exact hm hj
            · obtain ⟨u, e, _⟩ := E1.nfrz o1
              rw [z] at e; cases e
        · rw [if_neg hj] at h1
          obtain ⟨k1, k2⟩ := outs hj h1
          by_cases hl' : l ∈ own
          · rw [if_pos hl'] at h2
            exfalso
            have o1 : OwnA env1 σ p := ⟨l, b, h2, h4⟩
            rcases ow p ⟨j, a, k1, by rw [k2]; exact h3⟩ with ⟨i', d', z1, z2⟩ | z
            · rw [wipeE_get] at z1
              by_cases hm : i' ∈ own
              · by_cases hx : i' < env1.length
                · rw [if_pos ⟨hm, hx⟩] at z1; cases z1
                · rw [if_neg fun z => hx z.2, List.getElem?_eq_none (by omega)] at z1; cases z1
              · rw [if_neg fun z => hm z.1] at z1
                rw [wipe_get, if_neg fun z => hm z.1] at z2
                have := E1.dj i' l d' b p z1 h2 z2 h4
                subst this
                exact hm hl'
            · obtain ⟨u, e, _⟩ := E1.nfrz o1
              rw [z] at e; cases e
          · rw [if_neg hl'] at h2
            obtain ⟨k3, k4⟩ := outs hl' h2
            exact EH.dj j l a b p k1 k3 (by rw [k2]; exact h3) (by rw [k4]; exact h4)
    have nDB : ¬ OwnA (backE env1 envF own) σ D := fun z => by
      rcases ownB D z with ⟨j, d, hj, h1, h2⟩ | z
      · exact nD1 ⟨j, d, h1, h2⟩
      · exact nD z
    refine q _ H ⟨EB, t1.trans ⟨fun b u e n => tr.f b u e n, fun p z => ?_⟩, ⟨D, rfl, ⟨acc, hDa, hacc⟩, nDB⟩, fun d p e1 e2 => ?_⟩
    · rcases ownB p z with ⟨j, d, hj, h1, h2⟩ | z
      · exact .inl ⟨j, d, h1, h2⟩
      · exact tr.s p z
    · cases e2
      exact t1.fresh hD
/-! ### what is walked -/
theorem itr_ok {K : PySem.W.Frag} {H : Hp} (a b : Int) : ItOk K H (Itr a (b - a).toNat) (rngL a b 1) := fun i H2 _ => by
  have e : ((b - a + 1 - 1) / 1).toNat = (b - a).toNat := by rw [Int.ediv_one]; congr 1; omega
  have hl : (rngL a b 1).length = (b - a).toNat := by
    unfold rngL
    rw [if_pos (by decide), List.length_map, List.length_range, e]
  refine ⟨fun hi => ?_, fun hi => ?_⟩
  · rw [hl] at hi
    refine ⟨hi, fun x H3 y => ?_⟩
    obtain ⟨e1, e2⟩ := y
    refine ⟨e1, .int (a + 1 * (i : Int)), ?_, ?_⟩
    · unfold rngL
      rw [if_pos (by decide), List.getElem?_map, e, List.getElem?_range hi]
      rfl
    · rw [e2, Int.one_mul]; rfl
  · rw [hl] at hi
    show (b - a).toNat ≤ i
    omega
theorem rng_inv {es : List E} {env : Env} {o : Opd} {env' : Env} (h : ev c (.rng es) .i env = some (o, env')) : ∃ ds xs, evds c es env = some (ds, env') ∧ rngD ds = some xs ∧ o = .dat (.tup xs) := by
  simp only [ev] at h
  cases e1 : evds c es env with
  | none => rw [e1] at h; cases h
  | some de =>
    obtain ⟨ds, env1⟩ := de
    rw [e1] at h
    simp only at h
    cases e2 : rngD ds with
    | none => rw [e2] at h; cases h
    | some xs =>
      rw [e2] at h
      cases h
      exact ⟨ds, xs, rfl, e2, rfl⟩
theorem pi_rng {X : Cx} {G : Ck} (O : XOk X G c) {es : List E} (hs : ∀ e ∈ es, SE c e) {x : Str} {p pos : Pos} {args : List Expr} (h : (decide (x = "range") && blOk G x && (decide (es.length = 1) || decide (es.length = 2)) && ckEs es G args) = true) (tg : Expr) :
    PI X tg (.Call (.Name x p) args [] pos) (tI X.K (ev c (.rng es) .i)) := by
  obtain ⟨h1, h2⟩ := and2 h
  obtain ⟨h3, h4⟩ := and2 h1
  obtain ⟨h5, h6⟩ := and2 h3
  have ex : x = "range" := of_decide_eq_true h5
  subst ex
  obtain ⟨g1, g2, g3⟩ := bl_of O h6
  have hp := pa_ds O hs h2
  have hlen := len_of h2
  rw [Bool.or_eq_true, decide_eq_true_eq, decide_eq_true_eq] at h4
  have ok1 : ∀ {i : Int}, okR i = true → -(2 ^ 62) ≤ i ∧ i < 2 ^ 62 := fun {i} h => by unfold okR at h; simpa using h
  match es, args, h4, hlen, h2, hs, hp with
  | [e], [a], h4, hlen, h2, hs, hp =>
    obtain ⟨k1, k2⟩ := and2 (show (ckE e G a && ckEs [] G []) = true from h2)
    refine PI.imp (pi_range1 g1 g2 hp (star_of k1 _)) fun σ H R ⟨env, xs, env', E, hf, q⟩ => ?_
    obtain ⟨ds, xs', e1, e2, e3⟩ := rng_inv hf
    cases e3
    refine ⟨env, ds, env', E, e1, fun vs H1 E1 t1 r1 => ?_⟩
    have hl1 := r1.length
    match ds, e2, r1 with
    | [.int b], e2, r1 =>
      obtain ⟨v, r, rfl, rv, rr⟩ := r1
      have : r = [] := rr
      subst this
      have : v = .int b := rv
      subst this
      simp only [rngD] at e2
      split at e2
      · rename_i hk
        cases e2
        obtain ⟨b1, b2⟩ := ok1 hk
        refine ⟨b, rfl, b1, b2, q _ _ E1 t1 ?_⟩
        have := itr_ok (K := X.K) (H := H1) 0 b
        rwa [Int.sub_zero] at this
      · cases e2
    | [.int a, .int b], e2, r1 =>
      exfalso
      simp only [evds] at e1
      split at e1
      · cases e1
      · split at e1
        · cases e1
        · cases e1
    | [.int a, .int b, .int d], e2, r1 =>
      exfalso
      simp only [evds] at e1
      split at e1
      · cases e1
      · split at e1
        · cases e1
        · cases e1
  | [e, f], [a, b], h4, hlen, h2, hs, hp =>
    obtain ⟨k1, k2⟩ := and2 (show (ckE e G a && ckEs [f] G [b]) = true from h2)
    obtain ⟨k3, k4⟩ := and2 (show (ckE f G b && ckEs [] G []) = true from k2)
    refine PI.imp (pi_range2 g1 g2 hp (by rw [star_of k1, star_of k3]; rfl) (star_of k3 _)) fun σ H R ⟨env, xs, env', E, hf, q⟩ => ?_
    obtain ⟨ds, xs', e1, e2, e3⟩ := rng_inv hf
    cases e3
    refine ⟨env, ds, env', E, e1, fun vs H1 E1 t1 r1 => ?_⟩
    have hlds : ds.length = 2 := by
      simp only [evds] at e1
      split at e1
      · cases e1
      · split at e1
        · cases e1
        · split at e1
          · cases e1
          · rename_i h'
            split at h'
            · cases h'
            · split at h'
              · cases h'
              · cases h'
                cases e1
                rfl
    match ds, hlds, e2, r1 with
    | [.int a, .int b], hlds, e2, r1 =>
      obtain ⟨v, r, rfl, rv, rr⟩ := r1
      obtain ⟨v2, r2, rfl, rv2, rr2⟩ := rr
      have : r2 = [] := rr2
      subst this
      have : v = .int a := rv
      subst this
      have : v2 = .int b := rv2
      subst this
      simp only [rngD] at e2
      split at e2
      · rename_i hk
        cases e2
        obtain ⟨hk1, hk2⟩ := and2 hk
        obtain ⟨b1, b2⟩ := ok1 hk1
        obtain ⟨b3, b4⟩ := ok1 hk2
        exact ⟨a, b, rfl, ⟨b1, b2, b3, b4⟩, q _ _ E1 t1 (itr_ok a b)⟩
      · cases e2
theorem ev_i {e : E} (h1 : isIteE e = false) (h2 : ∀ es, e ≠ .rng es) : ev c e .i = fun env => fin .i (ev c e .v env) := by
  funext env
  cases e <;> first | rfl | (cases h1; done) | exact (h2 _ rfl).elim
theorem nofold {e : E} {G : Ck} {x : Expr} (h : ckI e G x = true) (env : PySem.Env) (v : Value) : foldedSetIterable x env v = pure v := by
  cases x <;> first | rfl | (exfalso; cases e <;> first | (cases h; done) | (rename_i src _ _; cases src <;> cases h))
theorem pi_of {X : Cx} {G : Ck} (O : XOk X G c) {src : E} (hs : SE c src) (hr : ∀ es, src = .rng es → ∀ e ∈ es, SE c e) {x : Expr} (h : ckI src G x = true) (tg : Expr) : PI X tg x (tI X.K (ev c src .i)) := by
  by_cases hq : ∃ es, src = .rng es
  · obtain ⟨es, rfl⟩ := hq
    cases x <;> first | (cases h; done) | skip
    rename_i f args kws pos
    cases f <;> first | (cases h; done) | skip
    cases kws <;> first | (cases h; done) | skip
    exact pi_rng O (hr es rfl) h tg
  · have hn : ∀ es, src ≠ .rng es := fun es z => hq ⟨es, z⟩
    have h' : (!isIteE src && ckE src G x) = true := by
      unfold ckI at h
      split at h
      · exact absurd rfl (hn _)
      · exact h
    obtain ⟨k1, k2⟩ := and2 h'
    rw [ev_i (by simpa using k1) hn]
    exact pi_fin (hs X G O x k2).1
end
end PF
/-! PF10B: comprehensions of two clauses. -/
namespace PF
open PySem PySem.Spec PyProof.Rows L2
section
variable {c : Cl}
/-- where a comprehension stands: the names' values, what the new list at P holds -/
structure LSt (K : PySem.W.Frag) (τ : St) (own : List Nat) (H1 : Hp) (e1 : Env) (P : Addr) (σ : St) (H : Hp) (env : Env) (accD : List D) : Prop where
  len : σ.length = τ.length
  out : ∀ j, j ∉ own → σ[j]? = τ[j]?
  e : EnvR K H σ env
  acc : ∃ acc, H P = some (.lst acc) ∧ Rps K H accD acc
  tr : Tr τ H1 e1 σ H env
  nd : ¬ OwnA env σ P
section
variable {K : PySem.W.Frag} {τ σ σ2 : St} {own : List Nat} {H1 H H' : Hp} {e1 env env' : Env} {P : Addr} {accD : List D}
theorem LSt.ev (L : LSt K τ own H1 e1 P σ H env accD) (E : EnvR K H' σ env') (t : Tr σ H env σ H' env') : LSt K τ own H1 e1 P σ H' env' accD := by
  obtain ⟨acc, h, r⟩ := L.acc
  refine ⟨L.len, L.out, E, ⟨acc, t.f P _ h L.nd, r.mono (t.kp L.e)⟩, L.tr.trans t, fun z => ?_⟩
  rcases t.s P z with z | z
  · exact L.nd z
  · rw [h] at z; cases z
theorem LSt.wipe (L : LSt K τ own H1 e1 P σ H env accD) {vs : List Nat} (hv : ∀ j ∈ vs, j ∈ own) : LSt K τ own H1 e1 P (L2.wipe σ vs) H (wipeE env vs) accD := by
  obtain ⟨w1, w2⟩ := EnvR.wipe (own := vs) L.e rfl (fun _ _ => rfl)
  refine ⟨by rw [wipe_length, L.len], fun j hj => ?_, w1, L.acc, ⟨L.tr.f, fun p z => L.tr.s p (w2 p z)⟩, fun z => L.nd (w2 P z)⟩
  rw [wipe_get, if_neg fun z => hj (hv j z.1), L.out j hj]
theorem LSt.bind (L : LSt K τ own H1 e1 P σ H env accD) (E : EnvR K H σ2 env') (l : σ2.length = σ.length) (s : ∀ j, j ∉ own → σ2[j]? = σ[j]?) (o : ∀ p, OwnA env' σ2 p → OwnA env σ p) : LSt K τ own H1 e1 P σ2 H env' accD :=
  ⟨l.trans L.len, fun j hj => (s j hj).trans (L.out j hj), E, L.acc, ⟨L.tr.f, fun p z => L.tr.s p (o p z)⟩, fun z => L.nd (o P z)⟩
theorem LSt.push (L : LSt K τ own H1 e1 P σ H env accD) (hP : H1 P = none) {d : D} {y : V} (ry : Rp K H d y) : ∃ acc, H P = some (.lst acc) ∧ acc.length = accD.length ∧ LSt K τ own H1 e1 P σ (upd H P (.lst (acc ++ [y]))) env (accD ++ [d]) ∧ Kp H (upd H P (.lst (acc ++ [y]))) := by
  obtain ⟨acc, h, r⟩ := L.acc
  have kD : Kp H (upd H P (.lst (acc ++ [y]))) := upd_kp fun ob u e => by rw [h] at e; cases e
  have oth : ∀ b u, b ≠ P → H b = some u → upd H P (.lst (acc ++ [y])) b = some u := fun b u n e => by rw [upd_ne n]; exact e
  refine ⟨acc, h, r.length, ⟨L.len, L.out, ⟨L.e.len, fun j sl e => ?_, L.e.dj⟩, ⟨_, upd_same, (r.append (.cons ry .nil)).mono kD⟩, ⟨fun b u e n => oth b u ?_ (L.tr.f b u e n), L.tr.s⟩, L.nd⟩, kD⟩
  · obtain ⟨x', e2, rr⟩ := L.e.sl j sl e
    refine ⟨x', e2, ?_⟩
    cases sl with
    | un => trivial
    | val d => obtain ⟨v, e3, rr⟩ := rr; exact ⟨v, e3, rr.mono kD⟩
    | own d2 =>
      obtain ⟨p2, e3, rr⟩ := rr
      subst e3
      refine ⟨p2, rfl, rr.keep kD fun u qq => oth p2 u ?_ qq⟩
      rintro rfl
      exact L.nd ⟨j, d2, e, e2⟩
  · rintro rfl; rw [hP] at e; cases e
theorem LSt.kp (L : LSt K τ own H1 e1 P σ H env accD) (E : EnvR K H1 τ e1) : Kp H1 H := L.tr.kp E
end
theorem LSt.rewipe {K : PySem.W.Frag} {σ σ3 : St} {own : List Nat} {H1 H : Hp} {e1 env : Env} {P : Addr} {accD : List D} (L : LSt K (L2.wipe σ own) own H1 e1 P σ3 H env accD) : LSt K (L2.wipe σ own) own H1 e1 P (L2.wipe σ own) H (wipeE env own) accD := by
  have h := L.wipe (vs := own) fun _ h => h
  rwa [wipe_same (by rw [L.len, wipe_length]) L.out] at h
theorem wipeE_two (env : Env) {vs own : List Nat} (hv : ∀ j ∈ vs, j ∈ own) : wipeE (wipeE env vs) own = wipeE env own := by
  apply List.ext_getElem?
  intro j
  rw [wipeE_get, wipeE_get, wipeE_len, wipeE_get]
  by_cases h : j ∈ own ∧ j < env.length
  · rw [if_pos h, if_pos h]
  · rw [if_neg h, if_neg h, if_neg fun z => h ⟨hv j z.1, z.2⟩]
/-- the names of a comprehension as they stood -/
theorem lc_end {K : PySem.W.Frag} {own : List Nat} {σ : St} {H0 H1 H : Hp} {env0 env1 envF : Env} {total : List D} {P : Addr} (E1 : EnvR K H1 σ env1) (t1 : Tr σ H0 env0 σ H1 env1) (hP : H1 P = none)
    (L : LSt K (L2.wipe σ own) own H1 (wipeE env1 own) P (L2.wipe σ own) H (wipeE envF own) total) : Po K σ H0 env0 (.own (.lst total)) (backE env1 envF own) (.ref P) H := by
  obtain ⟨w1, w2⟩ := EnvR.wipe (own := own) E1 rfl (fun _ _ => rfl)
  have EH := L.e
  have nD := L.nd
  have ow := L.tr.s
  have fr := L.tr.f
  obtain ⟨acc, hDa, hacc⟩ := L.acc
  have kp1 : Kp H1 H := L.kp w1
  have nD1 : ¬ OwnA env1 σ P := fun z => by
    obtain ⟨u, e, _⟩ := E1.nfrz z
    rw [hP] at e; cases e
  have hlen : env1.length = envF.length := by
    have a := EH.len
    rw [wipeE_len, wipe_length] at a
    rw [a, E1.len]
  have bget := backE_get env1 envF hlen own
  have kept : ∀ j d p, j ∈ own → env1[j]? = some (.own d) → σ[j]? = some (some (.ref p)) → H p = H1 p := fun j d p hj h1 h2 => by
    have o1 : OwnA env1 σ p := ⟨j, d, h1, h2⟩
    obtain ⟨u, e, _⟩ := E1.nfrz o1
    rw [e]
    refine fr p u e fun ⟨l, b, k1, k2⟩ => ?_
    rw [wipeE_get] at k1
    by_cases hm : l ∈ own
    · by_cases hl' : l < env1.length
      · rw [if_pos ⟨hm, hl'⟩] at k1; cases k1
      · rw [if_neg fun z => hl' z.2, List.getElem?_eq_none (by omega)] at k1; cases k1
    · rw [if_neg fun z => hm z.1] at k1
      rw [wipe_get, if_neg fun z => hm z.1] at k2
      have := E1.dj l j b d p k1 h1 k2 h2
      subst this
      exact hm hj
  have outs : ∀ {j : Nat} {sl : Slot}, j ∉ own → envF[j]? = some sl → (wipeE envF own)[j]? = some sl ∧ (L2.wipe σ own)[j]? = σ[j]? := fun {j sl} hj e => by
    rw [wipeE_get, if_neg fun z => hj z.1, wipe_get, if_neg fun z => hj z.1]
    exact ⟨e, rfl⟩
  have ownB : ∀ p, OwnA (backE env1 envF own) σ p → (∃ j d, j ∈ own ∧ env1[j]? = some (.own d) ∧ σ[j]? = some (some (.ref p))) ∨ OwnA (wipeE envF own) (L2.wipe σ own) p := fun p ⟨j, d, h1, h2⟩ => by
    rw [bget j] at h1
    by_cases hj : j ∈ own
    · rw [if_pos hj] at h1; exact .inl ⟨j, d, hj, h1, h2⟩
    · rw [if_neg hj] at h1
      obtain ⟨k1, k2⟩ := outs hj h1
      exact .inr ⟨j, d, k1, by rw [k2]; exact h2⟩
  -- two owners, one within, one without
  have apart : ∀ {j l : Nat} {a b : D} {p : Addr}, j ∈ own → env1[j]? = some (.own a) → σ[j]? = some (some (.ref p)) → l ∉ own → envF[l]? = some (.own b) → σ[l]? = some (some (.ref p)) → False := fun {j l a b p} hj h1 h3 hl' h2 h4 => by
    obtain ⟨k1, k2⟩ := outs hl' h2
    have o1 : OwnA env1 σ p := ⟨j, a, h1, h3⟩
    rcases ow p ⟨l, b, k1, by rw [k2]; exact h4⟩ with ⟨i', d', z1, z2⟩ | z
    · rw [wipeE_get] at z1
      by_cases hm : i' ∈ own
      · by_cases hx : i' < env1.length
        · rw [if_pos ⟨hm, hx⟩] at z1; cases z1
        · rw [if_neg fun z => hx z.2, List.getElem?_eq_none (by omega)] at z1; cases z1
      · rw [if_neg fun z => hm z.1] at z1
        rw [wipe_get, if_neg fun z => hm z.1] at z2
        have := E1.dj i' j d' a p z1 h1 z2 h3
        subst this
        exact hm hj
    · obtain ⟨u, e, _⟩ := E1.nfrz o1
      rw [z] at e; cases e
  have EB : EnvR K H σ (backE env1 envF own) := by
    refine ⟨by rw [backE_len, ← hlen, E1.len], fun j sl e => ?_, fun j l a b p h1 h2 h3 h4 => ?_⟩
    · rw [bget j] at e
      by_cases hj : j ∈ own
      · rw [if_pos hj] at e
        obtain ⟨x', e2, rr⟩ := E1.sl j sl e
        refine ⟨x', e2, ?_⟩
        cases sl with
        | un => trivial
        | val d => obtain ⟨v, e3, rr⟩ := rr; exact ⟨v, e3, rr.mono kp1⟩
        | own d2 =>
          obtain ⟨p2, e3, rr⟩ := rr
          subst e3
          exact ⟨p2, rfl, rr.keep kp1 fun u qq => by rw [kept j d2 p2 hj e e2]; exact qq⟩
      · rw [if_neg hj] at e
        obtain ⟨k1, k2⟩ := outs hj e
        rw [← k2]
        exact EH.sl j sl k1
    · rw [bget j] at h1
      rw [bget l] at h2
      by_cases hj : j ∈ own
      · rw [if_pos hj] at h1
        by_cases hl' : l ∈ own
        · rw [if_pos hl'] at h2
          exact E1.dj j l a b p h1 h2 h3 h4
        · rw [if_neg hl'] at h2
          exact (apart hj h1 h3 hl' h2 h4).elim
      · rw [if_neg hj] at h1
        by_cases hl' : l ∈ own
        · rw [if_pos hl'] at h2
          exact (apart hl' h2 h4 hj h1 h3).elim
        · rw [if_neg hl'] at h2
          obtain ⟨k1, k2⟩ := outs hj h1
          obtain ⟨k3, k4⟩ := outs hl' h2
          exact EH.dj j l a b p k1 k3 (by rw [k2]; exact h3) (by rw [k4]; exact h4)
  have nDB : ¬ OwnA (backE env1 envF own) σ P := fun z => by
    rcases ownB P z with ⟨j, d, hj, h1, h2⟩ | z
    · exact nD1 ⟨j, d, h1, h2⟩
    · exact nD z
  refine ⟨EB, t1.trans ⟨fun b u e n => fr b u e fun z => n (w2 b z), fun p z => ?_⟩, ⟨P, rfl, ⟨acc, hDa, hacc⟩, nDB⟩, fun d p e1 e2 => ?_⟩
  · rcases ownB p z with ⟨j, d, hj, h1, h2⟩ | z
    · exact .inl ⟨j, d, h1, h2⟩
    · exact (ow p z).imp (w2 p) id
  · cases e2
    exact t1.fresh hP
/-- a turn of the outer clause -/
def lc2F (c : Cl) (own : List Nat) (tg : Tg) (cond : List E) (vs1 : List Nat) (tg1 : Tg) (src1 : E) (cond1 : List E) (elt : E) : D → Env → Option (List D × Env) := fun x env => match bindT (wipeE env own) tg x with
  | none => none
  | some env => match evAnd c cond .t env with
    | some (.dat (.bl true), env) => match PF.ev c src1 .i env with
      | some (.dat (.tup ys), env) => lcLoop (lcF c vs1 tg1 cond1 elt) ys env
      | _ => none
    | some (.dat (.bl false), env) => some ([], env)
    | _ => none
theorem lc2F_inv {own : List Nat} {tg : Tg} {cond : List E} {vs1 : List Nat} {tg1 : Tg} {src1 : E} {cond1 : List E} {elt : E} {x : D} {env : Env} {ds : List D} {env' : Env} (h : lc2F c own tg cond vs1 tg1 src1 cond1 elt x env = some (ds, env')) :
    ∃ env1, bindT (wipeE env own) tg x = some env1 ∧ ((ds = [] ∧ evAnd c cond .t env1 = some (.dat (.bl false), env')) ∨
      ∃ env2 ys env3, evAnd c cond .t env1 = some (.dat (.bl true), env2) ∧ PF.ev c src1 .i env2 = some (.dat (.tup ys), env3) ∧ lcLoop (lcF c vs1 tg1 cond1 elt) ys env3 = some (ds, env')) := by
  unfold lc2F at h
  cases e1 : bindT (wipeE env own) tg x with
  | none => rw [e1] at h; cases h
  | some env1 =>
    rw [e1] at h
    simp only at h
    refine ⟨env1, rfl, ?_⟩
    cases e2 : evAnd c cond .t env1 with
    | none => rw [e2] at h; cases h
    | some oe =>
      obtain ⟨o, env2⟩ := oe
      obtain ⟨b, rfl⟩ := and_bl e2
      rw [e2] at h
      cases b with
      | false => cases h; exact .inl ⟨rfl, rfl⟩
      | true =>
        simp only at h
        cases e3 : PF.ev c src1 .i env2 with
        | none => rw [e3] at h; cases h
        | some oe =>
          obtain ⟨o, env3⟩ := oe
          rw [e3] at h
          cases o with
          | dat d =>
            cases d with
            | tup ys => exact .inr ⟨env2, ys, env3, rfl, e3, h⟩
            | _ => cases h
          | _ => cases h
/-- the reading of a comprehension of two clauses -/
theorem lc2_read {K : PySem.W.Frag} {own : List Nat} {tg : Tg} {cond : List E} {vs1 : List Nat} {tg1 : Tg} {src1 : E} {cond1 : List E} {elt : E} {σ : St} {H0 H1 : Hp} {env0 env1 envF : Env} {xs total : List D} {J : It} {Q : VK}
    (htg : ∀ j ∈ tg.is, j ∈ own) (htg1 : ∀ j ∈ tg1.is, j ∈ vs1) (hv : ∀ j ∈ vs1, j ∈ own)
    (E1 : EnvR K H1 σ env1) (t1 : Tr σ H0 env0 σ H1 env1) (hJ : ItOk K H1 J xs) (hl : lcLoop2 (lc2F c own tg cond vs1 tg1 src1 cond1 elt) xs env1 = some (total, envF)) (hz : total.length ≤ line)
    (q : ∀ v H', Po K σ H0 env0 (.own (.lst total)) (backE env1 envF own) v H' → Q v H') :
    ∀ P, H1 P = none → ∃ W : Nat → Nat → Hp → Prop, (∃ m, W 0 m (upd H1 P (.lst []))) ∧ ∀ i m H, W i m H →
      (J.stop i H ∧ Q (.ref P) H) ∨ (J.go i H ∧ ∃ Nx : Hp → Prop, (∀ H', Nx H' → ∃ m', m' < m ∧ W (i + 1) m' H') ∧ ∀ x H', J.yld i H x H' → gT K tg x (L2.wipe σ own) H' fun σ2 H2 => L2.wipe σ2 own = L2.wipe σ own ∧ tT K (evAnd c cond .t) σ2 H2 fun b H3 =>
        if b = true then tI K (PF.ev c src1 .i) σ2 H3 fun J1 H4 => ∃ W1 : Nat → Nat → Hp → Prop, (∃ m, W1 0 m H4) ∧ ∀ j k H, W1 j k H →
          (J1.stop j H ∧ Nx H) ∨ (J1.go j H ∧ ∃ Nx1 : Hp → Prop, (∀ H', Nx1 H' → ∃ k', k' < k ∧ W1 (j + 1) k' H') ∧ ∀ x H', J1.yld j H x H' → gT K tg1 x (L2.wipe σ2 vs1) H' fun σ3 H5 => L2.wipe σ3 vs1 = L2.wipe σ2 vs1 ∧ tT K (evAnd c cond1 .t) σ3 H5 fun b H6 =>
            if b = true then tD K (fun env => match PF.ev c elt .v env with | none => none | some (o, env) => toD env o) σ3 H6 fun y H7 => ∃ acc, H7 P = some (.lst acc) ∧ acc.length < sizeLine ∧ Nx1 (upd H7 P (.lst (acc ++ [y]))) else Nx1 H6)
        else Nx H3) := by
  intro P hP
  have sD : Same H1 (upd H1 P (.lst [])) := same_new hP
  obtain ⟨w1, w2⟩ := EnvR.wipe (own := own) E1 rfl (fun _ _ => rfl)
  have nD1 : ¬ OwnA env1 σ P := fun z => by
    obtain ⟨u, e, _⟩ := E1.nfrz z
    rw [hP] at e; cases e
  let Z : Nat → Hp → Prop := fun i H => ∃ env accD rest, lcLoop2 (lc2F c own tg cond vs1 tg1 src1 cond1 elt) (xs.drop i) env = some (rest, envF) ∧ LSt K (L2.wipe σ own) own H1 (wipeE env1 own) P (L2.wipe σ own) H (wipeE env own) accD ∧ accD ++ rest = total
  have z0 : Z 0 (upd H1 P (.lst [])) := ⟨env1, [], total, hl, ⟨rfl, fun _ _ => rfl, w1.same sD, ⟨[], upd_same, .nil⟩, ⟨fun b u e _ => sD b u e, fun p z => .inl z⟩, fun z => nD1 (w2 P z)⟩, rfl⟩
  refine ⟨fun i m H => m = xs.length - i ∧ i ≤ xs.length ∧ Z i H, ⟨xs.length, by simp, Nat.zero_le _, z0⟩, ?_⟩
  rintro i m H ⟨rfl, hi, env, accD, rest, hlp, L, htot⟩
  have kp1 : Kp H1 H := L.kp w1
  by_cases hlt : i < xs.length
  · refine .inr ⟨(hJ i H kp1).1 hlt |>.1, Z (i + 1), fun H' p => ⟨xs.length - (i + 1), by omega, rfl, hlt, p⟩, fun x H' y => ?_⟩
    obtain ⟨e, d, hd, rd⟩ := ((hJ i H kp1).1 hlt).2 x H' y
    subst e
    have hdrop : xs.drop i = d :: xs.drop (i + 1) := by
      rw [List.drop_eq_getElem_cons hlt]
      have : xs[i] = d := by rw [List.getElem?_eq_getElem hlt] at hd; exact Option.some.inj hd
      rw [this]
    rw [hdrop] at hlp
    simp only [lcLoop2] at hlp
    cases ef : lc2F c own tg cond vs1 tg1 src1 cond1 elt d env with
    | none => rw [ef] at hlp; cases hlp
    | some re =>
      obtain ⟨ds, envN⟩ := re
      rw [ef] at hlp
      simp only at hlp
      cases er : lcLoop2 (lc2F c own tg cond vs1 tg1 src1 cond1 elt) (xs.drop (i + 1)) envN with
      | none => rw [er] at hlp; cases hlp
      | some rr =>
        obtain ⟨rest', envF'⟩ := rr
        rw [er] at hlp
        simp only [Option.some.injEq, Prod.mk.injEq] at hlp
        obtain ⟨rfl, rfl⟩ := hlp
        obtain ⟨envB, hb, hcase⟩ := lc2F_inv ef
        refine ⟨wipeE env own, d, envB, L.e, rd, hb, fun σ2 E2 l2 s2 o2 => ⟨?_, ?_⟩⟩
        · rw [← wipe_wipe σ own]
          exact wipe_same l2 fun j hj => by rw [wipe_get (L2.wipe σ own), if_neg fun z => hj z.1, s2 j fun z => hj (htg j z)]
        · have hs2 : ∀ j, j ∉ own → σ2[j]? = (L2.wipe σ own)[j]? := fun j hj => s2 j fun z => hj (htg j z)
          have LB := L.bind E2 l2 hs2 o2
          rcases hcase with ⟨rfl, ec⟩ | ⟨envC, ys, envE, ec, ei, el⟩
          · refine ⟨envB, false, envN, E2, ec, fun H3 E3 t3 => ?_⟩
            dsimp only
            rw [if_neg Bool.false_ne_true]
            exact ⟨envN, accD, rest', er, (LB.ev E3 t3).rewipe, by simpa using htot⟩
          · refine ⟨envB, true, envC, E2, ec, fun H3 E3 t3 => ?_⟩
            dsimp only
            rw [if_pos rfl]
            refine ⟨envC, ys, envE, E3, ei, fun J1 H4 E4 t4 hJ1 => ?_⟩
            have LE := (LB.ev E3 t3).ev E4 t4
            let Z1 : Nat → Hp → Prop := fun j H => ∃ env accI rest, lcLoop (lcF c vs1 tg1 cond1 elt) (ys.drop j) env = some (rest, envN) ∧ LSt K (L2.wipe σ own) own H1 (wipeE env1 own) P (L2.wipe σ2 vs1) H (wipeE env vs1) (accD ++ accI) ∧ accI ++ rest = ds ∧ Kp H4 H
            have z1 : Z1 0 H4 := ⟨envE, [], ds, el, by rw [List.append_nil]; exact LE.wipe hv, rfl, .refl _⟩
            refine ⟨fun j k H => k = ys.length - j ∧ j ≤ ys.length ∧ Z1 j H, ⟨ys.length, by simp, Nat.zero_le _, z1⟩, ?_⟩
            rintro j k H5 ⟨rfl, hj, envI, accI, restI, hlI, LI, htI, kI⟩
            by_cases hjl : j < ys.length
            · refine .inr ⟨(hJ1 j H5 kI).1 hjl |>.1, Z1 (j + 1), fun H' p => ⟨ys.length - (j + 1), by omega, rfl, hjl, p⟩, fun x H' y => ?_⟩
              obtain ⟨e, dd, hdd, rdd⟩ := ((hJ1 j H5 kI).1 hjl).2 x H' y
              subst e
              have hdropI : ys.drop j = dd :: ys.drop (j + 1) := by
                rw [List.drop_eq_getElem_cons hjl]
                have : ys[j] = dd := by rw [List.getElem?_eq_getElem hjl] at hdd; exact Option.some.inj hdd
                rw [this]
              rw [hdropI] at hlI
              simp only [lcLoop] at hlI
              cases efI : lcF c vs1 tg1 cond1 elt dd envI with
              | none => rw [efI] at hlI; cases hlI
              | some re =>
                obtain ⟨r, envJ⟩ := re
                rw [efI] at hlI
                obtain ⟨envK, hbI, hcI⟩ := lcF_inv efI
                refine ⟨wipeE envI vs1, dd, envK, LI.e, rdd, hbI, fun σ3 E5 l3 s3 o3 => ?_⟩
                have hs3 : ∀ j, j ∉ vs1 → σ3[j]? = (L2.wipe σ2 vs1)[j]? := fun j hj => s3 j fun z => hj (htg1 j z)
                have hw3 : L2.wipe σ3 vs1 = L2.wipe σ2 vs1 := by
                  rw [← wipe_wipe σ2 vs1]
                  exact wipe_same l3 fun j hj => by rw [wipe_get (L2.wipe σ2 vs1), if_neg fun z => hj z.1, hs3 j hj]
                have LK := LI.bind E5 l3 (fun j hj => hs3 j fun z => hj (hv j z)) o3
                refine ⟨hw3, ?_⟩
                rcases hcI with ⟨rfl, ecI⟩ | ⟨envM, de, rfl, ecI, eeI⟩
                · refine ⟨envK, false, envJ, E5, ecI, fun H6 E6 t6 => ?_⟩
                  dsimp only
                  rw [if_neg Bool.false_ne_true]
                  have L6 := (LK.ev E6 t6).wipe hv
                  rw [hw3] at L6
                  exact ⟨envJ, accI, restI, hlI, L6, htI, kI.trans (t6.kp E5)⟩
                · refine ⟨envK, true, envM, E5, ecI, fun H6 E6 t6 => ?_⟩
                  dsimp only
                  rw [if_pos rfl]
                  refine ⟨envM, de, envJ, E6, eeI, fun y H7 E7 t7 ry => ?_⟩
                  have L7 := (LK.ev E6 t6).ev E7 t7
                  simp only at hlI
                  cases erI : lcLoop (lcF c vs1 tg1 cond1 elt) (ys.drop (j + 1)) envJ with
                  | none => rw [erI] at hlI; cases hlI
                  | some rr =>
                    obtain ⟨restJ, envQ⟩ := rr
                    rw [erI] at hlI
                    simp only [Option.some.injEq, Prod.mk.injEq] at hlI
                    obtain ⟨rfl, rfl⟩ := hlI
                    obtain ⟨acc, hacc, hal, L8, k8⟩ := L7.push hP ry
                    have hla : acc.length < sizeLine := by
                      have h1 : total.length = accD.length + (ds.length + rest'.length) := by rw [← htot, List.length_append, List.length_append]
                      have h2 : ds.length = accI.length + (restJ.length + 1) := by rw [← htI, List.length_append, List.length_cons]
                      rw [List.length_append] at hal
                      rw [hal, ← line_eq]
                      omega
                    refine ⟨acc, hacc, hla, ?_⟩
                    have L9 := L8.wipe hv
                    rw [hw3] at L9
                    exact ⟨envJ, accI ++ [de], restJ, erI, by rw [← List.append_assoc]; exact L9, by rw [← htI]; simp, ((kI.trans (t6.kp E5)).trans (t7.kp E6)).trans k8⟩
            · have e : j = ys.length := by omega
              subst e
              refine .inl ⟨(hJ1 _ H5 kI).2 rfl, ?_⟩
              rw [List.drop_length] at hlI
              simp only [lcLoop, Option.some.injEq, Prod.mk.injEq] at hlI
              obtain ⟨rfl, rfl⟩ := hlI
              rw [List.append_nil] at htI
              subst htI
              have L6 := LI.rewipe
              rw [wipeE_two _ hv] at L6
              exact ⟨envI, accD ++ accI, rest', er, L6, by rw [← htot, List.append_assoc]⟩
  · have e : i = xs.length := by omega
    subst e
    refine .inl ⟨(hJ _ H kp1).2 rfl, ?_⟩
    rw [List.drop_length] at hlp
    simp only [lcLoop2, Option.some.injEq, Prod.mk.injEq] at hlp
    obtain ⟨rfl, rfl⟩ := hlp
    rw [List.append_nil] at htot
    subst htot
    exact q _ H (lc_end E1 t1 hP L)
end
end PF
/-! PF10D: displays of sets and dicts of numbers; list(range(..)), tuple(range(..)). -/
namespace PF
open PySem PySem.Spec PyProof.Rows L2
section
variable {K : PySem.W.Frag} {σ : St} {H H2 : Hp} {env env2 : Env} {p : Addr} {o0 ob : HO} {d : D}
theorem not_own (E : EnvR K H σ env) (hp : H p = none) : ¬ OwnA env σ p := fun z => by
  obtain ⟨u, e, _⟩ := E.nfrz z
  rw [hp] at e; cases e
/-- an object that was laid first and filled last -/
theorem new_end (E : EnvR K H σ env) (hp : H p = none) (t : Tr σ (upd H p o0) env σ H2 env2) (E2 : EnvR K H2 σ env2) (n0 : ∀ o u, o0 ≠ .frz o u) (ho : OwnAt K (upd H2 p ob) d p) : Po K σ H env (.own d) env2 (.ref p) (upd H2 p ob) := by
  have no := not_own E hp
  have h2 : H2 p = some o0 := t.f p _ upd_same no
  have no2 : ¬ OwnA env2 σ p := fun z => by
    rcases t.s p z with z | z
    · exact no z
    · rw [upd_same] at z; cases z
  have kD : Kp H2 (upd H2 p ob) := upd_kp fun o u e => by rw [h2] at e; exact n0 o u (Option.some.inj e)
  have oth : ∀ b u, b ≠ p → H2 b = some u → upd H2 p ob b = some u := fun b u n e => by rw [upd_ne n]; exact e
  have ne : ∀ {b u}, H b = some u → b ≠ p := fun {b u} e z => by subst z; rw [hp] at e; cases e
  refine ⟨⟨E2.len, fun j sl e => ?_, E2.dj⟩, ⟨fun b u e n => oth b u (ne e) (t.f b u (by rw [upd_ne (ne e)]; exact e) n), fun q z => ?_⟩, ⟨p, rfl, ho, no2⟩, fun d' q e1 e2 => by cases e2; exact .inl hp⟩
  · obtain ⟨x', e2, rr⟩ := E2.sl j sl e
    refine ⟨x', e2, ?_⟩
    cases sl with
    | un => trivial
    | val d => obtain ⟨v, e3, rr⟩ := rr; exact ⟨v, e3, rr.mono kD⟩
    | own d2 =>
      obtain ⟨p2, e3, rr⟩ := rr
      subst e3
      refine ⟨p2, rfl, rr.keep kD fun u qq => oth p2 u ?_ qq⟩
      rintro rfl
      exact no2 ⟨j, d2, e, e2⟩
  · rcases t.s q z with z | z
    · exact .inl z
    · by_cases hq : q = p
      · subst hq; exact .inr hp
      · rw [upd_ne hq] at z; exact .inr z
end
section
variable {c : Cl}
theorem se_dnew : SE c .dnew := by
  refine se_of (fun _ => rfl) fun X G O x hx => ?_
  cases x <;> first | (cases hx; done) | skip
  rename_i ks vs pos
  cases ks with
  | cons k ks => cases hx
  | nil =>
    cases vs with
    | cons v vs => cases hx
    | nil =>
      refine ⟨PE.imp pe_dnewK fun σ H Q ⟨env, o, env', E, hf, q⟩ p hp => ?_, fun _ => rfl⟩
      cases hf
      exact q _ _ (po_res E .refl ⟨same_new hp, p, rfl, hp, [], rfl, upd_same, Rps.nil⟩)
theorem se_dsp1 {k v : E} (hk : SE c k) (hv : SE c v) : SE c (.dsp1 k v) := by
  refine se_of (fun _ => rfl) fun X G O x hx => ?_
  cases x <;> first | (cases hx; done) | skip
  rename_i ks vs pos
  match ks, vs, hx with
  | [some x], [y], hx =>
    obtain ⟨h1, h2⟩ := and2 (show (ckE k G x && ckE v G y) = true from hx)
    refine ⟨PE.imp (pe_disp (pps_cons (hk X G O x h1).1 (pe_frz (hv X G O y h2).1) pps_nil) rfl rfl (by simp) (by simp)) fun σ H Q ⟨env, o, env', E, hf, q⟩ p hp => ?_, fun _ => rfl⟩
    simp only [ev, fin] at hf
    cases e1 : ev c k .v env with
    | none => rw [e1] at hf; cases hf
    | some oe =>
      obtain ⟨ok, env1⟩ := oe
      rw [e1] at hf
      cases ok with
      | dat dk =>
        cases dk with
        | int i =>
          simp only at hf
          cases e2 : ev c v .v env1 with
          | none => rw [e2] at hf; cases hf
          | some oe =>
            obtain ⟨ov, env2⟩ := oe
            rw [e2] at hf
            simp only at hf
            cases e3 : toD env2 ov with
            | none => rw [e3] at hf; cases hf
            | some de =>
              obtain ⟨d, env3⟩ := de
              rw [e3] at hf
              cases hf
              have E0 := E.same (same_new (o := .dK []) hp)
              refine ⟨env, _, env1, E0, e1, fun u H1 p1 => ?_⟩
              have hu : u = .int i := p1.r
              subst hu
              refine ⟨env1, d, env', p1.e, by dsimp only; rw [e2]; exact e3, fun w H2 E2 t2 rw' => ?_⟩
              have t := p1.t.trans t2
              have h2 : H2 p = some (.dK []) := t.f p _ upd_same (not_own E hp)
              refine ⟨h2, [(Sum.inl i, w)], rfl, by simp, ?_⟩
              have kD : Kp H2 (upd H2 p (.dK (mergeK [] [(Sum.inl i, w)]))) := upd_kp fun o u e => by rw [h2] at e; cases e
              exact q _ _ (new_end E hp t E2 (fun o u z => nomatch z) ⟨[(i, w)], rfl, upd_same, .cons (rw'.mono kD) .nil⟩)
        | _ => cases hf
      | _ => cases hf
/-- {z} -/
theorem pe_sdsp {X : Cx} {z : Expr} {te : TE} {pos : Pos} (hz : PE X z te) (hp : PySem.W.kdsPlain z = true) (hcd : PySem.W.kdsCode X.K X.env.code = true) :
    PE X (.Set [z] 0 pos) (fun σ H Q => ∀ p, H p = none → te σ (upd H p (ISet p [])) fun x H1 => ∃ k, x = .int k ∧ H1 p = some (ISet p []) ∧ Q (.ref p) (upd H1 p (ISet p [k]))) := by
  refine ⟨fun pins s σ H Q I h => ?_⟩
  rw [arm_eval_Set]
  refine wpAny_bind (wpAny_standAt ?_); refine wpAny_bind (PySem.W.kds_main I.kIn hcd fun b => ?_)
  rw [PySem.W.kds_star [z] (by simp [hp]), List.map_map]
  refine PySem.W.kds_core (ts := (evalEach [z] X.env).map fun t => do let v ← t; standAt pos; pure v) (road0 [z]) ?_ ?_ ?_ fun led => ?_
  · exact List.findIdx?_eq_none_iff.mpr fun x hx => by obtain ⟨t, _, rfl⟩ := List.mem_map.mp hx; rfl
  · rw [List.length_map, PySem.W.kds_len]; show 1 ≤ 30; decide
  · rw [List.map_map]
    try rfl
  · have fr : H s.heap.objs.size = none := I.hok.fresh (Nat.le_refl _)
    have I1 : L2.Inv X pins σ (upd H s.heap.objs.size (ISet s.heap.objs.size [])) { s with heap := s.heap.push { cls := .type "set", dict := none, data := .set #[] 0 (.fresh 0 0 led) } } :=
      I.laid (t' := s.toks) (fun b u e => Heap.get?_push_of_some _ e) (Nat.le_refl _) (iset_new (SetOf_congr ((setObjOf_fresh (knd := intKind X.prog X.w) led).setOf (Heap.get?_push_size _ rfl) (by decide)) (fun k => by simp) rfl) (by decide))
    refine PySem.W.kds_all pos [z] _ _ ?_
    show wpAny (model X.prog X.w) X.A (eval z X.env) (fun v s' => PySem.W.KdsFill (model X.prog X.w) X.A X.xe (displayRoad 0 [z] == DisplayRoad.unsure) s.heap.objs.size (EP X pins σ Q) [v] s') X.xe _
    refine thn (hz.run pins _ σ _ _ I1 (h _ fr)) fun u s1 ⟨x, H1, I2, r1, k, ex, hs, q⟩ => ?_
    subst ex
    obtain ⟨tk, rfl⟩ := r1
    have road : (displayRoad 0 [z] == DisplayRoad.unsure) = false := rfl
    refine PySem.W.kds_fill_cons ?_
    unfold setAdd
    refine wpAny_holding (wpAny_bind ((intKind X.prog X.w).pyHash (k := k) (intKind_is _ _ _ _) ?_))
    refine wpAny_setAddHashed_of (knd := intKind X.prog X.w) (s := { s1 with toks := s1.toks + 1 }) (intKind_is _ _ k tk) rfl (iset_get (I2.tok (s1.toks + 1)) hs) (by unfold scanBound; simp) fun h' sb new => ?_
    refine PySem.W.kds_fill_nil road ?_
    have R : h'.SetOf (intKind X.prog X.w) s.heap.objs.size (fun j => decide (j ∈ [k])) [k].length := SetOf_congr new (fun j => by simp) (by simp)
    have he : ∃ u, h'.get? s.heap.objs.size = some u := by
      obtain ⟨o, _, _, _, ho, _⟩ := R
      exact ⟨o, ho⟩
    exact ⟨.ref s.heap.objs.size, upd H1 s.heap.objs.size (ISet s.heap.objs.size [k]), I2.write (e := s.heap.objs.size) (t' := s1.toks + 1) (by rw [hs]; trivial) (.inl rfl) (fun b u hb hu => (sb.2 b hb).trans hu) he (iset_new R (by simp)), rfl, q⟩
theorem se_sdsp {a : E} (ha : SE c a) : SE c (.sdsp a) := by
  refine se_of (fun _ => rfl) fun X G O x hx => ?_
  cases x <;> first | (cases hx; done) | skip
  rename_i es k pos
  match es, hx with
  | [z], hx =>
    obtain ⟨h1, h2⟩ := and2 (show (decide (k = 0) && kdsPlainB z && ckE a G z) = true from hx)
    obtain ⟨h3, h4⟩ := and2 h1
    have hk : k = 0 := of_decide_eq_true h3
    subst hk
    refine ⟨PE.imp (pe_sdsp (ha X G O z h2).1 h4 O.cd) fun σ H Q ⟨env, o, env', E, hf, q⟩ p hp => ?_, fun _ => rfl⟩
    simp only [ev, fin] at hf
    cases e1 : ev c a .v env with
    | none => rw [e1] at hf; cases hf
    | some oe =>
      obtain ⟨ok, env1⟩ := oe
      rw [e1] at hf
      cases ok with
      | dat dk =>
        cases dk with
        | int i =>
          cases hf
          have E0 := E.same (same_new (o := ISet p []) hp)
          refine ⟨env, _, env', E0, e1, fun u H1 p1 => ?_⟩
          have hu : u = .int i := p1.r
          subst hu
          have h2 : H1 p = some (ISet p []) := p1.t.f p _ upd_same (not_own E hp)
          exact ⟨i, rfl, h2, q _ _ (new_end E hp p1.t p1.e (fun o u z => nomatch z) ⟨[i], rfl, upd_same⟩)⟩
        | _ => cases hf
      | _ => cases hf
/-! ### ranges as lists -/
theorem rng_rp {K : PySem.W.Frag} {H : Hp} (a b : Int) : Rps K H (rngL a b 1) (rgV a b) := by
  have e : ((b - a + 1 - 1) / 1).toNat = (b - a).toNat := by rw [Int.ediv_one]; congr 1; omega
  have h := Rps.of_ints (K := K) (H := H) ((List.range (b - a).toNat).map fun (k : Nat) => a + 1 * (k : Int))
  rw [List.map_map, List.map_map] at h
  unfold rngL rgV
  rw [if_pos (by decide), e]
  refine cast ?_ h
  congr 1
  refine List.map_congr_left fun i _ => ?_
  show V.int (a + 1 * (i : Int)) = _
  rw [Int.one_mul]
theorem rngL_len (a b : Int) : (rngL a b 1).length = (b - a).toNat := by
  unfold rngL
  rw [if_pos (by decide), List.length_map, List.length_range, Int.ediv_one]
  congr 1; omega
theorem rgOk_of {a b : Int} (h1 : okR a = true) (h2 : okR b = true) (hl : (rngL a b 1).length ≤ line) : RgOk a b := by
  unfold okR at h1 h2
  simp only [Bool.and_eq_true, decide_eq_true_eq] at h1 h2
  rw [rngL_len] at hl
  exact ⟨h1.1, h1.2, h2.1, h2.2, hl⟩
theorem pe_tupRgF {X : Cx} {e : Expr} {te : St → Hp → (Int → Int → Hp → Prop) → Prop} {p pos : Pos} (hc : X.calm = true) (hg : Gl X "tuple") (hm : X.mg "tuple" = none) (he : PRg X e te) (na : starEach [e] X.env = (false, eval e X.env) :: starEach [] X.env := by rfl) :
    PE X (.Call (.Name "tuple" p) [e] [] pos) (fun σ H Q => te σ H fun a b H1 => RgOk a b ∧ ∀ q o, H1 q = none → o.dict = none → Q (.ref q) (upd H1 q (.frz o (.tup (rgV a b))))) := by
  refine ⟨fun pins s σ H Q I h => ?_⟩
  refine Call_ (ld_blt I hg hm boot_tuple (callWith_type1 (args_cons (thn (he pins s σ H _ I h) fun x s1 ⟨r, a, b, t, u, v, H1, ex, hr, I1, ok, q⟩ => args_nil ?_) na) na))
  subst ex; obtain ⟨b1, b2, b3, b4, b5⟩ := ok
  refine call_tuple_range (n := (b - a).toNat) (I1.ok.hd hc) hr (small_one b1 b2 b3 b4) (rangeSize_nat a b) b5 fun h' tk acc hk hi => ?_
  have I2 : L2.Inv X pins σ H1 { s1 with heap := h', toks := tk } := I1.kept hk
  have z : (rgV a b).length ≤ sizeLine := by rw [rgV_length, sizeLine_eq]; omega
  have J := inv_tup (n := 0) (t' := tk) I2 (vals_rg hi) z
  rw [Array.toArray_toList] at J
  exact ⟨.ref h'.objs.size, _, J, rfl, q _ _ (inv_fresh I2) rfl⟩
theorem se_lrng {t : Bool} {es : List E} (hs : ∀ e ∈ es, SE c e) : SE c (.lrng t es) := by
  refine se_of (fun _ => rfl) fun X G O x hx => ?_
  cases x <;> first | (cases hx; done) | skip
  rename_i f args kws pos
  cases f <;> first | (cases hx; done) | skip
  rename_i y p
  match args, kws, hx with
  | [.Call (.Name x px) xs [] pr], [], hx =>
    obtain ⟨h1, h2⟩ := and2 (show (decide (y = (if t then "tuple" else "list" : Str)) && blOk G y && (decide (x = "range") && blOk G x && (decide (es.length = 1) || decide (es.length = 2)) && ckEs es G xs)) = true from hx)
    obtain ⟨h3, h4⟩ := and2 h1
    obtain ⟨h5, h6⟩ := and2 h2
    obtain ⟨h7, h8⟩ := and2 h5
    obtain ⟨h9, h10⟩ := and2 h7
    have ex : x = "range" := of_decide_eq_true h9
    have ey := of_decide_eq_true h3
    subst ex
    obtain ⟨g1, g2, g3⟩ := bl_of O h10
    obtain ⟨k1, k2, k3⟩ := bl_of O h4
    have hlen := len_of h6
    rw [Bool.or_eq_true, decide_eq_true_eq, decide_eq_true_eq] at h8
    -- the range, and what is wanted of it
    have key : ∃ te : St → Hp → (Int → Int → Hp → Prop) → Prop, PRg X (.Call (.Name "range" px) xs [] pr) te ∧ ∀ σ H (R : Int → Int → Hp → Prop) env ds env1 ys, EnvR X.K H σ env → evds c es env = some (ds, env1) → rngD ds = some ys → ys.length ≤ line →
        (∀ a b H1, ys = rngL a b 1 → RgOk a b → EnvR X.K H1 σ env1 → Tr σ H env σ H1 env1 → R a b H1) → te σ H R := by
      match es, xs, h8, hlen, h6, hs with
      | [e], [a], h8, hlen, h6, hs =>
        obtain ⟨m1, m2⟩ := and2 (show (ckE e G a && ckEs [] G []) = true from h6)
        refine ⟨_, prg_1 (p := px) (pos := pr) g1 g2 (pe_frz (hs e List.mem_cons_self X G O a m1).1) (by rw [star_of m1]), fun σ H R env ds env1 ys E he hr hl q => ?_⟩
        simp only [evds] at he
        cases e1 : ev c e .v env with
        | none => rw [e1] at he; cases he
        | some oe =>
          obtain ⟨o, env2⟩ := oe
          rw [e1] at he
          simp only at he
          cases e2 : toD env2 o with
          | none => rw [e2] at he; cases he
          | some de =>
            obtain ⟨d, env3⟩ := de
            rw [e2] at he
            cases he
            refine ⟨env, d, env1, E, by dsimp only; rw [e1]; exact e2, fun v H1 E1 t1 r1 => ?_⟩
            cases d with
            | int b =>
              simp only [rngD] at hr
              split at hr
              · rename_i hk
                cases hr
                have hv : v = .int b := r1
                exact ⟨b, hv, q 0 b H1 rfl (rgOk_of (by decide) hk hl) E1 t1⟩
              · cases hr
            | _ => cases hr
      | [e, f], [a, b], h8, hlen, h6, hs =>
        obtain ⟨m1, m2⟩ := and2 (show (ckE e G a && ckEs [f] G [b]) = true from h6)
        obtain ⟨m3, m4⟩ := and2 (show (ckE f G b && ckEs [] G []) = true from m2)
        refine ⟨_, prg_2 (p := px) (pos := pr) g1 g2 (pe_frz (hs e List.mem_cons_self X G O a m1).1) (pe_frz (hs f (by simp) X G O b m3).1) (by rw [star_of m1]) (by rw [star_of m3]) (by rw [star_of m3]; rfl), fun σ H R env ds env1 ys E he hr hl q => ?_⟩
        simp only [evds] at he
        cases e1 : ev c e .v env with
        | none => rw [e1] at he; cases he
        | some oe =>
          obtain ⟨o, env2⟩ := oe
          rw [e1] at he
          simp only at he
          cases e2 : toD env2 o with
          | none => rw [e2] at he; cases he
          | some de =>
            obtain ⟨d, env3⟩ := de
            rw [e2] at he
            simp only at he
            cases e3 : ev c f .v env3 with
            | none => rw [e3] at he; cases he
            | some oe =>
              obtain ⟨o2, env4⟩ := oe
              rw [e3] at he
              simp only at he
              cases e4 : toD env4 o2 with
              | none => rw [e4] at he; cases he
              | some de =>
                obtain ⟨d2, env5⟩ := de
                rw [e4] at he
                cases he
                refine ⟨env, d, env3, E, by dsimp only; rw [e1]; exact e2, fun v H1 E1 t1 r1 => ⟨env3, d2, env1, E1, by dsimp only; rw [e3]; exact e4, fun w H2 E2 t2 r2 => ?_⟩⟩
                cases d with
                | int i =>
                  cases d2 with
                  | int j =>
                    simp only [rngD] at hr
                    split at hr
                    · rename_i hk
                      cases hr
                      obtain ⟨hk1, hk2⟩ := and2 hk
                      have hv : v = .int i := r1
                      have hw : w = .int j := r2
                      exact ⟨i, j, hv, hw, q i j H2 rfl (rgOk_of hk1 hk2 hl) E2 (t1.trans t2)⟩
                    · cases hr
                  | _ => cases hr
                | _ => cases d2 <;> cases hr
    obtain ⟨te, hr, hte⟩ := key
    have nm : ∀ {env : PySem.Env}, starEach [Expr.Call (.Name "range" px) xs [] pr] env = (false, eval (Expr.Call (.Name "range" px) xs [] pr) env) :: starEach [] env := rfl
    have fin : ∀ {σ : St} {H : Hp} {env : Env} {o : Opd} {env' : Env}, ev c (.lrng t es) .v env = some (o, env') → ∃ ds ys, evds c es env = some (ds, env') ∧ rngD ds = some ys ∧ ys.length ≤ line ∧ o = (if t then .dat (.tup ys) else .own (.lst ys)) := by
      intro σ H env o env' hf
      simp only [ev, fin] at hf
      cases e1 : evds c es env with
      | none => rw [e1] at hf; cases hf
      | some de =>
        obtain ⟨ds, env1⟩ := de
        rw [e1] at hf
        simp only at hf
        cases e2 : rngD ds with
        | none => rw [e2] at hf; cases hf
        | some ys =>
          rw [e2] at hf
          simp only at hf
          by_cases hz : ys.length ≤ line
          · rw [if_pos hz] at hf; cases hf; exact ⟨ds, ys, rfl, e2, hz, rfl⟩
          · rw [if_neg hz] at hf; cases hf
    cases t with
    | true =>
      have ey' : y = "tuple" := ey
      subst ey'
      refine ⟨PE.imp (pe_tupRgF O.calm k1 k2 hr nm) fun σ H Q ⟨env, o, env', E, hf, q⟩ => ?_, fun _ => rfl⟩
      obtain ⟨ds, ys, e1, e2, hz, rfl⟩ := fin (σ := σ) (H := H) hf
      refine hte σ H _ env ds env' ys E e1 e2 hz fun a b H1 ey ok E1 t1 => ⟨ok, fun p o n hd => ?_⟩
      rw [if_pos rfl, ey] at q
      exact q _ _ (po_res E1 t1 (res_tup (rng_rp a b) n hd))
    | false =>
      have ey' : y = "list" := ey
      subst ey'
      refine ⟨PE.imp (pe_listRg O.calm k1 k2 hr nm) fun σ H Q ⟨env, o, env', E, hf, q⟩ => ?_, fun _ => rfl⟩
      obtain ⟨ds, ys, e1, e2, hz, rfl⟩ := fin (σ := σ) (H := H) hf
      refine hte σ H _ env ds env' ys E e1 e2 hz fun a b H1 ey ok E1 t1 => ⟨ok, fun p n => ?_⟩
      rw [if_neg Bool.false_ne_true, ey] at q
      exact q _ _ (po_res E1 t1 (res_lst (rng_rp a b) n))
end
end PF
/-! PF10E: d.get(k, x), d.pop(k, x) of dicts of numbers. -/
namespace PF
open PySem PySem.Spec PyProof.Rows L2
theorem getI_no {K : PySem.W.Frag} {H : Hp} {k : Int} : ∀ {kvs : List (Int × V)} {vs : List D}, Rps K H vs (kvs.map (·.2)) → getI (kvs.map fun q => D.int q.1) vs k = none → valV (dK kvs) (Sum.inl k) = none
  | [], vs, _, h => rfl
  | q :: kvs, [], h, _ => by have := h.length; simp at this
  | q :: kvs, v :: vs, h, e => by
    obtain ⟨z, r', e2, rz, rr⟩ := h
    cases e2
    simp only [List.map_cons, getI] at e
    by_cases hq : q.1 = k
    · rw [if_pos hq] at e; cases e
    · rw [if_neg hq] at e
      rw [← getI_no rr e]
      exact valV_neg (p := (Sum.inl q.1, q.2)) (by simpa using hq)
theorem dropKs_map (k : Int) : ∀ kvs : List (Int × V), dropKs (kvs.map fun q => D.int q.1) k = (kvs.filter fun q => decide (q.1 ≠ k)).map fun q => D.int q.1
  | [] => rfl
  | q :: kvs => by
    simp only [List.map_cons, dropKs]
    by_cases hq : q.1 = k
    · rw [if_pos hq, dropKs_map k kvs, List.filter_cons_of_neg (by simp [hq])]
    · rw [if_neg hq, dropKs_map k kvs, List.filter_cons_of_pos (by simp [hq])]; rfl
theorem dropVs_rp {K : PySem.W.Frag} {H : Hp} (k : Int) : ∀ {kvs : List (Int × V)} {vs : List D}, Rps K H vs (kvs.map (·.2)) → Rps K H (dropVs (kvs.map fun q => D.int q.1) vs k) ((kvs.filter fun q => decide (q.1 ≠ k)).map (·.2))
  | [], vs, _ => by
    have : dropVs (([] : List (Int × V)).map fun q => D.int q.1) vs k = [] := by cases vs <;> rfl
    rw [this]; exact .nil
  | q :: kvs, [], h => by have := h.length; simp at this
  | q :: kvs, v :: vs, h => by
    obtain ⟨z, r', e2, rz, rr⟩ := h
    cases e2
    simp only [List.map_cons, dropVs]
    by_cases hq : q.1 = k
    · rw [if_pos hq, List.filter_cons_of_neg (by simp [hq])]; exact dropVs_rp k rr
    · rw [if_neg hq, List.filter_cons_of_pos (by simp [hq])]; exact .cons rz (dropVs_rp k rr)
theorem dropK_dK (k : Int) (kvs : List (Int × V)) : dropK (dK kvs) (Sum.inl k) = dK (kvs.filter fun q => decide (q.1 ≠ k)) := by
  unfold dropK dK
  rw [List.filter_map]
  congr 1
  refine List.filter_congr fun q _ => ?_
  simp
theorem valV_no {k : Int} {kvs : List (Int × V)} (h : valV (dK kvs) (Sum.inl k) = none) : (kvs.filter fun q => decide (q.1 ≠ k)) = kvs := by
  refine List.filter_eq_self.mpr fun q hq => ?_
  have := valV_not h
  simp only [decide_eq_true_eq]
  intro e
  refine this (List.mem_map.mpr ⟨(Sum.inl q.1, q.2), List.mem_map.mpr ⟨q, hq, rfl⟩, by rw [e]⟩)
section
variable {c : Cl}
theorem m2_of {X : Cx} {o e f : Expr} {m : Str} {apos cpos : Pos} {k z : E} {G : Ck} (hb : attributeBase o m X.env (eval o X.env) = eval o X.env) (hl : (apos.endLine == cpos.line) = true) (h1 : ckE k G e = true) (h2 : ckE z G f = true) : M2 X o m apos e f cpos := by
  refine ⟨hb, ?_, hl, ?_⟩
  · rw [star_of h1, star_of h2]; rfl
  · rw [star_of h1, star_of h2]; rfl
theorem dget_inv {a k x : E} {env : Env} {o : Opd} {env' : Env} (h : ev c (.dget a k x) .v env = some (o, env')) :
    ∃ oa env1 ks0 vs0 kk env2 d ks vs, ev c a .v env = some (oa, env1) ∧ view env1 oa = some (.dct ks0 vs0) ∧ ev c k .v env1 = some (.dat (.int kk), env2) ∧ ev c x .v env2 = some (.dat d, env') ∧ view env' oa = some (.dct ks vs) ∧ o = .dat ((getI ks vs kk).getD d) := by
  simp only [ev, fin] at h
  split at h
  · cases h
  · rename_i oa env1 e1
    split at h
    · rename_i ks0 vs0 e2
      split at h
      · rename_i kk env2 e3
        split at h
        · rename_i d env3 e4
          split at h
          · rename_i ks vs e5
            cases h
            exact ⟨oa, env1, ks0, vs0, kk, env2, d, ks, vs, e1, e2, e3, e4, e5, rfl⟩
          · cases h
        · cases h
      · cases h
    · cases h
theorem se_dget {a k z : E} (ha : SE c a) (hk : SE c k) (hz : SE c z) : SE c (.dget a k z) := by
  refine se_of (fun _ => rfl) fun X G O x hx => ?_
  cases x <;> first | (cases hx; done) | skip
  rename_i f args kws pos
  cases f <;> first | (cases hx; done) | skip
  rename_i o nm apos
  match args, kws, hx with
  | [x, y], [], hx =>
    obtain ⟨h1, h5⟩ := and2 (show (decide (nm = "get") && !isCallO o && (apos.endLine == pos.line) && ckE a G o && ckE k G x && ckE z G y) = true from hx)
    obtain ⟨h2, h4⟩ := and2 h1
    obtain ⟨h6, h3⟩ := and2 h2
    obtain ⟨h7, h8⟩ := and2 h6
    obtain ⟨h9, h10⟩ := and2 h7
    have en : nm = "get" := of_decide_eq_true h9
    subst en
    have hb : isCallO o = false := by simpa using h10
    refine ⟨PE.imp (pe_dget2 (by have := O.un; omega) (ha X G O o h3).1 (hk X G O x h4).1 (hz X G O y h5).1 (m2_of (base_of hb) h8 h4 h5)) fun σ H Q ⟨env, oo, env', E, hf, q⟩ => ?_, fun _ => rfl⟩
    obtain ⟨oa, env1, ks0, vs0, kk, env2, d, ks, vs, e1, e2, e3, e4, e5, rfl⟩ := dget_inv hf
    refine ⟨env, oa, env1, E, e1, fun v H1 p1 => ?_⟩
    obtain ⟨p, kvs0, rfl, _, hp0, _⟩ := (p1.r.view p1.e e2).dct
    refine ⟨p, rfl, .inl ⟨_, hp0⟩, env1, _, env2, p1.e, e3, fun u H2 p2 => ⟨env2, _, env', p2.e, e4, fun w H3 p3 => ?_⟩⟩
    have hu : u = .int kk := p2.r
    subst hu
    have t13 := p2.t.trans p3.t
    obtain ⟨p', kvs, ep, rfl, hp, rd⟩ := ((p1.r.later p1.e t13).view p3.e e5).dct
    cases ep
    refine ⟨valV (dK kvs) (Sum.inl kk), .inl ⟨dK kvs, Sum.inl kk, hp, rfl, rfl⟩, ?_⟩
    refine q _ _ (po_dat p3.e (p1.t.trans t13) ?_)
    cases e6 : getI (kvs.map fun q => D.int q.1) vs kk with
    | none =>
      rw [getI_no rd e6]
      exact p3.r
    | some r =>
      obtain ⟨w', e7, rw'⟩ := getI_dct rd e6
      rw [e7]
      exact rw'
theorem dpop_inv {i : Nat} {k x : E} {env : Env} {o : Opd} {env' : Env} (h : ev c (.dpop i k x) .v env = some (o, env')) :
    ∃ ks0 vs0 kk env2 d env3 ks vs, look env i = .own (.dct ks0 vs0) ∧ ev c k .v env = some (.dat (.int kk), env2) ∧ ev c x .v env2 = some (.dat d, env3) ∧ look env3 i = .own (.dct ks vs) ∧ o = .dat ((getI ks vs kk).getD d) ∧ env' = env3.set i (.own (.dct (dropKs ks kk) (dropVs ks vs kk))) := by
  simp only [ev, fin] at h
  split at h
  · rename_i ks0 vs0 e1
    split at h
    · rename_i kk env2 e3
      split at h
      · rename_i d env3 e4
        split at h
        · rename_i ks vs e5
          cases h
          exact ⟨ks0, vs0, kk, env2, d, env3, ks, vs, e1, e3, e4, e5, rfl, rfl⟩
        · cases h
      · cases h
    · cases h
  · cases h
theorem se_dpop {i : Nat} {k z : E} (hk : SE c k) (hz : SE c z) : SE c (.dpop i k z) := by
  refine se_of (fun _ => rfl) fun X G O x hx => ?_
  cases x <;> first | (cases hx; done) | skip
  rename_i f args kws pos
  cases f <;> first | (cases hx; done) | skip
  rename_i o nm apos
  cases o <;> first | (cases hx; done) | skip
  rename_i w pw
  match args, kws, hx with
  | [x, y], [], hx =>
    obtain ⟨h1, h5⟩ := and2 (show (decide (nm = "pop") && (apos.endLine == pos.line) && ldOk G i w && ckE k G x && ckE z G y) = true from hx)
    obtain ⟨h2, h4⟩ := and2 h1
    obtain ⟨h6, h3⟩ := and2 h2
    obtain ⟨h7, h8⟩ := and2 h6
    have en : nm = "pop" := of_decide_eq_true h7
    subst en
    refine ⟨PE.imp (pe_dpop2 (ld_of O h3) (hk X G O x h4).1 (hz X G O y h5).1 (m2_of base_name h8 h4 h5)) fun σ H Q ⟨env, oo, env', E, hf, q⟩ => ?_, fun _ => rfl⟩
    obtain ⟨ks0, vs0, kk, env2, d, env3, ks, vs, e1, e3, e4, e5, rfl, rfl⟩ := dpop_inv hf
    obtain ⟨p, g1, g2, g3⟩ := E.own e1
    obtain ⟨kvs0, _, hp0, _⟩ := g2
    refine ⟨.ref p, g1, p, rfl, .inl ⟨_, .inl hp0⟩, env, _, env2, E, e3, fun u H2 p2 => ⟨env2, _, env3, p2.e, e4, fun y H3 p3 => ?_⟩⟩
    have hu : u = .int kk := p2.r
    subst hu
    have t13 := p2.t.trans p3.t
    obtain ⟨p', k1, k2, k3⟩ := p3.e.own e5
    rw [g1] at k1
    cases k1
    have k2' := k2
    obtain ⟨kvs, rfl, hp, rd⟩ := k2'
    have kD : Kp H3 (upd H3 p (.dK (dK (kvs.filter fun q => decide (q.1 ≠ kk))))) := upd_kp fun ob u e => by rw [hp] at e; cases e
    refine ⟨dK kvs, Sum.inl kk, hp, rfl, fun v ev' => ?_, fun en => ?_⟩
    · rw [dropK_dK]
      have hv : ∃ r, getI (kvs.map fun q => D.int q.1) vs kk = some r := by
        cases e6 : getI (kvs.map fun q => D.int q.1) vs kk with
        | some r => exact ⟨r, rfl⟩
        | none => rw [getI_no rd e6] at ev'; cases ev'
      obtain ⟨r, e6⟩ := hv
      obtain ⟨w', e7, rw'⟩ := getI_dct rd e6
      rw [ev'] at e7
      cases e7
      rw [e6] at q
      refine q _ _ (mut_end p3.e t13 e5 g1 (fun b n => upd_ne n) ⟨kvs.filter fun q => decide (q.1 ≠ kk), dropKs_map kk kvs, upd_same, (dropVs_rp kk rd).mono kD⟩ k2 (rw'.mono kD))
    · have hv : getI (kvs.map fun q => D.int q.1) vs kk = none := by
        cases e6 : getI (kvs.map fun q => D.int q.1) vs kk with
        | none => rfl
        | some r =>
          obtain ⟨w', e7, _⟩ := getI_dct rd e6
          rw [en] at e7; cases e7
      rw [hv] at q
      have ef := valV_no en
      refine q _ _ (mut_end p3.e t13 e5 g1 (fun b n => rfl) ⟨kvs.filter fun q => decide (q.1 ≠ kk), dropKs_map kk kvs, ?_, dropVs_rp kk rd⟩ k2 p3.r)
      rw [ef]; exact hp
end
end PF
/-! PF11: all expressions. -/
namespace PF
open PySem PySem.Spec PyProof.Rows L2
section
variable {c : Cl}
theorem own_snd (N : List Str) (own : List Nat) : (ownN N own).map (·.2) = own := by
  unfold ownN
  rw [List.map_map]
  have : ((fun x : Str × Nat => x.2) ∘ fun i => (N.getD i "", i)) = id := rfl
  rw [this, List.map_id]
theorem xok_blk {X : Cx} {G : Ck} (O : XOk X G c) {scope : Scope} (hk : scope.kind = .function) (s : Shared) (H : Hp) (C : Addr) (cl : List (Str × Addr)) (fp : List Addr) : XOk (X.blk s H scope (compEnvC scope cl C X.env) fp) (G.blk scope) c := by
  refine ⟨O.n, O.nd, O.calm, ?_, hk, fun x h => h, O.bn, O.un, fun f n h => ?_, PassesOwn.never, O.cd, O.xg, O.xf⟩
  · show relS scope X.env.scope = relS scope G.sc
    rw [O.sc]
  · obtain ⟨a, fdt, ps, k, m⟩ := (O.fns f n h).ok
    exact ⟨a, fdt, ps, k, m⟩
theorem pts_of {X : Cx} {G : Ck} (O : XOk X G c) {cond : List E} (hs : ∀ e ∈ cond, SE c e) (hl : cond.length ≤ 1) {xs : List Expr} (h : ckEs cond G xs = true) : PTs X xs (tT X.K (evAnd c cond .t)) := by
  match cond, xs, h, hs, hl with
  | [], [], h, hs, hl =>
    refine ⟨fun pins s σ H Q I hw => pts_nil.run pins s σ H Q I ?_⟩
    obtain ⟨env, b, env', E, e, q⟩ := hw
    cases e
    exact q H E .refl
  | [], _ :: _, h, hs, hl => cases h
  | _ :: _, [], h, hs, hl => cases h
  | [e], [x], h, hs, hl =>
    obtain ⟨k1, k2⟩ := and2 (show (ckE e G x && ckEs [] G []) = true from h)
    refine ⟨fun pins s σ H Q I hw => (pts_one (hs e List.mem_cons_self X G O x k1).2).run pins s σ H Q I ?_⟩
    obtain ⟨env, b, env', E, e1, q⟩ := hw
    rcases and_cons e1 with ⟨rfl, e2⟩ | ⟨env1, e2, e3⟩
    · exact ⟨env, _, env', E, e2, q⟩
    · cases e3
      exact ⟨env, _, env', E, e2, q⟩
  | [e], _ :: _ :: _, h, hs, hl => cases (and2 h).2
theorem lc_inv {own : List Nat} {tg : Tg} {src : E} {cond : List E} {elt : E} {env : Env} {o : Opd} {env' : Env} (h : ev c (.lc own tg src cond elt) .v env = some (o, env')) :
    ∃ xs env1 ds envF, ev c src .i env = some (.dat (.tup xs), env1) ∧ lcLoop (lcF c own tg cond elt) xs env1 = some (ds, envF) ∧ ds.length ≤ line ∧ o = .own (.lst ds) ∧ env' = backE env1 envF own := by
  simp only [ev, fin] at h
  cases e1 : ev c src .i env with
  | none => rw [e1] at h; cases h
  | some oe =>
    obtain ⟨so, env1⟩ := oe
    rw [e1] at h
    cases so with
    | dat d =>
      cases d with
      | tup xs =>
        have h' : (match lcLoop (lcF c own tg cond elt) xs env1 with
          | some (ds, env') => if ds.length ≤ line then some (Opd.own (.lst ds), backE env1 env' own) else none
          | none => none) = some (o, env') := h
        cases e2 : lcLoop (lcF c own tg cond elt) xs env1 with
        | none => rw [e2] at h'; cases h'
        | some de =>
          obtain ⟨ds, envF⟩ := de
          rw [e2] at h'
          simp only at h'
          by_cases hz : ds.length ≤ line
          · rw [if_pos hz] at h'
            cases h'
            exact ⟨xs, env1, ds, envF, rfl, e2, hz, rfl, rfl⟩
          · rw [if_neg hz] at h'; cases h'
      | _ => cases h
    | _ => cases h
/-- the pieces of a comprehension -/
structure LcOk (X : Cx) (G : Ck) (own : List Nat) (tg : Tg) (src : E) (cond : List E) (elt : E) (elt' t0 i0 : Expr) (ifs0 : List Expr) (scope : Scope) : Prop where
  blk : BlkOk G.N G.sc scope (ownN G.N own)
  tgs : ckTg (G.blk scope) tg t0 = true
  sub : ∀ j ∈ tg.is, j ∈ own
  src : ckI src G i0 = true
  len : cond.length ≤ 1
  cond : ckEs cond (G.blk scope) ifs0 = true
  elt : ckE elt (G.blk scope) elt' = true
theorem lc_parts {X : Cx} {G : Ck} {own : List Nat} {tg : Tg} {src : E} {cond : List E} {elt : E} {x : Expr} (hx : ckE (.lc own tg src cond elt) G x = true) :
    ∃ elt' t0 i0 ifs0 scope pos, x = .ListComp elt' [⟨t0, i0, ifs0, 0⟩] scope pos ∧ LcOk X G own tg src cond elt elt' t0 i0 ifs0 scope := by
  by_cases hq : ∃ es, src = .rng es
  · obtain ⟨es, rfl⟩ := hq
    unfold ckE at hx
    split at hx <;> first | (cases hx; done) | skip
    all_goals first | (rename_i h; cases h; done) | skip
    · rename_i own' tg' es' cond' elt'' G' elt' t0 x p xs pos' ifs0 scope pos heq
      cases heq
      obtain ⟨a1, a2⟩ := and2 hx
      obtain ⟨a3, a4⟩ := and2 a1
      obtain ⟨a5, a6⟩ := and2 a3
      obtain ⟨a7, a8⟩ := and2 a5
      obtain ⟨a9, a10⟩ := and2 a7
      obtain ⟨a11, a12⟩ := and2 a9
      exact ⟨elt', t0, _, ifs0, scope, pos, rfl, blkOk_by a11, a12, fun j hj => by simpa using List.all_eq_true.mp a10 j hj, a8, of_decide_eq_true a6, a4, a2⟩
    · rename_i heq
      cases heq
      obtain ⟨a1, a2⟩ := and2 hx
      obtain ⟨a3, a4⟩ := and2 a1
      obtain ⟨a5, a6⟩ := and2 a3
      obtain ⟨a7, a8⟩ := and2 a5
      obtain ⟨a9, a10⟩ := and2 a8
      exfalso
      rename_i i0 _ _ _ hn
      cases i0 <;> first | (cases a10; done) | skip
      rename_i f xs kws p
      cases f <;> first | (cases a10; done) | skip
      cases kws <;> first | (cases a10; done) | skip
      exact hn _ _ _ _ _ rfl rfl
  · unfold ckE at hx
    split at hx <;> first | (cases hx; done) | skip
    all_goals first | (rename_i h; cases h; done) | skip
    · rename_i heq
      cases heq
      exact absurd ⟨_, rfl⟩ hq
    · rename_i own' tg' src' cond' elt'' elt' t0 i0 ifs0 scope pos hn heq
      cases heq
      obtain ⟨a1, a2⟩ := and2 hx
      obtain ⟨a3, a4⟩ := and2 a1
      obtain ⟨a5, a6⟩ := and2 a3
      obtain ⟨a7, a8⟩ := and2 a5
      obtain ⟨a9, a10⟩ := and2 a7
      obtain ⟨a11, a12⟩ := and2 a9
      refine ⟨elt', t0, _, ifs0, scope, pos, rfl, blkOk_by a11, a12, fun j hj => by simpa using List.all_eq_true.mp a10 j hj, ?_, of_decide_eq_true a6, a4, a2⟩
      unfold ckI
      split
      · exact absurd ⟨_, rfl⟩ hq
      · exact a8
theorem LcOk.pe {X : Cx} {G : Ck} (O : XOk X G c) {own : List Nat} {tg : Tg} {src : E} {cond : List E} {elt : E} {elt' t0 i0 : Expr} {ifs0 : List Expr} {scope : Scope} (L : LcOk X G own tg src cond elt elt' t0 i0 ifs0 scope)
    (h1 : SE c src) (hr : ∀ es, src = .rng es → ∀ e ∈ es, SE c e) (h2 : ∀ e ∈ cond, SE c e) (h3 : SE c elt) :
    PI X t0 i0 (tI X.K (ev c src .i)) ∧ BlkOk X.N X.env.scope scope (ownN G.N own) ∧
    (∀ (s : Shared) (H : Hp) (C : Addr) (cl : List (Str × Addr)) (fp : List Addr), PG (X.blk s H scope (compEnvC scope cl C X.env) fp) t0 (gT X.K tg)) ∧
    (∀ (s : Shared) (H : Hp) (C : Addr) (cl : List (Str × Addr)) (fp : List Addr), PTs (X.blk s H scope (compEnvC scope cl C X.env) fp) ifs0 (tT X.K (evAnd c cond .t))) ∧
    (∀ (s : Shared) (H : Hp) (C : Addr) (cl : List (Str × Addr)) (fp : List Addr), PE (X.blk s H scope (compEnvC scope cl C X.env) fp) elt' (tD X.K fun env => match ev c elt .v env with | none => none | some (o, env) => toD env o)) := by
  have hk := L.blk.kind
  refine ⟨pi_of O h1 hr L.src t0, by rw [O.n, O.sc]; exact L.blk, fun s H C cl fp => pg_of (xok_blk O hk s H C cl fp) L.tgs, fun s H C cl fp => pts_of (xok_blk O hk s H C cl fp) h2 L.len L.cond, fun s H C cl fp => pe_frz (h3 _ _ (xok_blk O hk s H C cl fp) _ L.elt).1⟩
theorem LcOk.read {X : Cx} {G : Ck} {own : List Nat} {tg : Tg} {src : E} {cond : List E} {elt : E} {elt' t0 i0 : Expr} {ifs0 : List Expr} {scope : Scope} (L : LcOk X G own tg src cond elt elt' t0 i0 ifs0 scope)
    {σ : St} {H : Hp} {Q : VK} (h : tE X.K (ev c (.lc own tg src cond elt) .v) σ H Q) :
    tLc (tI X.K (ev c src .i)) (gT X.K tg) (tT X.K (evAnd c cond .t)) (tD X.K fun env => match ev c elt .v env with | none => none | some (o, env) => toD env o) ((ownN G.N own).map (·.2)) σ H Q := by
  obtain ⟨env, o, env', E, hf, q⟩ := h
  obtain ⟨xs, env1, ds, envF, e1, e2, hz, rfl, rfl⟩ := lc_inv hf
  rw [own_snd]
  exact ⟨env, xs, env1, E, e1, fun J H1 E1 t1 hJ => lc_read L.sub E1 t1 hJ e2 hz q⟩
theorem se_lc {own : List Nat} {tg : Tg} {src : E} {cond : List E} {elt : E} (h1 : SE c src) (hr : ∀ es, src = .rng es → ∀ e ∈ es, SE c e) (h2 : ∀ e ∈ cond, SE c e) (h3 : SE c elt) : SE c (.lc own tg src cond elt) := by
  refine se_of (fun _ => rfl) fun X G O x hx => ?_
  obtain ⟨elt', t0, i0, ifs0, scope, pos, rfl, L⟩ := lc_parts (X := X) hx
  obtain ⟨p1, p2, p3, p4, p5⟩ := L.pe O h1 hr h2 h3
  exact ⟨PE.imp (pe_lc O.calm O.nd p1 p2 p3 p4 p5 (fun x => nofold L.src X.env x)) fun σ H Q h => L.read h, fun _ => rfl⟩
/-! ### two clauses -/
theorem lc2_inv {own : List Nat} {tg : Tg} {src : E} {cond : List E} {vs1 : List Nat} {tg1 : Tg} {src1 : E} {cond1 : List E} {elt : E} {env : Env} {o : Opd} {env' : Env} (h : ev c (.lc2 own tg src cond vs1 tg1 src1 cond1 elt) .v env = some (o, env')) :
    ∃ xs env1 ds envF, ev c src .i env = some (.dat (.tup xs), env1) ∧ lcLoop2 (lc2F c own tg cond vs1 tg1 src1 cond1 elt) xs env1 = some (ds, envF) ∧ ds.length ≤ line ∧ o = .own (.lst ds) ∧ env' = backE env1 envF own := by
  simp only [ev, fin] at h
  cases e1 : ev c src .i env with
  | none => rw [e1] at h; cases h
  | some oe =>
    obtain ⟨so, env1⟩ := oe
    rw [e1] at h
    cases so with
    | dat d =>
      cases d with
      | tup xs =>
        have h' : (match lcLoop2 (lc2F c own tg cond vs1 tg1 src1 cond1 elt) xs env1 with
          | some (ds, env') => if ds.length ≤ line then some (Opd.own (.lst ds), backE env1 env' own) else none
          | none => none) = some (o, env') := h
        cases e2 : lcLoop2 (lc2F c own tg cond vs1 tg1 src1 cond1 elt) xs env1 with
        | none => rw [e2] at h'; cases h'
        | some de =>
          obtain ⟨ds, envF⟩ := de
          rw [e2] at h'
          simp only at h'
          by_cases hz : ds.length ≤ line
          · rw [if_pos hz] at h'
            cases h'
            exact ⟨xs, env1, ds, envF, rfl, e2, hz, rfl, rfl⟩
          · rw [if_neg hz] at h'; cases h'
      | _ => cases h
    | _ => cases h
theorem ckI_of {src : E} {G : Ck} {x : Expr} (h1 : isIteE src = false) (h2 : ckE src G x = true) : ckI src G x = true := by
  unfold ckI
  split
  · exact h2
  · rw [h1, h2]; rfl
/-- the pieces of a comprehension of two clauses -/
structure Lc2Ok (X : Cx) (G : Ck) (own : List Nat) (tg : Tg) (src : E) (cond : List E) (vs1 : List Nat) (tg1 : Tg) (src1 : E) (cond1 : List E) (elt : E) (elt' t0 i0 t1 i1 : Expr) (ifs0 ifs1 : List Expr) (scope : Scope) : Prop where
  blk : BlkOk G.N G.sc scope (ownN G.N own)
  tgs : ckTg (G.blk scope) tg t0 = true
  sub : ∀ j ∈ tg.is, j ∈ own
  tgs1 : ckTg (G.blk scope) tg1 t1 = true
  sub1 : ∀ j ∈ tg1.is, j ∈ vs1
  vs : ∀ j ∈ vs1, j ∈ own
  src : ckI src G i0 = true
  src1 : ckI src1 (G.blk scope) i1 = true
  len : cond.length ≤ 1
  len1 : cond1.length ≤ 1
  cond : ckEs cond (G.blk scope) ifs0 = true
  cond1 : ckEs cond1 (G.blk scope) ifs1 = true
  elt : ckE elt (G.blk scope) elt' = true
theorem lc2_parts {X : Cx} {G : Ck} {own : List Nat} {tg : Tg} {src : E} {cond : List E} {vs1 : List Nat} {tg1 : Tg} {src1 : E} {cond1 : List E} {elt : E} {x : Expr} (hx : ckE (.lc2 own tg src cond vs1 tg1 src1 cond1 elt) G x = true) :
    ∃ elt' t0 i0 ifs0 t1 i1 ifs1 scope pos, x = .ListComp elt' [⟨t0, i0, ifs0, 0⟩, ⟨t1, i1, ifs1, 0⟩] scope pos ∧ Lc2Ok X G own tg src cond vs1 tg1 src1 cond1 elt elt' t0 i0 t1 i1 ifs0 ifs1 scope := by
  unfold ckE at hx
  split at hx <;> first | (cases hx; done) | skip
  all_goals first | (rename_i h; cases h; done) | skip
  rename_i heq
  cases heq
  simp only [Bool.and_eq_true, decide_eq_true_eq, Bool.not_eq_true', List.all_eq_true, List.contains_iff_mem] at hx
  obtain ⟨⟨⟨⟨⟨⟨⟨⟨⟨⟨⟨⟨a1, a2⟩, a3⟩, a4⟩, a5⟩, a6⟩, a7, a8⟩, a9, a10⟩, a11⟩, a12⟩, a13⟩, a14⟩, a15⟩ := hx
  exact ⟨_, _, _, _, _, _, _, _, _, rfl, blkOk_by a1, a2, a3, a4, a5, a6, ckI_of a7 a8, ckI_of a9 a10, a11, a12, a13, a14, a15⟩
theorem Lc2Ok.pe {X : Cx} {G : Ck} (O : XOk X G c) {own : List Nat} {tg : Tg} {src : E} {cond : List E} {vs1 : List Nat} {tg1 : Tg} {src1 : E} {cond1 : List E} {elt : E} {elt' t0 i0 t1 i1 : Expr} {ifs0 ifs1 : List Expr} {scope : Scope} (L : Lc2Ok X G own tg src cond vs1 tg1 src1 cond1 elt elt' t0 i0 t1 i1 ifs0 ifs1 scope)
    (h1 : SE c src) (hr : ∀ es, src = .rng es → ∀ e ∈ es, SE c e) (h2 : ∀ e ∈ cond, SE c e) (k1 : SE c src1) (kr : ∀ es, src1 = .rng es → ∀ e ∈ es, SE c e) (k2 : ∀ e ∈ cond1, SE c e) (h3 : SE c elt) :
    PI X t0 i0 (tI X.K (ev c src .i)) ∧ BlkOk X.N X.env.scope scope (ownN G.N own) ∧ (∀ i ∈ vs1, i ∈ (ownN G.N own).map (·.2)) ∧
    (∀ (s : Shared) (H : Hp) (C : Addr) (cl : List (Str × Addr)) (fp : List Addr), PG (X.blk s H scope (compEnvC scope cl C X.env) fp) t0 (gT X.K tg)) ∧ (∀ (s : Shared) (H : Hp) (C : Addr) (cl : List (Str × Addr)) (fp : List Addr), PTs (X.blk s H scope (compEnvC scope cl C X.env) fp) ifs0 (tT X.K (evAnd c cond .t))) ∧ (∀ (s : Shared) (H : Hp) (C : Addr) (cl : List (Str × Addr)) (fp : List Addr), PI (X.blk s H scope (compEnvC scope cl C X.env) fp) t1 i1 (tI X.K (ev c src1 .i))) ∧ (∀ (s : Shared) (H : Hp) (C : Addr) (cl : List (Str × Addr)) (fp : List Addr), PG (X.blk s H scope (compEnvC scope cl C X.env) fp) t1 (gT X.K tg1)) ∧ (∀ (s : Shared) (H : Hp) (C : Addr) (cl : List (Str × Addr)) (fp : List Addr), PTs (X.blk s H scope (compEnvC scope cl C X.env) fp) ifs1 (tT X.K (evAnd c cond1 .t))) ∧
    (∀ (s : Shared) (H : Hp) (C : Addr) (cl : List (Str × Addr)) (fp : List Addr), PE (X.blk s H scope (compEnvC scope cl C X.env) fp) elt' (tD X.K fun env => match ev c elt .v env with | none => none | some (o, env) => toD env o)) := by
  have hk := L.blk.kind
  exact ⟨pi_of O h1 hr L.src t0, by rw [O.n, O.sc]; exact L.blk, by rw [own_snd]; exact L.vs, fun s H C cl fp => pg_of (xok_blk O hk s H C cl fp) L.tgs, fun s H C cl fp => pts_of (xok_blk O hk s H C cl fp) h2 L.len L.cond,
    fun s H C cl fp => pi_of (xok_blk O hk s H C cl fp) k1 kr L.src1 t1, fun s H C cl fp => pg_of (xok_blk O hk s H C cl fp) L.tgs1, fun s H C cl fp => pts_of (xok_blk O hk s H C cl fp) k2 L.len1 L.cond1, fun s H C cl fp => pe_frz (h3 _ _ (xok_blk O hk s H C cl fp) _ L.elt).1⟩
theorem Lc2Ok.read {X : Cx} {G : Ck} {own : List Nat} {tg : Tg} {src : E} {cond : List E} {vs1 : List Nat} {tg1 : Tg} {src1 : E} {cond1 : List E} {elt : E} {elt' t0 i0 t1 i1 : Expr} {ifs0 ifs1 : List Expr} {scope : Scope} (L : Lc2Ok X G own tg src cond vs1 tg1 src1 cond1 elt elt' t0 i0 t1 i1 ifs0 ifs1 scope)
    {σ : St} {H : Hp} {Q : VK} (h : tE X.K (ev c (.lc2 own tg src cond vs1 tg1 src1 cond1 elt) .v) σ H Q) :
    tLc2 (tI X.K (ev c src .i)) (gT X.K tg) (tT X.K (evAnd c cond .t)) (tI X.K (ev c src1 .i)) (gT X.K tg1) (tT X.K (evAnd c cond1 .t)) (tD X.K fun env => match ev c elt .v env with | none => none | some (o, env) => toD env o) ((ownN G.N own).map (·.2)) vs1 σ H Q := by
  obtain ⟨env, o, env', E, hf, q⟩ := h
  obtain ⟨xs, env1, ds, envF, e1, e2, hz, rfl, rfl⟩ := lc2_inv hf
  rw [own_snd]
  exact ⟨env, xs, env1, E, e1, fun J H1 E1 t1 hJ => lc2_read L.sub L.sub1 L.vs E1 t1 hJ e2 hz q⟩
theorem se_lc2 {own : List Nat} {tg : Tg} {src : E} {cond : List E} {vs1 : List Nat} {tg1 : Tg} {src1 : E} {cond1 : List E} {elt : E} (h1 : SE c src) (hr : ∀ es, src = .rng es → ∀ e ∈ es, SE c e) (h2 : ∀ e ∈ cond, SE c e)
    (k1 : SE c src1) (kr : ∀ es, src1 = .rng es → ∀ e ∈ es, SE c e) (k2 : ∀ e ∈ cond1, SE c e) (h3 : SE c elt) : SE c (.lc2 own tg src cond vs1 tg1 src1 cond1 elt) := by
  refine se_of (fun _ => rfl) fun X G O x hx => ?_
  obtain ⟨elt', t0, i0, ifs0, t1, i1, ifs1, scope, pos, rfl, L⟩ := lc2_parts (X := X) hx
  obtain ⟨p1, p2, p3, p4, p5, p6, p7, p8, p9⟩ := L.pe O h1 hr h2 k1 kr k2 h3
  exact ⟨PE.imp (pe_lc2 O.calm O.nd p1 p2 p3 p4 p5 p6 p7 p8 p9 (fun x => nofold L.src X.env x) (fun env x => nofold L.src1 env x)) fun σ H Q h => L.read h, fun _ => rfl⟩
/-! ### all -/
theorem se_rng {es : List E} : SE c (.rng es) := fun X G O x hx => ⟨⟨fun pins s σ H Q I ⟨env, o, env', E, hf, q⟩ => by simp [ev] at hf⟩, ⟨fun pins s σ H Q I ⟨env, o, env', E, hf, q⟩ => by simp [ev] at hf⟩⟩
def SE2 (c : Cl) (e : E) : Prop := SE c e ∧ ∀ es, e = .rng es → ∀ e' ∈ es, SE c e'
mutual
theorem se2 : ∀ e : E, SE2 c e
  | .var i => ⟨se_var i, fun _ h => nomatch h⟩
  | .int i => ⟨se_int i, fun _ h => nomatch h⟩
  | .bl b => ⟨se_bl b, fun _ h => nomatch h⟩
  | .non => ⟨se_non, fun _ h => nomatch h⟩
  | .str s => ⟨se_str s, fun _ h => nomatch h⟩
  | .tup es => ⟨se_tup (ses es), fun _ h => nomatch h⟩
  | .lst es => ⟨se_lst (ses es), fun _ h => nomatch h⟩
  | .bin op a b => ⟨se_bin (se2 a).1 (se2 b).1, fun _ h => nomatch h⟩
  | .neg a => ⟨se_neg (se2 a).1, fun _ h => nomatch h⟩
  | .not a => ⟨se_not (se2 a).1, fun _ h => nomatch h⟩
  | .cmp op a b => ⟨se_cmp (se2 a).1 (se2 b).1, fun _ h => nomatch h⟩
  | .chain op op2 a b d => ⟨se_chain (se2 a).1 (se2 b).1 (se2 d).1, fun _ h => nomatch h⟩
  | .and es => ⟨se_and (ses es), fun _ h => nomatch h⟩
  | .or es => ⟨se_or (ses es), fun _ h => nomatch h⟩
  | .ite t a b => ⟨se_ite (se2 t).1 (se2 a).1 (se2 b).1, fun _ h => nomatch h⟩
  | .idx a i => ⟨se_idx (se2 a).1 (se2 i).1, fun _ h => nomatch h⟩
  | .slc a lo hi => ⟨se_slc (se2 a).1 (se2 lo).1 (se2 hi).1, fun _ h => nomatch h⟩
  | .rev a => ⟨se_rev (se2 a).1, fun _ h => nomatch h⟩
  | .call f es => ⟨se_call (ses es), fun _ h => nomatch h⟩
  | .blt b es => ⟨se_blt (ses es), fun _ h => nomatch h⟩
  | .isi a t => ⟨se_isi (se2 a).1, fun _ h => nomatch h⟩
  | .mut m i es => ⟨se_mut (ses es), fun _ h => nomatch h⟩
  | .mth m a es => ⟨se_mth (se2 a).1 (ses es), fun _ h => nomatch h⟩
  | .lc own tg src cond elt => ⟨se_lc (se2 src).1 (se2 src).2 (ses cond) (se2 elt).1, fun _ h => nomatch h⟩
  | .lc2 own tg src cond vs1 tg1 src1 cond1 elt => ⟨se_lc2 (se2 src).1 (se2 src).2 (ses cond) (se2 src1).1 (se2 src1).2 (ses cond1) (se2 elt).1, fun _ h => nomatch h⟩
  | .sdsp a => ⟨se_sdsp (se2 a).1, fun _ h => nomatch h⟩
  | .dget a k x => ⟨se_dget (se2 a).1 (se2 k).1 (se2 x).1, fun _ h => nomatch h⟩
  | .dpop i k x => ⟨se_dpop (se2 k).1 (se2 x).1, fun _ h => nomatch h⟩
  | .dnew => ⟨se_dnew, fun _ h => nomatch h⟩
  | .dsp1 k v => ⟨se_dsp1 (se2 k).1 (se2 v).1, fun _ h => nomatch h⟩
  | .lrng t es => ⟨se_lrng (ses es), fun _ h => nomatch h⟩
  | .sset a => ⟨se_sset (se2 a).1, fun _ h => nomatch h⟩
  | .rng es => ⟨se_rng, fun es' h => by cases h; exact ses es⟩
theorem ses : ∀ es : List E, ∀ e ∈ es, SE c e
  | [] => fun e h => nomatch h
  | e :: es => List.forall_mem_cons.mpr ⟨(se2 e).1, ses es⟩
end
theorem se (e : E) : SE c e := (se2 e).1
end
end PF
/-! PF12: statements. -/
namespace PF
open PySem PySem.Spec PyProof.Rows L2

def isTupL : Expr → Bool
  | .Tuple vs _ _ => !vs.all (foldedForSure 8)
  | .List _ _ => true
  | _ => false
def isComp : Expr → Bool
  | .ListComp _ _ _ _ => true | .SetComp _ _ _ _ => true | .DictComp _ _ _ _ _ => true | _ => false
/-- stores that are not swapped: more than three, or one to a name that is not plainly local -/
def noSw (G : Ck) (ts : List Expr) : Bool := decide (3 < ts.length) || ts.any fun | .Name x _ => !decide (G.sc.names.lookup x = some .local) | _ => false
/-- the name of an except clause -/
def ckN (G : Ck) : Option Nat → Option Str → Bool
  | none, none => true
  | some i, some n => decide (G.N[i]? = some n) && decide (G.sc.names.lookup n = some .local) && !(n == ("__debug__" : Str)) && !(n == ("__classdict__" : Str))
  | _, _ => false
/-- a class's name, and isinstance's answers -/
def ckC (G : Ck) (all : List Str) (y : Str) (yes : List Str) : Bool :=
  gbOk G y && ((G.xn.contains y && all.all fun g => G.xs.contains (.isn g y (yes.contains g))) || (decide (y = "ValueError") && G.bn.contains y && all.all fun g => G.xs.contains (.isb g (yes.contains g))))
def namesOf : List Expr → Option (List Str)
  | [] => some []
  | .Name y _ :: r => (namesOf r).map (y :: ·)
  | _ :: _ => none
/-- a test of the caught error -/
def ckT1 (G : Ck) (all : List Str) (n : Str) (src yes : List Str) : Expr → Bool
  | .Call (.Name x _) [.Name m _, .Name y _] [] _ => decide (x = "isinstance") && blOk G x && decide (m = n) && decide (src = [y]) && ckC G all y yes
  | .Call (.Name x _) [.Name m _, .Tuple ys _ _] [] _ => decide (x = "isinstance") && blOk G x && decide (m = n) && decide (namesOf ys = some src) && decide (src.length ≤ 100) && decide (yes = []) && src.all fun y => gbOk G y && G.xn.contains y && all.all fun g => G.xs.contains (.isn g y false)
  | _ => false
def ckT (G : Ck) (all : List Str) (n : Str) : Bool × List Str × List Str → Expr → Bool
  | (true, src, yes), x => ckT1 G all n src yes x
  | (false, src, yes), .UnaryOp .Not x _ => ckT1 G all n src yes x
  | _, _ => false
def ckTl (G : Ck) (all : List Str) (n : Str) : List (Bool × List Str × List Str) → List Expr → Bool
  | [], [] => true
  | t :: ts, x :: xs => ckT G all n t x && ckTl G all n ts xs
  | _, _ => false
/-- the suite of an except clause -/
def ckH : Hd → Ck → List Str → Option Str → List Stmt → Bool
  | .ret b, _, _, _, [.Return (some (.Constant (.bool c) _ _)) _] => decide (b = c)
  | .tests false ts, G, all, some n, [.Return (some (.BoolOp .And xs _)) _] => !ts.isEmpty && ckTl G all n ts xs
  | .tests true ts, G, all, some n, [.If (.BoolOp .And xs _) [.Return (some (.Constant (.bool true) _ _)) _] [] _, .Return (some (.Constant .none _ _)) _] => !ts.isEmpty && ckTl G all n ts xs
  | _, _, _, _, _ => false
mutual
def ckS : S → Ck → List Nat → Stmt → Bool
  | .set i e, G, kp, .Assign [.Name x _] v _ => stOk G i x && !kp.contains i && ckE e G v
  | .unp is e, G, kp, .Assign [.Tuple ts _ _] v _ => ckTs G is ts && (is.all fun i => !kp.contains i) && (!isTupL v || noSw G ts) && ckE e G v
  | .par i j a b, G, kp, .Assign [.Tuple [.Name x px, .Name y py] _ _] (.Tuple [a', b'] _ _) _ => decide (G.N[i]? = some x) && decide (G.N[j]? = some y) && decide (i ≠ j) && !kp.contains i && !kp.contains j && decide (G.sc.names.lookup x = some .local) && decide (G.sc.names.lookup y = some .local) &&
      (px.line == py.line) && decide (x ≠ y) && !([a', b'].all (foldedForSure 8)) && !([a', b'].all (constantsAlone 8)) && ckE a G a' && ckE b G b'
  | .sub i ix e, G, _, .Assign [.Subscript (.Name x _) ix' _] v _ => ldOk G i x && ckE ix G ix' && ckE e G v
  | .sub2 i ix jx e, G, _, .Assign [.Tuple [.Subscript (.Name x _) ix' _, .Subscript (.Name y _) jx' _] _ _] v _ => ldOk G i x && ldOk G i y && ckE ix G ix' && ckE jx G jx' && ckE e G v && !isComp v
  | .aug op i e, G, kp, .AugAssign (.Name x _) o v _ => stOk G i x && !kp.contains i && decide (op.py = o) && (decide (op = .add) || decide (op = .sub)) && ckE e G v
  | .expr e, G, _, .Expr v _ => ckE e G v && !isComp v
  | .ret e, G, _, .Return (some v) _ => ckE e G v
  | .ret .non, _, _, .Return none _ => true
  | .ite t a b, G, kp, .If t' a' b' _ => ckE t G t' && ckSs a G kp a' && ckSs b G kp b'
  | .whl t b, G, kp, .While t' b' [] _ => ckE t G t' && ckSs b G kp b'
  | .for tg src b, G, kp, .For tg' src' b' [] _ => ckTg G tg tg' && (tg.is.all fun i => !kp.contains i) && ckI src G src' && ckSs b G kp b'
  | .brk, _, _, .Break _ => true
  | .pass, _, _, .Pass _ => true
  | .stop, _, _, .Raise _ _ _ => true
  | .raise f, G, _, .Raise (some (.Call (.Name x _) [.Constant (.str _) _ _] [] _)) none _ => decide (x = f) && gbOk G x && G.xn.contains f && G.xs.contains (.exc f)
  | .tryc f es x all yes a h, G, _, .Try [.Expr (.Call (.Name f' _) xs [] _) _] [.ExceptHandler (some (.Name x' _)) n suite _] [] [] _ =>
    decide (f' = f) && gbOk G f' && G.fns.contains (f, es.length) && !es.isEmpty && ckEs es G xs && decide (x' = x) && gbOk G x' && G.xn.contains x && (all.all fun g => G.xs.contains (.exc g) && G.xs.contains (.exm g x (yes.contains g))) && ckN G a n && ckH h G all n suite
  | _, _, _, _ => false
def ckSs : List S → Ck → List Nat → List Stmt → Bool
  | [], _, _, [] => true
  | s :: ss, G, kp, t :: ts => ckS s G kp t && ckSs ss G kp ts
  | _, _, _, _ => false
end

structure PoS (K : PySem.W.Frag) (kp : List Nat) (σ : St) (H : Hp) (env : Env) (σ' : St) (H' : Hp) (env' : Env) : Prop where
  e : EnvR K H' σ' env'
  t : Tr σ H env σ' H' env'
  k : ∀ j ∈ kp, σ'[j]? = σ[j]?
/-- what an error of a class wants -/
def XW (X : Cx) (f : Str) (H' : Hp) : Prop := ∀ u s', XE X (fun cls d _ H1 => cls = xvl X.K f ∧ d = none ∧ H1 = H') u s' → X.xe u s'
def W0 (X : Cx) : WX := fun cls d _ H => ∃ f, cls = xvl X.K f ∧ d = none ∧ XW X f H
theorem takes_W0 {X : Cx} : Takes X (W0 X) := fun u s' ⟨a, B, sI, pins, σ, H, cls, d, e, I, nb, up, sky, na, os, ag, f, h1, h2, h3⟩ =>
  h3 u s' ⟨a, B, sI, pins, σ, H, cls, d, e, I, nb, up, sky, na, os, ag, h1, h2, rfl⟩
/-- the frame of a def's body -/
def XTop (X : Cx) : Prop := X.stack = X.env :: X.outer ∧ X.env.frame = some X.env.locals
/-- a block's ends -/
def EndR (X : Cx) (kp : List Nat) (σ : St) (H : Hp) (env : Env) (D : Ends) : R → Prop
  | .nx env' => ∀ σ' H', PoS X.K kp σ H env σ' H' env' → D.nx σ' H'
  | .brk env' => ∀ σ' H', PoS X.K kp σ H env σ' H' env' → D.bk σ' H'
  | .ret o env' => ∀ v σ' H', PoS X.K kp σ H env σ' H' env' → OpdR X.K H' σ' env' o v → (∀ d p, o = .own d → v = .ref p → H p = none ∨ OwnA env σ p) → D.rt v H'
  | .exc f env' => ∀ σ' H', PoS X.K kp σ H env σ' H' env' → XW X f H'
def tS (X : Cx) (kp : List Nat) (f : Env → Option R) : TS := fun D σ H => ∃ env r, EnvR X.K H σ env ∧ f env = some r ∧ EndR X kp σ H env D r
theorem PoS.trans {K : PySem.W.Frag} {kp : List Nat} {σ σ1 σ2 : St} {H H1 H2 : Hp} {env env1 env2 : Env} (a : PoS K kp σ H env σ1 H1 env1) (b : PoS K kp σ1 H1 env1 σ2 H2 env2) : PoS K kp σ H env σ2 H2 env2 :=
  ⟨b.e, a.t.trans b.t, fun j hj => (b.k j hj).trans (a.k j hj)⟩
theorem PoS.refl {K : PySem.W.Frag} {kp : List Nat} {σ : St} {H : Hp} {env : Env} (E : EnvR K H σ env) : PoS K kp σ H env σ H env := ⟨E, .refl, fun _ _ => rfl⟩
theorem PoS.ex {K : PySem.W.Frag} {kp : List Nat} {σ : St} {H H' : Hp} {env env' : Env} (E : EnvR K H' σ env') (t : Tr σ H env σ H' env') : PoS K kp σ H env σ H' env' := ⟨E, t, fun _ _ => rfl⟩
/-- what is shown of a statement -/
def SS (c : Cl) (W : Nat) (s : S) : Prop := ∀ X G kp, XTop X → XOk X G c → ∀ x, ckS s G kp x = true → PS X x (tS X kp (ex c W s))
def SSs (c : Cl) (W : Nat) (ss : List S) : Prop := ∀ X G kp, XTop X → XOk X G c → ∀ xs, ckSs ss G kp xs = true → PSs X xs (tS X kp (exs c W ss))
section
variable {c : Cl} {W : Nat}
theorem sss_nil : SSs c W [] := fun X G kp T O xs hx => by
  cases xs with
  | cons x xs => cases hx
  | nil =>
    refine PSs.imp pss_nil fun D σ H ⟨env, r, E, hf, q⟩ => ?_
    cases hf
    exact q σ H (.refl E)
theorem sss_cons {s : S} {ss : List S} (h1 : SS c W s) (h2 : SSs c W ss) : SSs c W (s :: ss) := fun X G kp T O xs hx => by
  cases xs with
  | nil => cases hx
  | cons x xs =>
    obtain ⟨k1, k2⟩ := and2 (show (ckS s G kp x && ckSs ss G kp xs) = true from hx)
    refine PSs.imp (pss_cons (h1 X G kp T O x k1) (h2 X G kp T O xs k2)) fun D σ H ⟨env, r, E, hf, q⟩ => ?_
    simp only [exs] at hf
    cases e1 : ex c W s env with
    | none => rw [e1] at hf; cases hf
    | some r1 =>
      rw [e1] at hf
      cases r1 with
      | nx env1 =>
        refine ⟨env, .nx env1, E, e1, fun σ1 H1 p1 => ⟨env1, r, p1.e, hf, ?_⟩⟩
        cases r with
        | nx env2 => exact fun σ2 H2 p2 => q σ2 H2 (p1.trans p2)
        | brk env2 => exact fun σ2 H2 p2 => q σ2 H2 (p1.trans p2)
        | exc f env2 => exact fun σ2 H2 p2 => q σ2 H2 (p1.trans p2)
        | ret o env2 =>
          intro v σ2 H2 p2 r n
          refine q v σ2 H2 (p1.trans p2) r fun d p e1 e2 => ?_
          rcases n d p e1 e2 with z | z
          · exact p1.t.fresh z
          · exact (p1.t.s p z).symm
      | brk env1 =>
        cases hf
        exact ⟨env, _, E, e1, q⟩
      | ret o env1 =>
        cases hf
        exact ⟨env, _, E, e1, q⟩
      | exc f env1 =>
        cases hf
        exact ⟨env, _, E, e1, q⟩
/-- an operand stored at a name -/
theorem store_end {K : PySem.W.Frag} {kp : List Nat} {σ : St} {H H1 : Hp} {env env1 env2 : Env} {o : Opd} {v : V} {i : Nat} (hk : kp.contains i = false) (p : Po K σ H env o env1 v H1) (hs : store env1 i o = some env2) (ho : ∀ j, o ≠ .slot j) :
    PoS K kp σ H env (σ.set i (some v)) H1 env2 := by
  have hk' : ∀ j ∈ kp, j ≠ i := fun j hj z => by
    subst z
    rw [List.contains_iff_mem.mpr hj] at hk
    cases hk
  have main : ∀ {s : Slot}, SlotR K H1 s (some v) → (∀ d q, s = .own d → v = .ref q → ¬ OwnA env1 σ q ∧ (H q = none ∨ OwnA env σ q)) → PoS K kp σ H env (σ.set i (some v)) H1 (env1.set i s) := by
    intro s hr hn
    have get : ∀ {j : Nat} {sl : Slot}, (env1.set i s)[j]? = some sl → (j = i ∧ sl = s ∧ i < σ.length) ∨ (j ≠ i ∧ env1[j]? = some sl) := fun {j sl} e => by
      by_cases hj : i = j
      · subst hj
        rw [List.getElem?_set_self'] at e
        cases hh : env1[i]? with
        | none => rw [hh] at e; cases e
        | some w =>
          rw [hh] at e; cases e
          exact .inl ⟨rfl, rfl, by rw [← p.e.len]; exact (List.getElem?_eq_some_iff.mp hh).1⟩
      · rw [List.getElem?_set_ne hj] at e
        exact .inr ⟨Ne.symm hj, e⟩
    have own : ∀ q, OwnA (env1.set i s) (σ.set i (some v)) q → (∃ d, s = .own d ∧ v = .ref q) ∨ OwnA env1 σ q := fun q ⟨j, d, h1, h2⟩ => by
      rcases get h1 with ⟨rfl, e, hl⟩ | ⟨hj, e⟩
      · rw [List.getElem?_set_self hl] at h2
        cases h2
        exact .inl ⟨d, e.symm, rfl⟩
      · rw [List.getElem?_set_ne (Ne.symm hj)] at h2
        exact .inr ⟨j, d, e, h2⟩
    refine ⟨⟨by rw [List.length_set, List.length_set]; exact p.e.len, fun j sl e => ?_, fun j l a b q h1 h2 h3 h4 => ?_⟩, ⟨p.t.f, fun q z => ?_⟩, fun j hj => by rw [List.getElem?_set_ne (Ne.symm (hk' j hj))]⟩
    · rcases get e with ⟨rfl, rfl, hl⟩ | ⟨hj, e⟩
      · exact ⟨some v, by rw [List.getElem?_set_self hl], hr⟩
      · rw [List.getElem?_set_ne (Ne.symm hj)]
        exact p.e.sl j sl e
    · rcases get h1 with ⟨rfl, e, hl⟩ | ⟨hj, e⟩
      · rw [List.getElem?_set_self hl] at h3
        cases h3
        rcases get h2 with ⟨rfl, e', _⟩ | ⟨hj', e'⟩
        · rfl
        · rw [List.getElem?_set_ne (Ne.symm hj')] at h4
          exact ((hn a q e.symm rfl).1 ⟨l, b, e', h4⟩).elim
      · rw [List.getElem?_set_ne (Ne.symm hj)] at h3
        rcases get h2 with ⟨rfl, e', hl⟩ | ⟨hj', e'⟩
        · rw [List.getElem?_set_self hl] at h4
          cases h4
          exact ((hn b q e'.symm rfl).1 ⟨j, a, e, h3⟩).elim
        · rw [List.getElem?_set_ne (Ne.symm hj')] at h4
          exact p.e.dj j l a b q e e' h3 h4
    · rcases own q z with ⟨d, e1, e2⟩ | z
      · exact (hn d q e1 e2).2.symm
      · exact p.t.s q z
  cases o with
  | dat d => cases hs; exact main ⟨v, rfl, p.r⟩ fun d q z => nomatch z
  | own d =>
    cases hs
    obtain ⟨q, e, oa, no⟩ := p.r
    subst e
    exact main ⟨q, rfl, oa⟩ fun d' q' e1 e2 => by
      cases e2
      exact ⟨no, p.n d q rfl rfl⟩
  | slot j => exact (ho j rfl).elim
/-- an expression whose value is taken: an owned name's list is kept as it is -/
def takeO (env : Env) : Opd → Option (Opd × Env)
  | .slot j => match look env j with | .own (.lst xs) => some (.dat (.lst xs), env.set j (.val (.lst xs))) | .own (.dct ks vs) => some (.dat (.dct ks vs), env.set j (.val (.dct ks vs))) | _ => none
  | o => some (o, env)
theorem pe_take {X : Cx} {e : Expr} {f : Ev} (h : PE X e (tE X.K f)) : PE X e (tE X.K fun env => match f env with | none => none | some (o, env) => takeO env o) := by
  refine ⟨fun pins s σ H Q I hw => ?_⟩
  obtain ⟨env, o, env', E, hf, q⟩ := hw
  dsimp only at hf
  cases hfe : f env with
  | none => rw [hfe] at hf; cases hf
  | some oe =>
    obtain ⟨o1, env1⟩ := oe
    rw [hfe] at hf
    have hf : takeO env1 o1 = some (o, env') := hf
    cases o1 with
    | dat d => cases hf; exact h.run pins s σ H Q I ⟨env, _, _, E, hfe, q⟩
    | own d => cases hf; exact h.run pins s σ H Q I ⟨env, _, _, E, hfe, q⟩
    | slot j =>
      cases hl : look env1 j with
      | own d0 =>
        cases d0 with
        | lst xs =>
          simp only [takeO, hl] at hf
          cases hf
          exact (pe_frz h).run pins s σ H Q I ⟨env, .lst xs, _, E, by simp only [hfe, toD, hl], fun v H' E' t' r => q v H' (po_dat E' t' r)⟩
        | dct ks ws =>
          simp only [takeO, hl] at hf
          cases hf
          exact (pe_frz h).run pins s σ H Q I ⟨env, .dct ks ws, _, E, by simp only [hfe, toD, hl], fun v H' E' t' r => q v H' (po_dat E' t' r)⟩
        | _ => simp [takeO, hl] at hf
      | un => simp [takeO, hl] at hf
      | val d0 => simp [takeO, hl] at hf
theorem set_inv {i : Nat} {e : E} {env : Env} {r : R} (h : ex c W (.set i e) env = some r) : ∃ o env1 env2, (match ev c e .v env with | none => none | some (o, env) => takeO env o) = some (o, env1) ∧ store env1 i o = some env2 ∧ r = .nx env2 ∧ ∀ j, o ≠ .slot j := by
  simp only [ex] at h
  cases e1 : ev c e .v env with
  | none => rw [e1] at h; cases h
  | some oe =>
    obtain ⟨o, env1⟩ := oe
    rw [e1] at h
    simp only at h
    cases o with
    | dat d => simp only [store] at h; cases h; exact ⟨.dat d, env1, _, rfl, rfl, rfl, fun _ z => nomatch z⟩
    | own d => simp only [store] at h; cases h; exact ⟨.own d, env1, _, rfl, rfl, rfl, fun _ z => nomatch z⟩
    | slot j =>
      cases hl : look env1 j with
      | own d0 =>
        cases d0 with
        | lst xs =>
          simp only [store, hl] at h
          cases h
          exact ⟨.dat (.lst xs), env1.set j (.val (.lst xs)), _, by simp only [takeO, hl], rfl, rfl, fun _ z => nomatch z⟩
        | dct ks ws =>
          simp only [store, hl] at h
          cases h
          exact ⟨.dat (.dct ks ws), env1.set j (.val (.dct ks ws)), _, by simp only [takeO, hl], rfl, rfl, fun _ z => nomatch z⟩
        | _ => simp [store, hl] at h
      | un => simp [store, hl] at h
      | val d0 => simp [store, hl] at h
theorem loc_of {X : Cx} {G : Ck} (O : XOk X G c) {i : Nat} {x : Str} (h : stOk G i x = true) : X.N[i]? = some x ∧ L2.Loc X.env.scope x ∧ (X.fn x = true ∨ X.env.scope.names.lookup x = some .local) := by
  obtain ⟨k1, k2⟩ := and2 h
  refine ⟨by rw [O.n]; exact of_decide_eq_true k1, ?_⟩
  unfold L2.Loc
  rw [O.sc]
  unfold locB at k2
  split at k2
  · rename_i e; exact ⟨.inl e, .inr e⟩
  · rename_i e; exact ⟨.inr e, .inl (O.fn x k2)⟩
  · cases k2
theorem nocomp {e : E} {G : Ck} {x : Expr} (h : ckE e G x = true) : (∃ elt gs sc pos, x = .ListComp elt gs sc pos) ∨ (isComp x = false) := by
  cases x <;> first | exact .inr rfl | exact .inl ⟨_, _, _, _, rfl⟩ | (exfalso; cases e <;> first | (cases h; done) | (rename_i src _ _; cases src <;> cases h))
theorem sw_none {x : Expr} {t : Option Expr} {l : Nat} {env : PySem.Env} (h : isComp x = false) : swapsWith x t l env = pure false := by
  cases x <;> first | rfl | cases h
theorem ss_set {i : Nat} {e : E} : SS c W (.set i e) := fun X G kp T O x hx => by
  cases x <;> first | (cases hx; done) | skip
  rename_i ts v pos
  match ts, hx with
  | [.Name x p], hx =>
    obtain ⟨k1, k2⟩ := and2 (show (stOk G i x && !kp.contains i && ckE e G v) = true from hx)
    obtain ⟨k3, k4⟩ := and2 k1
    have hk : kp.contains i = false := by simpa using k4
    obtain ⟨n1, n2, n3⟩ := loc_of O k3
    have fin : ∀ {D : Ends} {σ : St} {H : Hp}, tS X kp (ex c W (.set i e)) D σ H → tAsg (tE X.K fun env => match ev c e .v env with | none => none | some (o, env) => takeO env o) (gName i) D σ H := by
      rintro D σ H ⟨env, r, E, hf, q⟩
      obtain ⟨o, env1, env2, e1, e2, rfl, ho⟩ := set_inv hf
      exact ⟨env, o, env1, E, e1, fun v H1 p1 => q _ H1 (store_end hk p1 e2 ho)⟩
    rcases nocomp k2 with ⟨elt, gs, sc, cpos, rfl⟩ | hc
    · have hsw : ∃ b, swapsWith (.ListComp elt gs sc cpos) (some (.Name x p)) pos.line X.env = pure b ∧ (b = true → X.env.scope.names.lookup x = some .local) := by
        refine ⟨X.env.blockKind == .function && X.env.kindOf x == some .local && p.line == cpos.line && !(sc.names.any fun (n, k) => n == x && (k == .local || k == .cell)), rfl, fun h => ?_⟩
        simp only [Bool.and_eq_true, beq_iff_eq] at h
        exact h.1.1.2
      obtain ⟨b, hb, hl⟩ := hsw
      cases b with
      | false => exact PS.imp (ps_set O.nd n1 n2 (pe_take (se e X G O _ k2).1) hb n3) fun D σ H h => fin h
      | true =>
        cases e with
        | lc own tg src cond elt0 =>
          obtain ⟨elt', t0, i0, ifs0, scope, pos', hxe, L⟩ := lc_parts (X := X) k2
          cases hxe
          obtain ⟨p1, p2, p3, p4, p5⟩ := L.pe O (se2 src).1 (se2 src).2 (ses cond) (se2 elt0).1
          refine PS.imp (ps_setLc O.calm O.nd n1 (hl rfl) hb p1 p2 p3 p4 p5 (fun x => nofold L.src X.env x)) fun D σ H ⟨env, r, E, hf, q⟩ => ?_
          obtain ⟨o, env1, env2, e1, e2, rfl, ho⟩ := set_inv hf
          refine L.read ⟨env, o, env1, E, ?_, fun v H1 p1 => q _ H1 (store_end hk p1 e2 ho)⟩
          cases e3 : ev c (.lc own tg src cond elt0) .v env with
          | none => rw [e3] at e1; cases e1
          | some oe =>
            obtain ⟨o', env'⟩ := oe
            obtain ⟨_, _, _, _, _, _, _, rfl, _⟩ := lc_inv e3
            rw [e3] at e1
            cases e1
            rfl
        | lc2 own tg src cond vs1 tg1 src1 cond1 elt0 =>
          obtain ⟨elt', t0, i0, ifs0, t1, i1, ifs1, scope, pos', hxe, L⟩ := lc2_parts (X := X) k2
          cases hxe
          obtain ⟨p1, p2, p3, p4, p5, p6, p7, p8, p9⟩ := L.pe O (se2 src).1 (se2 src).2 (ses cond) (se2 src1).1 (se2 src1).2 (ses cond1) (se2 elt0).1
          refine PS.imp (ps_setLc2 O.calm O.nd n1 (hl rfl) hb p1 p2 p3 p4 p5 p6 p7 p8 p9 (fun x => nofold L.src X.env x) (fun env x => nofold L.src1 env x)) fun D σ H ⟨env, r, E, hf, q⟩ => ?_
          obtain ⟨o, env1, env2, e1, e2, rfl, ho⟩ := set_inv hf
          refine L.read ⟨env, o, env1, E, ?_, fun v H1 p1 => q _ H1 (store_end hk p1 e2 ho)⟩
          cases e3 : ev c (.lc2 own tg src cond vs1 tg1 src1 cond1 elt0) .v env with
          | none => rw [e3] at e1; cases e1
          | some oe =>
            obtain ⟨o', env'⟩ := oe
            obtain ⟨_, _, _, _, _, _, _, rfl, _⟩ := lc2_inv e3
            rw [e3] at e1
            cases e1
            rfl
        | _ => cases k2
    · exact PS.imp (ps_set O.nd n1 n2 (pe_take (se e X G O _ k2).1) (sw_none hc) n3) fun D σ H h => fin h
theorem ss_expr {e : E} : SS c W (.expr e) := fun X G kp T O x hx => by
  cases x <;> first | (cases hx; done) | skip
  rename_i v pos
  obtain ⟨k1, k2⟩ := and2 hx
  refine PS.imp (ps_expr (se e X G O _ k1).1 (sw_none (by simpa using k2))) fun D σ H ⟨env, r, E, hf, q⟩ => ?_
  simp only [ex] at hf
  cases e1 : ev c e .v env with
  | none => rw [e1] at hf; cases hf
  | some oe =>
    obtain ⟨o, env1⟩ := oe
    rw [e1] at hf
    cases hf
    exact ⟨env, o, _, E, e1, fun v H1 p1 => q σ H1 (.ex p1.e p1.t)⟩
theorem give_inv {env : Env} {o o' : Opd} {env' : Env} (h : giveOut env o = some (o', env')) : (o' = o ∧ env' = env ∧ ∀ j, o ≠ .slot j) ∨ ∃ i d, o = .slot i ∧ look env i = .own d ∧ o' = .own d ∧ env' = env.set i .un := by
  cases o with
  | dat d => cases h; exact .inl ⟨rfl, rfl, fun _ z => nomatch z⟩
  | own d => cases h; exact .inl ⟨rfl, rfl, fun _ z => nomatch z⟩
  | slot i =>
    simp only [giveOut] at h
    cases hl : look env i with
    | own d => rw [hl] at h; cases h; exact .inr ⟨i, d, rfl, hl, rfl, rfl⟩
    | un => rw [hl] at h; cases h
    | val d => rw [hl] at h; cases h
theorem ret_read {X : Cx} {kp : List Nat} {e : E} {D : Ends} {σ : St} {H : Hp} (h : tS X kp (ex c W (.ret e)) D σ H) : tE X.K (ev c e .v) σ H D.rt := by
  obtain ⟨env, r, E, hf, q⟩ := h
  simp only [ex] at hf
  cases e1 : ev c e .v env with
  | none => rw [e1] at hf; cases hf
  | some oe =>
    obtain ⟨o, env1⟩ := oe
    rw [e1] at hf
    simp only at hf
    cases e2 : giveOut env1 o with
    | none => rw [e2] at hf; cases hf
    | some oe2 =>
      obtain ⟨o2, env2⟩ := oe2
      rw [e2] at hf
      cases hf
      refine ⟨env, o, env1, E, e1, fun v H1 p1 => ?_⟩
      rcases give_inv e2 with ⟨rfl, rfl, _⟩ | ⟨i, d, rfl, hl, rfl, rfl⟩
      · exact q v σ H1 (.ex p1.e p1.t) p1.r p1.n
      · obtain ⟨p, g1, g2, g3⟩ := p1.e.own hl
        have g4 : σ[i]? = some (some v) := p1.r
        rw [g1] at g4
        cases g4
        obtain ⟨u1, u2, u3⟩ := p1.e.un i
        refine q _ σ H1 ⟨u1, p1.t.trans ⟨fun b u e _ => e, fun p z => .inl (u2 p z)⟩, fun _ _ => rfl⟩ ⟨p, rfl, g2, u3 p g1 ⟨d, look_own hl⟩⟩ fun d' p' e1 e2 => ?_
        cases e2
        exact (p1.t.s _ g3).symm
theorem ss_ret {e : E} : SS c W (.ret e) := fun X G kp T O x hx => by
  cases x <;> first | (cases hx; done) | skip
  rename_i v pos
  cases v with
  | some v => exact PS.imp (ps_ret (se e X G O _ hx).1) fun D σ H h => ret_read h
  | none =>
    cases e <;> first | (cases hx; done) | skip
    refine PS.imp ps_retN fun D σ H h => ?_
    obtain ⟨env, o, env', E, hf, q⟩ := ret_read h
    cases hf
    exact q .non H (po_dat E .refl rfl)
theorem ss_brk : SS c W .brk := fun X G kp T O x hx => by
  cases x <;> first | (cases hx; done) | skip
  exact PS.imp ps_break fun D σ H ⟨env, r, E, hf, q⟩ => by cases hf; exact q σ H (.refl E)
theorem ss_pass : SS c W .pass := fun X G kp T O x hx => by
  cases x <;> first | (cases hx; done) | skip
  exact PS.imp ps_pass fun D σ H ⟨env, r, E, hf, q⟩ => by cases hf; exact q σ H (.refl E)
theorem ss_stop : SS c W .stop := fun X G kp T O x hx => by
  exact PS.imp ps_never fun D σ H ⟨env, r, E, hf, q⟩ => by cases hf
/-- a block behind a step -/
theorem tS_from {X : Cx} {kp : List Nat} {f : Env → Option R} {σ σ1 : St} {H H1 : Hp} {env env1 : Env} {r : R} {D : Ends} (p1 : PoS X.K kp σ H env σ1 H1 env1) (hf : f env1 = some r)
    (q : EndR X kp σ H env D r) : tS X kp f D σ1 H1 := by
  refine ⟨env1, r, p1.e, hf, ?_⟩
  cases r with
  | nx env2 => exact fun σ2 H2 p2 => q σ2 H2 (p1.trans p2)
  | brk env2 => exact fun σ2 H2 p2 => q σ2 H2 (p1.trans p2)
  | exc f env2 => exact fun σ2 H2 p2 => q σ2 H2 (p1.trans p2)
  | ret o env2 =>
    intro v σ2 H2 p2 r n
    refine q v σ2 H2 (p1.trans p2) r fun d p e1 e2 => ?_
    rcases n d p e1 e2 with z | z
    · exact p1.t.fresh z
    · exact (p1.t.s p z).symm
theorem ss_ite {t : E} {a b : List S} (ha : SSs c W a) (hb : SSs c W b) : SS c W (.ite t a b) := fun X G kp T O x hx => by
  cases x <;> first | (cases hx; done) | skip
  rename_i t' a' b' pos
  obtain ⟨k1, k2⟩ := and2 hx
  obtain ⟨k3, k4⟩ := and2 k1
  refine PS.imp (ps_if (se t X G O _ k3).2 (ha X G kp T O _ k4) (hb X G kp T O _ k2)) fun D σ H ⟨env, r, E, hf, q⟩ => ?_
  simp only [ex] at hf
  cases e1 : ev c t .t env with
  | none => rw [e1] at hf; cases hf
  | some oe =>
    obtain ⟨o, env1⟩ := oe
    rw [e1] at hf
    cases o with
    | dat d =>
      cases d with
      | bl k =>
        refine ⟨env, k, env1, E, e1, fun H1 E1 t1 => ?_⟩
        dsimp only
        cases k with
        | true => rw [if_pos rfl]; exact tS_from (.ex E1 t1) hf q
        | false => rw [if_neg Bool.false_ne_true]; exact tS_from (.ex E1 t1) hf q
      | _ => cases hf
    | _ => cases hf
/-! ### stores -/
theorem fm_short {α β : Type} {f : α → Option β} : ∀ {l : List α} {x : α}, x ∈ l → f x = none → (l.filterMap f).length < l.length
  | y :: l, x, hx, h => by
    rcases List.mem_cons.mp hx with rfl | hx
    · rw [List.filterMap_cons, h, List.length_cons]
      exact Nat.lt_succ_of_le (List.length_filterMap_le _ _)
    · have ih := fm_short hx h
      rw [List.filterMap_cons, List.length_cons]
      cases f y with
      | none => exact Nat.lt_succ_of_lt ih
      | some z => exact Nat.succ_lt_succ ih
theorem sw_no {ts : List Expr} {k : Nat} {tp : Pos} {v : Expr} {env : PySem.Env} (h : (decide (3 < ts.length) || ts.any fun | .Name x _ => !decide (env.scope.names.lookup x = some .local) | _ => false) = true) : swappedStores [.Tuple ts k tp] v env = pure none := by
  cases v with
  | Tuple vs k' p' =>
    unfold swappedStores
    simp only
    split
    · rfl
    · rename_i h1
      split
      · rfl
      · split
        · rfl
        · rename_i h3
          exfalso
          rcases (Bool.or_eq_true _ _).mp h with h | h
          · have := of_decide_eq_true h
            have e2 : (ts.length == 2) = false := beq_eq_false_iff_ne.mpr (by omega)
            have e3 : (ts.length == 3) = false := beq_eq_false_iff_ne.mpr (by omega)
            rw [e2, e3] at h1
            exact h1 (by simp)
          · obtain ⟨x, hx, hy⟩ := List.any_eq_true.mp h
            refine h3 ?_
            rw [Bool.or_eq_true]
            left
            refine bne_iff_ne.mpr (Nat.ne_of_lt (fm_short hx ?_))
            cases x with
            | Name x px =>
              have hn : ¬ env.scope.names.lookup x = some .local := by simpa using hy
              have hb : (env.kindOf x == some .local) = false := by
                unfold Env.kindOf
                exact beq_eq_false_iff_ne.mpr hn
              simp [hb]
            | _ => rfl
  | _ => rfl
theorem ss_unp {is : List Nat} {e : E} : SS c W (.unp is e) := fun X G kp T O x hx => by
  cases x <;> first | (cases hx; done) | skip
  rename_i ts v pos
  match ts, hx with
  | [.Tuple ts k tp], hx =>
    obtain ⟨k1, k2⟩ := and2 (show (ckTs G is ts && (is.all fun i => !kp.contains i) && (!isTupL v || noSw G ts) && ckE e G v) = true from hx)
    obtain ⟨k3, k4⟩ := and2 k1
    obtain ⟨k5, k6⟩ := and2 k3
    have hs : swapsWithSole [.Tuple ts k tp] v pos.line X.env = pure false := by
      rcases nocomp k2 with ⟨elt, gs, sc, cpos, rfl⟩ | hc
      · rfl
      · unfold swapsWithSole
        exact sw_none hc
    have hw : swappedStores [.Tuple ts k tp] v X.env = pure none := by
      rcases (Bool.or_eq_true _ _).mp k4 with k4 | k4
      · have hv : isTupL v = false := by simpa using k4
        cases v with
        | Tuple vs k' p' =>
          have hall : vs.all (foldedForSure 8) = true := by
            unfold isTupL at hv
            simpa using hv
          unfold swappedStores
          simp only [hall]
          split
          · rfl
          · split
            · rfl
            · split
              · rfl
              · rfl
        | List _ _ => cases hv
        | _ => rfl
      · exact sw_no (by rw [O.sc]; exact k4)
    refine PS.imp (ps_asg (pe_frz (se e X G O _ k2).1) (pg_of O (tg := .tp is) (show ckTg G (.tp is) (.Tuple ts k tp) = true from k5)) hs hw rfl) fun D σ H ⟨env, r, E, hf, q⟩ => ?_
    simp only [ex] at hf
    cases e1 : ev c e .v env with
    | none => rw [e1] at hf; cases hf
    | some oe =>
      obtain ⟨o, env1⟩ := oe
      rw [e1] at hf
      simp only at hf
      cases e2 : toD env1 o with
      | none => rw [e2] at hf; cases hf
      | some de =>
        obtain ⟨d, env2⟩ := de
        rw [e2] at hf
        cases d with
        | tup ds =>
          simp only at hf
          cases e3 : setAll env2 is ds with
          | none => rw [e3] at hf; cases hf
          | some env3 =>
            rw [e3] at hf
            cases hf
            refine ⟨env, .tup ds, env2, E, by simp only [e1, e2], fun v H1 E1 t1 r1 => ⟨env2, .tup ds, env3, E1, r1, e3, fun σ' E' l' s' o' => q σ' H1 ⟨E', t1.trans ⟨fun b u e _ => e, fun p z => .inl (o' p z)⟩, fun j hj => s' j fun z => ?_⟩⟩⟩
            have := List.all_eq_true.mp k6 j z
            rw [List.contains_iff_mem.mpr hj] at this
            cases this
        | _ => cases hf
theorem sub_inv {i : Nat} {ix e : E} {env : Env} {r : R} (h : ex c W (.sub i ix e) env = some r) :
    ∃ d env1 k env2 l l' l0, (match ev c e .v env with | none => none | some (o, env) => toD env o) = some (d, env1) ∧ look env1 i = .own l0 ∧ ev c ix .v env1 = some (.dat k, env2) ∧ look env2 i = .own l ∧ setL l k d = some l' ∧ r = .nx (env2.set i (.own l')) := by
  simp only [ex] at h
  cases e1 : ev c e .v env with
  | none => rw [e1] at h; cases h
  | some oe =>
    obtain ⟨o, env1⟩ := oe
    rw [e1] at h
    simp only at h
    cases e2 : toD env1 o with
    | none => rw [e2] at h; cases h
    | some de =>
      obtain ⟨d, env2⟩ := de
      rw [e2] at h
      simp only at h
      cases e0 : look env2 i with
      | un => rw [e0] at h; cases h
      | val _ => rw [e0] at h; cases h
      | own l0 =>
        rw [e0] at h
        simp only at h
        cases e3 : ev c ix .v env2 with
        | none => rw [e3] at h; cases h
        | some ke =>
          obtain ⟨k, env3⟩ := ke
          rw [e3] at h
          cases k with
          | dat k =>
            simp only at h
            cases e4 : look env3 i with
            | own l =>
              rw [e4] at h
              simp only at h
              cases e5 : setL l k d with
              | none => rw [e5] at h; cases h
              | some l' =>
                rw [e5] at h
                cases h
                exact ⟨d, env2, k, env3, l, l', l0, e2, e0, e3, e4, e5, rfl⟩
            | un => rw [e4] at h; cases h
            | val _ => rw [e4] at h; cases h
          | _ => cases h
theorem noslice {e : E} {G : Ck} {l h st : Option Expr} {p : Pos} (k : ckE e G (.Slice l h st p) = true) : False := by
  cases e <;> first | (cases k; done) | (rename_i src _ _; cases src <;> cases k)
theorem set_both {X : Cx} (hu : X.A.units + 65 < cLine) : PSet X (fun o i v H Q => rSetL o i v H Q ∨ (∃ a H', o = .ref a ∧ DPut H a i v H' ∧ Q H') ∨ rSetT X.K o i v H Q) := by
  intro pins s σ H o i v ov iv u Q I ro ri rv h
  rcases h with h | ⟨a, H', e, g, q⟩ | h
  · exact set_list pins s σ H o i v ov iv u Q I ro ri rv h
  · subst e
    cases ro
    exact d_setItem (by omega) I g ri rv fun s' I' => ⟨H', I', q⟩
  · exact set_dkt hu pins s σ H o i v ov iv u Q I ro ri rv h
theorem ss_sub {i : Nat} {ix e : E} : SS c W (.sub i ix e) := fun X G kp T O x hx => by
  cases x <;> first | (cases hx; done) | skip
  rename_i ts v pos
  match ts, hx with
  | [.Subscript (.Name x p) ix' sp], hx =>
    obtain ⟨k1, k2⟩ := and2 (show (ldOk G i x && ckE ix G ix' && ckE e G v) = true from hx)
    obtain ⟨k3, k4⟩ := and2 k1
    have hs : swapsWithSole [.Subscript (.Name x p) ix' sp] v pos.line X.env = pure false := by
      rcases nocomp k2 with ⟨elt, gs, sc, cpos, rfl⟩ | hc
      · rfl
      · unfold swapsWithSole
        exact sw_none hc
    have ha : ∀ v, assign (.Subscript (.Name x p) ix' sp) X.env v = (do
        let ov ← holding [v] (eval (.Name x p) X.env)
        let iv ← holding [v, ov] (eval ix' X.env)
        standAt sp
        holding [v, ov, iv] (setItem ov iv v)
        release [v, ov, iv] []) := by
      intro v
      cases ix' <;> first | rfl | exact (noslice k4).elim
    refine PS.imp (ps_asg (pe_frz (se e X G O _ k2).1) (pg_sub (ld_of O k3) (se ix X G O _ k4).1 (set_both (by have := O.un; omega)) ha) hs rfl rfl) fun D σ H ⟨env, r, E, hf, q⟩ => ?_
    obtain ⟨d, env1, k, env2, l, l', l0, e1, e0, e2, e3, e4, rfl⟩ := sub_inv hf
    refine ⟨env, d, env1, E, e1, fun v H1 E1 t1 r1 => ?_⟩
    -- the name's object, at its reading
    have key : ∀ {H2 : Hp}, EnvR X.K H2 σ env2 → Tr σ H1 env1 σ H2 env2 → ∃ p0, σ[i]? = some (some (.ref p0)) ∧ OwnAt X.K H2 l p0 := fun E2 t2 => by
      obtain ⟨p0, g1, g2, _⟩ := E2.own e3
      exact ⟨p0, g1, g2⟩
    have hσ : ∃ x0, σ[i]? = some (some x0) := by
      obtain ⟨p0, g1, _⟩ := E1.own e0
      exact ⟨_, g1⟩
    obtain ⟨x0, hx0⟩ := hσ
    refine ⟨x0, hx0, env1, _, env2, E1, e2, fun kv H2 p2 => ?_⟩
    obtain ⟨p0, g1, g2⟩ := key p2.e p2.t
    rw [hx0] at g1
    cases g1
    have tkt : (match dkv l with
        | some (ks, vs) => match ckey ks k with
          | some q => if ks.length < line then some (PF.D.dkt (addT k q ks) (putT ks vs q d)) else none
          | none => none
        | none => none) = some l' → rSetT X.K (.ref p0) kv v H2 (fun H3 => D.nx σ H3) := fun e4 => by
      split at e4
      · rename_i ks vs h1
        split at e4
        · rename_i qq h2
          split at e4
          · rename_i hz
            cases e4
            have r2 : Rp X.K H2 d v := r1.mono (p2.t.kp E1)
            refine ⟨p0, l, ks, vs, k, qq, d, rfl, g2, h1, p2.r, h2, r2, hz, fun o' ow => ?_⟩
            have pe := mut_end (d' := .dkt (addT k qq ks) (putT ks vs qq d)) (r := .non) (v := .non) p2.e (t1.trans p2.t) e3 hx0 (fun b n => upd_ne n) (ow _ rfl) g2 rfl
            exact q σ _ (.ex pe.e pe.t)
          · cases e4
        · cases e4
      · cases e4
    cases l with
    | lst ds =>
      cases k with
      | int kk =>
        obtain ⟨j, ej, rfl⟩ := Option.map_eq_some_iff.mp e4
        obtain ⟨vs, hv, rv⟩ := g2
        have hkv : kv = .int kk := p2.r
        have r2 : Rp X.K H2 d v := r1.mono (p2.t.kp E1)
        refine .inl ⟨p0, vs, kk, j, rfl, hkv, hv, by rw [rv.length]; exact ej, ?_⟩
        obtain ⟨kq, oq⟩ := upd_own (p := p0) hv (rv.set r2 j)
        have pe := mut_end (r := .non) (v := .non) p2.e (t1.trans p2.t) e3 hx0 (fun b n => upd_ne n) oq ⟨vs, hv, rv⟩ rfl
        exact q σ _ (.ex pe.e pe.t)
      | _ => cases e4
    | dct ks ds =>
      cases k with
      | int kk =>
        simp only [setL] at e4
        by_cases hz : ks.length < line
        · rw [if_pos hz] at e4
          cases e4
          have g2' := g2
          obtain ⟨kvs, rfl, hv, rv⟩ := g2'
          have hkv : kv = .int kk := p2.r
          have r2 : Rp X.K H2 d v := r1.mono (p2.t.kp E1)
          have hz2 : (dK kvs).length < sizeLine := by rw [← line_eq]; simpa using hz
          have kD : Kp H2 (upd H2 p0 (.dK (putK (dK kvs) (Sum.inl kk) v))) := upd_kp fun ob u e => by rw [hv] at e; cases e
          refine .inr (.inl ⟨p0, _, rfl, by rw [hkv]; exact DPut.k (k := Sum.inl kk) hv hz2, ?_⟩)
          obtain ⟨kvs', e5, e6, e7⟩ := put_dct kk rv r2
          rw [e5]
          rw [e5] at kD
          have pe := mut_end (d' := .dct (addI kk (kvs.map fun q => PF.D.int q.1)) (putI (kvs.map fun q => PF.D.int q.1) ds kk d)) (r := .non) (v := .non) p2.e (t1.trans p2.t) e3 hx0 (fun b n => upd_ne n) ⟨kvs', e6, upd_same, e7.mono kD⟩ g2 rfl
          exact q σ _ (.ex pe.e pe.t)
        · rw [if_neg hz] at e4; cases e4
      | _ => exact .inr (.inr (tkt (by rw [← e4]; rfl)))
    | dkt ks ds => exact .inr (.inr (tkt (by rw [← e4]; cases k <;> rfl)))
    | set ds => cases k <;> cases e4
    | _ => exact g2.elim
end
end PF
/-! PF12E: errors: raise; try around one call. -/
namespace PF
open PySem PySem.Spec PyProof.Rows L2
abbrev More (H H' : Hp) : Prop := ∀ b u, H b = some u → H' b = some u
theorem kept_env {K : PySem.W.Frag} {σ : St} {H H' : Hp} {env : Env} (E : EnvR K H σ env) (k : More H H') : EnvR K H' σ env := by
  refine ⟨E.len, fun j sl e => ?_, E.dj⟩
  obtain ⟨x, e2, rr⟩ := E.sl j sl e
  refine ⟨x, e2, ?_⟩
  have kp : Kp H H' := fun a o u e => k _ _ e
  cases sl with
  | un => trivial
  | val d => obtain ⟨v, e3, rr⟩ := rr; exact ⟨v, e3, rr.mono kp⟩
  | own d2 =>
    obtain ⟨p2, e3, rr⟩ := rr
    subst e3
    exact ⟨p2, rfl, rr.keep kp fun u qq => k p2 u qq⟩
theorem dats_lend : ∀ {os : List Opd} {ss : List Slot} {env : Env}, dats os = some ss → lend os env = some (ss, env)
  | [], ss, env, h => by cases h; rfl
  | .dat d :: r, ss, env, h => by
    obtain ⟨s1, h1, rfl⟩ := Option.map_eq_some_iff.mp h
    simp only [lend, dats_lend h1]
  | .own d :: r, ss, env, h => by cases h
  | .slot i :: r, ss, env, h => by cases h
theorem dats_give : ∀ {os : List Opd} {ss fs : List Slot} {env : Env}, dats os = some ss → giveBack os fs env = env
  | [], ss, fs, env, h => by simp [giveBack]
  | .dat d :: r, ss, fs, env, h => by
    obtain ⟨s1, h1, rfl⟩ := Option.map_eq_some_iff.mp h
    cases fs with
    | nil => simp [giveBack]
    | cons f fs => simp only [giveBack]; exact dats_give h1
  | .own d :: r, ss, fs, env, h => by cases h
  | .slot i :: r, ss, fs, env, h => by cases h
theorem dats_own : ∀ {os : List Opd} {ss : List Slot}, dats os = some ss → noOwn ss = true
  | [], ss, h => by cases h; rfl
  | .dat d :: r, ss, h => by
    obtain ⟨s1, h1, rfl⟩ := Option.map_eq_some_iff.mp h
    have := dats_own h1
    unfold noOwn at this ⊢
    simpa using this
  | .own d :: r, ss, h => by cases h
  | .slot i :: r, ss, h => by cases h
section
variable {c : Cl} {W : Nat} {X : Cx} {G : Ck}
/-! ### raise -/
theorem ss_raise {f : Str} : SS c W (.raise f) := fun X G kp T O x hx => by
  cases x <;> first | (cases hx; done) | skip
  rename_i e cs pos
  match e, cs, hx with
  | some (.Call (.Name x p) [.Constant (.str m) j p2] [] pos'), none, hx =>
    obtain ⟨k1, k2⟩ := and2 (show (decide (x = f) && gbOk G x && G.xn.contains f && G.xs.contains (.exc f)) = true from hx)
    obtain ⟨k3, k4⟩ := and2 k1
    obtain ⟨k5, k6⟩ := and2 k3
    have ex : x = f := of_decide_eq_true k5
    subst ex
    obtain ⟨g1, g2⟩ := gl_of O k6
    obtain ⟨C, e1, e2⟩ := exc_ref (O.xf _ (List.contains_iff_mem.mp k2))
    obtain ⟨b1, b2, b3, b4⟩ := excB_ok e2
    have hm := O.xg _ (List.contains_iff_mem.mp k4)
    rw [e1] at hm
    refine PS.imp (ps_raise O.calm takes_W0 (pmk_own PySem.F.excBase_ValueError b1 hm b2 (raises_own b4.hs b3) g1 g2)) fun D σ H ⟨env, r, E, hf, q⟩ => ?_
    cases hf
    exact ⟨x, e1.symm, rfl, q σ H (.refl E)⟩
/-! ### tests of a caught error -/
/-- isinstance(e, (A, B)) -/
def rIsT (K : PySem.W.Frag) (D a : Addr) : List V → Hp → VK → Prop := fun xs H Q => ∃ (tp : Addr) (cs : List V) (b : Bool), xs = [.ref a, .ref tp] ∧ H tp = some (.tup cs) ∧ (∀ us, Vals cs us → PySem.W.kitAny K (.ref D) us = some b) ∧ Q (.bl b) H
theorem call_isT {a D : Addr} {oe : Obj} {pn : List (Addr × Obj)} (C : ExcC X.K D) (hz : Zc (.ref D) none oe) (hf : ∃ vs, oe.data = .fields vs) : CallR (X.suite a ((a, oe) :: pn)) (.builtin "isinstance") (rIsT X.K D a) := by
  intro pins s σ H xs us Q I r h
  obtain ⟨tp, cs, b, rfl, ht, e, q⟩ := h
  cases r with
  | cons rx rr =>
    cases rr with
    | cons rt rr =>
      cases rr
      cases rx
      cases rt
      obtain ⟨_, its, hv, ot, h1, h2, n, h3⟩ := I.hok tp _ ht
      obtain ⟨oc, od, oda, osl⟩ := ot
      dsimp only at h2 h3
      subst h2 h3
      obtain ⟨hget, _⟩ := I.pin (a, oe) (List.mem_append.mpr (.inl List.mem_cons_self))
      obtain ⟨vs, hv2⟩ := hf
      have J : PySem.W.InstAt s.heap a oe D none := by
        obtain ⟨oc, od, oda, osl⟩ := oe
        obtain ⟨h1, h2⟩ := hz
        dsimp only at h1 h2 hv2
        subst h1 h2 hv2
        exact ⟨hget, rfl, rfl, trivial⟩
      exact PySem.W.kia_tup (PySem.W.handS_kitx_exc C.hg C.hk C.hs C.hd C.ha C.hn C.ht C.hm) I.kIn J h1 (e _ hv) (fun z => nomatch z) fun tk => ⟨.bl b, H, I.kept (t' := tk) fun _ _ z => z, rfl, q⟩
def tTst (i : Nat) (a : Addr) (v : V) : TE := fun σ H Q => σ[i]? = some (some (.ref a)) ∧ ∀ H', More H H' → Q v H'
def tTsT (i : Nat) (a : Addr) (b : Bool) : TT := fun σ H Q => σ[i]? = some (some (.ref a)) ∧ ∀ H', More H H' → Q b H'
/-- the setting of a suite -/
structure Su (X : Cx) (G : Ck) (all : List Str) (i : Nat) (n g : Str) (D : Addr) (oe : Obj) : Prop where
  gm : g ∈ all
  v : xvl X.K g = .ref D
  c : ExcC X.K D
  z : Zc (.ref D) none oe
  f : ∃ vs, oe.data = .fields vs
  nm : X.N[i]? = some n
  l : X.env.scope.names.lookup n = some .local
  d : (n == ("__debug__" : Str)) = false
  e : (n == ("__classdict__" : Str)) = false
section
variable {all : List Str} {i : Nat} {n g : Str} {D a : Addr} {oe : Obj} {pn : List (Addr × Obj)}
theorem su_var (S : Su X G all i n g D oe) {pos : Pos} : PE (X.suite a ((a, oe) :: pn)) (.Name n pos) (tVar i) :=
  pe_var (X := X.suite a ((a, oe) :: pn)) S.nm (by unfold Vis; exact .inl S.l) S.d S.e
/-- names of classes that stand in a tuple -/
theorem su_names (O : XOk X G c) : ∀ {ys : List Expr} {src : List Str}, namesOf ys = some src → (src.all fun y => gbOk G y && G.xn.contains y && all.all fun g => G.xs.contains (.isn g y false)) = true → g ∈ all → (xvl X.K g = .ref D) →
    ∃ cs, cs.length = src.length ∧ PA (X.suite a ((a, oe) :: pn)) ys (fun _ H Q => Q cs H) ∧ ∀ us, Vals cs us → PySem.W.kitAny X.K (.ref D) us = some false
  | [], src, h, _, _, _ => ⟨[], by cases h; rfl, PA.imp pa_nil fun _ _ _ h => h, fun us r => by cases r; rfl⟩
  | y :: ys, src, h, hs, hg, hv => by
    cases y <;> first | (cases h; done) | skip
    rename_i y p
    obtain ⟨src', h', rfl⟩ := Option.map_eq_some_iff.mp h
    obtain ⟨k1, k2⟩ := and2 (show ((gbOk G y && G.xn.contains y && all.all fun g => G.xs.contains (.isn g y false)) && (src'.all fun y => gbOk G y && G.xn.contains y && all.all fun g => G.xs.contains (.isn g y false))) = true from hs)
    obtain ⟨cs, h0, h1, h2⟩ := su_names O h' k2 hg hv
    obtain ⟨k3, k4⟩ := and2 k1
    obtain ⟨k5, k6⟩ := and2 k3
    obtain ⟨g1, g2⟩ := gl_of O k5
    have hm := O.xg _ (List.contains_iff_mem.mp k6)
    have hq := O.xf _ (List.contains_iff_mem.mp (List.all_eq_true.mp k4 g hg))
    obtain ⟨q1, q2⟩ := and2 (show (decide (PySem.W.kitOne X.K (xvl X.K g) (xvl X.K y) = some false) && (match xvl X.K y with | .ref _ => true | _ => false)) = true from hq)
    have q1 := of_decide_eq_true q1
    rw [hv] at q1
    cases ey : xvl X.K y with
    | ref A =>
      rw [ey] at hm q1
      have py : PE (X.suite a ((a, oe) :: pn)) (.Name y p) (tC (.ref A)) := pe_glob (X := X.suite a ((a, oe) :: pn)) g1 hm rfl g2
      refine ⟨.ref A :: cs, by simp [h0], PA.imp (pa_cons py h1) fun σ H Q h => h, fun us r => ?_⟩
      cases r with
      | cons r1 r2 =>
        cases r1
        unfold PySem.W.kitAny
        rw [q1]
        exact h2 _ r2
    | _ => rw [ey] at q2; cases q2
theorem su_t1 (O : XOk X G c) (S : Su X G all i n g D oe) {src yes : List Str} {x : Expr} (h : ckT1 G all n src yes x = true) : PE (X.suite a ((a, oe) :: pn)) x (tTst i a (.bl (yes.contains g))) ∧ PT (X.suite a ((a, oe) :: pn)) x (tTsT i a (yes.contains g)) := by
  suffices H : PE (X.suite a ((a, oe) :: pn)) x (tTst i a (.bl (yes.contains g))) ∧ ∀ whole, isTrue x (X.suite a ((a, oe) :: pn)).env whole = (do let v ← whole; standAt x.pos; holding [v] (truthy v)) by
    exact ⟨H.1, PT.imp (pt_truth H.1 H.2) fun σ H Q ⟨h1, h2⟩ => ⟨h1, fun H' m => ⟨_, rfl, h2 H' m⟩⟩⟩
  cases x <;> first | (cases h; done) | skip
  rename_i fe args kws pos
  cases fe <;> first | (cases h; done) | skip
  rename_i x p
  refine ⟨?_, fun _ => rfl⟩
  match args, kws, h with
  | [.Name m mp, .Name y yp], [], h =>
    obtain ⟨k1, k2⟩ := and2 (show (decide (x = "isinstance") && blOk G x && decide (m = n) && decide (src = [y]) && ckC G all y yes) = true from h)
    obtain ⟨k3, k4⟩ := and2 k1
    obtain ⟨k5, k6⟩ := and2 k3
    obtain ⟨k7, k8⟩ := and2 k5
    have ex : x = "isinstance" := of_decide_eq_true k7
    have em : m = n := of_decide_eq_true k6
    subst ex em
    obtain ⟨g1, g2, g3⟩ := bl_of O k8
    obtain ⟨b1, b2⟩ := and2 k2
    obtain ⟨y1, y2⟩ := gl_of O b1
    have fin : ∀ {cv : V} {u : Value}, PE (X.suite a ((a, oe) :: pn)) (.Name y yp) (tC cv) → (∀ w, RelV cv w → w = u) → PySem.W.kitOne X.K (.ref D) u = some (yes.contains g) → PE (X.suite a ((a, oe) :: pn)) (.Call (.Name "isinstance" p) [.Name m mp, .Name y yp] [] pos) (tTst i a (.bl (yes.contains g))) := by
      intro cv u pc hr hk
      refine PE.imp (pe_callB (X := X.suite a ((a, oe) :: pn)) (call_isE S.c S.z S.f) g1 g2 boot_isi (pa_cons (su_var S) (pa_cons pc pa_nil)) (by decide) g3) fun σ H Q ⟨h1, h2⟩ => ?_
      exact ⟨.ref a, h1, cv, u, _, rfl, hr, hk, h2 H fun _ _ z => z⟩
    rcases Bool.or_eq_true_iff.mp b2 with b | b
    · obtain ⟨c1, c2⟩ := and2 b
      have hm := O.xg _ (List.contains_iff_mem.mp c1)
      have hq := O.xf _ (List.contains_iff_mem.mp (List.all_eq_true.mp c2 g S.gm))
      obtain ⟨q1, q2⟩ := and2 (show (decide (PySem.W.kitOne X.K (xvl X.K g) (xvl X.K y) = some (yes.contains g)) && (match xvl X.K y with | .ref _ => true | _ => false)) = true from hq)
      have q1 := of_decide_eq_true q1
      rw [S.v] at q1
      cases ey : xvl X.K y with
      | ref A =>
        rw [ey] at hm q1
        exact fin (pe_glob (X := X.suite a ((a, oe) :: pn)) (v := .ref A) y1 hm rfl y2) (fun w r => r) q1
      | _ => rw [ey] at q2; cases q2
    · obtain ⟨c1, c2⟩ := and2 b
      obtain ⟨c3, c4⟩ := and2 c1
      have ey : y = "ValueError" := of_decide_eq_true c3
      subst ey
      have hq := O.xf _ (List.contains_iff_mem.mp (List.all_eq_true.mp c2 g S.gm))
      have q1 : PySem.W.kitOne X.K (xvl X.K g) (.type "ValueError") = some (yes.contains g) := of_decide_eq_true hq
      rw [S.v] at q1
      exact fin (pe_bltn (X := X.suite a ((a, oe) :: pn)) (v := .ty "ValueError") y1 (O.bn _ (List.contains_iff_mem.mp c4)) (by decide +kernel) rfl (by decide) y2) (fun w r => r) q1
  | [.Name m mp, .Tuple ys tc tp], [], h =>
    obtain ⟨k1, k2⟩ := and2 (show (decide (x = "isinstance") && blOk G x && decide (m = n) && decide (namesOf ys = some src) && decide (src.length ≤ 100) && decide (yes = []) && src.all fun y => gbOk G y && G.xn.contains y && all.all fun g => G.xs.contains (.isn g y false)) = true from h)
    obtain ⟨k3, k4⟩ := and2 k1
    obtain ⟨k5, k6⟩ := and2 k3
    obtain ⟨k7, k8⟩ := and2 k5
    obtain ⟨k9, k10⟩ := and2 k7
    obtain ⟨k11, k12⟩ := and2 k9
    have ex : x = "isinstance" := of_decide_eq_true k11
    have em : m = n := of_decide_eq_true k10
    have ey : yes = [] := of_decide_eq_true k4
    subst ex em ey
    obtain ⟨g1, g2, g3⟩ := bl_of O k12
    obtain ⟨cs, h0, h1, h2⟩ := su_names (a := a) (oe := oe) (pn := pn) O (of_decide_eq_true k8) k2 S.gm S.v
    refine PE.imp (pe_callB (X := X.suite a ((a, oe) :: pn)) (call_isT S.c S.z S.f) g1 g2 boot_isi (pa_cons (su_var S) (pa_cons (pe_tup h1) pa_nil)) (by decide) g3) fun σ H Q ⟨e1, e2⟩ => ?_
    refine ⟨.ref a, e1, ?_⟩
    refine ⟨?_, fun q hq => ⟨q, cs, false, rfl, upd_same, h2, e2 _ fun b u z => ?_⟩⟩
    · have := of_decide_eq_true k6
      rw [h0, sizeLine_eq]; omega
    · have nb : b ≠ q := fun w => by rw [w, hq] at z; cases z
      rw [upd_ne nb]; exact z
theorem su_t (O : XOk X G c) (S : Su X G all i n g D oe) {t : Bool × List Str × List Str} {x : Expr} (h : ckT G all n t x = true) : PE (X.suite a ((a, oe) :: pn)) x (tTst i a (.bl (decide (t.2.2.contains g = t.1)))) ∧ PT (X.suite a ((a, oe) :: pn)) x (tTsT i a (decide (t.2.2.contains g = t.1))) := by
  obtain ⟨b, src, yes⟩ := t
  cases b with
  | true =>
    have := su_t1 (a := a) (pn := pn) O S (show ckT1 G all n src yes x = true by cases x <;> exact h)
    simpa using this
  | false =>
    cases x <;> first | (cases h; done) | skip
    rename_i op x pos
    cases op <;> first | (cases h; done) | skip
    have ht : ckT1 G all n src yes x = true := h
    obtain ⟨h1, h2⟩ := su_t1 (a := a) (pn := pn) O S ht
    have e : (!(yes.contains g)) = decide (yes.contains g = false) := by cases yes.contains g <;> rfl
    refine ⟨PE.imp (pe_notT h1) fun σ H Q ⟨e1, e2⟩ => ⟨e1, fun H' m => ⟨_, rfl, ?_⟩⟩, PT.imp (pt_not h2) fun σ H Q ⟨e1, e2⟩ => ⟨e1, fun H' m => ?_⟩⟩
    · rw [e]; exact e2 H' m
    · show Q (!(yes.contains g)) H'
      rw [e]; exact e2 H' m
theorem su_ts (O : XOk X G c) (S : Su X G all i n g D oe) {pos : Pos} : ∀ {ts : List (Bool × List Str × List Str)} {xs : List Expr}, ts ≠ [] → ckTl G all n ts xs = true →
    PE (X.suite a ((a, oe) :: pn)) (.BoolOp .And xs pos) (tTst i a (.bl (ts.all fun t => decide (t.2.2.contains g = t.1)))) ∧ PW (X.suite a ((a, oe) :: pn)) (.BoolOp .And xs pos) (tTsT i a (ts.all fun t => decide (t.2.2.contains g = t.1)))
  | [], _, hn, _ => absurd rfl hn
  | t :: ts, [], _, h => by cases h
  | [t], [x], _, h => by
    obtain ⟨k1, k2⟩ := and2 (show (ckT G all n t x && ckTl G all n [] []) = true from h)
    obtain ⟨h1, h2⟩ := su_t (a := a) (pn := pn) O S k1
    rw [List.all_cons, List.all_nil, Bool.and_true]
    exact ⟨pe_one h1, pw_and1 h2⟩
  | [t], x :: y :: xs, _, h => by
    obtain ⟨k1, k2⟩ := and2 (show (ckT G all n t x && ckTl G all n [] (y :: xs)) = true from h)
    cases k2
  | t :: t2 :: ts, [x], _, h => by
    obtain ⟨k1, k2⟩ := and2 (show (ckT G all n t x && ckTl G all n (t2 :: ts) []) = true from h)
    cases k2
  | t :: t2 :: ts, x :: y :: xs, _, h => by
    obtain ⟨k1, k2⟩ := and2 (show (ckT G all n t x && ckTl G all n (t2 :: ts) (y :: xs)) = true from h)
    obtain ⟨h1, h2⟩ := su_t (a := a) (pn := pn) O S k1
    obtain ⟨h3, h4⟩ := su_ts O S (pos := pos) (ts := t2 :: ts) (by simp) k2
    rw [List.all_cons]
    refine ⟨PE.imp (pe_and h1 h3) fun σ H Q ⟨e1, e2⟩ => ⟨e1, fun H' m => ⟨_, rfl, ?_⟩⟩, ⟨fun wh pins s σ H Q I hw => (pw_and h2 h4).run wh pins s σ H Q I ⟨hw.1, fun H' m => ?_⟩⟩⟩
    · cases hb : decide (t.2.2.contains g = t.1) with
      | true => rw [if_pos rfl]; rw [hb, Bool.true_and] at e2; exact ⟨e1, fun H2 m2 => e2 H2 fun b u z => m2 b u (m b u z)⟩
      | false => rw [if_neg Bool.false_ne_true]; rw [hb, Bool.false_and] at e2; exact e2 H' m
    · obtain ⟨e1, e2⟩ := hw
      cases hb : decide (t.2.2.contains g = t.1) with
      | true => rw [if_pos rfl]; rw [hb, Bool.true_and] at e2; exact ⟨e1, fun H2 m2 => e2 H2 fun b u z => m2 b u (m b u z)⟩
      | false => rw [if_neg Bool.false_ne_true]; rw [hb, Bool.false_and] at e2; exact e2 H' m
end
/-! ### suites -/
def hdW : Hd → Str → V
  | .ret b, _ => .bl b
  | .tests nn ts, g => if nn then (if ts.all fun t => decide (t.2.2.contains g = t.1) then .bl true else .non) else .bl (ts.all fun t => decide (t.2.2.contains g = t.1))
theorem hd_rp {K : PySem.W.Frag} {H : Hp} {h : Hd} {g : Str} : Rp K H (hdV h g) (hdW h g) := by
  cases h with
  | ret b => rfl
  | tests nn ts =>
    cases nn with
    | false => rfl
    | true =>
      unfold hdV hdW
      simp only [if_true]
      by_cases e : (ts.all fun t => decide (t.2.2.contains g = t.1)) = true
      · rw [if_pos e, if_pos e]; rfl
      · rw [if_neg e, if_neg e]; rfl
def tsH (X : Cx) (all : List Str) (i : Option Nat) (h : Hd) (a : Addr) (cls : Value) (d : Option Addr) : TS := fun D σ H => ∃ g, g ∈ all ∧ cls = xvl X.K g ∧ d = none ∧ (∀ j, i = some j → σ[j]? = some (some (.ref a))) ∧ ∀ H', More H H' → D.rt (hdW h g) H'
theorem ckH_ret {b : Bool} {G : Ck} {all : List Str} {n : Option Str} {su : List Stmt} (hh : ckH (.ret b) G all n su = true) : ∃ j p1 p2, su = [.Return (some (.Constant (.bool b) j p1)) p2] := by
  unfold ckH at hh
  split at hh
  · rename_i b' c j p1 p2 e1
    cases e1
    have e : b = c := of_decide_eq_true hh
    subst e
    exact ⟨j, p1, p2, rfl⟩
  · rename_i e1; cases e1
  · rename_i e1; cases e1
  · cases hh
theorem ckH_f {ts : List (Bool × List Str × List Str)} {G : Ck} {all : List Str} {n : Option Str} {su : List Stmt} (hh : ckH (.tests false ts) G all n su = true) : ∃ m xs p1 p2, n = some m ∧ su = [.Return (some (.BoolOp .And xs p1)) p2] ∧ ts ≠ [] ∧ ckTl G all m ts xs = true := by
  unfold ckH at hh
  split at hh
  · rename_i e1; cases e1
  · rename_i ts' m xs p1 p2 e1
    cases e1
    obtain ⟨k1, k2⟩ := and2 hh
    exact ⟨m, xs, p1, p2, rfl, rfl, (by intro z; rw [z] at k1; cases k1), k2⟩
  · rename_i e1; cases e1
  · cases hh
theorem ckH_t {ts : List (Bool × List Str × List Str)} {G : Ck} {all : List Str} {n : Option Str} {su : List Stmt} (hh : ckH (.tests true ts) G all n su = true) : ∃ m xs p1 p2 p3 p4 p5 p6 j1 j2, n = some m ∧ su = [.If (.BoolOp .And xs p1) [.Return (some (.Constant (.bool true) j1 p2)) p3] [] p4, .Return (some (.Constant .none j2 p5)) p6] ∧ ts ≠ [] ∧ ckTl G all m ts xs = true := by
  unfold ckH at hh
  split at hh
  · rename_i e1; cases e1
  · rename_i e1; cases e1
  · rename_i e1
    cases e1
    obtain ⟨k1, k2⟩ := and2 hh
    exact ⟨_, _, _, _, _, _, _, _, _, _, rfl, rfl, (by intro z; rw [z] at k1; cases k1), k2⟩
  · cases hh
theorem ckH_nil {h : Hd} {G : Ck} {all : List Str} {n : Option Str} (hh : ckH h G all n [] = true) : False := by
  cases h with
  | ret b => obtain ⟨_, _, _, z⟩ := ckH_ret hh; cases z
  | tests nn ts =>
    cases nn with
    | false => obtain ⟨_, _, _, _, _, z, _⟩ := ckH_f hh; cases z
    | true => obtain ⟨_, _, _, _, _, _, _, _, _, _, _, z, _⟩ := ckH_t hh; cases z
theorem ckN_ok (O : XOk X G c) {i : Option Nat} {n : Str} (hn : ckN G i (some n) = true) : ∃ j, i = some j ∧ X.N[j]? = some n ∧ X.env.scope.names.lookup n = some .local ∧ (n == ("__debug__" : Str)) = false ∧ (n == ("__classdict__" : Str)) = false := by
  cases i with
  | none => cases hn
  | some j =>
    obtain ⟨m1, m2⟩ := and2 (show (decide (G.N[j]? = some n) && decide (G.sc.names.lookup n = some .local) && !(n == ("__debug__" : Str)) && !(n == ("__classdict__" : Str))) = true from hn)
    obtain ⟨m3, m4⟩ := and2 m1
    obtain ⟨m5, m6⟩ := and2 m3
    exact ⟨j, rfl, by rw [O.n]; exact of_decide_eq_true m5, by rw [O.sc]; exact of_decide_eq_true m6, by simpa using m4, by simpa using m2⟩
theorem suite_ok (O : XOk X G c) {all : List Str} {i : Option Nat} {n : Option Str} {h : Hd} {su : List Stmt} (hn : ckN G i n = true) (hh : ckH h G all n su = true) (hx : (all.all fun g => G.xs.contains (.exc g)) = true)
    {a : Addr} {oe : Obj} {cls : Value} {d : Option Addr} {pn : List (Addr × Obj)} (hz : Zc cls d oe) (hf : ∃ vs, oe.data = .fields vs) : PSs (X.suite a ((a, oe) :: pn)) su (tsH X all i h a cls d) := by
  refine ⟨fun pins s σ H D I hw => ?_⟩
  obtain ⟨g, hg, rfl, rfl, hi, q⟩ := hw
  obtain ⟨C, e1, e2⟩ := exc_ref (O.xf _ (List.contains_iff_mem.mp (List.all_eq_true.mp hx g hg)))
  obtain ⟨b1, b2, b3, b4⟩ := excB_ok e2
  rw [e1] at hz
  cases h with
  | ret b =>
    obtain ⟨j, p1, p2, rfl⟩ := ckH_ret hh
    exact (pss_cons (ps_ret pe_bl) pss_nil).run pins s σ H D I (q H fun _ _ z => z)
  | tests nn ts =>
    cases nn with
    | false =>
      obtain ⟨m, xs, p1, p2, rfl, rfl, hts, hck⟩ := ckH_f hh
      obtain ⟨j, rfl, m1, m2, m3, m4⟩ := ckN_ok O hn
      have S : Su X G all j m g C oe := ⟨hg, e1, b4, hz, hf, m1, m2, m3, m4⟩
      exact (pss_cons (ps_ret (su_ts (a := a) (pn := pn) O S hts hck).1) pss_nil).run pins s σ H D I ⟨hi j rfl, q⟩
    | true =>
      obtain ⟨m, xs, p1, p2, p3, p4, p5, p6, j1, j2, rfl, rfl, hts, hck⟩ := ckH_t hh
      obtain ⟨j, rfl, m1, m2, m3, m4⟩ := ckN_ok O hn
      have S : Su X G all j m g C oe := ⟨hg, e1, b4, hz, hf, m1, m2, m3, m4⟩
      refine (pss_cons (ps_if (su_ts (a := a) (pn := pn) O S hts hck).2.pt (pss_cons (ps_ret pe_bl) pss_nil) pss_nil) (pss_cons (ps_ret pe_non) pss_nil)).run pins s σ H D I ⟨hi j rfl, fun H' m => ?_⟩
      have q2 := q H' m
      unfold hdW at q2
      simp only [if_true] at q2
      generalize (ts.all fun t => decide (t.2.2.contains g = t.1)) = v at q2 ⊢
      cases v with
      | true => exact q2
      | false => exact q2
/-! ### try -/
theorem try_inv {f x : Str} {es : List E} {all yes : List Str} {a : Option Nat} {h : Hd} {env : Env} {r : R} (e : ex c W (.tryc f es x all yes a h) env = some r) : ∃ os env1 ss, evs c es env = some (os, env1) ∧ dats os = some ss ∧
    ((∃ o fs, c f ss = some (o, fs) ∧ r = .nx env1) ∨ ∃ g, c f (mark :: ss) = some (.dat (.str g), []) ∧ g ∈ all ∧ okI env1 a = true ∧ ((yes.contains g = true ∧ r = .ret (.dat (hdV h g)) env1) ∨ (yes.contains g = false ∧ r = .exc g env1))) := by
  simp only [ex] at e
  cases e1 : evs c es env with
  | none => rw [e1] at e; cases e
  | some oe =>
    obtain ⟨os, env1⟩ := oe
    rw [e1] at e
    simp only at e
    cases e2 : dats os with
    | none => rw [e2] at e; cases e
    | some ss =>
      rw [e2] at e
      simp only at e
      refine ⟨os, env1, ss, rfl, e2, ?_⟩
      cases e3 : c f ss with
      | some of =>
        rw [e3] at e
        cases e
        exact .inl ⟨of.1, of.2, rfl, rfl⟩
      | none =>
        rw [e3] at e
        simp only at e
        split at e
        · rename_i g e4
          split at e
          · rename_i e5
            obtain ⟨e6, e7⟩ := Bool.and_eq_true_iff.mp e5
            refine .inr ⟨g, e4, List.contains_iff_mem.mp e6, e7, ?_⟩
            split at e
            · rename_i e8; cases e; exact .inl ⟨e8, rfl⟩
            · rename_i e8; cases e; exact .inr ⟨by simpa using e8, rfl⟩
          · cases e
        · cases e
/-- the body of a try -/
def tTb (X : Cx) (c : Cl) (kp : List Nat) (f : Str) (es : List E) (all : List Str) (a : Option Nat) (W : WX) : TS := fun D σ H => ∃ env os env1 ss, EnvR X.K H σ env ∧ evs c es env = some (os, env1) ∧ dats os = some ss ∧
  ((∃ o fs, c f ss = some (o, fs) ∧ ∀ H', PoS X.K kp σ H env σ H' env1 → D.nx σ H') ∨ ∃ g, c f (mark :: ss) = some (.dat (.str g), []) ∧ ∀ H', PoS X.K kp σ H env σ H' env1 → W (xvl X.K g) none σ H')
theorem ss_tryc {f x : Str} {es : List E} {all yes : List Str} {a : Option Nat} {h : Hd} : SS c W (.tryc f es x all yes a h) := fun X G kp T O st hx => by
  cases st <;> first | (cases hx; done) | skip
  rename_i body hands orelse fin pos
  match body, hands, orelse, fin, hx with
  | [.Expr (.Call (.Name f' fp) xs [] cpos) epos], [.ExceptHandler (some (.Name x' np)) n suite hpos], [], [], hx =>
    obtain ⟨k1, h11⟩ := and2 (show (decide (f' = f) && gbOk G f' && G.fns.contains (f, es.length) && !es.isEmpty && ckEs es G xs && decide (x' = x) && gbOk G x' && G.xn.contains x && (all.all fun g => G.xs.contains (.exc g) && G.xs.contains (.exm g x (yes.contains g))) && ckN G a n && ckH h G all n suite) = true from hx)
    obtain ⟨k2, h10⟩ := and2 k1
    obtain ⟨k3, h9⟩ := and2 k2
    obtain ⟨k4, h8⟩ := and2 k3
    obtain ⟨k5, h7⟩ := and2 k4
    obtain ⟨k6, h6⟩ := and2 k5
    obtain ⟨k7, h5⟩ := and2 k6
    obtain ⟨k8, h4⟩ := and2 k7
    obtain ⟨k9, h3⟩ := and2 k8
    obtain ⟨h1, h2⟩ := and2 k9
    have ef : f' = f := of_decide_eq_true h1
    have ex' : x' = x := of_decide_eq_true h6
    subst ef ex'
    obtain ⟨g1, g2⟩ := gl_of O h2
    obtain ⟨y1, y2⟩ := gl_of O h7
    have hm := O.xg _ (List.contains_iff_mem.mp h8)
    obtain ⟨ad, fdt, ps, k, m1, m2, m3, m4, m5, m6⟩ := (O.fns f' es.length (by simpa using h3)).ok
    have names : Names X x' (xvl X.K x') := ⟨y1, y2, .inl hm⟩
    have hb : ∀ (W : WX) (pn : List (Addr × Obj)) (xe : Value → Shared → Prop), Takes (X.tr pn xe) W → PassesOwn (model X.prog X.w) X.A X.env xe → PSs (X.tr pn xe) [.Expr (.Call (.Name f' fp) xs [] cpos) epos] (tTb X c kp f' es all a W) := by
      intro W pn xe tk px
      have O' : XOk (X.tr pn xe) G c := ⟨O.n, O.nd, O.calm, O.sc, O.kd, O.fn, O.bn, O.un, fun f n h => ⟨(O.fns f n h).ok⟩, px, O.cd, O.xg, O.xf⟩
      have key : ∀ {D : Ends} {σ : St} {H : Hp}, tTb X c kp f' es all a W D σ H → tCallS (spC X.K c f') (WE W) (tAs X.K (evs c es)) σ H fun _ H1 => D.nx σ H1 := by
        rintro D σ H ⟨env, os, env1, ss, E, e1, e2, hc⟩
        refine ⟨env, os, env1, E, e1, fun vs H1 E1 t1 r1 => ?_⟩
        dsimp only
        obtain ⟨l1, l2, l3, l4⟩ := lend_ok E1 r1 (dats_lend e2)
        rcases hc with ⟨o, fs, e3, q⟩ | ⟨g, e3, q⟩
        · refine .inl ⟨ss, o, fs, l3, e3, fun v H2 F tc ro ns nr => ?_⟩
          have p := call_end E1 t1 r1 (dats_lend e2) F tc ro ns nr
          rw [dats_give e2] at p
          exact q H2 (.ex p.e p.t)
        · refine .inr ⟨ss, g, l3, dats_own e2, e3, fun H2 more => ?_⟩
          exact q H2 (.ex (kept_env E1 more) (t1.trans ⟨fun b u e _ => more b u e, fun p z => .inl z⟩))
      cases es with
      | nil => cases h4
      | cons e es =>
      cases xs with
      | nil => cases h5
      | cons y ys =>
        obtain ⟨k1, k2⟩ := and2 (show (ckE e G y && ckEs es G ys) = true from h5)
        have pc := pe_callS (X := X.tr pn xe) (E := WE W) (p := fp) (pos := cpos) m4 m5 g1 m1 m2 m3 (passAt tk) (pa_os O' (ses (e :: es)) h5) g2 (star_of k1 _) (any_star k2)
        exact PSs.imp (pss_cons (ps_expr pc rfl) pss_nil) fun D σ H h => key h
    have main : ∀ {D : Ends} {σ : St} {H : Hp} (WB : WX), tS X kp (ex c W (.tryc f' es x' all yes a h)) D σ H →
        (∀ g H' , g ∈ all → (∀ j, a = some j → j < σ.length) → (yes.contains g = true → D.rt (hdW h g) H' ∧ ∀ H2, More H' H2 → D.rt (hdW h g) H2) → (yes.contains g = false → XW X g H') → WB (xvl X.K g) none σ H') → tTb X c kp f' es all a WB D σ H := by
      rintro D σ H WB ⟨env, r, E, hf, q⟩ hw
      obtain ⟨os, env1, ss, e1, e2, hc⟩ := try_inv hf
      refine ⟨env, os, env1, ss, E, e1, e2, ?_⟩
      rcases hc with ⟨o, fs, e3, rfl⟩ | ⟨g, e3, hg, hi, hr⟩
      · exact .inl ⟨o, fs, e3, fun H' p => q σ H' p⟩
      · refine .inr ⟨g, e3, fun H' p => hw g H' hg (fun j hj => ?_) (fun hy => ?_) fun hy => ?_⟩
        · subst hj
          have : j < env1.length := of_decide_eq_true hi
          rw [← p.e.len]; exact this
        · rcases hr with ⟨_, rfl⟩ | ⟨z, _⟩
          · have go : ∀ H2, More H' H2 → D.rt (hdW h g) H2 := fun H2 more =>
              q _ σ H2 (p.trans (.ex (kept_env p.e more) ⟨fun b u e _ => more b u e, fun p z => .inl z⟩)) hd_rp fun _ _ z => nomatch z
            exact ⟨go H' fun _ _ z => z, go⟩
          · rw [hy] at z; cases z
        · rcases hr with ⟨z, _⟩ | ⟨_, rfl⟩
          · rw [hy] at z; cases z
          · exact q σ H' p
    have hexc : (all.all fun g => G.xs.contains (.exc g)) = true := List.all_eq_true.mpr fun g hg => (and2 (List.all_eq_true.mp h9 g hg)).1
    have hexm : ∀ g ∈ all, PySem.W.exmOne X.K (xvl X.K g) (xvl X.K x') = some (yes.contains g) := fun g hg => of_decide_eq_true (O.xf _ (List.contains_iff_mem.mp (and2 (List.all_eq_true.mp h9 g hg)).2))
    cases suite with
    | nil => exact (ckH_nil h11).elim
    | cons b0 suite =>
    cases n with
    | some n =>
      obtain ⟨i, rfl, w1, w2, _, _⟩ := ckN_ok O h10
      refine PS.imp (ps_try_as T.1 T.2 O.nd w1 w2 names takes_W0 hb
        (fun a' oe cls d pn hz hf => suite_ok O h10 h11 hexc hz hf)) fun D σ H hw => main _ hw fun g H' hg hj hy hno => ?_
      refine ⟨_, hexm g hg, fun e a' na => ⟨g, hg, rfl, rfl, fun j hj' => ?_, (hy e).2⟩, fun e => ⟨g, rfl, rfl, hno e⟩⟩
      cases hj'
      rw [List.getElem?_set_self (hj i rfl)]
    | none =>
      cases a with
      | some i => cases h10
      | none =>
      refine PS.imp (ps_try_only T.1 T.2 names takes_W0 hb (fun a' oe cls d pn hz hf => suite_ok O h10 h11 hexc hz hf)) fun D σ H hw => main _ hw fun g H' hg hj hy hno => ?_
      exact ⟨_, hexm g hg, fun e a' na => ⟨g, hg, rfl, rfl, fun j hj' => (nomatch hj'), (hy e).2⟩, fun e => ⟨g, rfl, rfl, hno e⟩⟩
end
end PF
/-! PF13: the other statements; loops. -/
namespace PF
open PySem PySem.Spec PyProof.Rows L2
section
variable {c : Cl} {W : Nat}
theorem ss_aug {op : Op2} {i : Nat} {e : E} : SS c W (.aug op i e) := fun X G kp T O x hx => by
  cases x <;> first | (cases hx; done) | skip
  rename_i tg o v pos
  cases tg <;> first | (cases hx; done) | skip
  rename_i x p
  obtain ⟨k1, k2⟩ := and2 hx
  obtain ⟨k3, k4⟩ := and2 k1
  obtain ⟨k5, k6⟩ := and2 k3
  obtain ⟨k7, k8⟩ := and2 k5
  have hk : kp.contains i = false := by simpa using k8
  have eo : op.py = o := of_decide_eq_true k6
  subst eo
  obtain ⟨n1, n2, n3⟩ := loc_of O k7
  have inv : ∀ {env : Env} {r : R}, ex c W (.aug op i e) env = some r → ∃ o env1 y x z x1, look env i = .val x1 ∧ ev c e .v env = some (o, env1) ∧ view env1 o = some y ∧ look env1 i = .val x ∧ aug2 op x y = some z ∧ r = .nx (env1.set i (.val z)) := by
    intro env r h
    simp only [ex] at h
    cases e0 : look env i with
    | un => rw [e0] at h; cases h
    | own _ => rw [e0] at h; cases h
    | val x1 =>
      rw [e0] at h
      simp only at h
      cases e1 : ev c e .v env with
      | none => rw [e1] at h; cases h
      | some oe =>
        obtain ⟨o, env1⟩ := oe
        rw [e1] at h
        simp only at h
        cases e2 : view env1 o with
        | none => rw [e2] at h; cases h
        | some y =>
          cases e3 : look env1 i with
          | un => rw [e2, e3] at h; cases h
          | own _ => rw [e2, e3] at h; cases h
          | val x =>
            rw [e2, e3] at h
            simp only at h
            cases e4 : aug2 op x y with
            | none => rw [e4] at h; cases h
            | some z => rw [e4] at h; cases h; exact ⟨o, env1, y, x, z, x1, rfl, rfl, e2, e3, e4, rfl⟩
  have back : ∀ {D : Ends} {σ : St} {H : Hp} {f : Int → Int → Int}, (∀ a b z, aug2 op a b = some z → ∃ m n, a = .int m ∧ b = .int n ∧ z = .int (f m n)) → tS X kp (ex c W (.aug op i e)) D σ H → tAug i (tE X.K (ev c e .v)) (ipI f) D σ H := by
    intro D σ H f hf0 h
    obtain ⟨env, r, E, hf, q⟩ := h
    obtain ⟨o, env1, y, x, z, x1, e0, e1, e2, e3, e4, rfl⟩ := inv hf
    obtain ⟨m, n, rfl, rfl, rfl⟩ := hf0 _ _ _ e4
    obtain ⟨x0, hx0, _⟩ := E.val e0
    refine ⟨x0, hx0, env, o, env1, E, e1, fun v H1 p1 => ?_⟩
    obtain ⟨v0, g1, g2⟩ := p1.e.val e3
    rw [hx0] at g1
    cases g1
    refine ⟨m, n, g2, (p1.r.view p1.e e2).int, ?_⟩
    exact q _ _ (store_end hk (po_dat (d := .int (f m n)) p1.e p1.t rfl) rfl fun _ z => nomatch z)
  rw [Bool.or_eq_true, decide_eq_true_eq, decide_eq_true_eq] at k4
  rcases k4 with rfl | rfl
  · refine PS.imp (ps_aug O.nd n1 n2 (se e X G O _ k2).1 ip_add n3) fun D σ H h => back (fun a b z hz => ?_) h
    cases a <;> cases b <;> first | (cases hz; done) | (cases hz; exact ⟨_, _, rfl, rfl, rfl⟩)
  · refine PS.imp (ps_aug O.nd n1 n2 (se e X G O _ k2).1 ip_sub n3) fun D σ H h => back (fun a b z hz => ?_) h
    cases a <;> cases b <;> first | (cases hz; done) | (cases hz; exact ⟨_, _, rfl, rfl, rfl⟩)
def isStar : Expr → Bool
  | .Starred .. => true
  | _ => false
theorem sw_par {env : PySem.Env} {x y : Str} {px py : Pos} {kt k2 : Nat} {pt pt2 : Pos} {a' b' : Expr} (kx : env.kindOf x = some .local) (ky : env.kindOf y = some .local) (hb : env.blockKind = .function) (l1 : (py.line == px.line) = true) (hxy : x ≠ y)
    (s1 : isStar a' = false) (s2 : isStar b' = false) (f0 : ([a', b'].all (foldedForSure 8)) = false) (f1 : ([a', b'].all (constantsAlone 8)) = false) :
    swappedStores [.Tuple [.Name x px, .Name y py] kt pt] (.Tuple [a', b'] k2 pt2) env = pure (some [x, y]) := by
  have e1 : ([a', b'].any fun | .Starred .. => true | _ => false) = false := by
    show (isStar a' || (isStar b' || false)) = false
    rw [s1, s2]; rfl
  have l1' : py.line = px.line := eq_of_beq l1
  have hyx : (y == x) = false := beq_eq_false_iff_ne.mpr (Ne.symm hxy)
  unfold swappedStores
  simp only [hb, f0, f1]
  refine (if_neg (by simp)).trans ?_
  refine (if_neg (fun z => Bool.false_ne_true (e1.symm.trans z))).trans ?_
  simp [kx, ky, l1', Expr.pos, List.eraseDups_cons, hyx]
theorem nostar {e : E} {G : Ck} {x : Expr} (h : ckE e G x = true) : isStar x = false := by
  cases x <;> first | rfl | (exfalso; cases e <;> first | (cases h; done) | (rename_i src _ _; cases src <;> cases h))
theorem ss_par {i j : Nat} {a b : E} : SS c W (.par i j a b) := fun X G kp T O x hx => by
  cases x <;> first | (cases hx; done) | skip
  rename_i ts v pos
  match ts, v, hx with
  | [.Tuple [.Name x px, .Name y py] kt pt], .Tuple [a', b'] k2 pt2, hx =>
    obtain ⟨h1, c1⟩ := and2 (show (decide (G.N[i]? = some x) && decide (G.N[j]? = some y) && decide (i ≠ j) && !kp.contains i && !kp.contains j && decide (G.sc.names.lookup x = some .local) && decide (G.sc.names.lookup y = some .local) &&
      (px.line == py.line) && decide (x ≠ y) && !([a', b'].all (foldedForSure 8)) && !([a', b'].all (constantsAlone 8)) && ckE a G a' && ckE b G b') = true from hx)
    obtain ⟨h2, c2⟩ := and2 h1
    obtain ⟨h3, c3⟩ := and2 h2
    obtain ⟨h4, c4⟩ := and2 h3
    obtain ⟨h5, c5⟩ := and2 h4
    obtain ⟨h6, c6⟩ := and2 h5
    obtain ⟨h7, c7⟩ := and2 h6
    obtain ⟨h8, c8⟩ := and2 h7
    obtain ⟨h9, c9⟩ := and2 h8
    obtain ⟨h10, c10⟩ := and2 h9
    obtain ⟨h11, c11⟩ := and2 h10
    obtain ⟨c13, c12⟩ := and2 h11
    have hi : X.N[i]? = some x := by rw [O.n]; exact of_decide_eq_true c13
    have hj : X.N[j]? = some y := by rw [O.n]; exact of_decide_eq_true c12
    have hij : i ≠ j := of_decide_eq_true c11
    have lx : X.env.scope.names.lookup x = some .local := by rw [O.sc]; exact of_decide_eq_true c8
    have ly : X.env.scope.names.lookup y = some .local := by rw [O.sc]; exact of_decide_eq_true c7
    have hxy : x ≠ y := of_decide_eq_true c5
    have hpa : PA X [a', b'] (tDs X.K (evds c [a, b])) := pa_ds O (ses [a, b]) (show ckEs [a, b] G [a', b'] = true by
      show (ckE a G a' && (ckE b G b' && true)) = true
      rw [c2, c1]; rfl)
    have hb : X.env.blockKind = .function := by unfold Env.blockKind; rw [O.sc, O.kd]; rfl
    have l1 : (py.line == px.line) = true := by
      have e : px.line = py.line := eq_of_beq c6
      rw [e]; exact beq_self_eq_true _
    have hw : swappedStores [.Tuple [.Name x px, .Name y py] kt pt] (.Tuple [a', b'] k2 pt2) X.env = pure (some [x, y]) :=
      sw_par lx ly hb l1 hxy (nostar c2) (nostar c1) ((Bool.not_eq_true' _).mp c4) ((Bool.not_eq_true' _).mp c3)
    refine PS.imp (ps_par O.calm O.nd hi hj hij lx ly hpa hw rfl) fun D σ H ⟨env, r, E, hf, q⟩ => ?_
    simp only [ex] at hf
    cases e1 : evds c [a, b] env with
    | none => rw [e1] at hf; cases hf
    | some de =>
      obtain ⟨ds, env1⟩ := de
      rw [e1] at hf
      match ds, hf, e1 with
      | [d, e], hf, e1 =>
        cases hf
        refine ⟨env, [d, e], env1, E, e1, fun vs H1 E1 t1 r1 => ?_⟩
        obtain ⟨v, r, rfl, rv, rr⟩ := r1
        obtain ⟨w, r', rfl, rw', rr'⟩ := rr
        have : r' = [] := rr'
        subst this
        refine ⟨v, w, rfl, q _ H1 ?_⟩
        have p1 := store_end (kp := kp) (i := i) (by simpa using c10) (po_dat E1 t1 rv) rfl fun _ z => nomatch z
        have p2 := store_end (kp := kp) (i := j) (by simpa using c9) (po_dat p1.e .refl rw') rfl fun _ z => nomatch z
        exact p1.trans p2
theorem sub2_inv {i : Nat} {ix jx e : E} {env : Env} {r : R} (h : ex c W (.sub2 i ix jx e) env = some r) :
    ∃ d d2 env1 l0 k env2 xs j k2 env3 ys j2, ev c e .v env = some (.dat (.tup [d, d2]), env1) ∧ look env1 i = .own l0 ∧ ev c ix .v env1 = some (.dat (.int k), env2) ∧ look env2 i = .own (.lst xs) ∧ ixn xs.length k = some j ∧
      ev c jx .v (env2.set i (.own (.lst (xs.set j d)))) = some (.dat (.int k2), env3) ∧ look env3 i = .own (.lst ys) ∧ ixn ys.length k2 = some j2 ∧ r = .nx (env3.set i (.own (.lst (ys.set j2 d2)))) := by
  simp only [ex] at h
  split at h
  · rename_i d d2 env1 f1
    split at h
    · rename_i l0 f2
      split at h
      · rename_i k env2 f3
        split at h
        · rename_i xs f4
          split at h
          · rename_i j f5
            split at h
            · rename_i k2 env3 f6
              split at h
              · rename_i ys f7
                split at h
                · rename_i j2 f8
                  cases h
                  exact ⟨d, d2, env1, l0, k, env2, xs, j, k2, env3, ys, j2, f1, f2, f3, f4, f5, f6, f7, f8, rfl⟩
                · cases h
              · cases h
            · cases h
          · cases h
        · cases h
      · cases h
    · cases h
  · cases h
theorem ss_sub2 {i : Nat} {ix jx e : E} : SS c W (.sub2 i ix jx e) := fun X G kp T O x hx => by
  cases x <;> first | (cases hx; done) | skip
  rename_i ts v pos
  match ts, hx with
  | [.Tuple [.Subscript (.Name x p) ix' sp, .Subscript (.Name y p') jx' sp'] kt pt], hx =>
    obtain ⟨h1, k6⟩ := and2 (show (ldOk G i x && ldOk G i y && ckE ix G ix' && ckE jx G jx' && ckE e G v && !isComp v) = true from hx)
    obtain ⟨h2, k5⟩ := and2 h1
    obtain ⟨h3, k4⟩ := and2 h2
    obtain ⟨h4, k3⟩ := and2 h3
    obtain ⟨k1, k2⟩ := and2 h4
    have hs : swapsWithSole [.Tuple [.Subscript (.Name x p) ix' sp, .Subscript (.Name y p') jx' sp'] kt pt] v pos.line X.env = pure false := by
      unfold swapsWithSole
      exact sw_none (by simpa using k6)
    have ha : ∀ v, assign (.Subscript (.Name x p) ix' sp) X.env v = (do
        let ov ← holding [v] (eval (.Name x p) X.env)
        let iv ← holding [v, ov] (eval ix' X.env)
        standAt sp
        holding [v, ov, iv] (setItem ov iv v)
        release [v, ov, iv] []) := by
      intro v
      cases ix' <;> first | rfl | exact (noslice k3).elim
    have ha' : ∀ v, assign (.Subscript (.Name y p') jx' sp') X.env v = (do
        let ov ← holding [v] (eval (.Name y p') X.env)
        let iv ← holding [v, ov] (eval jx' X.env)
        standAt sp'
        holding [v, ov, iv] (setItem ov iv v)
        release [v, ov, iv] []) := by
      intro v
      cases jx' <;> first | rfl | exact (noslice k4).elim
    have g2 := pg_tup (pos := pt) (k := kt) O.calm (pgs_cons (pg_sub (ld_of O k1) (se ix X G O _ k3).1 set_list ha) (pgs_cons (pg_sub (ld_of O k2) (se jx X G O _ k4).1 set_list ha') pgs_nil))
    have hw : swappedStores [.Tuple [.Subscript (.Name x p) ix' sp, .Subscript (.Name y p') jx' sp'] kt pt] v X.env = pure none := by
      cases v <;> first | rfl | skip
      unfold swappedStores
      simp
    refine PS.imp (ps_asg (se e X G O _ k5).1 g2 hs hw rfl) fun D σ H ⟨env, r, E, hf, q⟩ => ?_
    obtain ⟨d, d2, env1, l0, k, env2, xs, j, k2', env3, ys, j2, f1, f2, f3, f4, f5, f6, f7, f8, rfl⟩ := sub2_inv hf
    refine ⟨env, _, env1, E, f1, fun v H1 p1 => ?_⟩
    obtain ⟨a, vs, rfl, tp, rd⟩ := p1.r
    have hl := rd.length
    obtain ⟨v1, r1, rfl, q1, rd⟩ := rd
    obtain ⟨v2, r2, rfl, q2, rd⟩ := rd
    have : r2 = [] := rd
    subst this
    obtain ⟨x0, hx0⟩ : ∃ x0, σ[i]? = some (some x0) := by
      obtain ⟨p0, g1, _⟩ := p1.e.own f2
      exact ⟨_, g1⟩
    refine ⟨a, _, rfl, tp.sq, rfl, v1, _, rfl, x0, hx0, env1, _, env2, p1.e, f3, fun kv H2 p2 => ?_⟩
    obtain ⟨p0, g1, g2, _⟩ := p2.e.own f4
    rw [hx0] at g1
    cases g1
    obtain ⟨us, hv, rv⟩ := g2
    have hkv : kv = .int k := p2.r
    have w1 : Rp X.K H2 d v1 := q1.mono (p2.t.kp p1.e)
    have w2 : Rp X.K H2 d2 v2 := q2.mono (p2.t.kp p1.e)
    obtain ⟨kq, oq⟩ := upd_own (p := p0) hv (rv.set w1 j)
    have pe := mut_end (r := .non) (v := .non) p2.e (p1.t.trans p2.t) f4 hx0 (fun b n => upd_ne n) oq ⟨us, hv, rv⟩ rfl
    refine ⟨p0, us, k, j, rfl, hkv, hv, by rw [rv.length]; exact f5, v2, _, rfl, _, hx0, _, _, env3, pe.e, f6, fun kv2 H4 p4 => ?_⟩
    obtain ⟨p0', g1, g3, _⟩ := p4.e.own f7
    rw [hx0] at g1
    cases g1
    obtain ⟨us', hv', rv'⟩ := g3
    have hkv2 : kv2 = .int k2' := p4.r
    have w3 : Rp X.K H4 d2 v2 := (w2.mono kq).mono (p4.t.kp pe.e)
    obtain ⟨kq', oq'⟩ := upd_own (p := p0) hv' (rv'.set w3 j2)
    have pe' := mut_end (r := .non) (v := .non) p4.e (pe.t.trans p4.t) f7 hx0 (fun b n => upd_ne n) oq' ⟨us', hv', rv'⟩ rfl
    exact ⟨p0, us', k2', j2, rfl, hkv2, hv', by rw [rv'.length]; exact f8, rfl, q σ _ (.ex pe'.e pe'.t)⟩
end
end PF
/-! PF14: loops; all statements; defs. -/
namespace PF
open PySem PySem.Spec PyProof.Rows L2
section
variable {c : Cl} {W : Nat}
/-- a turn of a while -/
def whlF (c : Cl) (W : Nat) (t : E) (b : List S) : Env → Option (Option R × Env) := fun env => match ev c t .t env with
  | some (.dat (.bl false), env) => some (some (.nx env), env)
  | some (.dat (.bl true), env) => match exs c W b env with
    | none => none
    | some (.nx env) => some (none, env)
    | some (.brk env) => some (some (.nx env), env)
    | some (.ret o env) => some (some (.ret o env), env)
    | some (.exc f env) => some (some (.exc f env), env)
  | _ => none
theorem whl_inv {t : E} {b : List S} {m : Nat} {env : Env} {r : R} (h : whlLoop (whlF c W t b) m env = some r) : ∃ m' env1, m = m' + 1 ∧
    ((ev c t .t env = some (.dat (.bl false), env1) ∧ r = .nx env1) ∨ (ev c t .t env = some (.dat (.bl true), env1) ∧ ∃ rb, exs c W b env1 = some rb ∧
      ((∃ env2, rb = .nx env2 ∧ whlLoop (whlF c W t b) m' env2 = some r) ∨ (∃ env2, rb = .brk env2 ∧ r = .nx env2) ∨ (∃ o env2, rb = .ret o env2 ∧ r = .ret o env2) ∨ ∃ f env2, rb = .exc f env2 ∧ r = .exc f env2))) := by
  cases m with
  | zero => cases h
  | succ m =>
    unfold whlLoop at h
    cases e1 : ev c t .t env with
    | none => simp only [whlF, e1] at h; cases h
    | some oe =>
      obtain ⟨o, env1⟩ := oe
      cases o with
      | dat d =>
        cases d with
        | bl k =>
          cases k with
          | false =>
            simp only [whlF, e1] at h
            cases h
            exact ⟨m, env1, rfl, .inl ⟨rfl, rfl⟩⟩
          | true =>
            cases e2 : exs c W b env1 with
            | none => simp only [whlF, e1, e2] at h; cases h
            | some rb =>
              refine ⟨m, env1, rfl, .inr ⟨rfl, rb, e2, ?_⟩⟩
              cases rb with
              | nx env2 =>
                simp only [whlF, e1, e2] at h
                exact .inl ⟨env2, rfl, h⟩
              | brk env2 =>
                simp only [whlF, e1, e2] at h
                cases h
                exact .inr (.inl ⟨env2, rfl, rfl⟩)
              | ret o env2 =>
                simp only [whlF, e1, e2] at h
                cases h
                exact .inr (.inr (.inl ⟨o, env2, rfl, rfl⟩))
              | exc f env2 =>
                simp only [whlF, e1, e2] at h
                cases h
                exact .inr (.inr (.inr ⟨f, env2, rfl, rfl⟩))
        | _ => simp only [whlF, e1] at h; cases h
      | _ => simp only [whlF, e1] at h; cases h
theorem EndR.ret' {X : Cx} {kp : List Nat} {σ σ1 σ2 : St} {H H1 H2 : Hp} {env env1 env2 : Env} {o : Opd} {D : Ends} (q : EndR X kp σ H env D (.ret o env2)) (p1 : PoS X.K kp σ H env σ1 H1 env1) {v : V} (p2 : PoS X.K kp σ1 H1 env1 σ2 H2 env2) (r : OpdR X.K H2 σ2 env2 o v)
    (n : ∀ d p, o = .own d → v = .ref p → H1 p = none ∨ OwnA env1 σ1 p) : D.rt v H2 :=
  q v σ2 H2 (p1.trans p2) r fun d p e1 e2 => by
    rcases n d p e1 e2 with z | z
    · exact p1.t.fresh z
    · exact (p1.t.s p z).symm
theorem ss_whl {t : E} {b : List S} (hb : SSs c W b) : SS c W (.whl t b) := fun X G kp T O x hx => by
  cases x <;> first | (cases hx; done) | skip
  rename_i t' b' el pos
  cases el <;> first | (cases hx; done) | skip
  obtain ⟨k1, k2⟩ := and2 hx
  refine PS.imp (ps_while O.px (se t X G O _ k1).2 (hb X G kp T O _ k2)) fun D σ H ⟨env, r, E, hf, q⟩ => ?_
  have hf' : whlLoop (whlF c W t b) W env = some r := hf
  refine ⟨fun m σ1 H1 => ∃ env1, whlLoop (whlF c W t b) m env1 = some r ∧ PoS X.K kp σ H env σ1 H1 env1, ⟨W, env, hf', .refl E⟩, ?_⟩
  rintro m σ1 H1 ⟨env1, hl, p1⟩
  obtain ⟨m', env2, rfl, hcase⟩ := whl_inv hl
  rcases hcase with ⟨e1, rfl⟩ | ⟨e1, rb, e2, hcase⟩
  · refine ⟨env1, false, env2, p1.e, e1, fun H2 E2 t2 => ?_⟩
    dsimp only
    rw [if_neg Bool.false_ne_true]
    exact q σ1 H2 (p1.trans (.ex E2 t2))
  · refine ⟨env1, true, env2, p1.e, e1, fun H2 E2 t2 => ?_⟩
    dsimp only
    rw [if_pos rfl]
    have p2 := p1.trans (PoS.ex (kp := kp) E2 t2)
    refine ⟨fun σ' H' => ∃ env', whlLoop (whlF c W t b) m' env' = some r ∧ PoS X.K kp σ H env σ' H' env', fun σ' H' n => ⟨m', Nat.lt_succ_self _, n⟩, env2, rb, E2, e2, ?_⟩
    rcases hcase with ⟨env3, rfl, hl'⟩ | ⟨env3, rfl, rfl⟩ | ⟨o, env3, rfl, rfl⟩ | ⟨f, env3, rfl, rfl⟩
    · exact fun σ' H' p3 => ⟨env3, hl', p2.trans p3⟩
    · exact fun σ' H' p3 => q σ' H' (p2.trans p3)
    · exact fun v σ' H' p3 r n => EndR.ret' q p2 p3 r n
    · exact fun σ' H' p3 => q σ' H' (p2.trans p3)
/-- a turn of a for -/
def forF (c : Cl) (W : Nat) (tg : Tg) (b : List S) : D → Env → Option R := fun x env => match bindT env tg x with
  | none => none
  | some env => exs c W b env
theorem for_inv {tg : Tg} {b : List S} {x : D} {xs : List D} {env : Env} {r : R} (h : forLoop (forF c W tg b) (x :: xs) env = some r) :
    ∃ env1 rb, bindT env tg x = some env1 ∧ exs c W b env1 = some rb ∧ ((∃ env2, rb = .nx env2 ∧ forLoop (forF c W tg b) xs env2 = some r) ∨ (∃ env2, rb = .brk env2 ∧ r = .nx env2) ∨ (∃ o env2, rb = .ret o env2 ∧ r = .ret o env2) ∨ ∃ f env2, rb = .exc f env2 ∧ r = .exc f env2) := by
  unfold forLoop at h
  cases e1 : bindT env tg x with
  | none => simp only [forF, e1] at h; cases h
  | some env1 =>
    cases e2 : exs c W b env1 with
    | none => simp only [forF, e1, e2] at h; cases h
    | some rb =>
      refine ⟨env1, rb, rfl, e2, ?_⟩
      cases rb with
      | nx env2 =>
        simp only [forF, e1, e2] at h
        exact .inl ⟨env2, rfl, h⟩
      | brk env2 =>
        simp only [forF, e1, e2] at h
        cases h
        exact .inr (.inl ⟨env2, rfl, rfl⟩)
      | ret o env2 =>
        simp only [forF, e1, e2] at h
        cases h
        exact .inr (.inr (.inl ⟨o, env2, rfl, rfl⟩))
      | exc f env2 =>
        simp only [forF, e1, e2] at h
        cases h
        exact .inr (.inr (.inr ⟨f, env2, rfl, rfl⟩))
theorem ss_for {tg : Tg} {src : E} {b : List S} (hb : SSs c W b) : SS c W (.for tg src b) := fun X G kp T O x hx => by
  cases x <;> first | (cases hx; done) | skip
  rename_i tg' src' b' el pos
  cases el <;> first | (cases hx; done) | skip
  obtain ⟨k1, k2⟩ := and2 hx
  obtain ⟨k3, k4⟩ := and2 k1
  obtain ⟨k5, k6⟩ := and2 k3
  refine PS.imp (ps_for O.px O.calm (pi_of O (se2 src).1 (se2 src).2 k4 tg') (pg_of O k5) (hb X G kp T O _ k2) (fun x => nofold k4 X.env x)) fun D σ H ⟨env, r, E, hf, q⟩ => ?_
  have hkp : ∀ j ∈ kp, j ∉ tg.is := fun j hj z => by
    have := List.all_eq_true.mp k6 j z
    rw [List.contains_iff_mem.mpr hj] at this
    cases this
  simp only [ex] at hf
  cases e1 : ev c src .i env with
  | none => rw [e1] at hf; cases hf
  | some oe =>
    obtain ⟨o, env1⟩ := oe
    rw [e1] at hf
    cases o with
    | dat d =>
      cases d with
      | tup xs =>
        have hf' : forLoop (forF c W tg b) xs env1 = some r := hf
        refine ⟨env, xs, env1, E, e1, fun J H1 E1 t1 hJ => ?_⟩
        refine ⟨fun i m σ2 H2 => m = xs.length - i ∧ i ≤ xs.length ∧ ∃ env2, forLoop (forF c W tg b) (xs.drop i) env2 = some r ∧ PoS X.K kp σ H env σ2 H2 env2 ∧ Kp H1 H2, ⟨xs.length, by simp, Nat.zero_le _, env1, hf', .ex E1 t1, Kp.refl _⟩, ?_⟩
        rintro i m σ2 H2 ⟨rfl, hi, env2, hl, p2, kp2⟩
        by_cases hlt : i < xs.length
        · have hdrop : xs.drop i = xs[i] :: xs.drop (i + 1) := List.drop_eq_getElem_cons hlt
          rw [hdrop] at hl
          obtain ⟨env3, rb, e2, e3, hcase⟩ := for_inv hl
          refine .inr ⟨((hJ i H2 kp2).1 hlt).1, fun σ' H' => ∃ env', forLoop (forF c W tg b) (xs.drop (i + 1)) env' = some r ∧ PoS X.K kp σ H env σ' H' env' ∧ Kp H1 H', fun σ' H' ⟨env', n1, n2, n3⟩ => ⟨xs.length - (i + 1), by omega, rfl, hlt, env', n1, n2, n3⟩, fun x H' y => ?_⟩
          obtain ⟨e, d, hd, rd⟩ := ((hJ i H2 kp2).1 hlt).2 x H' y
          subst e
          have ed : xs[i] = d := by rw [List.getElem?_eq_getElem hlt] at hd; exact Option.some.inj hd
          rw [ed] at e2
          refine ⟨env2, d, env3, p2.e, rd, e2, fun σ3 E3 l3 s3 o3 => ?_⟩
          have p3 := p2.trans (⟨E3, ⟨fun b u e _ => e, fun p z => .inl (o3 p z)⟩, fun j hj => s3 j (hkp j hj)⟩ : PoS X.K kp σ2 H' env2 σ3 H' env3)
          refine ⟨env3, rb, E3, e3, ?_⟩
          rcases hcase with ⟨env4, rfl, hl'⟩ | ⟨env4, rfl, rfl⟩ | ⟨o, env4, rfl, rfl⟩ | ⟨f, env4, rfl, rfl⟩
          · exact fun σ' H' p4 => ⟨env4, hl', p3.trans p4, kp2.trans (p4.t.kp E3)⟩
          · exact fun σ' H' p4 => q σ' H' (p3.trans p4)
          · exact fun v σ' H' p4 r n => EndR.ret' q p3 p4 r n
          · exact fun σ' H' p4 => q σ' H' (p3.trans p4)
        · have e : i = xs.length := by omega
          subst e
          rw [List.drop_length] at hl
          cases hl
          exact .inl ⟨(hJ _ H2 kp2).2 rfl, q σ2 H2 p2⟩
      | _ => cases hf
    | _ => cases hf
mutual
theorem ss : ∀ s : S, SS c W s
  | .set i e => ss_set
  | .unp is e => ss_unp
  | .par i j a b => ss_par
  | .sub2 i ix jx e => ss_sub2
  | .sub i ix e => ss_sub
  | .aug op i e => ss_aug
  | .expr e => ss_expr
  | .ret e => ss_ret
  | .ite t a b => ss_ite (sss a) (sss b)
  | .whl t b => ss_whl (sss b)
  | .for tg src b => ss_for (sss b)
  | .brk => ss_brk
  | .pass => ss_pass
  | .stop => ss_stop
  | .raise f => ss_raise
  | .tryc f es x all yes a h => ss_tryc
theorem sss : ∀ l : List S, SSs c W l
  | [] => sss_nil
  | s :: l => sss_cons (ss s) (sss l)
end
end

/-! ### defs -/
/-- what the text says of a def: its statement, its names by slot -/
structure Sg where
  fd : Fd
  N : List Str
  ps : List Str
  st : Stmt
def sgs (l : List Sg) : List (Str × Nat) := l.map fun g => (g.fd.name, g.fd.ps)
def ckOf (bn xn : List Str) (xs : List XF) (l : List Sg) (g : Sg) : Ck := { N := g.N, sc := defScope g.st, st := fun _ => true, bn := bn, fns := sgs l, xn := xn, xs := xs }
/-- a def's body is what is told -/
def ckF (bn xn : List Str) (xs : List XF) (l : List Sg) (g : Sg) : Bool :=
  ckSs g.fd.body (ckOf bn xn xs l g) g.fd.keep (defBody g.st) && decide (g.ps.length = g.fd.ps) && decide (g.N.length = g.fd.n) && (g.fd.keep.all fun j => decide (j < g.fd.ps)) && decide (g.fd.ps ≤ g.fd.n)
/-- a def as it stands behind the top -/
structure FnAt (K : PySem.W.Frag) (mg : Str → Option Value) (g : Sg) : Prop where
  ok : ∃ (f : Addr) (fdt : FuncData), Fun K g.fd.name g.fd.name g.st f fdt ∧ mg g.fd.name = some (.ref f) ∧ Binds K fdt g.ps []
theorem finals_len (fd : Fd) (env : Env) : (finals fd env).length = fd.ps := by
  unfold finals; rw [List.length_map, List.length_range]
theorem callL_inv {prog : List Fd} {W k : Nat} {f : Str} {ss : List Slot} {o : Opd} {fs : List Slot} (h : callL prog W (k + 1) f ss = some (o, fs)) (hm : ∀ g r, ss ≠ .val (.fn g) :: r) :
    ∃ fd, prog.find? (fun d => d.name == f) = some fd ∧ ss.length = fd.ps ∧ fd.ps ≤ fd.n ∧ ∃ env', fs = finals fd env' ∧ (∀ i, o ≠ .slot i) ∧
      ((o = .dat .non ∧ exs (callL prog W k) W fd.body (ss ++ List.replicate (fd.n - fd.ps) .un) = some (.nx env')) ∨ exs (callL prog W k) W fd.body (ss ++ List.replicate (fd.n - fd.ps) .un) = some (.ret o env')) := by
  simp only [callL] at h
  cases e1 : prog.find? (fun d => d.name == f) with
  | none => rw [e1] at h; cases h
  | some fd =>
    rw [e1] at h
    simp only at h
    by_cases hc : ss.length = fd.ps ∧ fd.ps ≤ fd.n
    · rw [if_pos hc] at h
      refine ⟨fd, rfl, hc.1, hc.2, ?_⟩
      cases e2 : exs (callL prog W k) W fd.body (ss ++ List.replicate (fd.n - fd.ps) .un) with
      | none => rw [e2] at h; cases h
      | some r =>
        rw [e2] at h
        cases r with
        | nx env' => cases h; exact ⟨env', rfl, (fun _ z => nomatch z), .inl ⟨rfl, rfl⟩⟩
        | brk env' => cases h
        | exc g env' => cases h
        | ret o' env' =>
          cases o' with
          | dat d => cases h; exact ⟨env', rfl, (fun _ z => nomatch z), .inr rfl⟩
          | own d => cases h; exact ⟨env', rfl, (fun _ z => nomatch z), .inr rfl⟩
          | slot i => cases h
    · rw [if_neg hc] at h
      cases h
theorem callL_xinv {prog : List Fd} {W k : Nat} {f g : Str} {ss : List Slot} (h : callL prog W (k + 1) f (mark :: ss) = some (.dat (.str g), [])) :
    ∃ fd, prog.find? (fun d => d.name == f) = some fd ∧ ss.length = fd.ps ∧ fd.ps ≤ fd.n ∧ ∃ env', exs (callL prog W k) W fd.body (ss ++ List.replicate (fd.n - fd.ps) .un) = some (.exc g env') := by
  simp only [callL] at h
  cases e1 : prog.find? (fun d => d.name == f) with
  | none => rw [e1] at h; cases h
  | some fd =>
    rw [e1] at h
    simp only at h
    by_cases hc : (mark :: ss).length = fd.ps ∧ fd.ps ≤ fd.n
    · rw [if_pos hc] at h
      have no : ∀ env', finals fd env' ≠ [] := fun env' z => by
        have h1 := finals_len fd env'
        rw [z, ← hc.1] at h1
        simp at h1
      split at h
      all_goals first
        | (cases h; done)
        | exact absurd (Prod.mk.inj (Option.some.inj h)).2 (no _)
    · rw [if_neg hc] at h
      have h' : (if ss.length = fd.ps ∧ fd.ps ≤ fd.n ∧ noOwn ss = true then
            match exs (callL prog W k) W fd.body (ss ++ List.replicate (fd.n - fd.ps) .un) with
            | some (.exc g _) => some (Opd.dat (.str g), ([] : List Slot))
            | _ => none
          else none) = some (.dat (.str g), []) := h
      by_cases hd : ss.length = fd.ps ∧ fd.ps ≤ fd.n ∧ noOwn ss = true
      · rw [if_pos hd] at h'
        refine ⟨fd, rfl, hd.1, hd.2.1, ?_⟩
        cases e2 : exs (callL prog W k) W fd.body (ss ++ List.replicate (fd.n - fd.ps) .un) with
        | none => rw [e2] at h'; cases h'
        | some r =>
          rw [e2] at h'
          cases r with
          | exc g' env' => cases h'; exact ⟨env', rfl⟩
          | nx _ => cases h'
          | brk _ => cases h'
          | ret _ _ => cases h'
      · rw [if_neg hd] at h'; cases h'
end PF
/-! PF15: the defs of a text keep what the evaluator tells. -/
namespace PF
open PySem PySem.Spec PyProof.Rows L2
section
variable {K : PySem.W.Frag} {H : Hp} {σ : St} {ss : Env}
theorem pad_get {m i : Nat} {s : Slot} (h : (ss ++ List.replicate m Slot.un)[i]? = some s) : (i < ss.length ∧ ss[i]? = some s) ∨ (ss.length ≤ i ∧ i < ss.length + m ∧ s = .un) := by
  by_cases hi : i < ss.length
  · rw [List.getElem?_append_left hi] at h; exact .inl ⟨hi, h⟩
  · rw [List.getElem?_append_right (by omega), List.getElem?_replicate] at h
    split at h
    · cases h; exact .inr ⟨by omega, by omega, rfl⟩
    · cases h
theorem pad_own {m : Nat} (hl : ss.length = σ.length) {p : Addr} : OwnA (ss ++ List.replicate m .un) (σ ++ List.replicate m none) p ↔ OwnA ss σ p := by
  constructor
  · rintro ⟨i, d, h1, h2⟩
    rcases pad_get h1 with ⟨hi, e⟩ | ⟨_, _, e⟩
    · rw [List.getElem?_append_left (by omega)] at h2
      exact ⟨i, d, e, h2⟩
    · cases e
  · rintro ⟨i, d, h1, h2⟩
    have hi : i < ss.length := (List.getElem?_eq_some_iff.mp h1).1
    exact ⟨i, d, by rw [List.getElem?_append_left hi]; exact h1, by rw [List.getElem?_append_left (by omega)]; exact h2⟩
theorem EnvR.pad (E : EnvR K H σ ss) (m : Nat) : EnvR K H (σ ++ List.replicate m none) (ss ++ List.replicate m .un) := by
  refine ⟨by rw [List.length_append, List.length_append, List.length_replicate, List.length_replicate, E.len], fun i s e => ?_, fun i j d e p h1 h2 h3 h4 => ?_⟩
  · rcases pad_get e with ⟨hi, e⟩ | ⟨h1, h2, rfl⟩
    · obtain ⟨x, e2, r⟩ := E.sl i s e
      exact ⟨x, by rw [List.getElem?_append_left (by rw [← E.len]; exact hi)]; exact e2, r⟩
    · have hl := E.len
      exact ⟨none, by rw [List.getElem?_append_right (by omega), List.getElem?_replicate, if_pos (by omega)], trivial⟩
  · have hl := E.len
    rcases pad_get h1 with ⟨hi, e1⟩ | ⟨_, _, e1⟩
    · rcases pad_get h2 with ⟨hj, e2⟩ | ⟨_, _, e2⟩
      · rw [List.getElem?_append_left (by omega)] at h3 h4
        exact E.dj i j d e p e1 e2 h3 h4
      · cases e2
    · cases e1
end
/-- the parameters at the end -/
theorem fin_ok {K : PySem.W.Frag} {fd : Fd} {vs : List V} {m : Nat} {H H' : Hp} {env0 env' : Env} {σ' : St} (hl : vs.length = fd.ps) (hk : ∀ j ∈ fd.keep, j < fd.ps) (p : PoS K fd.keep (vs.map some ++ List.replicate m none) H env0 σ' H' env') :
    EnvR K H' (vs.map some) (finals fd env') ∧ ∀ q, OwnA (finals fd env') (vs.map some) q → OwnA env' σ' q := by
  have get : ∀ {j : Nat} {s : Slot}, (finals fd env')[j]? = some s → j < fd.ps ∧ (s = .un ∨ (j ∈ fd.keep ∧ s = look env' j)) := fun {j s} e => by
    unfold finals at e
    rw [List.getElem?_map] at e
    cases h : (List.range fd.ps)[j]? with
    | none => rw [h] at e; cases e
    | some k =>
      rw [h] at e
      have hlt : j < fd.ps := by
        obtain ⟨q, _⟩ := List.getElem?_eq_some_iff.mp h
        rw [List.length_range] at q; exact q
      have hk' : k = j := by rw [List.getElem?_range hlt] at h; exact (Option.some.inj h).symm
      subst hk'
      refine ⟨hlt, ?_⟩
      simp only [Option.map_some, Option.some.injEq] at e
      by_cases hc : fd.keep.contains k = true
      · rw [if_pos hc] at e
        exact .inr ⟨List.contains_iff_mem.mp hc, e.symm⟩
      · rw [if_neg hc] at e
        exact .inl e.symm
  have kept : ∀ {j : Nat}, j ∈ fd.keep → σ'[j]? = (vs.map some)[j]? := fun {j} hj => by
    rw [p.k j hj, List.getElem?_append_left (by rw [List.length_map, hl]; exact hk j hj)]
  have own : ∀ {j : Nat} {d : D}, (finals fd env')[j]? = some (.own d) → j ∈ fd.keep ∧ env'[j]? = some (.own d) := fun {j d} e => by
    rcases (get e).2 with z | ⟨z1, z2⟩
    · cases z
    · exact ⟨z1, look_own z2.symm⟩
  refine ⟨⟨by rw [finals_len, List.length_map, hl], fun j s e => ?_, fun i j d e q h1 h2 h3 h4 => ?_⟩, fun q ⟨j, d, h1, h2⟩ => ?_⟩
  · obtain ⟨hlt, hs⟩ := get e
    have hv : j < (vs.map some).length := by rw [List.length_map, hl]; exact hlt
    rcases hs with rfl | ⟨hj, rfl⟩
    · exact ⟨_, List.getElem?_eq_getElem hv, trivial⟩
    · refine ⟨_, List.getElem?_eq_getElem hv, ?_⟩
      have e2 : σ'[j]? = some (vs.map some)[j] := by rw [kept hj]; exact List.getElem?_eq_getElem hv
      cases hs : look env' j with
      | un => trivial
      | val d =>
        obtain ⟨v, g1, g2⟩ := p.e.val hs
        rw [e2] at g1
        exact ⟨v, Option.some.inj g1, g2⟩
      | own d =>
        obtain ⟨v, g1, g2, _⟩ := p.e.own hs
        rw [e2] at g1
        exact ⟨v, Option.some.inj g1, g2⟩
  · obtain ⟨a1, a2⟩ := own h1
    obtain ⟨b1, b2⟩ := own h2
    rw [← kept a1] at h3
    rw [← kept b1] at h4
    exact p.e.dj i j d e q a2 b2 h3 h4
  · obtain ⟨a1, a2⟩ := own h1
    rw [← kept a1] at h2
    exact ⟨j, d, a2, h2⟩
section
variable {P : Program} {w : World} {K : PySem.W.Frag} {mg : Str → Option Value} {base : Heap}
/-- all that is asked of a text -/
structure TxtOk (K : PySem.W.Frag) (mg : Str → Option Value) (bn xn : List Str) (xs : List XF) (l : List Sg) : Prop where
  at_ : ∀ g ∈ l, FnAt K mg g
  sc : ∀ g ∈ l, FnScope g.N g.ps (defScope g.st)
  ck : ∀ g ∈ l, ckF bn xn xs l g = true
  nm : ∀ g ∈ l, (l.map (·.fd)).find? (fun d => d.name == g.fd.name) = some g.fd
  bn : ∀ x ∈ bn, mg x = none
  xg : ∀ x ∈ xn, mg x = some (xvl K x)
  xf : ∀ φ ∈ xs, φ.ok K = true
theorem start_eq {N : List Str} {vs : List V} : L2.start N vs = vs.map some ++ List.replicate (N.length - vs.length) none := rfl
/-- a def by its body, its code known -/
theorem fun_code {x qual : Str} {st : Stmt} {f : Addr} {fd : FuncData} {N ps : List Str} {k : Nat} {sp : Sp} (F : Fun K x qual st f fd) (S : FnScope N ps (defScope st)) (len : ∀ vs H Q E, sp vs H Q E → vs.length = ps.length)
    (body : ∀ (cdv : Value), PySem.W.codeIn K cdv qual = true → ∀ (A : Around) (outer : List PySem.Env) (s : Shared) (H : Hp) (vs : List V) (Q : VK) (E : XK), Room k (A.deeper (envOfC qual (defScope st) s.heap.objs.size f cdv)) → sp vs H Q E →
      ∃ t, PSs (cxOf (L2.CX P w) P w K mg base N qual (defScope st) f cdv A outer s H E) (defBody st) t ∧ t { nx := fun _ H' => Q .non H', rt := Q } (L2.start N vs) H) : FnOk P w K mg base (L2.CX P w) (k + 1) f fd ps sp := by
  obtain ⟨oc, od, kV, doc, pm, an, cdv, ct, osl, rfl, lk, hcd⟩ := F.ex
  exact fn_of lk hcd S len fun A outer s H vs Q E hr hsp => body cdv hcd A outer s H vs Q E hr hsp
theorem no_mark {K : PySem.W.Frag} {H : Hp} {vs : List V} {ss : List Slot} (E : EnvR K H (vs.map some) ss) (g : Str) (r : List Slot) : ss ≠ .val (.fn g) :: r := fun z => by
  subst z
  obtain ⟨v, _, h⟩ := E.val (i := 0) rfl
  exact h
theorem own_pad {σ : St} {ss : List Slot} {m : Nat} (h : noOwn ss = true) {b : Addr} : ¬ OwnA (ss ++ List.replicate m .un) σ b := by
  rintro ⟨i, d, h1, h2⟩
  rcases pad_get h1 with ⟨hi, e⟩ | ⟨_, _, e⟩
  · have := List.all_eq_true.mp h _ (List.mem_of_getElem? e)
    cases this
  · cases e
theorem fns_ok {bn xn : List Str} {xs : List XF} {l : List Sg} {W : Nat} (T : TxtOk K mg bn xn xs l) : ∀ (k : Nat), ∀ g ∈ l, ∃ (f : Addr) (fdt : FuncData), Fun K g.fd.name g.fd.name g.st f fdt ∧ mg g.fd.name = some (.ref f) ∧ PySem.W.keepIn K (.ref f) = true ∧ Binds K fdt g.ps [] ∧
    FnOk P w K mg base (L2.CX P w) k f fdt g.ps (spC K (callL (l.map (·.fd)) W k) g.fd.name)
  | 0, g, hg => by
    obtain ⟨f, fdt, F, m, b⟩ := (T.at_ g hg).ok
    refine ⟨f, fdt, F, m, F.kp, b, ⟨fun vs H Q E h => ?_, fun A outer s H args us vs Q E hr e0 hb hv h => ?_⟩⟩
    · rcases h with ⟨ss, r, fs, _, e, _⟩ | ⟨ss, r, _, _, e, _⟩ <;> cases e
    · rcases h with ⟨ss, r, fs, _, e, _⟩ | ⟨ss, r, _, _, e, _⟩ <;> cases e
  | k + 1, g, hg => by
    obtain ⟨f, fdt, F, m, b⟩ := (T.at_ g hg).ok
    have S := T.sc g hg
    have hck := T.ck g hg
    obtain ⟨c1, c2⟩ := and2 hck
    obtain ⟨c3, c4⟩ := and2 c1
    obtain ⟨c5, c6⟩ := and2 c3
    obtain ⟨c7, c8⟩ := and2 c5
    have hps : g.ps.length = g.fd.ps := of_decide_eq_true c8
    have hN : g.N.length = g.fd.n := of_decide_eq_true c6
    have hkeep : ∀ j ∈ g.fd.keep, j < g.fd.ps := fun j hj => of_decide_eq_true (List.all_eq_true.mp c4 j hj)
    have hle : g.fd.ps ≤ g.fd.n := of_decide_eq_true c2
    refine ⟨f, fdt, F, m, F.kp, b, fun_code F S (fun vs H Q E h => ?_) fun cdv hcd A outer s H vs Q E hr h => ?_⟩
    · rcases h with ⟨ss, r, fs, E0, e, _⟩ | ⟨ss, r, E0, _, e, _⟩
      · obtain ⟨fd, e1, e2, _⟩ := callL_inv e (no_mark E0)
        rw [T.nm g hg] at e1
        cases e1
        have := E0.len
        rw [List.length_map] at this
        omega
      · obtain ⟨fd, e1, e2, _⟩ := callL_xinv e
        rw [T.nm g hg] at e1
        cases e1
        have := E0.len
        rw [List.length_map] at this
        omega
    · have O : XOk (cxOf (L2.CX P w) P w K mg base g.N g.fd.name (defScope g.st) f cdv A outer s H E) (ckOf bn xn xs l g) (callL (l.map (·.fd)) W k) := by
        refine ⟨rfl, S.nd, rfl, rfl, S.kind, fun _ _ => rfl, T.bn, ?_, fun f' n hf => ?_, passes_of rfl, kdsCode_of hcd, T.xg, T.xf⟩
        · have := hr.un
          show (A.deeper (envOfC g.fd.name (defScope g.st) s.heap.objs.size f cdv)).units + 65 < cLine
          omega
        · obtain ⟨g', hg', eg⟩ := List.mem_map.mp hf
          cases eg
          obtain ⟨f2, fdt2, _, m2, k2, b2, ok2⟩ := fns_ok T k g' hg'
          have hck' := T.ck g' hg'
          have hps' : g'.ps.length = g'.fd.ps := of_decide_eq_true (and2 (and2 (and2 (and2 hck').1).1).1).2
          exact ⟨f2, fdt2, g'.ps, k, m2, k2, b2, ok2, hr, hps'⟩
      refine ⟨_, sss (W := W) g.fd.body _ (ckOf bn xn xs l g) g.fd.keep ⟨rfl, rfl⟩ O (defBody g.st) c7, ?_⟩
      rcases h with h | h
      case inr =>
        obtain ⟨ss, gn, E0, hno, e, q⟩ := h
        obtain ⟨fd, e1, e2, e3, env', hend⟩ := callL_xinv e
        rw [T.nm g hg] at e1
        cases e1
        have hvl : vs.length = g.fd.ps := by
          have := E0.len
          rw [List.length_map] at this
          omega
        have hm : g.N.length - vs.length = g.fd.n - g.fd.ps := by omega
        have E1 := E0.pad (g.fd.n - g.fd.ps)
        have st : L2.start g.N vs = vs.map some ++ List.replicate (g.fd.n - g.fd.ps) none := by rw [start_eq, hm]
        rw [st]
        refine ⟨_, _, E1, hend, fun σ' H' p => ?_⟩
        have hE := q H' fun b u z => p.t.f b u z (own_pad hno)
        exact Takes.imp (takes_of (X := cxOf (L2.CX P w) P w K mg base g.N g.fd.name (defScope g.st) f cdv A outer s H E) (E := E) rfl rfl rfl rfl) (W' := fun cls d _ H1 => cls = xvl K gn ∧ d = none ∧ H1 = H') fun c d σ H1 ⟨z1, z2, z3⟩ => by
          subst z1 z2 z3; exact hE
      obtain ⟨ss, r, fs, E0, e, q⟩ := h
      obtain ⟨fd, e1, e2, e3, env', rfl, hns, hend⟩ := callL_inv e (no_mark E0)
      rw [T.nm g hg] at e1
      cases e1
      have hvl : vs.length = g.fd.ps := by
        have := E0.len
        rw [List.length_map] at this
        omega
      have hm : g.N.length - vs.length = g.fd.n - g.fd.ps := by omega
      have E1 := E0.pad (g.fd.n - g.fd.ps)
      have st : L2.start g.N vs = vs.map some ++ List.replicate (g.fd.n - g.fd.ps) none := by rw [start_eq, hm]
      rw [st]
      have hl0 : ss.length = (vs.map some).length := E0.len
      have tr : ∀ {σ' : St} {H' : Hp}, PoS K g.fd.keep (vs.map some ++ List.replicate (g.fd.n - g.fd.ps) none) H (ss ++ List.replicate (g.fd.n - g.fd.ps) .un) σ' H' env' →
          EnvR K H' (vs.map some) (finals g.fd env') ∧ Tr (vs.map some) H ss (vs.map some) H' (finals g.fd env') ∧ ∀ q, OwnA (finals g.fd env') (vs.map some) q → OwnA env' σ' q := fun {σ' H'} p => by
        obtain ⟨f1, f2⟩ := fin_ok hvl hkeep p
        refine ⟨f1, ⟨fun b u e n => p.t.f b u e fun z => n ((pad_own hl0).mp z), fun q z => (p.t.s q (f2 q z)).imp (pad_own hl0).mp id⟩, f2⟩
      rcases hend with ⟨rfl, hend⟩ | hend
      · refine ⟨_, _, E1, hend, fun σ' H' p => ?_⟩
        obtain ⟨f1, f2, _⟩ := tr p
        exact q .non H' f1 f2 rfl hns fun _ _ z => nomatch z
      · refine ⟨_, _, E1, hend, fun v σ' H' p ro nr => ?_⟩
        obtain ⟨f1, f2, f3⟩ := tr p
        refine q v H' f1 f2 ?_ hns fun d p' e1 e2 => (nr d p' e1 e2).imp id (pad_own hl0).mp
        cases r with
        | dat d => exact ro
        | own d =>
          obtain ⟨p', e, oa, no⟩ := ro
          exact ⟨p', e, oa, fun z => no (f3 p' z)⟩
        | slot i => exact (hns i rfl).elim
end
end PF
/-! PF16: the head by data, the law's end. -/
namespace PF
open PySem PySem.Spec PyProof.Rows L2
/-! ### no list stands in the written part -/
def noList (K : PySem.W.Frag) : Bool := K.all fun p => match p.2.cls with
  | .type c => !decide (c = "list")
  | _ => true
theorem look_mem : ∀ {K : PySem.W.Frag} {a : Addr} {o : Obj}, K.lookup a = some o → (a, o) ∈ K
  | [], _, _, e => nomatch e
  | (b, p) :: r, a, o, e => by
    rw [List.lookup_cons] at e
    split at e
    · rename_i h
      cases e
      rw [show a = b from beq_iff_eq.mp h]
      exact List.mem_cons_self
    · exact List.mem_cons_of_mem _ (look_mem e)
theorem noList_no {K : PySem.W.Frag} (h : noList K = true) {a : Addr} {o : Obj} (e : K.lookup a = some o) (c : o.cls = .type "list") : False := by
  have h2 := List.all_eq_true.mp h _ (look_mem e)
  dsimp only at h2
  rw [c] at h2
  simp at h2
/-- what is looked at besides: no lists; classes' names; facts of classes -/
def moreOk (xn : List Str) (xs : List XF) (K : PySem.W.Frag) : Bool := noList K && ((xn.all fun x => decide (PySem.W.nsIn K mainGlobals x = some (some (xvl K x)))) && xs.all fun φ => φ.ok K)
open He in
def hookN (n : Nat) (xn : List Str) (xs : List XF) (fa : List Fa) (fn : List DefD) : PySem.W.Hook where
  α := Bool × AlD
  obs := fun s => (moreOk xn xs (frG s.heap.get? (asD s.heap.get? n)), obsDG n fa fn s.heap.get?)
  val := fun _ => (true, valD fn)
  says := fun _ h => ∃ K : PySem.W.Frag, K.In h ∧ moreOk xn xs K = true ∧ SaysD fa fn K
  of := fun _ _ e => ⟨_, frG_in, congrArg (fun z : Bool × AlD => z.1) e, congrArg (fun z : Bool × AlD => z.2) e⟩
  keeps := fun _ _ _ ⟨K, hK, c⟩ k => ⟨K, PySem.W.Frag.In.keeps hK k, c⟩
open He in
def obN (n : Nat) (xn : List Str) (xs : List XF) (fa : List Fa) (fn : List DefD) (s : PySem.W.SharedT) : Bool × AlD := (moreOk xn xs (frG (HandSHeadRun.getT s) (asD (HandSHeadRun.getT s) n)), obsDG n fa fn (HandSHeadRun.getT s))
open He in
theorem obN_eq (n : Nat) (xn : List Str) (xs : List XF) (fa : List Fa) (fn : List DefD) (s : PySem.W.SharedT) : obN n xn xs fa fn s = (hookN n xn xs fa fn).obs s.abs := by
  have e : HandSHeadRun.getT s = s.abs.heap.get? := funext (HandSHeadRun.getT_eq s)
  unfold obN
  rw [e] <;> rfl
/-! ### the data of a text -/
def Sg.dfd (g : Sg) : He.DefD := ⟨(g.fd.name, none), g.fd.name, g.fd.name, defArgs g.st, defBody g.st, defScope g.st, [], []⟩
def fnL (l : List Sg) : List He.DefD := l.map Sg.dfd
def faL (bn : List Str) (l : List Sg) : List He.Fa := (l.map fun g => .glo g.fd.name) ++ bn.map .free
def BindH (g : Sg) : Prop := ∀ (kV doc pm : Value) (an : Option Addr) (cdv ct : Value) (us : List Value), us.length = g.ps.length →
  bindArgs (PySem.W.fnOf g.fd.name g.fd.name (defArgs g.st) (defBody g.st) (defScope g.st) .none kV doc pm an cdv ct) ⟨us, []⟩ = pure (g.ps.zip us)
structure GOk (bn xn : List Str) (xs : List XF) (l : List Sg) (g : Sg) : Prop where
  sc : FnScope g.N g.ps (defScope g.st)
  ck : ckF bn xn xs l g = true
  nm : (l.map (·.fd)).find? (fun d => d.name == g.fd.name) = some g.fd
  bd : BindH g
section
variable {K : PySem.W.Frag} {h : Heap} {mg : Str → Option Value} {bn : List Str} {l : List Sg}
theorem fnAt_of (X : K.In h) (G : h.Ns mainGlobals mg) (c : He.SaysD (faL bn l) (fnL l) K) (B : ∀ g ∈ l, BindH g) {g : Sg} (hg : g ∈ l) : FnAt K mg g := by
  obtain ⟨i, hi⟩ := List.mem_iff_getElem?.mp hg
  have lt : i < l.length := (List.getElem?_eq_some_iff.mp hi).1
  obtain ⟨fdt, F⟩ := c.def_ i (d := g.dfd) (by unfold fnL; rw [List.getElem?_map, hi]; rfl)
  have gl := He.glo_ok X G (c.fact i (f := .glo g.fd.name) (by unfold faL; rw [List.getElem?_append_left (by rw [List.length_map]; exact lt), List.getElem?_map, hi]; rfl))
  obtain ⟨oc, od, dV, kV, doc, pm, an, cdv, ct, osl, e, lk, hcd, hD, hK⟩ := F.ex
  have e0 : dV = .none := by
    rcases hD with ⟨_, z⟩ | ⟨z, _⟩
    · exact z
    · exact absurd rfl z
  subst e0
  exact ⟨_, fdt, ⟨⟨oc, od, kV, doc, pm, an, cdv, ct, osl, e, lk, hcd⟩, F.kp⟩, gl, F.bindsN (B g hg)⟩
theorem bn_of (X : K.In h) (G : h.Ns mainGlobals mg) (c : He.SaysD (faL bn l) (fnL l) K) {x : Str} (hx : x ∈ bn) : mg x = none := by
  obtain ⟨i, hi⟩ := List.mem_iff_getElem?.mp hx
  exact He.free_ok X G (c.fact (l.length + i) (f := .free x) (by unfold faL; rw [List.getElem?_append_right (by rw [List.length_map]; omega), List.length_map, Nat.add_sub_cancel_left, List.getElem?_map, hi]; rfl))
end
/-- a promise with nothing raised -/
theorem fn_cx0 {P : Program} {w : World} {K : PySem.W.Frag} {mg : Str → Option Value} {base : Heap} {k : Nat} {f : Addr} {fd : FuncData} {ps : List Str} {sp : Sp} (F : FnOk P w K mg base (L2.CX P w) k f fd ps sp) :
    FnOk P w K mg base CX0 k f fd ps (fun vs H Q _ => sp vs H Q E0) :=
  ⟨fun vs H Q E h => F.len vs H Q E0 h, fun A outer s H args us vs Q E hr e0 hb hv h => codeAny_mono (F.run A outer s H args us vs Q E0 hr e0 hb hv h) fun r s' hq => by
    cases r with
    | error e =>
      obtain ⟨_, _, _, _, _, _, _, _, _, _, _, _, z⟩ := hq
      exact z.elim
    | ok fl =>
      cases fl with
      | ret u => exact hq
      | next => exact hq
      | brk => exact hq
      | cont => exact hq⟩
/-- THE END: the law answers True wherever the evaluator does -/
theorem pf_walk {rl : PySem.W.OpenLaw} {n k W : Nat} {q : Program} {loose : List Str} {XP : (Str → Option Value) → Heap → Prop} {d : DefRec} {bn xn : List Str} {xs : List XF} {l : List Sg} {law : Sg} {x : Str}
    (hn : rl.most = some n) (hn2 : n ≤ sizeLine) (hdf : d.params.defaults = []) (hr : Room k callerA) (T : ∀ g ∈ l, GOk bn xn xs l g) (hl : law ∈ l) (hx : law.ps = [x]) (hd : d.name = law.fd.name)
    (main : ∀ ns : List Int, ns.length ≤ n → ∃ fs, callL (l.map (·.fd)) W k law.fd.name [.val (.lst (ns.map .int))] = some (.dat (.bl true), fs)) :
    PySem.W.WalkO q loose XP (hookN 4 xn xs (faL bn l) (fnL l)).says rl.row.toRowW d [] (fun f vs => PySem.call f vs) := by
  refine L2.walk_ofE (n := n) (k := k) (x := x) (CX := L2.CX0) hn hn2 hdf hr ?F (fun _ _ _ _ z => z)
  intro w mg fa h Y G hmg0
  obtain ⟨K, KX, nl0, c⟩ := Y
  obtain ⟨nl, nx⟩ := and2 nl0
  obtain ⟨nx1, nx2⟩ := and2 nx
  have hmg : mg law.fd.name = some (.ref fa) := by rw [← hd]; exact hmg0
  obtain ⟨f, fdt, F, m, _⟩ := fnAt_of KX G c (fun g hg => (T g hg).bd) hl
  have hf : f = fa := by rw [m] at hmg; cases hmg; rfl
  subst hf
  obtain ⟨oc, od, kV, doc, pm, an, cdv, ct, osl, e, lk, hcd⟩ := F.ex
  refine ⟨K, fdt, fun vs H Q _ => spC K (callL (l.map (·.fd)) W k) law.fd.name vs H Q E0, KX, fun s u => ?_, fun H a ns hlen hO hS => ?_, fun base hK hN => ?_⟩
  · subst e
    have := (T law hl).bd kV doc pm an cdv ct [u] (by rw [hx]; rfl)
    rw [hx] at this
    exact .of_eq this
  · obtain ⟨fs, hc⟩ := main ns hlen
    have ha : ∃ o, H a = some (.frz o (.lst (ns.map V.int))) := by
      rcases hS with (h1 | h1) | ⟨o, its, n, h1, h2, _⟩
      · rcases hO a with z | ⟨o, xs, z⟩
        · rw [z] at h1; cases h1
        · rw [z] at h1; cases h1
      · exact h1
      · exact (noList_no nl h1 h2).elim
    obtain ⟨o, ha⟩ := ha
    refine .inl ⟨_, _, _, ⟨rfl, fun i s e => ?_, fun i j d e p h1 _ _ _ => ?_⟩, hc, fun v H' _ _ r _ _ => r⟩
    · cases i with
      | zero =>
        cases e
        exact ⟨_, rfl, .ref a, rfl, a, o, _, rfl, ha, Rps.of_ints ns⟩
      | succ i => cases i <;> cases e
    · cases i with
      | zero => cases h1
      | succ i => cases i <;> cases h1
  · obtain ⟨f2, fdt2, F2, m2, k2, b2, ok⟩ := fns_ok (P := rl.prog) (w := w) (base := base) (bn := bn) (xn := xn) (xs := xs) (W := W) (K := K) (mg := mg) (l := l)
      ⟨fun g hg => fnAt_of hK hN c (fun g hg => (T g hg).bd) hg, fun g hg => (T g hg).sc, fun g hg => (T g hg).ck, fun g hg => (T g hg).nm, fun x hx => bn_of hK hN c hx, fun x hx => PySem.W.mg_of hK hN (of_decide_eq_true (List.all_eq_true.mp nx1 x hx)), fun φ hφ => List.all_eq_true.mp nx2 φ hφ⟩ k law hl
    have e1 : f2 = f := by rw [m] at m2; cases m2; rfl
    subst e1
    obtain ⟨oc', od', kV', doc', pm', an', cdv', ct', osl', e', lk', hcd'⟩ := F2.ex
    have e2 : fdt2 = fdt := by rw [lk] at lk'; cases lk'; rfl
    subst e2
    rw [hx] at ok
    exact fn_cx0 ok
end PF
/-! PFX: tools for reasoning over the evaluator. -/
namespace PF
open PySem
theorem shp_int (i : Int) : shp (.int i) = true := by rfl
theorem shp_bl (i : Bool) : shp (.bl i) = true := by rfl
theorem shp_non : shp .non = true := by rfl
theorem deq_int (i j : Int) : deq (.int i) (.int j) = decide (i = j) := by
  simp only [deq, D.py, PyData.eqv]; by_cases h : i = j <;> simp [h]
theorem deq_bl (i j : Bool) : deq (.bl i) (.bl j) = decide (i = j) := by
  cases i <;> cases j <;> rfl
theorem ev_rng {c : Cl} {es : List E} {ds xs : List D} {env env1 : Env} (h : evds c es env = some (ds, env1)) (hr : rngD ds = some xs) : ev c (.rng es) .i env = some (.dat (.tup xs), env1) := by
  simp only [ev, h, hr]
theorem ln1 : (1 ≤ line) = True := by simp [line]
theorem ln2 : (2 ≤ line) = True := by simp [line]
theorem ln3 : (3 ≤ line) = True := by simp [line]
theorem ln4 : (4 ≤ line) = True := by simp [line]
theorem rg1 : List.range 1 = [0] := rfl
theorem rg2 : List.range 2 = [0, 1] := rfl
theorem rg3 : List.range 3 = [0, 1, 2] := rfl
theorem rg4 : List.range 4 = [0, 1, 2, 3] := rfl
/-- a suite comes to an end that is wanted -/
@[irreducible] def Goes (c : Cl) (W : Nat) (ss : List S) (env : Env) (Φ : R → Prop) : Prop := match exs c W ss env with | some r => Φ r | none => False
def Turn (P B : Env → Prop) (Φ : R → Prop) : R → Prop
  | .nx env => P env
  | .brk env => B env
  | .ret o env => Φ (.ret o env)
  | .exc f env => Φ (.exc f env)
def outR (fd : Fd) : R → Option (Opd × List Slot)
  | .ret (.dat d) env => some (Opd.dat d, finals fd env)
  | .ret (.own d) env => some (Opd.own d, finals fd env)
  | .nx env => some (Opd.dat .non, finals fd env)
  | _ => none
theorem callL_at {prog : List Fd} {W k : Nat} {f : Str} {ss : List Slot} (fd : Fd) (h : prog.find? (fun d => d.name == f) = some fd) (hl : (decide (ss.length = fd.ps) && decide (fd.ps ≤ fd.n)) = true) {Ψ : Opd → List Slot → Prop}
    (hb : Goes (callL prog W k) W fd.body (ss ++ List.replicate (fd.n - fd.ps) .un) (fun r => match outR fd r with | some (o, fs) => Ψ o fs | none => False)) : ∃ o fs, callL prog W (k + 1) f ss = some (o, fs) ∧ Ψ o fs := by
  simp only [Bool.and_eq_true, decide_eq_true_eq] at hl
  simp only [callL, h, if_pos hl]
  unfold Goes at hb
  cases e : exs (callL prog W k) W fd.body (ss ++ List.replicate (fd.n - fd.ps) .un) with
  | none => rw [e] at hb; exact hb.elim
  | some r =>
    rw [e] at hb
    dsimp only at hb
    cases r with
    | nx env => exact ⟨_, _, rfl, hb⟩
    | brk env => exact hb.elim
    | exc f env => exact hb.elim
    | ret o env => cases o with
      | dat d => exact ⟨_, _, rfl, hb⟩
      | own d => exact ⟨_, _, rfl, hb⟩
      | slot i => exact hb.elim
theorem callL_eq {prog : List Fd} {W k : Nat} {f : Str} {ss : List Slot} (fd : Fd) (h : prog.find? (fun d => d.name == f) = some fd) (hl : (decide (ss.length = fd.ps) && decide (fd.ps ≤ fd.n)) = true) {o : Opd} {fs : List Slot}
    (hb : Goes (callL prog W k) W fd.body (ss ++ List.replicate (fd.n - fd.ps) .un) (fun r => outR fd r = some (o, fs))) : callL prog W (k + 1) f ss = some (o, fs) := by
  obtain ⟨o', fs', e, h1, h2⟩ := callL_at (W := W) (k := k) (prog := prog) (ss := ss) (Ψ := fun o' fs' => o' = o ∧ fs' = fs) fd h hl (by
    unfold Goes at hb ⊢
    split at hb
    · rename_i r er
      show match outR fd r with | some (o_1, fs_1) => o_1 = o ∧ fs_1 = fs | none => False
      rw [show outR fd r = some (o, fs) from hb]; exact ⟨rfl, rfl⟩
    · exact hb.elim)
  rw [e, h1, h2]
/-- a def that raises -/
theorem callL_x {prog : List Fd} {W k : Nat} {f g : Str} {ss : List Slot} (fd : Fd) (h : prog.find? (fun d => d.name == f) = some fd) (hl : (decide (ss.length = fd.ps) && decide (fd.ps ≤ fd.n) && noOwn ss) = true)
    (hb : Goes (callL prog W k) W fd.body (ss ++ List.replicate (fd.n - fd.ps) .un) (fun r => ∃ env, r = .exc g env)) : callL prog W (k + 1) f ss = none ∧ callL prog W (k + 1) f (mark :: ss) = some (.dat (.str g), []) := by
  simp only [Bool.and_eq_true, decide_eq_true_eq] at hl
  unfold Goes at hb
  cases e : exs (callL prog W k) W fd.body (ss ++ List.replicate (fd.n - fd.ps) .un) with
  | none => rw [e] at hb; exact hb.elim
  | some r =>
    rw [e] at hb
    obtain ⟨env, rfl⟩ := hb
    constructor
    · simp only [callL, h, if_pos hl.1, e]
    · have h1 : ¬ ((mark :: ss).length = fd.ps ∧ fd.ps ≤ fd.n) := fun z => by have := z.1; rw [List.length_cons, hl.1.1] at this; omega
      simp only [callL, h]
      rw [if_neg h1]
      have h2 : ss.length = fd.ps ∧ fd.ps ≤ fd.n ∧ noOwn ss = true := ⟨hl.1.1, hl.1.2, hl.2⟩
      show (if ss.length = fd.ps ∧ fd.ps ≤ fd.n ∧ noOwn ss = true then _ else none) = _
      rw [if_pos h2, e]
section
variable {c : Cl} {W : Nat} {ss : List S} {env : Env} {Φ : R → Prop}
theorem go_raise {f : Str} (h : Φ (.exc f env)) : Goes c W (.raise f :: ss) env Φ := by
  unfold Goes; simp only [exs, ex]; exact h
/-- a try whose call ends well; whose call raises what is caught -/
theorem go_try_ok {f x : Str} {es : List E} {all yes : List Str} {a : Option Nat} {h : Hd} {os : List Opd} {env1 : Env} {sl : List Slot} {r : Opd × List Slot} (e : evs c es env = some (os, env1)) (hd : dats os = some sl) (hc : c f sl = some r) (q : Goes c W ss env1 Φ) : Goes c W (.tryc f es x all yes a h :: ss) env Φ := by
  unfold Goes at q ⊢; simp only [exs, ex, e, hd, hc]; exact q
theorem go_try_x {f x g : Str} {es : List E} {all yes : List Str} {a : Option Nat} {h : Hd} {os : List Opd} {env1 : Env} {sl : List Slot} (e : evs c es env = some (os, env1)) (hd : dats os = some sl) (h0 : c f sl = none) (hc : c f (mark :: sl) = some (.dat (.str g), []))
    (h1 : (all.contains g && okI env1 a) = true) (h2 : yes.contains g = true) (q : Φ (.ret (.dat (hdV h g)) env1)) : Goes c W (.tryc f es x all yes a h :: ss) env Φ := by
  unfold Goes; simp only [exs, ex, e, hd, h0, hc, h1, if_true, h2]; exact q
theorem go_nil (h : Φ (.nx env)) : Goes c W [] env Φ := by
  unfold Goes; simp only [exs]; exact h
theorem go_step {s : S} (env1 : Env) (e : ex c W s env = some (.nx env1)) (h : Goes c W ss env1 Φ) : Goes c W (s :: ss) env Φ := by
  unfold Goes at h ⊢; simp only [exs, e]; exact h
theorem Goes.imp {Ψ : R → Prop} (h : Goes c W ss env Ψ) (i : ∀ r, Ψ r → Φ r) : Goes c W ss env Φ := by
  unfold Goes at h ⊢
  split at h
  · exact i _ h
  · exact h
theorem exs_app {c : Cl} {W : Nat} : ∀ (a b : List S) (env : Env), exs c W (a ++ b) env = match exs c W a env with | some (.nx env) => exs c W b env | r => r
  | [], b, env => by simp only [List.nil_append, exs]
  | s :: a, b, env => by
    simp only [List.cons_append, exs]
    cases e : ex c W s env with
    | none => rfl
    | some r => cases r with
      | nx env1 => simp only; exact exs_app a b env1
      | brk env1 => rfl
      | exc f env1 => rfl
      | ret o env1 => rfl
theorem go_ite {t : E} {a b : List S} (bb : Bool) (env1 : Env) (e : ev c t .t env = some (.dat (.bl bb), env1)) (h1 : bb = true → Goes c W (a ++ ss) env1 Φ) (h2 : bb = false → Goes c W (b ++ ss) env1 Φ) : Goes c W (.ite t a b :: ss) env Φ := by
  unfold Goes at h1 h2 ⊢
  simp only [exs, ex, e]
  rw [exs_app] at h1 h2
  cases bb with
  | true => exact h1 rfl
  | false => exact h2 rfl
/-- a suite in a loop's turn -/
theorem goes_turn {b : List S} {P B : Env → Prop} (h : Goes c W b env (Turn P B Φ)) : (∃ env', exs c W b env = some (.nx env') ∧ P env') ∨ (∃ env', exs c W b env = some (.brk env') ∧ B env') ∨ (∃ o env', exs c W b env = some (.ret o env') ∧ Φ (.ret o env')) ∨ ∃ f env', exs c W b env = some (.exc f env') ∧ Φ (.exc f env') := by
  unfold Goes at h
  cases e : exs c W b env with
  | none => rw [e] at h; exact h.elim
  | some r =>
    rw [e] at h
    cases r with
    | nx env' => exact .inl ⟨env', rfl, h⟩
    | brk env' => exact .inr (.inl ⟨env', rfl, h⟩)
    | ret o env' => exact .inr (.inr (.inl ⟨o, env', rfl, h⟩))
    | exc f env' => exact .inr (.inr (.inr ⟨f, env', rfl, h⟩))
theorem go_for {tg : Tg} {src : E} {b : List S} (xs : List D) (env0 : Env) (P : Nat → Env → Prop) (e : ev c src .i env = some (.dat (.tup xs), env0)) (h0 : P 0 env0)
    (hs : ∀ i x env, xs[i]? = some x → P i env → ∃ env1, bindT env tg x = some env1 ∧ Goes c W b env1 (Turn (P (i + 1)) (fun env => Goes c W ss env Φ) Φ)) (hq : ∀ env, P xs.length env → Goes c W ss env Φ) : Goes c W (.for tg src b :: ss) env Φ := by
  have H : ∀ (xs : List D) (P : Nat → Env → Prop) (env0 : Env), P 0 env0 → (∀ i x env, xs[i]? = some x → P i env → ∃ env1, bindT env tg x = some env1 ∧ Goes c W b env1 (Turn (P (i + 1)) (fun env => Goes c W ss env Φ) Φ)) → (∀ env, P xs.length env → Goes c W ss env Φ) →
      match forLoop (fun x env => match bindT env tg x with | none => none | some env => exs c W b env) xs env0 with
      | some (.nx env) => Goes c W ss env Φ
      | some (.brk _) => False
      | some (.ret o env) => Φ (.ret o env)
      | some (.exc f env) => Φ (.exc f env)
      | none => False := by
    intro xs
    induction xs with
    | nil => intro P env0 h0 _ hq; exact hq _ h0
    | cons x xs ih =>
      intro P env0 h0 hs hq
      obtain ⟨env1, e1, h1⟩ := hs 0 x env0 rfl h0
      rcases goes_turn h1 with ⟨env', e2, p⟩ | ⟨env', e2, p⟩ | ⟨o, env', e2, p⟩ | ⟨f, env', e2, p⟩
      · simp only [forLoop, e1, e2]
        exact ih (fun i => P (i + 1)) env' p (fun i y env hy hp => hs (i + 1) y env (by simpa using hy) hp) hq
      · simp only [forLoop, e1, e2]; exact p
      · simp only [forLoop, e1, e2]; exact p
      · simp only [forLoop, e1, e2]; exact p
  have := H xs P env0 h0 hs hq
  unfold Goes
  simp only [exs, ex, e]
  cases e2 : forLoop (fun x env => match bindT env tg x with | none => none | some env => exs c W b env) xs env0 with
  | none => rw [e2] at this; exact this.elim
  | some r =>
    rw [e2] at this
    cases r with
    | nx env' =>
      have t2 : Goes c W ss env' Φ := this
      unfold Goes at t2
      exact t2
    | brk env' => exact this.elim
    | ret o env' => exact this
    | exc f env' => exact this
def wF (c : Cl) (W : Nat) (t : E) (b : List S) : Env → Option (Option R × Env) := fun env => match ev c t .t env with
  | some (.dat (.bl false), env) => some (some (.nx env), env)
  | some (.dat (.bl true), env) => match exs c W b env with
    | none => none
    | some (.nx env) => some (none, env)
    | some (.brk env) => some (some (.nx env), env)
    | some (.ret o env) => some (some (.ret o env), env)
    | some (.exc f env) => some (some (.exc f env), env)
  | _ => none
theorem ex_whl {t : E} {b : List S} : ex c W (.whl t b) env = whlLoop (wF c W t b) W env := by
  simp only [ex]; rfl
theorem go_whl {t : E} {b : List S} (P : Nat → Env → Prop) (m : Nat) (hm : m < W) (h0 : P m env)
    (hs : ∀ m env, P m env → ∃ bb env1, ev c t .t env = some (.dat (.bl bb), env1) ∧ (bb = true → Goes c W b env1 (Turn (fun env' => ∃ m', m' < m ∧ P m' env') (fun env => Goes c W ss env Φ) Φ)) ∧ (bb = false → Goes c W ss env1 Φ)) : Goes c W (.whl t b :: ss) env Φ := by
  have H : ∀ (V m : Nat) (env : Env), m < V → P m env →
      match whlLoop (wF c W t b) V env with
      | some (.nx env) => Goes c W ss env Φ
      | some (.brk _) => False
      | some (.ret o env) => Φ (.ret o env)
      | some (.exc f env) => Φ (.exc f env)
      | none => False := by
    intro V
    induction V with
    | zero => intro m env h; omega
    | succ V ih =>
      intro m env hV hp
      obtain ⟨bb, env1, e1, h1, h2⟩ := hs m env hp
      cases bb with
      | false => simp only [whlLoop, wF, e1]; exact h2 rfl
      | true =>
        rcases goes_turn (h1 rfl) with ⟨env', e2, m', lt, p⟩ | ⟨env', e2, p⟩ | ⟨o, env', e2, p⟩ | ⟨f, env', e2, p⟩
        · simp only [whlLoop, wF, e1, e2]; exact ih m' env' (by omega) p
        · simp only [whlLoop, wF, e1, e2]; exact p
        · simp only [whlLoop, wF, e1, e2]; exact p
        · simp only [whlLoop, wF, e1, e2]; exact p
  have := H W m env hm h0
  unfold Goes
  simp only [exs, ex_whl]
  split at this
  · rename_i e2; rw [e2]; unfold Goes at this; exact this
  · exact this.elim
  · rename_i e2; rw [e2]; exact this
  · rename_i e2; rw [e2]; exact this
  · exact this.elim
end
theorem lcT_inv {f : D → Env → Option (Option D × Env)} (P : Nat → List D → Env → Prop) : ∀ {xs : List D} {env : Env}, P 0 [] env → (∀ i x ds env, xs[i]? = some x → P i ds env → ∃ r env', f x env = some (r, env') ∧ P (i + 1) (ds ++ r.toList) env') →
    ∃ ds env', lcLoop f xs env = some (ds, env') ∧ P xs.length ds env' := by
  suffices H : ∀ (xs : List D) (P : Nat → List D → Env → Prop) (env : Env), P 0 [] env → (∀ i x ds env, xs[i]? = some x → P i ds env → ∃ r env', f x env = some (r, env') ∧ P (i + 1) (ds ++ r.toList) env') →
    ∃ ds env', lcLoop f xs env = some (ds, env') ∧ P xs.length ds env' from fun {xs env} => H xs P env
  intro xs
  induction xs with
  | nil => intro P env h0 _; exact ⟨[], env, rfl, h0⟩
  | cons x xs ih =>
    intro P env h0 hs
    obtain ⟨r, env1, e1, h1⟩ := hs 0 x [] env rfl h0
    rw [List.nil_append] at h1
    obtain ⟨ds, env2, e2, h2⟩ := ih (fun i ds env => P (i + 1) (r.toList ++ ds) env) env1 (by simpa using h1) fun i y ds env hy hp => by
      obtain ⟨r2, env', e, q⟩ := hs (i + 1) y (r.toList ++ ds) env (by simpa using hy) hp
      exact ⟨r2, env', e, by simpa using q⟩
    refine ⟨r.toList ++ ds, env2, ?_, by simpa using h2⟩
    cases r with
    | none => simp only [lcLoop, e1]; simpa using e2
    | some d => simp only [lcLoop, e1, e2]; rfl
/-- a comprehension's turn -/
def lcT (c : Cl) (own : List Nat) (tg : Tg) (cond : List E) (elt : E) : D → Env → Option (Option D × Env) := fun x env => match bindT (wipeE env own) tg x with
  | none => none
  | some env => match evAnd c cond .t env with
    | some (.dat (.bl true), env) => match ev c elt .v env with
      | none => none
      | some (o, env) => match toD env o with
        | some (d, env) => some (some d, env)
        | none => none
    | some (.dat (.bl false), env) => some (none, env)
    | _ => none
theorem ev_lc0 {c : Cl} {own : List Nat} {tg : Tg} {src elt : E} {cond : List E} {env : Env} : ev c (.lc own tg src cond elt) .v env = match ev c src .i env with
    | some (.dat (.tup xs), env) => match lcLoop (lcT c own tg cond elt) xs env with
      | some (ds, env') => if ds.length ≤ line then some (.own (.lst ds), backE env env' own) else none
      | none => none
    | _ => none := by
  simp only [ev, fin]; rfl
theorem ev_lc {c : Cl} {own : List Nat} {tg : Tg} {src elt : E} {cond : List E} {env : Env} (xs : List D) (env0 : Env) (P : Nat → List D → Env → Prop) (e : ev c src .i env = some (.dat (.tup xs), env0)) (h0 : P 0 [] env0)
    (hs : ∀ i x ds env, xs[i]? = some x → P i ds env → ∃ r env', lcT c own tg cond elt x env = some (r, env') ∧ P (i + 1) (ds ++ r.toList) env') :
    ∃ ds env', P xs.length ds env' ∧ (ds.length ≤ line → ev c (.lc own tg src cond elt) .v env = some (.own (.lst ds), backE env0 env' own)) := by
  obtain ⟨ds, env', h1, h2⟩ := lcT_inv P h0 hs
  refine ⟨ds, env', h2, fun hl => ?_⟩
  rw [ev_lc0]
  simp only [e, h1, if_pos hl]
end PF
/-! PFY: put together what expressions give. -/
namespace PF
open PySem
section
variable {c : Cl} {W : Nat} {ss : List S} {env env1 env2 : Env} {Φ : R → Prop} {e : E} {d : D}
theorem go_ret (h : ev c e .v env = some (.dat d, env1)) (q : Φ (.ret (.dat d) env1)) : Goes c W (.ret e :: ss) env Φ := by
  unfold Goes; simp only [exs, ex, h, giveOut]; exact q
theorem go_retO (h : ev c e .v env = some (.own d, env1)) (q : Φ (.ret (.own d) env1)) : Goes c W (.ret e :: ss) env Φ := by
  unfold Goes; simp only [exs, ex, h, giveOut]; exact q
theorem go_setD {i : Nat} (h : ev c e .v env = some (.dat d, env1)) (q : Goes c W ss (env1.set i (.val d)) Φ) : Goes c W (.set i e :: ss) env Φ :=
  go_step _ (by simp only [ex, h, store]) q
theorem go_setO {i : Nat} (h : ev c e .v env = some (.own d, env1)) (q : Goes c W ss (env1.set i (.own d)) Φ) : Goes c W (.set i e :: ss) env Φ :=
  go_step _ (by simp only [ex, h, store]) q
/-- a test that raises no alarm -/
theorem go_pass {t : E} {a : List S} (h : ev c t .t env = some (.dat (.bl false), env1)) (q : Goes c W ss env1 Φ) : Goes c W (.ite t a [] :: ss) env Φ :=
  go_ite false env1 h (fun z => nomatch z) fun _ => q
theorem ev_tuple {xs : List D} (h : ev c e .v env = some (.own (.lst xs), env1)) : ev c (.blt .tuple [e]) .v env = some (.dat (.tup xs), env1) := by
  simp only [ev, evs, h, fin, views, view, bltD]
theorem ev_list {xs : List D} (h : ev c e .v env = some (.dat (.tup xs), env1)) : ev c (.blt .list [e]) .v env = some (.own (.lst xs), env1) := by
  simp only [ev, evs, h, fin, views, view, bltD]
theorem ev_sum {xs : List D} {ns : List Int} (h : ev c e .v env = some (.own (.lst xs), env1)) (hn : intsD xs = some ns) : ev c (.blt .sum [e]) .v env = some (.dat (.int ns.sum), env1) := by
  simp only [ev, evs, h, fin, views, view, bltD, hn, Option.map_some]
theorem ev_max {xs : List D} {n : Int} {ns : List Int} (h : ev c e .v env = some (.own (.lst xs), env1)) (hn : intsD xs = some (n :: ns)) : ev c (.blt .max [e]) .v env = some (.dat (.int (maxI n ns)), env1) := by
  simp only [ev, evs, h, fin, views, view, bltD, hn]
theorem ev_len {xs : List D} (h : ev c e .v env = some (.dat (.tup xs), env1)) : ev c (.blt .len [e]) .v env = some (.dat (.int xs.length), env1) := by
  simp only [ev, evs, h, fin, views, view, bltD]
theorem ev_lenO {xs : List D} (h : ev c e .v env = some (.own (.lst xs), env1)) : ev c (.blt .len [e]) .v env = some (.dat (.int xs.length), env1) := by
  simp only [ev, evs, h, fin, views, view, bltD]
/-- [0] + a list -/
theorem ev_cons0 {xs : List D} {i : Int} (h : ev c e .v env = some (.own (.lst xs), env1)) (hl : xs.length + 1 ≤ line) : ev c (.bin .add (.lst [.int i]) e) .v env = some (.own (.lst (.int i :: xs)), env1) := by
  have l1 : 1 ≤ line := by unfold line; omega
  have l2 : 1 + xs.length ≤ line := by omega
  simp [ev, evds, fin, h, view, op2, toD, l1, l2]
theorem ev_call1 {f : Str} {o : Opd} {fs : List Slot} (h : ev c e .v env = some (.dat d, env1)) (hc : c f [.val d] = some (o, fs)) : ev c (.call f [e]) .v env = some (o, env1) := by
  simp only [ev, evs, h, lend, hc, fin]
  cases fs <;> rfl
theorem ev_call1O {f : Str} {o : Opd} {fs : List Slot} (h : ev c e .v env = some (.own d, env1)) (hc : c f [.own d] = some (o, fs)) : ev c (.call f [e]) .v env = some (o, env1) := by
  simp only [ev, evs, h, lend, hc, fin]
  cases fs <;> rfl
theorem ev_call2 {f : Str} {e' : E} {d' : D} {o : Opd} {fs : List Slot} (h : ev c e .v env = some (.dat d, env1)) (h' : ev c e' .v env1 = some (.dat d', env2)) (hc : c f [.val d, .val d'] = some (o, fs)) : ev c (.call f [e, e']) .v env = some (o, env2) := by
  simp only [ev, evs, h, h', lend, hc, fin]
  match fs with
  | [] => rfl
  | [_] => rfl
  | _ :: _ :: _ => rfl
theorem ev_call3 {f : Str} {e' e2 : E} {d' d2 : D} {env3 : Env} {o : Opd} {fs : List Slot} (h : ev c e .v env = some (.dat d, env1)) (h' : ev c e' .v env1 = some (.dat d', env2)) (h2 : ev c e2 .v env2 = some (.dat d2, env3)) (hc : c f [.val d, .val d', .val d2] = some (o, fs)) : ev c (.call f [e, e', e2]) .v env = some (o, env3) := by
  simp only [ev, evs, h, h', h2, lend, hc, fin]
  match fs with
  | [] => rfl
  | [_] => rfl
  | [_, _] => rfl
  | _ :: _ :: _ :: _ => rfl
/-- a call that is lent the list of a name -/
theorem ev_callS2 {f : Str} {i : Nat} {d d' : D} {o : Opd} {s : Slot} {fs : List Slot} (hi : look env i = .own d) (h' : ev c e .v env = some (.dat d', env1)) (hi1 : look env1 i = .own d) (hc : c f [.own d, .val d'] = some (o, s :: fs)) : ev c (.call f [.var i, e]) .v env = some (o, (env1.set i .un).set i s) := by
  simp only [ev, evs, hi, h', lend, hi1, hc, fin]
  cases fs <;> rfl
theorem ev_not {b : Bool} (h : ev c e .t env = some (.dat (.bl b), env1)) : ev c (.not e) .t env = some (.dat (.bl (!b)), env1) := by
  simp [ev, fin, h, view, truth]
theorem ev_tv (hv : ev c e .v env = some (.dat (.bl true), env1)) (ht : ev c e .t env = fin .t (ev c e .v env)) : ev c e .t env = some (.dat (.bl true), env1) := by
  rw [ht, hv]; rfl
theorem call_t {f : Str} {es : List E} (h : ev c (.call f es) .v env = some (.dat (.bl true), env1)) : ev c (.call f es) .t env = some (.dat (.bl true), env1) := by
  have : ev c (.call f es) .t env = fin .t (ev c (.call f es) .v env) := by simp only [ev, fin]
  rw [this, h]; rfl
theorem call_n {f : Str} {es : List E} (h : ev c (.call f es) .v env = some (.dat (.bl true), env1)) : ev c (.not (.call f es)) .t env = some (.dat (.bl false), env1) := ev_not (call_t h)
theorem or_two {a b : E} (ha : ev c a .t env = some (.dat (.bl false), env1)) (hb : ev c b .t env1 = some (.dat (.bl false), env2)) : ev c (.or [a, b]) .t env = some (.dat (.bl false), env2) := by
  simp [ev, evOr, ha, hb, fin, view, truth, Md.tv]
theorem or_three {a b g : E} {env3 : Env} (ha : ev c a .t env = some (.dat (.bl false), env1)) (hb : ev c b .t env1 = some (.dat (.bl false), env2)) (hg : ev c g .t env2 = some (.dat (.bl false), env3)) : ev c (.or [a, b, g]) .t env = some (.dat (.bl false), env3) := by
  simp [ev, evOr, ha, hb, hg, fin, view, truth, Md.tv]
end
section
variable {c : Cl} {env env1 env2 : Env}
theorem ev_var {i : Nat} {d : D} (h : look env i = .val d) : ev c (.var i) .v env = some (.dat d, env) := by simp only [ev, fin, h]
theorem ev_ci {i : Int} : ev c (.int i) .v env = some (.dat (.int i), env) := by simp only [ev, fin]
theorem ev_bin {op : Op2} {a b : E} {d d' : D} {r : Opd} (ha : ev c a .v env = some (.dat d, env1)) (hb : ev c b .v env1 = some (.dat d', env2)) (ho : op2 op d d' = some r) : ev c (.bin op a b) .v env = some (r, env2) := by
  simp only [ev, fin, ha, hb, view, ho]
theorem ev_cmp {op : Cm} {a b : E} {d d' : D} {r : Bool} (ha : ev c a .v env = some (.dat d, env1)) (hb : ev c b .v env1 = some (.dat d', env2)) (ho : cm op d d' = some r) : ev c (.cmp op a b) .v env = some (.dat (.bl r), env2) := by
  simp only [ev, fin, ha, hb, view, ho]
theorem ev_cmpT {op : Cm} {a b : E} {d d' : D} {r : Bool} (ha : ev c a .v env = some (.dat d, env1)) (hb : ev c b .v env1 = some (.dat d', env2)) (ho : cm op d d' = some r) : ev c (.cmp op a b) .t env = some (.dat (.bl r), env2) := by
  simp only [ev, fin, ha, hb, view, ho, truth]
theorem ev_andV {a b : E} {p q : Bool} (ha : ev c a .v env = some (.dat (.bl p), env)) (hb : ev c b .v env = some (.dat (.bl q), env)) : ev c (.and [a, b]) .v env = some (.dat (.bl (p && q)), env) := by
  cases p <;> cases q <;> simp [ev, evAnd, ha, hb, fin, Md.tv]
theorem ev_orV {a b : E} {p q : Bool} (ha : ev c a .v env = some (.dat (.bl p), env)) (hb : ev c b .v env = some (.dat (.bl q), env)) : ev c (.or [a, b]) .v env = some (.dat (.bl (p || q)), env) := by
  cases p <;> cases q <;> simp [ev, evOr, ha, hb, fin, Md.tv]
theorem ev_idx {a b : E} {d d' r : D} (ha : ev c a .v env = some (.dat d, env1)) (hb : ev c b .v env1 = some (.dat d', env2)) (ho : idxD d d' = some r) : ev c (.idx a b) .v env = some (.dat r, env2) := by
  simp only [ev, fin, ha, hb, view, ho]
theorem ev_int1 {a : E} {i : Int} (ha : ev c a .v env = some (.dat (.int i), env1)) : ev c (.blt .int [a]) .v env = some (.dat (.int i), env1) := by
  simp only [ev, evs, fin, ha, views, view, bltD]
theorem ev_walk {i : Nat} {xs : List D} (h : look env i = .val (.lst xs)) : ev c (.var i) .i env = some (.dat (.tup xs), env) := by simp only [ev, fin, h, itemsOf, toD]
theorem ev_walkT {i : Nat} {xs : List D} (h : look env i = .val (.tup xs)) : ev c (.var i) .i env = some (.dat (.tup xs), env) := by simp only [ev, fin, h, itemsOf, toD]
theorem ev_walkO {i : Nat} {xs : List D} (h : look env i = .own (.lst xs)) : ev c (.var i) .i env = some (.dat (.tup xs), env.set i (.val (.lst xs))) := by simp only [ev, fin, h, itemsOf, toD]
end
/-! ### comprehensions -/
theorem lcT_wipe {c : Cl} {own : List Nat} {tg : Tg} {cond : List E} {elt : E} {x : D} {env env0 : Env} (h : wipeE env own = wipeE env0 own) : lcT c own tg cond elt x env = lcT c own tg cond elt x env0 := by
  unfold lcT; rw [h]
theorem back1 {env0 env' : Env} {i : Nat} (h : wipeE env' [i] = wipeE env0 [i]) : backE env0 env' [i] = env0 := by
  simp only [wipeE, backE] at h ⊢
  have e : env'.set i (look env0 i) = (env'.set i .un).set i (look env0 i) := by rw [List.set_set]
  rw [e, h, List.set_set]
  apply List.ext_getElem?
  intro j
  rw [List.getElem?_set]
  by_cases hj : i = j
  · subst hj
    by_cases hl : i < env0.length
    · simp [hl, look]
    · simp [hl]
  · simp [hj]
/-- a comprehension over one name that changes nothing else -/
theorem ev_lc1 {c : Cl} {i : Nat} {src elt : E} {cond : List E} {env : Env} (xs : List D) (env0 : Env) (g : D → Option D) (e : ev c src .i env = some (.dat (.tup xs), env0)) (hl : xs.length ≤ line)
    (h : ∀ x ∈ xs, lcT c [i] (.nm i) cond elt x env0 = some (g x, env0.set i (.val x))) : ev c (.lc [i] (.nm i) src cond elt) .v env = some (.own (.lst (xs.filterMap g)), env0) := by
  have key : ∀ (ys : List D) (env1 : Env), (∀ x ∈ ys, x ∈ xs) → wipeE env1 [i] = wipeE env0 [i] → ∃ env', lcLoop (lcT c [i] (.nm i) cond elt) ys env1 = some (ys.filterMap g, env') ∧ wipeE env' [i] = wipeE env0 [i] := by
    intro ys
    induction ys with
    | nil => intro env1 _ hw; exact ⟨env1, rfl, hw⟩
    | cons y ys ih =>
      intro env1 hm hw
      have e1 := (lcT_wipe (x := y) hw).trans (h y (hm y List.mem_cons_self))
      obtain ⟨env', h1, h2⟩ := ih (env0.set i (.val y)) (fun x hx => hm x (List.mem_cons_of_mem _ hx)) (by simp [wipeE])
      refine ⟨env', ?_, h2⟩
      cases hg : g y with
      | none => rw [hg] at e1; simp only [lcLoop, e1, h1, List.filterMap_cons, hg]
      | some d => rw [hg] at e1; simp only [lcLoop, e1, h1, List.filterMap_cons, hg]
  obtain ⟨env', h1, h2⟩ := key xs env0 (fun _ h => h) rfl
  rw [ev_lc0]
  simp only [e, h1, if_pos (Nat.le_trans (List.length_filterMap_le _ _) hl), back1 h2]
theorem ev_lcm {c : Cl} {i : Nat} {src elt : E} {env : Env} {α : Type} (as : List α) (enc f : α → D) (env0 : Env) (e : ev c src .i env = some (.dat (.tup (as.map enc)), env0)) (hl : as.length ≤ line)
    (h : ∀ a ∈ as, lcT c [i] (.nm i) [] elt (enc a) env0 = some (some (f a), env0.set i (.val (enc a)))) : ev c (.lc [i] (.nm i) src [] elt) .v env = some (.own (.lst (as.map f)), env0) := by
  have key : ∀ (ys : List α) (env1 : Env), (∀ x ∈ ys, x ∈ as) → wipeE env1 [i] = wipeE env0 [i] → ∃ env', lcLoop (lcT c [i] (.nm i) [] elt) (ys.map enc) env1 = some (ys.map f, env') ∧ wipeE env' [i] = wipeE env0 [i] := by
    intro ys
    induction ys with
    | nil => intro env1 _ hw; exact ⟨env1, rfl, hw⟩
    | cons y ys ih =>
      intro env1 hm hw
      have e1 := (lcT_wipe (x := enc y) hw).trans (h y (hm y List.mem_cons_self))
      obtain ⟨env', h1, h2⟩ := ih (env0.set i (.val (enc y))) (fun x hx => hm x (List.mem_cons_of_mem _ hx)) (by simp [wipeE])
      exact ⟨env', by simp only [List.map_cons, lcLoop, e1, h1], h2⟩
  obtain ⟨env', h1, h2⟩ := key as env0 (fun _ h => h) rfl
  rw [ev_lc0]
  simp only [e, h1, List.length_map, if_pos hl, back1 h2]
/-- a comprehension with a state -/
theorem ev_lcP {c : Cl} {i : Nat} {src elt : E} {env : Env} {α : Type} (as : List α) (enc f : α → D) (env0 : Env) (P : Env → Prop) (e : ev c src .i env = some (.dat (.tup (as.map enc)), env0)) (hl : as.length ≤ line) (h0 : P env0)
    (h : ∀ a ∈ as, ∀ env, P env → ∃ env', lcT c [i] (.nm i) [] elt (enc a) env = some (some (f a), env') ∧ P env') : ∃ env', P env' ∧ ev c (.lc [i] (.nm i) src [] elt) .v env = some (.own (.lst (as.map f)), backE env0 env' [i]) := by
  have key : ∀ (ys : List α) (env1 : Env), (∀ x ∈ ys, x ∈ as) → P env1 → ∃ env', lcLoop (lcT c [i] (.nm i) [] elt) (ys.map enc) env1 = some (ys.map f, env') ∧ P env' := by
    intro ys
    induction ys with
    | nil => intro env1 _ hw; exact ⟨env1, rfl, hw⟩
    | cons y ys ih =>
      intro env1 hm hw
      obtain ⟨env2, e1, p2⟩ := h y (hm y List.mem_cons_self) env1 hw
      obtain ⟨env', h1, h2⟩ := ih env2 (fun x hx => hm x (List.mem_cons_of_mem _ hx)) p2
      exact ⟨env', by simp only [List.map_cons, lcLoop, e1, h1], h2⟩
  obtain ⟨env', h1, h2⟩ := key as env0 (fun _ h => h) h0
  refine ⟨env', h2, ?_⟩
  rw [ev_lc0]
  simp only [e, h1, List.length_map, if_pos hl]
/-- one turn with no test -/
theorem lcT1 {c : Cl} {i : Nat} {elt : E} {x d : D} {env0 : Env} (h : ev c elt .v (env0.set i (.val x)) = some (.dat d, env0.set i (.val x))) : lcT c [i] (.nm i) [] elt x env0 = some (some d, env0.set i (.val x)) := by
  simp only [lcT, wipeE, bindT, List.set_set, evAnd, h, toD]
theorem lcT_t {c : Cl} {i : Nat} {t elt : E} {x d : D} {env env1 env' : Env} (hc : ev c t .t (env.set i (.val x)) = some (.dat (.bl true), env1)) (h : ev c elt .v env1 = some (.dat d, env')) : lcT c [i] (.nm i) [t] elt x env = some (some d, env') := by
  simp only [lcT, wipeE, bindT, List.set_set, evAnd, hc, h, toD]
theorem lcT_f {c : Cl} {i : Nat} {t elt : E} {x : D} {env env1 : Env} (hc : ev c t .t (env.set i (.val x)) = some (.dat (.bl false), env1)) : lcT c [i] (.nm i) [t] elt x env = some (none, env1) := by
  simp only [lcT, wipeE, bindT, List.set_set, evAnd, hc]
theorem lcT2 {c : Cl} {i : Nat} {elt : E} {x d : D} {env env' : Env} (h : ev c elt .v (env.set i (.val x)) = some (.dat d, env')) : lcT c [i] (.nm i) [] elt x env = some (some d, env') := by
  simp only [lcT, wipeE, bindT, List.set_set, evAnd, h, toD]
theorem ev_lc2_0 {c : Cl} {own vs1 : List Nat} {tg tg1 : Tg} {src src1 elt : E} {cond cond1 : List E} {env : Env} : ev c (.lc2 own tg src cond vs1 tg1 src1 cond1 elt) .v env = match ev c src .i env with
    | some (.dat (.tup xs), env) => match lcLoop2 (fun x env => match bindT (wipeE env own) tg x with
        | none => none
        | some env => match evAnd c cond .t env with
          | some (.dat (.bl true), env) => match ev c src1 .i env with
            | some (.dat (.tup ys), env) => lcLoop (lcT c vs1 tg1 cond1 elt) ys env
            | _ => none
          | some (.dat (.bl false), env) => some ([], env)
          | _ => none) xs env with
      | some (ds, env') => if ds.length ≤ line then some (.own (.lst ds), backE env env' own) else none
      | none => none
    | _ => none := by
  simp only [ev, fin]; rfl
end PF
/-! PFZ: more of what expressions give; numbers, rows of numbers. -/
namespace PF
open PySem
variable {W : Nat}
abbrev nt (n : Nat) : D := .int (n : Int)
abbrev bits (ds : List Nat) : List D := ds.map nt
theorem atD_bits {ds : List Nat} {p : Nat} (h : p < ds.length) : atD (bits ds) (p : Int) = some (nt (ds[p]?.getD 0)) := by
  simp [atD, L2.atI, L2.ixN, h]
theorem ints_bits (ds : List Nat) : intsD (bits ds) = some (ds.map Int.ofNat) := by
  induction ds with
  | nil => rfl
  | cons d ds ih => simp only [bits, List.map_cons, intsD]; rw [show intsD (List.map nt ds) = _ from ih]; rfl
theorem sum_nat (ds : List Nat) : (ds.map Int.ofNat).sum = (ds.sum : Nat) := by
  induction ds with
  | nil => rfl
  | cons d ds ih => simp [ih]
theorem ge_bits {ds : List Nat} {p : Nat} (h : p < ds.length) : ds[p]?.getD 0 = ds[p] := by simp [h]
theorem rng_nat (n : Nat) (h : n < 2 ^ 60) : rngD [.int (n : Int)] = some ((List.range n).map nt) := by
  have e1 : okR (n : Int) = true := by
    have : (n : Int) < 2 ^ 62 := by omega
    have h2 : -(2 ^ 62) ≤ (n : Int) := by omega
    simp only [okR, Bool.and_eq_true, decide_eq_true_eq]
    exact ⟨h2, this⟩
  have e2 : (((n : Int) - 0 + 1 - 1) / 1).toNat = n := by simp
  simp only [rngD, e1, if_true, rngL]
  rw [if_pos (by decide), e2]
  refine congrArg some (List.map_congr_left fun k _ => ?_)
  show D.int _ = D.int _
  refine congrArg D.int ?_
  omega
theorem xs_at {n i : Nat} {x : D} (h : ((List.range n).map nt)[i]? = some x) : i < n ∧ x = nt i := by
  rw [List.getElem?_map] at h
  by_cases hi : i < n
  · rw [List.getElem?_range hi] at h; simp at h; exact ⟨hi, h.symm⟩
  · rw [List.getElem?_eq_none (by simpa using hi)] at h; simp at h
theorem lt60 {n : Nat} (h : n < 100000) : n < 2 ^ 60 := Nat.lt_trans h (by decide)
abbrev zs (l : List Int) : List D := l.map .int
theorem atD_zs {l : List Int} {j : Nat} (h : j < l.length) : atD (zs l) (j : Int) = some (.int (l[j]?.getD 0)) := by simp [atD, L2.atI, L2.ixN, h]
theorem setL_zs {l : List Int} {j : Nat} (h : j < l.length) (v : Int) : setL (.lst (zs l)) (.int (j : Int)) (.int v) = some (.lst (zs (l.set j v))) := by simp [setL, ixn, L2.ixN, h, List.map_set]
theorem small_mod (v : Int) : small64 (v % 2147483647) = true := by
  have h1 := Int.emod_lt_of_pos v (show (0 : Int) < 2147483647 by decide)
  have h2 := Int.emod_nonneg v (show (2147483647 : Int) ≠ 0 by decide)
  simp only [small64, Bool.and_eq_true, decide_eq_true_eq]
  omega
theorem ex8 (c : Cl) (p q r m cv iv jv : Int) (C : List D) (s0 s1 s3 s4 s5 x8 : Slot) (hp : small64 p = true) (hq : small64 q = true) (hm : 0 < m) (a1 : atD C jv = some (.int cv)) :
    ex c W (.set 8 (.bin .mod (.blt .int [(.bin .add (.bin .add (.bin .mul (.idx (.var 2) (.var 7)) (.int p)) (.bin .mul (.var 6) (.int q))) (.int r))]) (.int m))) [s0, s1, .own (.lst C), s3, s4, s5, .val (.int iv), .val (.int jv), x8] =
      some (.nx [s0, s1, .own (.lst C), s3, s4, s5, .val (.int iv), .val (.int jv), .val (.int ((cv * p + iv * q + r) % m))]) := by
  simp [exs, ex, ev, evds, evs, evAnd, evOr, look, fin, view, views, cm, D.plain, wantsM, isSeq, sameQ, truth, mutD, toD, op2, store, aug2, giveOut, finals, lend, PF.giveBack, bltD, isiD, kd, isK, idxD, mthD, b2i, itemsOf, bindT, Md.tv, setAll, revD, part, slcD, shp_int, shp_bl, deq_int, deq_bl, shp_non, rg1, rg2, rg3, rg4, ln1, ln2, ln3, ln4, a1, hp, hq, hm]
theorem shr_nt (n j : Nat) : op2 .shr (nt n) (nt j) = some (.dat (nt (n / 2 ^ j))) := by simp [op2, nt]
theorem mod_nt (n m : Nat) (h : 0 < m) : op2 .mod (nt n) (nt m) = some (.dat (nt (n % m))) := by simp [op2, nt, h]
theorem fdiv_nt (n m : Nat) (h : 0 < m) (h2 : m < 1073741824) : op2 .fdiv (nt n) (nt m) = some (.dat (nt (n / m))) := by
  simp only [op2, nt]; rw [if_pos ⟨by omega, .inl (by omega)⟩]; simp
theorem add_nt (n m : Nat) : op2 .add (nt n) (nt m) = some (.dat (nt (n + m))) := by simp [op2, nt]
theorem ln_of {n : Nat} (h : n < 100000) : n ≤ line := by unfold line; omega
theorem ev_range {c : Cl} {env env1 : Env} {e : E} {n : Nat} (hn : n < 100000) (h : ev c e .v env = some (.dat (nt n), env1)) : ev c (.rng [e]) .i env = some (.dat (.tup ((List.range n).map nt)), env1) :=
  ev_rng (ds := [nt n]) (by simp only [evds, h, toD]) (rng_nat n (lt60 hn))
section
variable {c : Cl} {env env1 env2 : Env} {a b : E}
theorem ev_nlen {c : Cl} {ds : List Nat} (h : ev c a .v env = some (.dat (.tup (bits ds)), env1)) : ev c (.blt .len [a]) .v env = some (.dat (nt ds.length), env1) := by
  have := ev_len h
  rwa [show ((bits ds).length : Int) = (ds.length : Int) by simp] at this
theorem ev_slot {i : Nat} {d : D} (h : look env i = .own d) : ev c (.var i) .v env = some (.slot i, env) := by simp only [ev, fin, h]
theorem ev_lenS {i : Nat} {xs : List D} (h : look env i = .own (.lst xs)) : ev c (.blt .len [.var i]) .v env = some (.dat (.int xs.length), env) := by
  simp only [ev, evs, fin, h, views, view, bltD]
theorem ev_idxS {i : Nat} {l d r : D} (h : look env i = .own l) (hb : ev c b .v env = some (.dat d, env)) (ho : idxD l d = some r) : ev c (.idx (.var i) b) .v env = some (.dat r, env) := by
  simp only [ev, fin, h, hb, view, ho]
theorem ev_idx_i {xs : List D} (h : ev c (.idx a b) .v env = some (.dat (.tup xs), env1)) : ev c (.idx a b) .i env = some (.dat (.tup xs), env1) := by
  have : ev c (.idx a b) .i env = fin .i (ev c (.idx a b) .v env) := by simp only [ev, fin]
  rw [this, h]; rfl
theorem ev_cmpS {op : Cm} {i : Nat} {d l : D} {r : Bool} (ha : ev c a .v env = some (.dat d, env)) (h : look env i = .own l) (ho : cm op d l = some r) : ev c (.cmp op a (.var i)) .t env = some (.dat (.bl r), env) := by
  simp only [ev, fin, ha, h, view, ho, truth]
theorem ev_mut1 {m : Mt} {i : Nat} {l l' d r : D} (h : look env i = .own l) (hw : wantsM m l = true) (ha : ev c a .v env = some (.dat d, env1)) (h1 : look env1 i = .own l) (hm : mutD m l [d] = some (r, l')) : ev c (.mut m i [a]) .v env = some (.dat r, env1.set i (.own l')) := by
  simp only [ev, evds, fin, h, hw, if_true, ha, toD, h1, hm]
theorem ex_sub {W : Nat} {i : Nat} {ix e : E} {d k l l' : D} (he : ev c e .v env = some (.dat d, env)) (h : look env i = .own l) (hi : ev c ix .v env = some (.dat k, env)) (hs : setL l k d = some l') : ex c W (.sub i ix e) env = some (.nx (env.set i (.own l'))) := by
  simp only [ex, he, toD, h, hi, hs]
theorem go_expr {c : Cl} {W : Nat} {ss : List S} {env env1 : Env} {Φ : R → Prop} {e : E} {o : Opd} (h : ev c e .v env = some (o, env1)) (q : Goes c W ss env1 Φ) : Goes c W (.expr e :: ss) env Φ := go_step _ (by simp only [ex, h]) q
theorem go_retS {c : Cl} {W : Nat} {ss : List S} {env : Env} {Φ : R → Prop} {i : Nat} {d : D} (h : look env i = .own d) (q : Φ (.ret (.own d) (env.set i .un))) : Goes c W (.ret (.var i) :: ss) env Φ := by
  unfold Goes; simp only [exs, ex, ev, fin, h, giveOut]; exact q
theorem go_augI {c : Cl} {W : Nat} {ss : List S} {env : Env} {Φ : R → Prop} {i : Nat} {n : Nat} (h : look env i = .val (nt n)) (q : Goes c W ss (env.set i (.val (nt (n + 1)))) Φ) : Goes c W (.aug .add i (.int 1) :: ss) env Φ :=
  go_step _ (by simp only [ex, h, ev, fin, view, aug2, nt]; simp) q
theorem at_bits {ds : List Nat} {p : Nat} (h : p < ds.length) : idxD (.tup (bits ds)) (nt p) = some (nt (ds[p]?.getD 0)) := atD_bits h
theorem at_bitsL {ds : List Nat} {p : Nat} (h : p < ds.length) : idxD (.lst (bits ds)) (nt p) = some (nt (ds[p]?.getD 0)) := atD_bits h
theorem ev_tlen {xs : List D} {n : Nat} (h : ev c a .v env = some (.dat (.tup xs), env)) (hn : xs.length = n) : ev c (.blt .len [a]) .v env = some (.dat (nt n), env) := by
  have := ev_len h
  rwa [hn] at this
theorem ev_lrT {c : Cl} {env env1 : Env} {a : E} {d : D} {xs : List D} (h : ev c a .v env = some (.dat d, env1)) (hr : rngD [d] = some xs) (hl : xs.length ≤ line) : ev c (.lrng true [a]) .v env = some (.dat (.tup xs), env1) := by
  simp only [ev, evds, fin, h, toD, hr]
  rw [if_pos hl]
  rfl
theorem ev_lrL {c : Cl} {env env1 env2 : Env} {a b : E} {d d' : D} {xs : List D} (h : ev c a .v env = some (.dat d, env1)) (h' : ev c b .v env1 = some (.dat d', env2)) (hr : rngD [d, d'] = some xs) (hl : xs.length ≤ line) : ev c (.lrng false [a, b]) .v env = some (.own (.lst xs), env2) := by
  simp only [ev, evds, fin, h, h', toD, hr]
  rw [if_pos hl]
  rfl
theorem ev_l1 {c : Cl} {env : Env} {a : E} {d : D} (h : ev c a .v env = some (.dat d, env)) : ev c (.lst [a]) .v env = some (.own (.lst [d]), env) := by
  have l1 : 1 ≤ line := by decide
  simp [ev, evds, fin, h, toD, l1]
theorem ev_binV {c : Cl} {env env1 env2 : Env} {op : Op2} {a b : E} {x y r : Opd} {d d' : D} (ha : ev c a .v env = some (x, env1)) (hb : ev c b .v env1 = some (y, env2)) (vx : view env2 x = some d) (vy : view env2 y = some d') (ho : op2 op d d' = some r) : ev c (.bin op a b) .v env = some (r, env2) := by
  simp only [ev, fin, ha, hb, vx, vy, ho]
theorem go_setS {c : Cl} {W : Nat} {ss : List S} {env : Env} {Φ : R → Prop} {i j : Nat} {xs : List D} (h : look env j = .own (.lst xs)) (q : Goes c W ss ((env.set j (.val (.lst xs))).set i (.val (.lst xs))) Φ) : Goes c W (.set i (.var j) :: ss) env Φ :=
  go_step _ (by simp only [ex, ev, fin, h, store]) q
theorem ev_non : ev c .non .v env = some (.dat .non, env) := by simp only [ev, fin]
theorem ev_idxL {l d r : D} (ha : ev c a .v env = some (.own l, env1)) (hb : ev c b .v env1 = some (.dat d, env2)) (ho : idxD l d = some r) : ev c (.idx a b) .v env = some (.dat r, env2) := by
  simp only [ev, fin, ha, hb, view, ho]
theorem ev_callI {f : Str} {es : List E} {xs : List D} (h : ev c (.call f es) .v env = some (.own (.lst xs), env1)) : ev c (.call f es) .i env = some (.dat (.tup xs), env1) := by
  have : ev c (.call f es) .i env = fin .i (ev c (.call f es) .v env) := by simp only [ev, fin]
  rw [this, h]; rfl
theorem and_f1 (ha : ev c a .t env = some (.dat (.bl false), env1)) : ev c (.and [a, b]) .t env = some (.dat (.bl false), env1) := by
  simp [ev, evAnd, ha, fin, view, truth, Md.tv]
theorem and_f2 (ha : ev c a .t env = some (.dat (.bl true), env1)) (hb : ev c b .t env1 = some (.dat (.bl false), env2)) : ev c (.and [a, b]) .t env = some (.dat (.bl false), env2) := by
  simp [ev, evAnd, ha, hb, fin, view, truth, Md.tv]
theorem go_mid {c : Cl} {W : Nat} {a b : List S} {env env1 : Env} {Φ : R → Prop} (h : exs c W a env = some (.nx env1)) (q : Goes c W b env1 Φ) : Goes c W (a ++ b) env Φ := by
  unfold Goes at q ⊢; rw [exs_app, h]; exact q
theorem ev_callS2g {c : Cl} {env env1 : Env} {e : E} {f : Str} {i : Nat} {d0 d d' : D} {o : Opd} {s : Slot} {fs : List Slot} (hi : look env i = .own d0) (h' : ev c e .v env = some (.dat d', env1)) (hi1 : look env1 i = .own d) (hc : c f [.own d, .val d'] = some (o, s :: fs)) : ev c (.call f [.var i, e]) .v env = some (o, (env1.set i .un).set i s) := by
  simp only [ev, evs, hi, h', lend, hi1, hc, fin]
  cases fs <;> rfl
theorem ev_callS3g {c : Cl} {env env1 env2 : Env} {e e2 : E} {f : Str} {i : Nat} {d0 d d' d2 : D} {o : Opd} {s : Slot} {fs : List Slot} (hi : look env i = .own d0) (h' : ev c e .v env = some (.dat d', env1)) (h2 : ev c e2 .v env1 = some (.dat d2, env2)) (hi1 : look env2 i = .own d) (hc : c f [.own d, .val d', .val d2] = some (o, s :: fs)) : ev c (.call f [.var i, e, e2]) .v env = some (o, (env2.set i .un).set i s) := by
  simp only [ev, evs, hi, h', h2, lend, hi1, hc, fin]
  match fs with
  | [] => rfl
  | [_] => rfl
  | _ :: _ :: _ => rfl
end
section
variable {c : Cl} {env env0 env1 env2 : Env} {a b : E}
theorem ev_neg {i : Int} (h : ev c a .v env = some (.dat (.int i), env1)) : ev c (.neg a) .v env = some (.dat (.int (-i)), env1) := by simp only [ev, fin, h]
theorem ev_abs {i : Int} (h : ev c a .v env = some (.dat (.int i), env1)) : ev c (.blt .abs [a]) .v env = some (.dat (.int (if i < 0 then -i else i)), env1) := by simp only [ev, evs, fin, h, views, view, bltD]
theorem ev_tup1 {d : D} (h : ev c a .v env = some (.dat d, env1)) : ev c (.tup [a]) .v env = some (.dat (.tup [d]), env1) := by
  have l1 : 1 ≤ line := by unfold line; omega
  simp [ev, evds, fin, h, toD, l1]
theorem ev_tup2 {d d' : D} (h : ev c a .v env = some (.dat d, env1)) (h' : ev c b .v env1 = some (.dat d', env2)) : ev c (.tup [a, b]) .v env = some (.dat (.tup [d, d']), env2) := by
  have l2 : 2 ≤ line := by unfold line; omega
  simp [ev, evds, fin, h, h', toD, l2]
theorem ev_lst2 {d d' : D} (h : ev c a .v env = some (.dat d, env1)) (h' : ev c b .v env1 = some (.dat d', env2)) : ev c (.lst [a, b]) .v env = some (.own (.lst [d, d']), env2) := by
  have l2 : 2 ≤ line := by unfold line; omega
  simp [ev, evds, fin, h, h', toD, l2]
theorem ev_t0 : ev c (.tup []) .v env = some (.dat (.tup []), env) := by simp [ev, evds, fin]
theorem ev_tupO {xs : List D} (h : ev c a .v env = some (.own (.lst xs), env1)) : ev c (.blt .tuple [a]) .v env = some (.dat (.tup xs), env1) := ev_tuple h
/-! ### comprehensions over two names -/
theorem wipeZ_len : ∀ (own : List Nat) (env : Env), (wipeE env own).length = env.length
  | [], env => rfl
  | i :: is, env => by rw [wipeE, List.length_set, wipeZ_len is env]
theorem backZ_len (old : Env) : ∀ (own : List Nat) (env : Env), (backE old env own).length = env.length
  | [], env => rfl
  | i :: is, env => by rw [backE, List.length_set, backZ_len old is env]
theorem wipeZ_get : ∀ (own : List Nat) (env : Env) (j : Nat), (wipeE env own)[j]? = if j ∈ own then (if j < env.length then some .un else none) else env[j]?
  | [], env, j => by simp [wipeE]
  | i :: is, env, j => by
    rw [wipeE, List.getElem?_set, wipeZ_len, wipeZ_get is env j]
    by_cases h : i = j
    · subst h; simp
    · have h' : ¬ j = i := fun z => h z.symm
      simp [h, h']
theorem backZ_get (old : Env) : ∀ (own : List Nat) (env : Env) (j : Nat), (backE old env own)[j]? = if j ∈ own then (if j < env.length then some (look old j) else none) else env[j]?
  | [], env, j => by simp [backE]
  | i :: is, env, j => by
    rw [backE, List.getElem?_set, backZ_len, backZ_get old is env j]
    by_cases h : i = j
    · subst h; simp
    · have h' : ¬ j = i := fun z => h z.symm
      simp [h, h']
theorem backZ_all {env' : Env} {own : List Nat} (h : wipeE env' own = wipeE env0 own) : backE env0 env' own = env0 := by
  have hl : env'.length = env0.length := by rw [← wipeZ_len own env', h, wipeZ_len]
  apply List.ext_getElem?
  intro j
  rw [backZ_get, hl]
  by_cases hj : j ∈ own
  · rw [if_pos hj]
    by_cases hk : j < env0.length
    · rw [if_pos hk]; unfold look; rw [List.getElem?_eq_getElem hk]; rfl
    · rw [if_neg hk, List.getElem?_eq_none (by omega)]
  · rw [if_neg hj]
    have e := congrArg (fun z : Env => z[j]?) h
    simp only [wipeZ_get, if_neg hj] at e
    exact e
/-- a comprehension that changes nothing but its own names -/
theorem ev_lcG {own : List Nat} {tg : Tg} {src elt : E} {cond : List E} {α : Type} (as : List α) (enc : α → D) (g : α → Option D) (e : ev c src .i env = some (.dat (.tup (as.map enc)), env0)) (hl : as.length ≤ line)
    (h : ∀ x ∈ as, ∃ env', lcT c own tg cond elt (enc x) env0 = some (g x, env') ∧ wipeE env' own = wipeE env0 own) : ev c (.lc own tg src cond elt) .v env = some (.own (.lst (as.filterMap g)), env0) := by
  have key : ∀ (ys : List α) (env1 : Env), (∀ x ∈ ys, x ∈ as) → wipeE env1 own = wipeE env0 own → ∃ env', lcLoop (lcT c own tg cond elt) (ys.map enc) env1 = some (ys.filterMap g, env') ∧ wipeE env' own = wipeE env0 own := by
    intro ys
    induction ys with
    | nil => intro env1 _ hw; exact ⟨env1, rfl, hw⟩
    | cons y ys ih =>
      intro env1 hm hw
      obtain ⟨env2, e1, w2⟩ := h y (hm y List.mem_cons_self)
      rw [← lcT_wipe (x := enc y) hw] at e1
      obtain ⟨env', h1, h2⟩ := ih env2 (fun x hx => hm x (List.mem_cons_of_mem _ hx)) w2
      refine ⟨env', ?_, h2⟩
      cases hg : g y with
      | none => rw [hg] at e1; simp only [List.map_cons, lcLoop, e1, h1, List.filterMap_cons, hg]
      | some d => rw [hg] at e1; simp only [List.map_cons, lcLoop, e1, h1, List.filterMap_cons, hg]
  obtain ⟨env', h1, h2⟩ := key as env0 (fun _ h => h) rfl
  rw [ev_lc0]
  simp only [e, h1, if_pos (Nat.le_trans (List.length_filterMap_le _ _) hl), backZ_all h2]
theorem fm_some {α β : Type} (f : α → β) (as : List α) : as.filterMap (fun x => some (f x)) = as.map f := by
  induction as with
  | nil => rfl
  | cons a as ih => simp [ih]
/-- .. over pairs of numbers, no test -/
theorem ev_lcp {i j : Nat} {own : List Nat} {src elt : E} (P : List (Int × Int)) (f : Int × Int → D) (e : ev c src .i env = some (.dat (.tup (P.map fun p => .tup [.int p.1, .int p.2])), env0)) (hl : P.length < 100000)
    (ho : (own = [i, j] ∨ own = [j, i]) ∧ i ≠ j) (h : ∀ p ∈ P, ev c elt .v ((env0.set i (.val (.int p.1))).set j (.val (.int p.2))) = some (.dat (f p), (env0.set i (.val (.int p.1))).set j (.val (.int p.2)))) :
    ev c (.lc own (.tp [i, j]) src [] elt) .v env = some (.own (.lst (P.map f)), env0) := by
  obtain ⟨ho, hij⟩ := ho
  rw [← fm_some f P]
  refine ev_lcG P (fun p => .tup [.int p.1, .int p.2]) (fun p => some (f p)) e (ln_of hl) fun p hp => ⟨(env0.set i (.val (.int p.1))).set j (.val (.int p.2)), ?_, ?_⟩
  · have hw : ((wipeE env0 own).set i (.val (.int p.1))).set j (.val (.int p.2)) = (env0.set i (.val (.int p.1))).set j (.val (.int p.2)) := by
      apply List.ext_getElem?
      intro n
      simp only [List.getElem?_set, List.length_set, wipeZ_len, wipeZ_get]
      by_cases h1 : j = n
      · simp [h1]
      · by_cases h2 : i = n
        · simp [h1, h2]
        · have : ¬ n ∈ own := by
            rcases ho with rfl | rfl <;> simp [Ne.symm, show ¬ n = i from fun z => h2 z.symm, show ¬ n = j from fun z => h1 z.symm]
          simp [h1, h2, this]
    simp only [lcT, bindT, setAll, hw, evAnd, h p hp, toD]
  · apply List.ext_getElem?
    intro n
    simp only [wipeZ_get, List.getElem?_set, List.length_set]
    by_cases hn : n ∈ own
    · simp [hn]
    · have h1 : ¬ j = n := by rintro rfl; rcases ho with rfl | rfl <;> simp at hn
      have h2 : ¬ i = n := by rintro rfl; rcases ho with rfl | rfl <;> simp at hn
      simp [hn, h1, h2]
end
end PF
namespace K03
/-! ### going through the states, in plain Lean -/
/-- the states of a row that are new -/
def addS (f : List Nat) (s : Nat) : List Nat := if s ∈ f then f else f ++ [s]
def addRow (f : List Nat) (r : List Nat) : List Nat := r.foldl addS f
/-- the row of a state -/
def row (T : List (List Nat)) (s : Nat) : List Nat := T[s]?.getD []
/-- from place k on, n turns at most -/
def go (T : List (List Nat)) : Nat → Nat → List Nat → List Nat
  | 0, _, f => f
  | n + 1, k, f => if k < f.length then go T n (k + 1) (addRow f (row T (f[k]?.getD 0))) else f
def ord (T : List (List Nat)) : List Nat := go T T.length 0 [0]
theorem addS_pre (f : List Nat) (s : Nat) : ∃ e, addS f s = f ++ e := by
  unfold addS; split
  · exact ⟨[], by simp⟩
  · exact ⟨[s], rfl⟩
theorem addRow_pre : ∀ (r f : List Nat), ∃ e, addRow f r = f ++ e
  | [], f => ⟨[], by simp [addRow]⟩
  | s :: r, f => by
    obtain ⟨e, h⟩ := addS_pre f s
    obtain ⟨e2, h2⟩ := addRow_pre r (addS f s)
    exact ⟨e ++ e2, by show addRow (addS f s) r = _; rw [h2, h, List.append_assoc]⟩
theorem go_pre (T : List (List Nat)) : ∀ (n k : Nat) (f : List Nat), ∃ e, go T n k f = f ++ e
  | 0, k, f => ⟨[], by simp [go]⟩
  | n + 1, k, f => by
    unfold go
    split
    · obtain ⟨e, h⟩ := addRow_pre (row T (f[k]?.getD 0)) f
      obtain ⟨e2, h2⟩ := go_pre T n (k + 1) (addRow f (row T (f[k]?.getD 0)))
      exact ⟨e ++ e2, by rw [h2, h, List.append_assoc]⟩
    · exact ⟨[], by simp⟩
theorem mem_addS {f : List Nat} {s x : Nat} : x ∈ addS f s ↔ x ∈ f ∨ x = s := by
  unfold addS; split
  · rename_i h
    constructor
    · exact .inl
    · rintro (h2 | rfl)
      · exact h2
      · exact h
  · simp
theorem mem_addRow {x : Nat} : ∀ {r f : List Nat}, x ∈ addRow f r ↔ x ∈ f ∨ x ∈ r
  | [], f => by simp [addRow]
  | s :: r, f => by
    show x ∈ addRow (addS f s) r ↔ _
    rw [mem_addRow, mem_addS, List.mem_cons, or_assoc]
theorem nd_addS {f : List Nat} {s : Nat} (h : f.Nodup) : (addS f s).Nodup := by
  unfold addS; split
  · exact h
  · rename_i hs
    rw [List.nodup_append]
    refine ⟨h, by simp, fun a ha b hb => ?_⟩
    rw [List.mem_singleton.mp hb]
    rintro rfl; exact hs ha
theorem nd_addRow : ∀ {r f : List Nat}, f.Nodup → (addRow f r).Nodup
  | [], f, h => h
  | s :: r, f, h => nd_addRow (r := r) (nd_addS h)
theorem nd_go (T : List (List Nat)) : ∀ {n k : Nat} {f : List Nat}, f.Nodup → (go T n k f).Nodup
  | 0, k, f, h => h
  | n + 1, k, f, h => by
    unfold go; split
    · exact nd_go T (nd_addRow h)
    · exact h
/-- all rows within the states -/
def Wf (T : List (List Nat)) : Prop := 0 < T.length ∧ ∀ r ∈ T, ∀ s ∈ r, s < T.length
theorem row_lt {T : List (List Nat)} (h : Wf T) {s x : Nat} (hx : x ∈ row T s) : x < T.length := by
  unfold row at hx
  cases e : T[s]? with
  | none => rw [e] at hx; simp at hx
  | some r => rw [e] at hx; exact h.2 r (List.mem_of_getElem? e) x hx
theorem lt_go {T : List (List Nat)} (h : Wf T) : ∀ {n k : Nat} {f : List Nat}, (∀ s ∈ f, s < T.length) → ∀ s ∈ go T n k f, s < T.length
  | 0, k, f, hf => hf
  | n + 1, k, f, hf => by
    unfold go; split
    · refine lt_go h fun s hs => ?_
      rcases mem_addRow.mp hs with hs | hs
      · exact hf s hs
      · exact row_lt h hs
    · exact hf
theorem lt_ord {T : List (List Nat)} (h : Wf T) : ∀ s ∈ ord T, s < T.length := lt_go h fun s hs => by rw [List.mem_singleton.mp hs]; exact h.1
theorem nd_ord (T : List (List Nat)) : (ord T).Nodup := nd_go T (by simp)
theorem len_le {l : List Nat} {n : Nat} (nd : l.Nodup) (h : ∀ s ∈ l, s < n) : l.length ≤ n := by
  have : l.length ≤ (List.range n).length := L2.nat_nodup_len l _ nd fun s hs => List.mem_range.mpr (h s hs)
  simpa using this
theorem ord_len {T : List (List Nat)} (h : Wf T) : (ord T).length ≤ T.length := len_le (nd_ord T) (lt_ord h)
theorem ord_zero (T : List (List Nat)) : ∃ e, ord T = 0 :: e := by
  obtain ⟨e, h⟩ := go_pre T T.length 0 [0]
  exact ⟨e, h⟩
/-- the states ahead of place k have their rows within -/
def Clo (T : List (List Nat)) (k : Nat) (f : List Nat) : Prop := ∀ j, j < k → j < f.length → ∀ x ∈ row T (f[j]?.getD 0), x ∈ f
theorem go_cl {T : List (List Nat)} : ∀ {n k : Nat} {f : List Nat}, Clo T k f → Clo T (k + n) (go T n k f) ∨ ∃ m, m ≤ k + n ∧ (go T n k f).length ≤ m ∧ Clo T m (go T n k f)
  | 0, k, f, h => .inl (by simpa [go] using h)
  | n + 1, k, f, h => by
    unfold go
    split
    · rename_i hk
      have h2 : Clo T (k + 1) (addRow f (row T (f[k]?.getD 0))) := by
        intro j hj hl x hx
        obtain ⟨e, he⟩ := addRow_pre (row T (f[k]?.getD 0)) f
        have hjf : j < f.length := by omega
        have hg : (addRow f (row T (f[k]?.getD 0)))[j]?.getD 0 = f[j]?.getD 0 := by rw [he, List.getElem?_append_left hjf]
        rw [hg] at hx
        rw [mem_addRow]
        by_cases hjk : j = k
        · subst hjk; exact .inr hx
        · exact .inl (h j (by omega) hjf x hx)
      rcases go_cl (n := n) h2 with h3 | ⟨m, m1, m2, m3⟩
      · exact .inl (by rwa [show k + (n + 1) = k + 1 + n by omega])
      · exact .inr ⟨m, by omega, m2, m3⟩
    · rename_i hk
      exact .inr ⟨k, by omega, by omega, h⟩
/-- what is come to is closed -/
theorem ord_closed {T : List (List Nat)} (h : Wf T) {s : Nat} (hs : s ∈ ord T) {x : Nat} (hx : x ∈ row T s) : x ∈ ord T := by
  obtain ⟨j, hj⟩ := List.mem_iff_getElem?.mp hs
  have hl : j < (ord T).length := (List.getElem?_eq_some_iff.mp hj).1
  have hx' : x ∈ row T ((ord T)[j]?.getD 0) := by rw [hj]; exact hx
  have h0 : Clo T 0 [0] := fun j hj => absurd hj (Nat.not_lt_zero _)
  rcases go_cl (n := T.length) h0 with h1 | ⟨m, m1, m2, m3⟩
  · have := ord_len h
    exact h1 j (by omega) hl x hx'
  · have m2' : (ord T).length ≤ m := m2
    exact m3 j (by omega) hl x hx'
/-! ### renumbered -/
theorem addRow_map {ρ : Nat → Nat} : ∀ {r f : List Nat}, (∀ x ∈ f ++ r, ∀ y ∈ f ++ r, ρ x = ρ y → x = y) → addRow (f.map ρ) (r.map ρ) = (addRow f r).map ρ
  | [], f, _ => rfl
  | s :: r, f, h => by
    have e : addS (f.map ρ) (ρ s) = (addS f s).map ρ := by
      unfold addS
      by_cases hs : s ∈ f
      · rw [if_pos hs, if_pos (List.mem_map.mpr ⟨s, hs, rfl⟩)]
      · rw [if_neg hs, if_neg]
        · simp
        · intro hm
          obtain ⟨t, ht, e⟩ := List.mem_map.mp hm
          have := h t (by simp [ht]) s (by simp) e
          subst this; exact hs ht
    show addRow (addS (f.map ρ) (ρ s)) (r.map ρ) = (addRow (addS f s) r).map ρ
    rw [e]
    refine addRow_map fun x hx y hy => h x ?_ y ?_
    · rcases List.mem_append.mp hx with hx | hx
      · rcases mem_addS.mp hx with hx | rfl <;> simp_all
      · simp [hx]
    · rcases List.mem_append.mp hy with hy | hy
      · rcases mem_addS.mp hy with hy | rfl <;> simp_all
      · simp [hy]
theorem go_map {T T' : List (List Nat)} {ρ : Nat → Nat} {O : List Nat} (hO : ∀ s ∈ O, ∀ x ∈ row T s, x ∈ O) (inj : ∀ x ∈ O, ∀ y ∈ O, ρ x = ρ y → x = y) (hr : ∀ s ∈ O, row T' (ρ s) = (row T s).map ρ) :
    ∀ (n k : Nat) (f : List Nat), (∀ s ∈ f, s ∈ O) → go T' n k (f.map ρ) = (go T n k f).map ρ
  | 0, k, f, _ => rfl
  | n + 1, k, f, hf => by
    unfold go
    rw [List.length_map]
    by_cases hk : k < f.length
    · rw [if_pos hk, if_pos hk]
      have hm : f[k]?.getD 0 ∈ f := by simp [hk]
      have e : (f.map ρ)[k]?.getD 0 = ρ (f[k]?.getD 0) := by simp [hk]
      have sub : ∀ x ∈ f ++ row T (f[k]?.getD 0), x ∈ O := fun x hx => by
        rcases List.mem_append.mp hx with hx | hx
        · exact hf x hx
        · exact hO _ (hf _ hm) x hx
      rw [e, hr _ (hf _ hm), addRow_map fun x hx y hy => inj x (sub x hx) y (sub y hy)]
      exact go_map hO inj hr n (k + 1) _ fun s hs => by
        rcases mem_addRow.mp hs with hs | hs
        · exact hf s hs
        · exact hO _ (hf _ hm) s hs
    · rw [if_neg hk, if_neg hk]
/-- turns past the end change nothing -/
theorem go_more {T : List (List Nat)} : ∀ {n k : Nat} {f : List Nat} (m : Nat), (go T n k f).length ≤ k + n → go T (n + m) k f = go T n k f
  | 0, k, f, m, h => by
    have h' : f.length ≤ k := h
    show go T (0 + m) k f = f
    cases m with
    | zero => rfl
    | succ m => rw [Nat.zero_add]; unfold go; rw [if_neg (by omega)]
  | n + 1, k, f, m, h => by
    rw [show n + 1 + m = (n + m) + 1 by omega]
    unfold go at h ⊢
    split
    · rename_i hk
      rw [if_pos hk] at h
      exact go_more m (by omega)
    · rfl
theorem ord_map {T T' : List (List Nat)} {ρ : Nat → Nat} (wf : Wf T) (h0 : ρ 0 = 0) (inj : ∀ x ∈ ord T, ∀ y ∈ ord T, ρ x = ρ y → x = y) (hr : ∀ s ∈ ord T, row T' (ρ s) = (row T s).map ρ) (hl : (ord T).length ≤ T'.length) : ord T' = (ord T).map ρ := by
  have key := fun n => go_map (T := T) (T' := T') (ρ := ρ) (fun s hs x hx => ord_closed wf hs hx) inj hr n 0 [0] (fun s hs => by
    rw [List.mem_singleton.mp hs]
    obtain ⟨e, he⟩ := ord_zero T
    rw [he]; simp)
  rw [show [0].map ρ = [0] by simp [h0]] at key
  have h1 : (go T T.length 0 [0]).length ≤ 0 + T.length := by have := ord_len wf; unfold ord at this; omega
  unfold ord
  unfold ord at hl
  by_cases hle : T'.length ≤ T.length
  · obtain ⟨m, hm⟩ : ∃ m, T.length = T'.length + m := ⟨T.length - T'.length, by omega⟩
    have e2 := key T.length
    have e3 : go T' (T'.length + m) 0 [0] = go T' T'.length 0 [0] := by
      refine go_more m ?_
      -- a prefix of what is come to
      have : ∀ (n m : Nat), (go T' n 0 [0]).length ≤ (go T' (n + m) 0 [0]).length := by
        intro n m
        have gen : ∀ (n k : Nat) (f : List Nat) (m : Nat), (go T' n k f).length ≤ (go T' (n + m) k f).length := by
          intro n
          induction n with
          | zero =>
            intro k f m
            obtain ⟨e, he⟩ := go_pre T' (0 + m) k f
            rw [he]; show f.length ≤ _; simp
          | succ n ih =>
            intro k f m
            rw [show n + 1 + m = (n + m) + 1 by omega]
            unfold go
            split
            · exact ih _ _ _
            · exact Nat.le_refl _
        exact gen n 0 [0] m
      have h3 := this T'.length m
      rw [← hm, e2, List.length_map] at h3
      omega
    rw [← e3, ← hm, e2]
  · obtain ⟨m, hm⟩ : ∃ m, T'.length = T.length + m := ⟨T'.length - T.length, by omega⟩
    rw [hm, key, go_more m h1]
end K03
namespace K03
/-! ### the machine in order -/
abbrev ix (O : List Nat) (s : Nat) : Nat := O.idxOf s
def inRows (T : List (List Nat)) : List (List Nat) := (ord T).map fun s => (row T s).map (ix (ord T))
def inEnds (T : List (List Nat)) (E : List Bool) : List Bool := (ord T).map fun s => E[s]?.getD false
theorem get_ix {O : List Nat} {s : Nat} (h : s ∈ O) : O[ix O s]? = some s := by
  have := List.idxOf_lt_length_of_mem h
  rw [List.getElem?_eq_getElem this]
  simp
theorem ix_inj {O : List Nat} {x y : Nat} (hx : x ∈ O) (hy : y ∈ O) (e : ix O x = ix O y) : x = y := by
  have h1 := get_ix hx
  rw [e, get_ix hy] at h1
  exact (Option.some.inj h1).symm
theorem ix_lt {O : List Nat} {s : Nat} (h : s ∈ O) : ix O s < O.length := List.idxOf_lt_length_of_mem h
theorem ix_get {O : List Nat} (nd : O.Nodup) {i : Nat} (h : i < O.length) : ix O (O[i]?.getD 0) = i := by
  have hm : O[i]?.getD 0 ∈ O := by simp [h]
  have h1 := get_ix hm
  have h2 : O[i]? = some (O[i]?.getD 0) := by simp [h]
  exact (List.getElem?_inj (ix_lt hm) nd).mp (h1.trans h2.symm)
theorem map_ix {O : List Nat} (nd : O.Nodup) : O.map (ix O) = List.range O.length := by
  apply List.ext_getElem?
  intro i
  by_cases h : i < O.length
  · have := ix_get nd h
    simp [h] at this ⊢
    exact this
  · simp [h]
theorem ix_range {n x : Nat} (h : x < n) : ix (List.range n) x = x := by
  have := ix_get (O := List.range n) List.nodup_range (i := x) (by simpa using h)
  simpa [h] using this
theorem row_in {T : List (List Nat)} {s : Nat} (h : s ∈ ord T) : row (inRows T) (ix (ord T) s) = (row T s).map (ix (ord T)) := by
  unfold row inRows
  rw [List.getElem?_map, get_ix h]; rfl
theorem end_in {T : List (List Nat)} {E : List Bool} {s : Nat} (h : s ∈ ord T) : (inEnds T E)[ix (ord T) s]?.getD false = E[s]?.getD false := by
  unfold inEnds
  rw [List.getElem?_map, get_ix h]; rfl
theorem in_len (T : List (List Nat)) : (inRows T).length = (ord T).length := by simp [inRows]
theorem ord_in {T : List (List Nat)} (wf : Wf T) : ord (inRows T) = List.range (ord T).length := by
  rw [← map_ix (nd_ord T)]
  refine ord_map wf ?_ (fun x hx y hy e => ix_inj hx hy e) (fun s hs => row_in hs) (by rw [in_len]; exact Nat.le_refl _)
  obtain ⟨e, h⟩ := ord_zero T
  rw [h]; simp [ix]
theorem wf_in {T : List (List Nat)} (wf : Wf T) : Wf (inRows T) := by
  obtain ⟨e, h⟩ := ord_zero T
  refine ⟨by rw [in_len, h]; simp, fun r hr x hx => ?_⟩
  rw [in_len]
  obtain ⟨s, hs, rfl⟩ := List.mem_map.mp hr
  obtain ⟨y, hy, rfl⟩ := List.mem_map.mp hx
  exact ix_lt (ord_closed wf hs hy)
theorem row_eq (T : List (List Nat)) : T = (List.range T.length).map (row T) := by
  apply List.ext_getElem?
  intro i
  by_cases h : i < T.length <;> simp [h, row]
theorem ends_eq (E : List Bool) : E = (List.range E.length).map fun s => E[s]?.getD false := by
  apply List.ext_getElem?
  intro i
  by_cases h : i < E.length <;> simp [h]
/-- in order already -/
theorem in_same {T : List (List Nat)} (wf : Wf T) (h : ord T = List.range T.length) : inRows T = T := by
  unfold inRows
  rw [h]
  conv => rhs; rw [row_eq T]
  refine List.map_congr_left fun s _ => ?_
  have : ∀ x ∈ row T s, ix (List.range T.length) x = x := fun x hx => ix_range (row_lt wf hx)
  exact (List.map_congr_left this).trans (List.map_id' _)
theorem inE_same {T : List (List Nat)} {E : List Bool} (hE : E.length = T.length) (h : ord T = List.range T.length) : inEnds T E = E := by
  unfold inEnds
  rw [h, ← hE]
  exact (ends_eq E).symm
theorem in_in {T : List (List Nat)} (wf : Wf T) : inRows (inRows T) = inRows T := in_same (wf_in wf) (by rw [ord_in wf, in_len])
theorem inE_in {T : List (List Nat)} {E : List Bool} (wf : Wf T) : inEnds (inRows T) (inEnds T E) = inEnds T E := inE_same (by simp [inEnds, in_len]) (by rw [ord_in wf, in_len])
theorem in_iff {T : List (List Nat)} {E : List Bool} (wf : Wf T) (hE : E.length = T.length) : decide (ord T = List.range T.length) = decide (T = inRows T ∧ E = inEnds T E) := by
  refine decide_eq_decide.mpr ⟨fun h => ⟨(in_same wf h).symm, (inE_same hE h).symm⟩, fun h => ?_⟩
  have h1 := ord_in wf
  rw [← h.1] at h1
  rw [h1]
  congr 1
  rw [← in_len, ← h.1]
/-! ### renumbered -/
theorem ren_ord {T T' : List (List Nat)} {ν : Nat → Nat} (wf : Wf T) (hl : T'.length = T.length) (h0 : ν 0 = 0) (inj : ∀ x, x < T.length → ∀ y, y < T.length → ν x = ν y → x = y) (hr : ∀ s, s < T.length → row T' (ν s) = (row T s).map ν) : ord T' = (ord T).map ν :=
  ord_map wf h0 (fun x hx y hy e => inj x (lt_ord wf x hx) y (lt_ord wf y hy) e) (fun s hs => hr s (lt_ord wf s hs)) (by rw [hl]; exact ord_len wf)
theorem idx_map {ν : Nat → Nat} : ∀ {O : List Nat} {x : Nat}, (∀ y ∈ O, ν y = ν x → y = x) → x ∈ O → (O.map ν).idxOf (ν x) = O.idxOf x
  | [], x, _, h => by simp at h
  | y :: O, x, h, hx => by
    by_cases e : y = x
    · subst e; simp
    · have e2 : ν y ≠ ν x := fun z => e (h y (by simp) z)
      have hx2 : x ∈ O := by
        rcases List.mem_cons.mp hx with h | h
        · exact absurd h.symm e
        · exact h
      rw [List.map_cons, List.idxOf_cons, List.idxOf_cons, beq_eq_false_iff_ne.mpr e2, beq_eq_false_iff_ne.mpr e, idx_map (fun z hz => h z (by simp [hz])) hx2]
theorem ren_rows {T T' : List (List Nat)} {ν : Nat → Nat} (wf : Wf T) (hl : T'.length = T.length) (h0 : ν 0 = 0) (inj : ∀ x, x < T.length → ∀ y, y < T.length → ν x = ν y → x = y) (hr : ∀ s, s < T.length → row T' (ν s) = (row T s).map ν) : inRows T' = inRows T := by
  unfold inRows
  rw [ren_ord wf hl h0 inj hr, List.map_map]
  refine List.map_congr_left fun s hs => ?_
  show (row T' (ν s)).map _ = _
  rw [hr s (lt_ord wf s hs), List.map_map]
  refine List.map_congr_left fun x hx => ?_
  have hx2 := ord_closed wf hs hx
  exact idx_map (fun y hy e => inj y (lt_ord wf y hy) x (lt_ord wf x hx2) e) hx2
theorem ren_ends {T T' : List (List Nat)} {E E' : List Bool} {ν : Nat → Nat} (wf : Wf T) (hl : T'.length = T.length) (h0 : ν 0 = 0) (inj : ∀ x, x < T.length → ∀ y, y < T.length → ν x = ν y → x = y) (hr : ∀ s, s < T.length → row T' (ν s) = (row T s).map ν)
    (he : ∀ s, s < T.length → E'[ν s]?.getD false = E[s]?.getD false) : inEnds T' E' = inEnds T E := by
  unfold inEnds
  rw [ren_ord wf hl h0 inj hr, List.map_map]
  exact List.map_congr_left fun s hs => he s (lt_ord wf s hs)
/-! ### along words -/
def beh (T : List (List Nat)) (w : List Nat) : Nat := w.foldl (fun s l => (row T s)[l]?.getD 0) 0
/-- all rows as long as the letters -/
def Full (T : List (List Nat)) (b : Nat) : Prop := ∀ r ∈ T, r.length = b
theorem full_row {T : List (List Nat)} {b s : Nat} (h : Full T b) (hs : s < T.length) : (row T s).length = b := by
  unfold row
  rw [List.getElem?_eq_getElem hs]
  exact h _ (List.getElem_mem hs)
theorem beh_snoc (T : List (List Nat)) (w : List Nat) (l : Nat) : beh T (w ++ [l]) = (row T (beh T w))[l]?.getD 0 := by simp [beh, List.foldl_append]
theorem beh_ok {T : List (List Nat)} {b : Nat} (wf : Wf T) (fu : Full T b) : ∀ w : List Nat, (∀ l ∈ w, l < b) → beh T w ∈ ord T ∧ beh (inRows T) w = ix (ord T) (beh T w) := by
  intro w
  suffices H : ∀ (w : List Nat) (s : Nat), (∀ l ∈ w, l < b) → s ∈ ord T → w.foldl (fun s l => (row T s)[l]?.getD 0) s ∈ ord T ∧ w.foldl (fun s l => (row (inRows T) s)[l]?.getD 0) (ix (ord T) s) = ix (ord T) (w.foldl (fun s l => (row T s)[l]?.getD 0) s) by
    intro hw
    obtain ⟨e, h⟩ := ord_zero T
    have := H w 0 hw (by rw [h]; simp)
    have h0 : ix (ord T) 0 = 0 := by rw [h]; simp [ix]
    rw [h0] at this
    exact this
  intro w
  induction w with
  | nil => intro s _ hs; exact ⟨hs, rfl⟩
  | cons l w ih =>
    intro s hw hs
    have hl : l < (row T s).length := by rw [full_row fu (lt_ord wf s hs)]; exact hw l (by simp)
    have hx : (row T s)[l]?.getD 0 ∈ row T s := by simp [hl]
    have hx2 := ord_closed wf hs hx
    have e : (row (inRows T) (ix (ord T) s))[l]?.getD 0 = ix (ord T) ((row T s)[l]?.getD 0) := by rw [row_in hs]; simp [hl]
    simp only [List.foldl_cons]
    rw [e]
    exact ih _ (fun l hl => hw l (by simp [hl])) hx2
end K03
namespace K03
/-! ### words by number -/
def code (b : Nat) (w : List Nat) : Nat := w.foldl (fun a l => a * b + l) 1
theorem code_snoc (b : Nat) (w : List Nat) (l : Nat) : code b (w ++ [l]) = code b w * b + l := by simp [code, List.foldl_append]
theorem rev_ind {P : List Nat → Prop} (h0 : P []) (hs : ∀ w l, P w → P (w ++ [l])) : ∀ w, P w := fun w => by
  have : ∀ v : List Nat, P v.reverse := by
    intro v
    induction v with
    | nil => exact h0
    | cons l v ih => rw [List.reverse_cons]; exact hs _ _ ih
  have h := this w.reverse
  rwa [List.reverse_reverse] at h
theorem code_ge {b : Nat} (hb : 0 < b) : ∀ w : List Nat, b ^ w.length ≤ code b w := by
  refine rev_ind (by simp [code]) fun w l ih => ?_
  rw [code_snoc, List.length_append, List.length_singleton, Nat.pow_succ]
  exact Nat.le_trans (Nat.mul_le_mul_right b ih) (Nat.le_add_right _ _)
theorem code_lt {b : Nat} : ∀ w : List Nat, (∀ l ∈ w, l < b) → code b w < 2 * b ^ w.length := by
  refine rev_ind (fun _ => by simp [code]) fun w l ih h => ?_
  have h1 := ih fun x hx => h x (by simp [hx])
  have h2 := h l (by simp)
  rw [code_snoc, List.length_append, List.length_singleton, Nat.pow_succ, ← Nat.mul_assoc]
  have : (code b w + 1) * b ≤ 2 * b ^ w.length * b := Nat.mul_le_mul_right b h1
  rw [Nat.add_mul, Nat.one_mul] at this
  omega
theorem code_inj {b : Nat} (hb : 2 ≤ b) : ∀ (w v : List Nat), (∀ l ∈ w, l < b) → (∀ l ∈ v, l < b) → code b w = code b v → w = v := by
  refine rev_ind (fun v _ hv e => ?_) fun w l ih v hw hv e => ?_
  · have h1 := code_ge (by omega : 0 < b) v
    rw [← e] at h1
    cases v with
    | nil => rfl
    | cons x v =>
      exfalso
      have h2 : b ^ 1 ≤ b ^ (x :: v).length := Nat.pow_le_pow_right (by omega) (by simp)
      rw [Nat.pow_one] at h2
      have : code b [] = 1 := rfl
      omega
  · have hn : v ≠ [] := by
      rintro rfl
      have h1 := code_ge (by omega : 0 < b) (w ++ [l])
      have h2 : b ^ 1 ≤ b ^ (w ++ [l]).length := Nat.pow_le_pow_right (by omega) (by simp)
      rw [Nat.pow_one] at h2
      have : code b [] = 1 := rfl
      omega
    obtain ⟨v', x, rfl⟩ : ∃ v' x, v = v' ++ [x] := ⟨v.dropLast, v.getLast hn, (List.dropLast_concat_getLast hn).symm⟩
    rw [code_snoc, code_snoc] at e
    have hl := hw l (by simp)
    have hx := hv x (by simp)
    have e1 : code b w = code b v' := by
      have a : (code b w * b + l) / b = code b w := by rw [Nat.mul_comm, Nat.mul_add_div (by omega), Nat.div_eq_of_lt hl, Nat.add_zero]
      have c : (code b v' * b + x) / b = code b v' := by rw [Nat.mul_comm, Nat.mul_add_div (by omega), Nat.div_eq_of_lt hx, Nat.add_zero]
      rw [← a, ← c, e]
    rw [e1] at e
    have e2 : l = x := by omega
    rw [ih v' (fun l hl => hw l (by simp [hl])) (fun l hl => hv l (by simp [hl])) e1, e2]
/-! ### all words up to a length -/
def lay (b : Nat) : Nat → List (List Nat)
  | 0 => [[]]
  | n + 1 => (lay b n).flatMap fun w => (List.range b).map fun l => w ++ [l]
def alls (b : Nat) : Nat → List (List Nat)
  | 0 => []
  | n + 1 => alls b n ++ lay b n
theorem lay_mem {b : Nat} : ∀ {n : Nat} {w : List Nat}, w ∈ lay b n ↔ w.length = n ∧ ∀ l ∈ w, l < b
  | 0, w => by
    simp only [lay, List.mem_singleton]
    constructor
    · rintro rfl; simp
    · rintro ⟨h, _⟩; exact List.eq_nil_of_length_eq_zero h
  | n + 1, w => by
    unfold lay
    simp only [List.mem_flatMap, List.mem_map, List.mem_range]
    constructor
    · rintro ⟨v, hv, l, hl, rfl⟩
      obtain ⟨h1, h2⟩ := lay_mem.mp hv
      refine ⟨by simp [h1], fun x hx => ?_⟩
      rcases List.mem_append.mp hx with hx | hx
      · exact h2 x hx
      · rw [List.mem_singleton.mp hx]; exact hl
    · rintro ⟨h1, h2⟩
      have hn : w ≠ [] := by rintro rfl; simp at h1
      refine ⟨w.dropLast, lay_mem.mpr ⟨by simp [h1], fun l hl => h2 l ((List.dropLast_sublist w).subset hl)⟩, w.getLast hn, h2 _ (List.getLast_mem hn), List.dropLast_concat_getLast hn⟩
theorem alls_mem {b : Nat} : ∀ {n : Nat} {w : List Nat}, w ∈ alls b n ↔ w.length < n ∧ ∀ l ∈ w, l < b
  | 0, w => by simp [alls]
  | n + 1, w => by
    unfold alls
    rw [List.mem_append, alls_mem, lay_mem]
    constructor
    · rintro (⟨h1, h2⟩ | ⟨h1, h2⟩)
      · exact ⟨by omega, h2⟩
      · exact ⟨by omega, h2⟩
    · rintro ⟨h1, h2⟩
      by_cases h : w.length = n
      · exact .inr ⟨h, h2⟩
      · exact .inl ⟨by omega, h2⟩
theorem lay_asc {b : Nat} : ∀ n : Nat, (lay b n).Pairwise fun v w => code b v < code b w
  | 0 => by simp [lay]
  | n + 1 => by
    unfold lay
    have ih := lay_asc (b := b) n
    have gen : ∀ ws : List (List Nat), ws.Pairwise (fun v w => code b v < code b w) → (ws.flatMap fun w => (List.range b).map fun l => w ++ [l]).Pairwise fun v w => code b v < code b w := by
      intro ws
      induction ws with
      | nil => intro _; exact .nil
      | cons w ws ih =>
        intro h
        obtain ⟨h1, h2⟩ := List.pairwise_cons.mp h
        rw [List.flatMap_cons, List.pairwise_append]
        refine ⟨?_, ih h2, fun x hx y hy => ?_⟩
        · rw [List.pairwise_map]
          exact List.pairwise_lt_range.imp fun {l m} hlm => by rw [code_snoc, code_snoc]; omega
        · obtain ⟨l, hl, rfl⟩ := List.mem_map.mp hx
          obtain ⟨v, hv, hy⟩ := List.mem_flatMap.mp hy
          obtain ⟨m, hm, rfl⟩ := List.mem_map.mp hy
          have := h1 v hv
          have hl := List.mem_range.mp hl
          rw [code_snoc, code_snoc]
          have h3 : (code b w + 1) * b ≤ code b v * b := Nat.mul_le_mul_right b this
          rw [Nat.add_mul, Nat.one_mul] at h3
          omega
    exact gen _ ih
theorem alls_asc {b : Nat} (hb : 2 ≤ b) : ∀ n : Nat, (alls b n).Pairwise fun v w => code b v < code b w
  | 0 => .nil
  | n + 1 => by
    unfold alls
    rw [List.pairwise_append]
    refine ⟨alls_asc hb n, lay_asc n, fun x hx y hy => ?_⟩
    obtain ⟨h1, h2⟩ := alls_mem.mp hx
    obtain ⟨h3, h4⟩ := lay_mem.mp hy
    have a := code_lt x h2
    have c := code_ge (by omega : 0 < b) y
    have d : 2 * b ^ x.length ≤ b ^ y.length := by
      have e1 : b ^ (x.length + 1) ≤ b ^ y.length := Nat.pow_le_pow_right (by omega) (by omega)
      rw [Nat.pow_succ] at e1
      have : b ^ x.length * 2 ≤ b ^ x.length * b := Nat.mul_le_mul_left _ hb
      omega
    omega
theorem find_least {b : Nat} {p : List Nat → Bool} : ∀ {ls : List (List Nat)} {w y : List Nat}, ls.Pairwise (fun v w => code b v < code b w) → ls.find? p = some w → y ∈ ls → p y = true → code b w ≤ code b y
  | [], w, y, _, h, _, _ => by simp at h
  | x :: ls, w, y, hp, h, hy, py => by
    obtain ⟨h1, h2⟩ := List.pairwise_cons.mp hp
    rw [List.find?_cons] at h
    cases e : p x with
    | true =>
      rw [e] at h
      cases h
      rcases List.mem_cons.mp hy with rfl | hy
      · exact Nat.le_refl _
      · exact Nat.le_of_lt (h1 y hy)
    | false =>
      rw [e] at h
      rcases List.mem_cons.mp hy with rfl | hy
      · rw [py] at e; cases e
      · exact find_least h2 h hy py
/-! ### the first words -/
def wSt (b : Nat) (r : List Nat) (s : Nat) (ws : List (List Nat)) (l : Nat) : List (List Nat) := if r[l]?.getD 0 < ws.length then ws else ws ++ [ws[s]?.getD [] ++ [l]]
def wRow (b : Nat) (T : List (List Nat)) (s : Nat) (ws : List (List Nat)) (n : Nat) : List (List Nat) := (List.range n).foldl (wSt b (row T s) s) ws
def wds (b : Nat) (T : List (List Nat)) (n : Nat) : List (List Nat) := (List.range n).foldl (fun ws s => wRow b T s ws b) [[]]
theorem wRow_succ (b : Nat) (T : List (List Nat)) (s : Nat) (ws : List (List Nat)) (n : Nat) : wRow b T s ws (n + 1) = wSt b (row T s) s (wRow b T s ws n) n := by simp [wRow, List.range_succ, List.foldl_append]
theorem wds_succ (b : Nat) (T : List (List Nat)) (n : Nat) : wds b T (n + 1) = wRow b T n (wds b T n) b := by simp [wds, List.range_succ, List.foldl_append]
/-- the states found ahead of letter l of state k -/
def fnd (T : List (List Nat)) (k l : Nat) : List Nat := addRow (go T k 0 [0]) ((row T k).take l)
/-- what holds at letter l of state k -/
structure WI (b : Nat) (T : List (List Nat)) (k l : Nat) (ws : List (List Nat)) : Prop where
  len : fnd T k l = List.range ws.length
  lt : k < ws.length
  bh : ∀ i, i < ws.length → beh T (ws[i]?.getD []) = i ∧ ∀ x ∈ ws[i]?.getD [], x < b
  asc : ∀ i j, i < j → j < ws.length → code b (ws[i]?.getD []) < code b (ws[j]?.getD [])
  top : ∀ i, i < ws.length → code b (ws[i]?.getD []) < code b (ws[k]?.getD []) * b + l
  least : ∀ s m, (s < k ∧ m < b) ∨ (s = k ∧ m < l) → (row T s)[m]?.getD 0 < ws.length ∧ code b (ws[(row T s)[m]?.getD 0]?.getD []) ≤ code b (ws[s]?.getD []) * b + m
theorem get_app {ws : List (List Nat)} {v : List Nat} {i : Nat} (h : i < ws.length) : (ws ++ [v])[i]?.getD [] = ws[i]?.getD [] := by rw [List.getElem?_append_left h]
theorem get_new {ws : List (List Nat)} {v : List Nat} : (ws ++ [v])[ws.length]?.getD [] = v := by simp
theorem WI.next {b : Nat} {T : List (List Nat)} {k l : Nat} {ws : List (List Nat)} (I : WI b T k l ws) (hl : l < (row T k).length) (hlb : l < b) (pre : ∃ n, fnd T k (l + 1) = List.range n) : WI b T k (l + 1) (wSt b (row T k) k ws l) := by
  have e : fnd T k (l + 1) = addS (fnd T k l) ((row T k)[l]?.getD 0) := by
    unfold fnd addRow
    rw [List.take_succ, List.foldl_append]
    simp [hl]
  unfold wSt
  by_cases hx : (row T k)[l]?.getD 0 < ws.length
  · rw [if_pos hx]
    refine ⟨?_, I.lt, I.bh, I.asc, fun i hi => Nat.lt_succ_of_lt (I.top i hi), fun s m h => ?_⟩
    · rw [e, I.len, addS, if_pos (List.mem_range.mpr hx)]
    · by_cases hm : s = k ∧ m = l
      · obtain ⟨rfl, rfl⟩ := hm
        exact ⟨hx, Nat.le_of_lt (I.top _ hx)⟩
      · exact I.least s m (by omega)
  · rw [if_neg hx]
    -- the new state is the next one
    have hs : addS (List.range ws.length) ((row T k)[l]?.getD 0) = List.range ws.length ++ [(row T k)[l]?.getD 0] := by
      unfold addS; rw [if_neg fun z => hx (List.mem_range.mp z)]
    have hxe : (row T k)[l]?.getD 0 = ws.length := by
      obtain ⟨n, hn⟩ := pre
      rw [e, I.len, hs] at hn
      have h1 := congrArg List.length hn
      simp at h1
      subst h1
      have h2 := congrArg (fun L : List Nat => L[ws.length]?) hn
      simpa using h2
    obtain ⟨v, hv⟩ : ∃ v, v = ws[k]?.getD [] ++ [l] := ⟨_, rfl⟩
    have cv : code b v = code b (ws[k]?.getD []) * b + l := by rw [hv, code_snoc]
    obtain ⟨b1, b2⟩ := I.bh k I.lt
    rw [← hv]
    refine ⟨?_, by simp; have := I.lt; omega, fun i hi => ?_, fun i j hij hj => ?_, fun i hi => ?_, fun s m h => ?_⟩
    · rw [e, I.len, hs, hxe, List.length_append, List.length_singleton, List.range_succ]
    · by_cases hi2 : i < ws.length
      · rw [get_app hi2]; exact I.bh i hi2
      · have hi3 : i = ws.length := by simp at hi; omega
        subst hi3
        rw [get_new]
        refine ⟨by rw [hv, beh_snoc, b1, hxe], fun x hx => ?_⟩
        rw [hv] at hx
        rcases List.mem_append.mp hx with hx | hx
        · exact b2 x hx
        · rw [List.mem_singleton.mp hx]; exact hlb
    · by_cases hj2 : j < ws.length
      · rw [get_app hj2, get_app (by omega)]; exact I.asc i j hij hj2
      · have hj3 : j = ws.length := by simp at hj; omega
        subst hj3
        rw [get_new, get_app hij, cv]
        exact I.top i hij
    · rw [get_app I.lt]
      by_cases hi2 : i < ws.length
      · rw [get_app hi2]; exact Nat.lt_succ_of_lt (I.top i hi2)
      · have hi3 : i = ws.length := by simp at hi; omega
        subst hi3
        rw [get_new, cv]; omega
    · by_cases hm : s = k ∧ m = l
      · obtain ⟨rfl, rfl⟩ := hm
        rw [hxe]
        refine ⟨by simp, ?_⟩
        rw [get_new, get_app I.lt, cv]; exact Nat.le_refl _
      · obtain ⟨h1, h2⟩ := I.least s m (by omega)
        have hs : s < ws.length := by have := I.lt; omega
        exact ⟨by simp; omega, by rw [get_app h1, get_app hs]; exact h2⟩
theorem WI.row {b : Nat} {T : List (List Nat)} {k : Nat} {ws : List (List Nat)} (hr : (row T k).length = b) (pre : ∀ l, l ≤ b → ∃ n, fnd T k l = List.range n) (I : WI b T k 0 ws) : ∀ l, l ≤ b → WI b T k l (wRow b T k ws l)
  | 0, _ => by simpa [wRow] using I
  | l + 1, h => by
    rw [wRow_succ]
    exact (WI.row hr pre I l (by omega)).next (by omega) (by omega) (pre (l + 1) h)
end K03
namespace K03
theorem go_snoc {T : List (List Nat)} : ∀ (n k : Nat) (f : List Nat), go T (n + 1) k f = if k + n < (go T n k f).length then addRow (go T n k f) (row T ((go T n k f)[k + n]?.getD 0)) else go T n k f
  | 0, k, f => rfl
  | n + 1, k, f => by
    show (if k < f.length then go T (n + 1) (k + 1) (addRow f (row T (f[k]?.getD 0))) else f) = _
    by_cases hk : k < f.length
    · rw [if_pos hk]
      have e : go T (n + 1) k f = go T n (k + 1) (addRow f (row T (f[k]?.getD 0))) := by show (if k < f.length then _ else f) = _; rw [if_pos hk]
      rw [e, go_snoc n (k + 1), show k + 1 + n = k + (n + 1) by omega]
    · rw [if_neg hk]
      have e : go T (n + 1) k f = f := by show (if k < f.length then _ else f) = _; rw [if_neg hk]
      rw [e, if_neg (by omega)]
theorem go_mono (T : List (List Nat)) (n k : Nat) (f : List Nat) : ∀ m, ∃ e, go T (n + m) k f = go T n k f ++ e
  | 0 => ⟨[], by simp⟩
  | m + 1 => by
    obtain ⟨e, he⟩ := go_mono T n k f m
    rw [show n + (m + 1) = (n + m) + 1 by omega, go_snoc]
    split
    · obtain ⟨e2, h2⟩ := addRow_pre (row T ((go T (n + m) k f)[k + (n + m)]?.getD 0)) (go T (n + m) k f)
      exact ⟨e ++ e2, by rw [h2, he, List.append_assoc]⟩
    · exact ⟨e, he⟩
theorem pre_range {A e : List Nat} {n : Nat} (h : A ++ e = List.range n) : A = List.range A.length := by
  have h1 := congrArg (List.take A.length) h
  rw [List.take_left, List.take_range] at h1
  have h2 := congrArg List.length h
  simp at h2
  rw [Nat.min_eq_left (by omega)] at h1
  exact h1
/-- in order: what is found is a beginning of all -/
structure InOrd (T : List (List Nat)) (b : Nat) : Prop where
  wf : Wf T
  fu : Full T b
  b2 : 2 ≤ b
  o : ord T = List.range T.length
theorem InOrd.stage {T : List (List Nat)} {b k : Nat} (I : InOrd T b) (hk : k < T.length) : k < (go T k 0 [0]).length ∧ go T k 0 [0] = List.range (go T k 0 [0]).length := by
  obtain ⟨m, hm⟩ : ∃ m, T.length = k + m := ⟨T.length - k, by omega⟩
  obtain ⟨e, he⟩ := go_mono T k 0 [0] m
  have ho : go T (k + m) 0 [0] = List.range T.length := by rw [← hm]; exact I.o
  refine ⟨?_, pre_range (he.symm.trans ho)⟩
  refine Nat.lt_of_not_le fun z => ?_
  have h2 := go_more (T := T) (n := k) (k := 0) (f := [0]) m (by omega)
  rw [ho] at h2
  have h3 := congrArg List.length h2
  simp at h3
  omega
theorem InOrd.step {T : List (List Nat)} {b k : Nat} (I : InOrd T b) (hk : k < T.length) : go T (k + 1) 0 [0] = addRow (go T k 0 [0]) (row T k) := by
  obtain ⟨h1, h2⟩ := I.stage hk
  have hg : (go T k 0 [0])[0 + k]?.getD 0 = k := by rw [h2, Nat.zero_add]; simp [h1]
  rw [go_snoc, if_pos (by omega), hg]
theorem InOrd.pre {T : List (List Nat)} {b k : Nat} (I : InOrd T b) (hk : k < T.length) (l : Nat) : ∃ n, fnd T k l = List.range n := by
  obtain ⟨m, hm⟩ : ∃ m, T.length = (k + 1) + m := ⟨T.length - (k + 1), by omega⟩
  obtain ⟨e, he⟩ := go_mono T (k + 1) 0 [0] m
  have ho : go T (k + 1 + m) 0 [0] = List.range T.length := by rw [← hm]; exact I.o
  have h1 : go T (k + 1) 0 [0] = addRow (fnd T k l) ((row T k).drop l) := by
    rw [I.step hk]
    unfold fnd addRow
    rw [← List.foldl_append, List.take_append_drop]
  obtain ⟨e2, h2⟩ := addRow_pre ((row T k).drop l) (fnd T k l)
  rw [ho, h1, h2, List.append_assoc] at he
  exact ⟨_, pre_range he.symm⟩
theorem InOrd.wi {T : List (List Nat)} {b : Nat} (I : InOrd T b) : ∀ k, k < T.length → WI b T k 0 (wds b T k)
  | 0, h0 => by
    have hw : wds b T 0 = [[]] := rfl
    rw [hw]
    refine ⟨by simp [fnd, addRow, go], by simp, fun i hi => ?_, fun i j hij hj => ?_, fun i hi => ?_, fun s m h => by omega⟩
    · have : i = 0 := by simpa using hi
      subst this; simp [beh]
    · simp at hj; omega
    · have : i = 0 := by simpa using hi
      subst this
      have := I.b2
      simp [code]; omega
  | k + 1, hk => by
    have ih := I.wi k (by omega)
    have hr := full_row I.fu (show k < T.length by omega)
    have J := ih.row hr (fun l _ => I.pre (by omega) l) b (Nat.le_refl _)
    rw [← wds_succ] at J
    have e : fnd T k b = go T (k + 1) 0 [0] := by rw [I.step (by omega)]; unfold fnd; rw [List.take_of_length_le (by omega)]
    have hl := J.len
    rw [e] at hl
    have hlt : k + 1 < (wds b T (k + 1)).length := by
      have := (I.stage hk).1
      rw [hl] at this
      simpa using this
    refine ⟨by unfold fnd; simpa [addRow] using hl, hlt, J.bh, J.asc, fun i hi => ?_, fun s m h => J.least s m (by omega)⟩
    have h1 := J.top i hi
    have h2 := J.asc k (k + 1) (by omega) hlt
    have h3 : (code b ((wds b T (k + 1))[k]?.getD []) + 1) * b ≤ code b ((wds b T (k + 1))[k + 1]?.getD []) * b := Nat.mul_le_mul_right b h2
    rw [Nat.add_mul, Nat.one_mul] at h3
    omega
theorem InOrd.all {T : List (List Nat)} {b : Nat} (I : InOrd T b) : (wds b T T.length).length = T.length ∧ (∀ i, i < T.length → beh T ((wds b T T.length)[i]?.getD []) = i ∧ ∀ x ∈ (wds b T T.length)[i]?.getD [], x < b) ∧
    ∀ w : List Nat, (∀ l ∈ w, l < b) → beh T w < T.length ∧ code b ((wds b T T.length)[beh T w]?.getD []) ≤ code b w := by
  obtain ⟨k, hk⟩ : ∃ k, T.length = k + 1 := ⟨T.length - 1, by have := I.wf.1; omega⟩
  have hr := full_row I.fu (show k < T.length by omega)
  have J := (I.wi k (by omega)).row hr (fun l _ => I.pre (by omega) l) b (Nat.le_refl _)
  rw [← wds_succ, ← hk] at J
  have e : fnd T k b = go T (k + 1) 0 [0] := by rw [I.step (by omega)]; unfold fnd; rw [List.take_of_length_le (by omega)]
  have hl := J.len
  rw [e, ← hk] at hl
  have ho : go T T.length 0 [0] = List.range T.length := I.o
  rw [ho] at hl
  have hlen : (wds b T T.length).length = T.length := by
    have := congrArg List.length hl
    simpa using this.symm
  refine ⟨hlen, fun i hi => J.bh i (by omega), ?_⟩
  refine rev_ind (fun _ => ?_) fun w l ih h => ?_
  · refine ⟨I.wf.1, ?_⟩
    have h1 := J.bh 0 (by have := J.lt; omega)
    have : beh T [] = 0 := rfl
    rw [this]
    -- the first word is the least
    by_cases h0 : T.length = 1
    · have hw : (wds b T T.length)[0]?.getD [] = [] := by
        have : ∀ n, (wds b T n)[0]?.getD [] = [] ∧ 0 < (wds b T n).length := by
          intro n
          induction n with
          | zero => exact ⟨rfl, by simp [wds]⟩
          | succ n ih =>
            rw [wds_succ]
            have : ∀ m, (wRow b T n (wds b T n) m)[0]?.getD [] = [] ∧ 0 < (wRow b T n (wds b T n) m).length := by
              intro m
              induction m with
              | zero => simpa [wRow] using ih
              | succ m ih2 =>
                rw [wRow_succ]
                unfold wSt
                split
                · exact ih2
                · exact ⟨by rw [get_app ih2.2]; exact ih2.1, by simp⟩
            exact this b
        exact (this _).1
      rw [hw]; exact Nat.le_refl _
    · have hw : (wds b T T.length)[0]?.getD [] = [] := by
        have : ∀ n, (wds b T n)[0]?.getD [] = [] ∧ 0 < (wds b T n).length := by
          intro n
          induction n with
          | zero => exact ⟨rfl, by simp [wds]⟩
          | succ n ih =>
            rw [wds_succ]
            have : ∀ m, (wRow b T n (wds b T n) m)[0]?.getD [] = [] ∧ 0 < (wRow b T n (wds b T n) m).length := by
              intro m
              induction m with
              | zero => simpa [wRow] using ih
              | succ m ih2 =>
                rw [wRow_succ]
                unfold wSt
                split
                · exact ih2
                · exact ⟨by rw [get_app ih2.2]; exact ih2.1, by simp⟩
            exact this b
        exact (this _).1
      rw [hw]; exact Nat.le_refl _
  · obtain ⟨h1, h2⟩ := ih fun x hx => h x (by simp [hx])
    have hl := h l (by simp)
    rw [beh_snoc, code_snoc]
    obtain ⟨h3, h4⟩ := J.least (beh T w) l (by omega)
    refine ⟨by omega, Nat.le_trans h4 ?_⟩
    exact Nat.add_le_add_right (Nat.mul_le_mul_right b h2) l
/-- the first word of all that leads to a state is the word told -/
theorem InOrd.first {T : List (List Nat)} {b M : Nat} (I : InOrd T b) {s : Nat} {w : List Nat} (h : (alls b (M + 1)).find? (fun v => decide (beh T v = s)) = some w) : s < T.length ∧ w = (wds b T T.length)[s]?.getD [] := by
  obtain ⟨h1, h2, h3⟩ := I.all
  have hw := List.mem_of_find?_eq_some h
  obtain ⟨l1, l2⟩ := alls_mem.mp hw
  have hs : beh T w = s := by simpa using List.find?_some h
  obtain ⟨a1, a2⟩ := h3 w l2
  rw [hs] at a1 a2
  refine ⟨a1, ?_⟩
  obtain ⟨c1, c2⟩ := h2 s a1
  have hb : 0 < b := by have := I.b2; omega
  -- the told word is no longer
  have hlen : ((wds b T T.length)[s]?.getD []).length < M + 1 := by
    refine Nat.lt_of_not_le fun z => ?_
    have e1 := code_ge hb ((wds b T T.length)[s]?.getD [])
    have e2 := code_lt w l2
    have e3 : b ^ (M + 1) ≤ b ^ ((wds b T T.length)[s]?.getD []).length := Nat.pow_le_pow_right hb z
    have e4 : b ^ w.length ≤ b ^ M := Nat.pow_le_pow_right hb (by omega)
    have e5 : b ^ M * 2 ≤ b ^ M * b := Nat.mul_le_mul_left _ I.b2
    rw [Nat.pow_succ] at e3
    omega
  have hm : (wds b T T.length)[s]?.getD [] ∈ alls b (M + 1) := alls_mem.mpr ⟨hlen, c2⟩
  have e6 := find_least (alls_asc I.b2 (M + 1)) h hm (by simp [c1])
  exact code_inj I.b2 _ _ l2 c2 (Nat.le_antisymm e6 a2)
end K03
namespace K02
open K03
/-! ### plain: classes -/
section
variable {α : Type} [DecidableEq α] {β : Type} [DecidableEq β]
def addA (f : List α) (s : α) : List α := if s ∈ f then f else f ++ [s]
def firsts (ks : List α) : List α := ks.foldl addA []
theorem mem_addA {f : List α} {s x : α} : x ∈ addA f s ↔ x ∈ f ∨ x = s := by
  unfold addA
  split
  · constructor
    · exact .inl
    · rintro (h | rfl)
      · exact h
      · assumption
  · simp
theorem nd_addA {f : List α} {s : α} (h : f.Nodup) : (addA f s).Nodup := by
  unfold addA
  split
  · exact h
  · rename_i hs
    refine List.nodup_append.mpr ⟨h, by simp, fun a ha b hb => ?_⟩
    rw [List.mem_singleton.mp hb]
    rintro rfl
    exact hs ha
theorem mem_foldA {x : α} : ∀ {ks f : List α}, x ∈ ks.foldl addA f ↔ x ∈ f ∨ x ∈ ks
  | [], f => by simp
  | k :: ks, f => by
    rw [List.foldl_cons, mem_foldA, mem_addA, List.mem_cons, or_assoc]
theorem nd_foldA : ∀ {ks f : List α}, f.Nodup → (ks.foldl addA f).Nodup
  | [], f, h => h
  | k :: ks, f, h => nd_foldA (ks := ks) (nd_addA h)
theorem mem_firsts {x : α} {ks : List α} : x ∈ firsts ks ↔ x ∈ ks := by unfold firsts; rw [mem_foldA]; simp
theorem nd_firsts (ks : List α) : (firsts ks).Nodup := nd_foldA List.nodup_nil
theorem firsts_snoc (ks : List α) (k : α) : firsts (ks ++ [k]) = addA (firsts ks) k := by simp [firsts, List.foldl_append]
theorem fold_nd : ∀ {ks f : List α}, (f ++ ks).Nodup → ks.foldl addA f = f ++ ks
  | [], f, _ => by simp
  | k :: ks, f, h => by
    have hk : k ∉ f := by
      intro z
      exact (List.nodup_append.mp h).2.2 k z k List.mem_cons_self rfl
    rw [List.foldl_cons, show addA f k = f ++ [k] from if_neg hk, fold_nd (by simpa using h), List.append_assoc]; rfl
theorem firsts_nd {ks : List α} (h : ks.Nodup) : firsts ks = ks := by unfold firsts; rw [fold_nd (by simpa using h)]; rfl
/-- the number of each key, by first meeting -/
def cls (ks : List α) : List Nat := ks.map fun k => (firsts ks).idxOf k
theorem cls_len (ks : List α) : (cls ks).length = ks.length := by simp [cls]
theorem cls_get {ks : List α} {i : Nat} (h : i < ks.length) : (cls ks)[i]?.getD 0 = (firsts ks).idxOf ks[i] := by simp [cls, h]
theorem idx_inj {l : List α} {x y : α} (hx : x ∈ l) (e : l.idxOf x = l.idxOf y) : x = y := by
  have h1 := List.getElem_idxOf (List.idxOf_lt_length_of_mem hx)
  have hy : l.idxOf y < l.length := by rw [← e]; exact List.idxOf_lt_length_of_mem hx
  have h2 := List.getElem_idxOf hy
  rw [← h1, ← h2]
  simp only [e]
theorem cls_ker {ks : List α} {i j : Nat} (hi : i < ks.length) (hj : j < ks.length) : (cls ks)[i]?.getD 0 = (cls ks)[j]?.getD 0 ↔ ks[i] = ks[j] := by
  rw [cls_get hi, cls_get hj]
  constructor
  · intro e
    exact idx_inj (mem_firsts.mpr (List.getElem_mem hi)) e
  · intro e; rw [e]
theorem idx_nd : ∀ {l : List α} {i : Nat} (h : i < l.length), l.Nodup → l.idxOf l[i] = i
  | x :: l, 0, h, nd => by simp
  | x :: l, i + 1, h, nd => by
    have hl : i < l.length := by simpa using h
    have nx : x ≠ l[i] := fun z => (List.nodup_cons.mp nd).1 (z ▸ List.getElem_mem hl)
    have ih := idx_nd hl (List.nodup_cons.mp nd).2
    simp [List.idxOf_cons, show (x == l[i]) = false from beq_eq_false_iff_ne.mpr nx, ih]
theorem cls_nd {ks : List α} (h : ks.Nodup) : cls ks = List.range ks.length := by
  unfold cls
  rw [firsts_nd h]
  refine List.ext_getElem (by simp) fun i h1 h2 => ?_
  have hi : i < ks.length := by simpa using h1
  simp [idx_nd hi h]
theorem len_sub : ∀ {V L : List β}, V.Nodup → (∀ v ∈ V, v ∈ L) → V.length ≤ L.length
  | [], L, _, _ => Nat.zero_le _
  | v :: V, L, nd, h => by
    have hv := h v List.mem_cons_self
    obtain ⟨n1, n2⟩ := List.nodup_cons.mp nd
    have := len_sub (V := V) (L := L.erase v) n2 fun w hw => (List.mem_erase_of_ne (fun (z : w = v) => n1 (z ▸ hw))).mpr (h w (List.mem_cons_of_mem _ hw))
    rw [List.length_erase_of_mem hv] at this
    have hp := List.length_pos_of_mem hv
    simp only [List.length_cons]
    omega
theorem nd_cover : ∀ {L V : List β}, V.Nodup → (∀ v ∈ V, v ∈ L) → L.length ≤ V.length → L.Nodup
  | [], V, _, _, _ => List.nodup_nil
  | x :: L, V, nd, h, hl => by
    have hx : x ∉ L := by
      intro z
      have := len_sub nd (L := L) fun v hv => by
        rcases List.mem_cons.mp (h v hv) with rfl | q
        · exact z
        · exact q
      simp only [List.length_cons] at hl
      omega
    refine List.nodup_cons.mpr ⟨hx, nd_cover (V := V.erase x) (nd.erase _) (fun v hv => ?_) ?_⟩
    · have hv' : v ∈ V := List.mem_of_mem_erase hv
      rcases List.mem_cons.mp (h v hv') with rfl | q
      · exact absurd hv (by rw [nd.mem_erase_iff]; simp)
      · exact q
    · simp only [List.length_cons] at hl
      by_cases hxV : x ∈ V
      · rw [List.length_erase_of_mem hxV]; omega
      · rw [List.erase_of_not_mem hxV]; omega
/-- as many classes: the same classes -/
theorem same_ker {ks : List α} {ps : List β} (hl : ks.length = ps.length) (rf : ∀ i j (hi : i < ks.length) (hj : j < ks.length), ks[i] = ks[j] → ps[i]'(hl ▸ hi) = ps[j]'(hl ▸ hj))
    (hc : (firsts ks).length ≤ (firsts ps).length) {i j : Nat} (hi : i < ks.length) (hj : j < ks.length) (e : ps[i]'(hl ▸ hi) = ps[j]'(hl ▸ hj)) : ks[i] = ks[j] := by
  let π : α → Option β := fun k => ps[ks.idxOf k]?
  have hπ : ∀ i (hi : i < ks.length), π ks[i] = some (ps[i]'(hl ▸ hi)) := by
    intro i hi
    have hm : ks.idxOf ks[i] < ks.length := List.idxOf_lt_length_of_mem (List.getElem_mem hi)
    show ps[ks.idxOf ks[i]]? = _
    rw [List.getElem?_eq_getElem (hl ▸ hm)]
    exact congrArg some (rf _ _ hm hi (List.getElem_idxOf hm))
  have nd : ((firsts ks).map π).Nodup := by
    refine nd_cover (V := (firsts ps).map some) ?_ (fun v hv => ?_) (by simpa using hc)
    · have hp := nd_firsts ps
      unfold List.Nodup at hp ⊢
      rw [List.pairwise_map]
      exact hp.imp fun h z => h (Option.some.inj z)
    · obtain ⟨p, hp, rfl⟩ := List.mem_map.mp hv
      obtain ⟨i, hi, rfl⟩ := List.mem_iff_getElem.mp (mem_firsts.mp hp)
      have hi' : i < ks.length := hl ▸ hi
      exact List.mem_map.mpr ⟨ks[i], mem_firsts.mpr (List.getElem_mem hi'), hπ i hi'⟩
  have inj : ∀ x ∈ firsts ks, ∀ y ∈ firsts ks, π x = π y → x = y := by
    intro x hx y hy h
    obtain ⟨a, ha, rfl⟩ := List.mem_iff_getElem.mp hx
    obtain ⟨b, hb, rfl⟩ := List.mem_iff_getElem.mp hy
    have ha' : a < ((firsts ks).map π).length := by simpa using ha
    have hb' : b < ((firsts ks).map π).length := by simpa using hb
    have : a = b := (List.getElem_inj (h₀ := ha') (h₁ := hb') nd).mp (by simpa using h)
    subst this; rfl
  exact inj _ (mem_firsts.mpr (List.getElem_mem hi)) _ (mem_firsts.mpr (List.getElem_mem hj)) (by rw [hπ i hi, hπ j hj, e])
theorem firsts_len (ks : List α) : (firsts ks).length ≤ ks.length := len_sub (nd_firsts ks) fun v hv => mem_firsts.mp hv
end
/-! ### rounds -/
abbrev at0 (c : List Nat) (i : Nat) : Nat := c[i]?.getD 0
/-- the keys of a round: its class, the classes of its ways -/
def keys (T : List (List Nat)) (c : List Nat) : List (Nat × List Nat) := (List.range T.length).map fun k => (at0 c k, (row T k).map (at0 c))
def rnd (T : List (List Nat)) (c : List Nat) : List Nat := cls (keys T c)
theorem keys_len (T : List (List Nat)) (c : List Nat) : (keys T c).length = T.length := by simp [keys]
theorem keys_get {T : List (List Nat)} {c : List Nat} {i : Nat} (h : i < (keys T c).length) : (keys T c)[i] = (at0 c i, (row T i).map (at0 c)) := by simp [keys]
theorem rnd_len (T : List (List Nat)) (c : List Nat) : (rnd T c).length = T.length := by simp [rnd, cls_len, keys_len]
theorem rnd_ker {T : List (List Nat)} {c : List Nat} {i j : Nat} (hi : i < T.length) (hj : j < T.length) : at0 (rnd T c) i = at0 (rnd T c) j ↔ at0 c i = at0 c j ∧ (row T i).map (at0 c) = (row T j).map (at0 c) := by
  have hi' : i < (keys T c).length := by rw [keys_len]; exact hi
  have hj' : j < (keys T c).length := by rw [keys_len]; exact hj
  unfold rnd
  rw [cls_ker hi' hj', keys_get, keys_get, Prod.mk.injEq]
/-- a relation of states that goes along: given by a function -/
structure Goal (T : List (List Nat)) (E : List Bool) (f : Nat → Nat) : Prop where
  m : ∀ i j, i < T.length → j < T.length → f i = f j → E[i]?.getD false = E[j]?.getD false
  r : ∀ i j, i < T.length → j < T.length → f i = f j → (row T i).map f = (row T j).map f
/-- classes at the end of the rounds -/
structure Fine (T : List (List Nat)) (E : List Bool) (c : List Nat) : Prop where
  len : c.length = T.length
  m : ∀ i j, i < T.length → j < T.length → at0 c i = at0 c j → E[i]?.getD false = E[j]?.getD false
  b : ∀ f, Goal T E f → ∀ i j, i < T.length → j < T.length → f i = f j → at0 c i = at0 c j
theorem fine0 {T : List (List Nat)} {E : List Bool} (hE : E.length = T.length) : Fine T E (cls E) := by
  have e : ∀ i (h : i < T.length), E[i]?.getD false = E[i]'(hE ▸ h) := fun i h => by simp [hE ▸ h]
  refine ⟨by rw [cls_len, hE], fun i j hi hj h => ?_, fun f g i j hi hj h => ?_⟩
  · rw [e i hi, e j hj]
    exact (cls_ker (hE ▸ hi) (hE ▸ hj)).mp h
  · have := g.m i j hi hj h
    rw [e i hi, e j hj] at this
    exact (cls_ker (hE ▸ hi) (hE ▸ hj)).mpr this
theorem map_congr' {r s : List Nat} {f g : Nat → Nat} {n : Nat} (hr : ∀ x ∈ r, x < n) (hs : ∀ x ∈ s, x < n) (h : ∀ x y, x < n → y < n → f x = f y → g x = g y) (e : r.map f = s.map f) : r.map g = s.map g := by
  induction r generalizing s with
  | nil => cases s with
    | nil => rfl
    | cons y s => cases e
  | cons x r ih => cases s with
    | nil => cases e
    | cons y s =>
      rw [List.map_cons, List.map_cons] at e ⊢
      injection e with e1 e2
      rw [h x y (hr x List.mem_cons_self) (hs y List.mem_cons_self) e1, ih (fun z hz => hr z (List.mem_cons_of_mem _ hz)) (fun z hz => hs z (List.mem_cons_of_mem _ hz)) e2]
theorem fine_rnd {T : List (List Nat)} {E : List Bool} {c : List Nat} (wf : Wf T) (h : Fine T E c) : Fine T E (rnd T c) := by
  refine ⟨rnd_len T c, fun i j hi hj e => h.m i j hi hj ((rnd_ker hi hj).mp e).1, fun f g i j hi hj e => (rnd_ker hi hj).mpr ⟨h.b f g i j hi hj e, ?_⟩⟩
  exact map_congr' (n := T.length) (fun x hx => row_lt wf hx) (fun x hx => row_lt wf hx) (fun x y hx hy => h.b f g x y hx hy) (g.r i j hi hj e)
/-- as many classes behind a round: nothing more is parted -/
theorem rnd_same {T : List (List Nat)} {c : List Nat} (hc : c.length = T.length) (h : (firsts (rnd T c)).length ≤ (firsts c).length) {i j : Nat} (hi : i < T.length) (hj : j < T.length) (e : at0 c i = at0 c j) : at0 (rnd T c) i = at0 (rnd T c) j := by
  have g : ∀ i (h : i < T.length), at0 (rnd T c) i = (rnd T c)[i]'(by rw [rnd_len]; exact h) := fun i h => by simp [at0, rnd_len, h]
  have g2 : ∀ i (h : i < T.length), at0 c i = c[i]'(hc ▸ h) := fun i h => by simp [at0, hc ▸ h]
  have hl : (rnd T c).length = c.length := by rw [rnd_len, hc]
  rw [g i hi, g j hj]
  refine same_ker hl (fun a b ha hb z => ?_) h (by rw [rnd_len]; exact hi) (by rw [rnd_len]; exact hj) (by rw [← g2 i hi, ← g2 j hj, e])
  have ha' : a < T.length := by rw [rnd_len] at ha; exact ha
  have hb' : b < T.length := by rw [rnd_len] at hb; exact hb
  rw [← g a ha', ← g b hb'] at z
  rw [← g2 a ha', ← g2 b hb']
  exact ((rnd_ker ha' hb').mp z).1
/-- the classes when nothing more is parted -/
structure Done (T : List (List Nat)) (E : List Bool) (c : List Nat) : Prop extends Fine T E c where
  s : ∀ i j, i < T.length → j < T.length → at0 c i = at0 c j → (row T i).map (at0 c) = (row T j).map (at0 c)
  c : ∃ ks : List (Nat × List Nat), ks.length = T.length ∧ c = cls ks
theorem done_of {T : List (List Nat)} {E : List Bool} {c : List Nat} (wf : Wf T) (h : Fine T E c) (hc : (firsts (rnd T c)).length ≤ (firsts c).length) : Done T E (rnd T c) := by
  refine ⟨fine_rnd wf h, fun i j hi hj e => ?_, keys T c, keys_len T c, rfl⟩
  exact map_congr' (n := T.length) (fun x hx => row_lt wf hx) (fun x hx => row_lt wf hx) (fun x y hx hy => rnd_same h.len hc hx hy) ((rnd_ker hi hj).mp e).2
theorem Done.range {T : List (List Nat)} {E : List Bool} {c : List Nat} (D : Done T E c) (inj : ∀ i j, i < T.length → j < T.length → at0 c i = at0 c j → i = j) : c = List.range T.length := by
  obtain ⟨ks, hl, rfl⟩ := D.c
  rw [← hl]
  refine cls_nd ?_
  rw [List.nodup_iff_pairwise_ne] <;> rw [List.pairwise_iff_getElem]
  intro i j hi hj hij e
  exact absurd (inj i j (hl ▸ hi) (hl ▸ hj) ((cls_ker hi hj).mpr e)) (Nat.ne_of_lt hij)
end K02
namespace K02
open K03
/-! ### plain: classes joined -/
/-- the first state of each class -/
def rep (C : List Nat) : List Nat := C.map fun c => C.idxOf c
def jn (T : List (List Nat)) (S : List Nat) : List (List Nat) := T.map fun r => r.map (at0 S)
section
variable {T : List (List Nat)} {E : List Bool} {C : List Nat}
theorem rep_len (C : List Nat) : (rep C).length = C.length := by simp [rep]
theorem rep_get {i : Nat} (h : i < C.length) : at0 (rep C) i = C.idxOf (at0 C i) := by simp [rep, at0, h]
theorem at_mem {i : Nat} (h : i < C.length) : at0 C i ∈ C := by simp [at0, h]
theorem rep_lt {i : Nat} (h : i < C.length) : at0 (rep C) i < C.length := by rw [rep_get h]; exact List.idxOf_lt_length_of_mem (at_mem h)
theorem rep_cls {i : Nat} (h : i < C.length) : at0 C (at0 (rep C) i) = at0 C i := by
  have hl := List.idxOf_lt_length_of_mem (at_mem h)
  rw [rep_get h]
  have := List.getElem_idxOf hl
  simp [at0, hl] at this ⊢
theorem rep_eq {i j : Nat} (hi : i < C.length) (hj : j < C.length) : at0 (rep C) i = at0 (rep C) j ↔ at0 C i = at0 C j := by
  constructor
  · intro e
    rw [← rep_cls hi, e, rep_cls hj]
  · intro e
    rw [rep_get hi, rep_get hj, e]
theorem rep_rep {i : Nat} (h : i < C.length) : at0 (rep C) (at0 (rep C) i) = at0 (rep C) i := (rep_eq (rep_lt h) h).mpr (rep_cls h)
theorem rep_zero (h : 0 < C.length) : at0 (rep C) 0 = 0 := by
  rw [rep_get h]
  cases C with
  | nil => cases h
  | cons c C => simp [at0]
theorem row_jn {S : List Nat} {s : Nat} (h : s < T.length) : row (jn T S) s = (row T s).map (at0 S) := by simp [row, jn, h]
theorem jn_len (S : List Nat) : (jn T S).length = T.length := by simp [jn]
theorem wf_jn (wf : Wf T) (hC : C.length = T.length) : Wf (jn T (rep C)) := by
  refine ⟨by rw [jn_len]; exact wf.1, fun r hr s hs => ?_⟩
  obtain ⟨r0, h0, rfl⟩ := List.mem_map.mp hr
  obtain ⟨x, hx, rfl⟩ := List.mem_map.mp hs
  rw [jn_len, ← hC]
  exact rep_lt (by rw [hC]; exact wf.2 r0 h0 x hx)
theorem full_jn {S : List Nat} {b : Nat} (h : Full T b) : Full (jn T S) b := by
  intro r hr
  obtain ⟨r0, h0, rfl⟩ := List.mem_map.mp hr
  simp [h r0 h0]
theorem get_map {l : List Nat} {f : Nat → Nat} {i : Nat} (h : i < l.length) : (l.map f)[i]?.getD 0 = f (l[i]?.getD 0) := by simp [h]
/-- behind a word: a state of the same class -/
theorem jn_beh {b : Nat} (wf : Wf T) (fu : Full T b) (D : Done T E C) : ∀ w : List Nat, (∀ l ∈ w, l < b) → beh T w < T.length ∧ beh (jn T (rep C)) w < T.length ∧ at0 C (beh (jn T (rep C)) w) = at0 C (beh T w) ∧ at0 (rep C) (beh (jn T (rep C)) w) = beh (jn T (rep C)) w := by
  refine rev_ind ?_ ?_
  · intro _
    exact ⟨wf.1, wf.1, rfl, rep_zero (by rw [D.len]; exact wf.1)⟩
  · intro w l ih hw
    obtain ⟨h1, h2, h3, h4⟩ := ih fun x hx => hw x (by simp [hx])
    have hl : l < b := hw l (by simp)
    have r1 : (row T (beh T w)).length = b := full_row fu h1
    have r2 : (row T (beh (jn T (rep C)) w)).length = b := full_row fu h2
    have l1 : beh T (w ++ [l]) < T.length := by
      rw [beh_snoc]
      exact row_lt wf (s := beh T w) (by simp [r1, hl])
    have x2 : (row T (beh (jn T (rep C)) w))[l]?.getD 0 < T.length := row_lt wf (s := beh (jn T (rep C)) w) (by simp [r2, hl])
    have e2 : beh (jn T (rep C)) (w ++ [l]) = at0 (rep C) ((row T (beh (jn T (rep C)) w))[l]?.getD 0) := by
      rw [beh_snoc, row_jn h2, get_map (by rw [r2]; exact hl)]
    have x2' : (row T (beh (jn T (rep C)) w))[l]?.getD 0 < C.length := by rw [D.len]; exact x2
    refine ⟨l1, by rw [e2, ← D.len]; exact rep_lt x2', ?_, by rw [e2]; exact rep_rep x2'⟩
    rw [e2, rep_cls x2', beh_snoc]
    have := congrArg (fun z : List Nat => z[l]?.getD 0) (D.s _ _ h2 h1 h3)
    simpa [get_map, r1, r2, hl] using this
/-- the least machine of one that is in order, its classes being C -/
abbrev lT (T : List (List Nat)) (C : List Nat) : List (List Nat) := inRows (jn T (rep C))
abbrev lE (T : List (List Nat)) (E : List Bool) (C : List Nat) : List Bool := inEnds (jn T (rep C)) E
theorem l_takes {b : Nat} (wf : Wf T) (fu : Full T b) (D : Done T E C) (w : List Nat) (hw : ∀ l ∈ w, l < b) : (lE T E C)[beh (lT T C) w]?.getD false = E[beh T w]?.getD false := by
  obtain ⟨h1, h2⟩ := beh_ok (wf_jn wf D.len) (full_jn fu) w hw
  obtain ⟨a1, a2, a3, a4⟩ := jn_beh wf fu D w hw
  rw [h2, end_in h1]
  exact D.m _ _ a2 a1 a3
theorem go_in {P : Nat → Prop} (hr : ∀ s, P s → ∀ x ∈ row T s, P x) : ∀ {n k : Nat} {f : List Nat}, (∀ s ∈ f, P s) → ∀ s ∈ go T n k f, P s
  | 0, k, f, hf, s, hs => hf s hs
  | n + 1, k, f, hf, s, hs => by
    unfold go at hs
    split at hs
    · rename_i hk
      refine go_in hr (fun s hs => ?_) s hs
      rcases mem_addRow.mp hs with h | h
      · exact hf s h
      · exact hr _ (hf _ (by simp [hk])) s h
    · exact hf s hs
theorem ord_in' {P : Nat → Prop} (h0 : P 0) (hr : ∀ s, P s → ∀ x ∈ row T s, P x) : ∀ s ∈ ord T, P s := go_in hr fun s hs => by rw [List.mem_singleton.mp hs]; exact h0
/-- in the least machine no two states are of one class -/
theorem l_done {b : Nat} (wf : Wf T) (fu : Full T b) (ho : ord T = List.range T.length) (D : Done T E C) {CL : List Nat} (DL : Done (lT T C) (lE T E C) CL) : CL = List.range (lT T C).length := by
  have wj := wf_jn (C := C) wf D.len
  have hO : ∀ x, x < T.length → at0 (rep C) x ∈ ord (jn T (rep C)) := by
    intro x hx
    have key : ∀ s ∈ ord T, s < T.length → at0 (rep C) s ∈ ord (jn T (rep C)) := by
      refine fun s hs _ => (ord_in' (T := T) (P := fun s => s < T.length ∧ at0 (rep C) s ∈ ord (jn T (rep C))) ⟨wf.1, ?_⟩ (fun s hs y hy => ?_) s hs).2
      · rw [rep_zero (by rw [D.len]; exact wf.1)]
        obtain ⟨e, h⟩ := ord_zero (jn T (rep C))
        rw [h]; exact List.mem_cons_self
      · have hyl := row_lt wf hy
        refine ⟨hyl, ?_⟩
        have hs' : s < C.length := by rw [D.len]; exact hs.1
        have hrs : at0 (rep C) s < T.length := by rw [← D.len]; exact rep_lt hs'
        refine ord_closed wj hs.2 ?_
        rw [row_jn hrs]
        obtain ⟨l, hl, rfl⟩ := List.mem_iff_getElem.mp hy
        have st := D.s _ _ hrs hs.1 (rep_cls hs')
        have hl2 : l < (row T (at0 (rep C) s)).length := by
          have := congrArg List.length st
          simp only [List.length_map] at this
          omega
        refine List.mem_map.mpr ⟨(row T (at0 (rep C) s))[l], List.getElem_mem hl2, ?_⟩
        have hz : (row T (at0 (rep C) s))[l] < T.length := row_lt wf (List.getElem_mem hl2)
        refine (rep_eq (by rw [D.len]; exact hz) (by rw [D.len]; exact hyl)).mpr ?_
        have := congrArg (fun z : List Nat => z[l]?.getD 0) st
        simpa [hl, hl2] using this
    exact key x (by rw [ho]; exact List.mem_range.mpr hx) hx
  have hlt : ∀ s ∈ ord (jn T (rep C)), s < T.length := fun s hs => by have := lt_ord wj s hs; rwa [jn_len] at this
  have hfix : ∀ s ∈ ord (jn T (rep C)), at0 (rep C) s = s := by
    refine fun s hs => (ord_in' (T := jn T (rep C)) (P := fun s => s < T.length ∧ at0 (rep C) s = s) ⟨wf.1, rep_zero (by rw [D.len]; exact wf.1)⟩ (fun s hs y hy => ?_) s hs).2
    rw [row_jn hs.1] at hy
    obtain ⟨x, hx, rfl⟩ := List.mem_map.mp hy
    have hxl : x < C.length := by rw [D.len]; exact row_lt wf hx
    exact ⟨by rw [← D.len]; exact rep_lt hxl, rep_rep hxl⟩
  have hn : (lT T C).length = (ord (jn T (rep C))).length := in_len _
  have hix : ∀ x, x < T.length → ix (ord (jn T (rep C))) (at0 (rep C) x) < (lT T C).length := fun x hx => by rw [hn]; exact ix_lt (hO x hx)
  have g : Goal T E fun x => at0 CL (ix (ord (jn T (rep C))) (at0 (rep C) x)) := by
    refine ⟨fun i j hi hj e => ?_, fun i j hi hj e => ?_⟩
    · have := DL.m _ _ (hix i hi) (hix j hj) e
      rw [end_in (hO i hi), end_in (hO j hj)] at this
      have hi' : i < C.length := by rw [D.len]; exact hi
      have hj' : j < C.length := by rw [D.len]; exact hj
      rw [D.m _ _ (hlt _ (hO i hi)) hi (rep_cls hi'), D.m _ _ (hlt _ (hO j hj)) hj (rep_cls hj')] at this
      exact this
    · have st := DL.s _ _ (hix i hi) (hix j hj) e
      have hi' : i < C.length := by rw [D.len]; exact hi
      have hj' : j < C.length := by rw [D.len]; exact hj
      have li := hlt _ (hO i hi)
      have lj := hlt _ (hO j hj)
      have si := D.s _ _ li hi (rep_cls hi')
      have sj := D.s _ _ lj hj (rep_cls hj')
      have conv : ∀ (a : Nat), a < T.length → ∀ (h : (row T (at0 (rep C) a)).map (at0 C) = (row T a).map (at0 C)), at0 (rep C) a < T.length → (row (lT T C) (ix (ord (jn T (rep C))) (at0 (rep C) a))).map (at0 CL) = (row T a).map fun x => at0 CL (ix (ord (jn T (rep C))) (at0 (rep C) x)) := by
        intro a ha h hl
        rw [row_in (hO a ha), row_jn hl, List.map_map, List.map_map]
        exact map_congr' (n := T.length) (f := at0 C) (g := fun x => at0 CL (ix (ord (jn T (rep C))) (at0 (rep C) x))) (fun x hx => row_lt wf hx) (fun x hx => row_lt wf hx) (fun x y hx hy exy => by
          show at0 CL (ix _ (at0 (rep C) x)) = at0 CL (ix _ (at0 (rep C) y))
          rw [(rep_eq (by rw [D.len]; exact hx) (by rw [D.len]; exact hy)).mpr exy]) h
      rw [← conv i hi si li, ← conv j hj sj lj]
      exact st
  refine DL.range fun i j hi hj e => ?_
  have hi' : i < (ord (jn T (rep C))).length := hn ▸ hi
  have hj' : j < (ord (jn T (rep C))).length := hn ▸ hj
  have mi : (ord (jn T (rep C)))[i]?.getD 0 ∈ ord (jn T (rep C)) := by simp [hi']
  have mj : (ord (jn T (rep C)))[j]?.getD 0 ∈ ord (jn T (rep C)) := by simp [hj']
  have k := D.b _ g _ _ (hlt _ mi) (hlt _ mj) (by
    show at0 CL (ix _ (at0 (rep C) _)) = at0 CL (ix _ (at0 (rep C) _))
    rw [hfix _ mi, hfix _ mj, ix_get (nd_ord _) hi', ix_get (nd_ord _) hj']
    exact e)
  have q := (rep_eq (by rw [D.len]; exact hlt _ mi) (by rw [D.len]; exact hlt _ mj)).mpr k
  rw [hfix _ mi, hfix _ mj] at q
  have r := congrArg (ix (ord (jn T (rep C)))) q
  rwa [ix_get (nd_ord _) hi', ix_get (nd_ord _) hj'] at r
end
end K02
namespace K02
open K03
/-! ### plain: begun at a state; beginnings; a word ahead -/
def behF (T : List (List Nat)) (s : Nat) (w : List Nat) : Nat := w.foldl (fun s l => (row T s)[l]?.getD 0) s
theorem behF_app (T : List (List Nat)) (v w : List Nat) : behF T (beh T v) w = beh T (v ++ w) := by simp [behF, beh, List.foldl_append]
def nms (n s : Nat) : List Nat := ((List.range n).set 0 s).set s 0
theorem nms_len (n s : Nat) : (nms n s).length = n := by simp [nms]
theorem nms_get {n s i : Nat} (hi : i < n) (hs : s < n) : at0 (nms n s) i = if i = s then 0 else if i = 0 then s else i := by
  unfold nms at0
  rw [List.getElem?_set]
  by_cases h : s = i
  · subst h; simp [hi]
  · rw [if_neg h, List.getElem?_set, if_neg (fun z : i = s => h z.symm)]
    by_cases h0 : i = 0
    · subst h0; simp [show 0 < n by omega]
    · rw [if_neg (fun z : 0 = i => h0 z.symm), if_neg h0]; simp [hi]
theorem nms_lt {n s i : Nat} (hi : i < n) (hs : s < n) : at0 (nms n s) i < n := by
  rw [nms_get hi hs]; split <;> first | omega | (split <;> omega)
theorem nms_nms {n s i : Nat} (hi : i < n) (hs : s < n) : at0 (nms n s) (at0 (nms n s) i) = i := by
  rw [nms_get (nms_lt hi hs) hs, nms_get hi hs]
  by_cases h : i = s
  · subst h
    rw [if_pos rfl]
    by_cases h0 : 0 = i
    · rw [if_pos h0]; exact h0
    · rw [if_neg h0, if_pos rfl]
  · rw [if_neg h]
    by_cases h0 : i = 0
    · rw [if_pos h0, if_pos rfl, h0]
    · rw [if_neg h0, if_neg h, if_neg h0]
def bT (T : List (List Nat)) (N : List Nat) : List (List Nat) := (List.range T.length).map fun k => (row T (at0 N k)).map (at0 N)
def bE (n : Nat) (E : List Bool) (N : List Nat) : List Bool := (List.range n).map fun k => E[at0 N k]?.getD false
section
variable {T : List (List Nat)} {E : List Bool} {b s : Nat}
theorem row_bT {N : List Nat} {k : Nat} (hk : k < T.length) : row (bT T N) k = (row T (at0 N k)).map (at0 N) := by simp [row, bT, hk]
theorem bT_len {N : List Nat} : (bT T N).length = T.length := by simp [bT]
theorem wf_bT (wf : Wf T) (hs : s < T.length) : Wf (bT T (nms T.length s)) := by
  refine ⟨by rw [bT_len]; exact wf.1, fun r hr x hx => ?_⟩
  obtain ⟨k, hk, rfl⟩ := List.mem_map.mp hr
  obtain ⟨y, hy, rfl⟩ := List.mem_map.mp hx
  rw [bT_len]
  exact nms_lt (row_lt wf hy) hs
theorem full_bT (fu : Full T b) (hs : s < T.length) : Full (bT T (nms T.length s)) b := by
  intro r hr
  obtain ⟨k, hk, rfl⟩ := List.mem_map.mp hr
  rw [List.length_map]
  exact full_row fu (nms_lt (List.mem_range.mp hk) hs)
theorem b_beh (wf : Wf T) (fu : Full T b) (hs : s < T.length) : ∀ (w : List Nat) (x : Nat), x < T.length → (∀ l ∈ w, l < b) → behF T x w < T.length ∧ behF (bT T (nms T.length s)) (at0 (nms T.length s) x) w = at0 (nms T.length s) (behF T x w)
  | [], x, hx, _ => ⟨hx, rfl⟩
  | l :: w, x, hx, hw => by
    have hl : l < (row T x).length := by rw [full_row fu hx]; exact hw l List.mem_cons_self
    have hy : (row T x)[l]?.getD 0 < T.length := row_lt wf (s := x) (by simp [hl])
    have ih := b_beh wf fu hs w _ hy fun z hz => hw z (List.mem_cons_of_mem _ hz)
    have e : (row (bT T (nms T.length s)) (at0 (nms T.length s) x))[l]?.getD 0 = at0 (nms T.length s) ((row T x)[l]?.getD 0) := by
      rw [row_bT (nms_lt hx hs), nms_nms hx hs, get_map hl]
    refine ⟨ih.1, ?_⟩
    show behF (bT T (nms T.length s)) ((row (bT T (nms T.length s)) (at0 (nms T.length s) x))[l]?.getD 0) w = _
    rw [e]; exact ih.2
theorem in_takes (wf : Wf T) (fu : Full T b) (w : List Nat) (hw : ∀ l ∈ w, l < b) : (inEnds T E)[beh (inRows T) w]?.getD false = E[beh T w]?.getD false := by
  obtain ⟨h1, h2⟩ := beh_ok wf fu w hw
  rw [h2, end_in h1]
theorem b_takes (wf : Wf T) (fu : Full T b) (hE : E.length = T.length) (hs : s < T.length) (w : List Nat) (hw : ∀ l ∈ w, l < b) : (bE T.length E (nms T.length s))[beh (bT T (nms T.length s)) w]?.getD false = E[behF T s w]?.getD false := by
  obtain ⟨h1, h2⟩ := b_beh wf fu hs w s hs hw
  have e0 : at0 (nms T.length s) s = 0 := by rw [nms_get hs hs, if_pos rfl]
  rw [e0] at h2
  rw [show beh (bT T (nms T.length s)) w = behF (bT T (nms T.length s)) 0 w from rfl, h2]
  unfold bE
  simp [nms_lt h1 hs, nms_nms h1 hs]
end
/-! ### beginnings -/
abbrev atB (m : List Bool) (i : Nat) : Bool := m[i]?.getD false
def bg (T : List (List Nat)) (m : List Bool) : List Bool := (List.range m.length).map fun k => atB m k || (row T k).any (atB m)
def bgs (T : List (List Nat)) (E : List Bool) : Nat → List Bool
  | 0 => E
  | i + 1 => bg T (bgs T E i)
theorem bg_len (T : List (List Nat)) (m : List Bool) : (bg T m).length = m.length := by simp [bg]
theorem bgs_len (T : List (List Nat)) (E : List Bool) : ∀ i, (bgs T E i).length = E.length
  | 0 => rfl
  | i + 1 => by rw [bgs, bg_len, bgs_len T E i]
theorem bg_up {T : List (List Nat)} {m : List Bool} {k : Nat} (h : atB m k = true) : atB (bg T m) k = true := by
  have hk : k < m.length := by
    by_cases hk : k < m.length
    · exact hk
    · simp [atB, List.getElem?_eq_none (Nat.le_of_not_lt hk)] at h
  unfold bg atB
  simp only [List.getElem?_map, List.getElem?_range hk, Option.map_some, Option.getD_some]
  rw [show m[k]?.getD false = true from h]; rfl
theorem count_up : ∀ {a b : List Bool}, a.length = b.length → (∀ k, atB a k = true → atB b k = true) → a.count true ≤ b.count true ∧ (b.count true ≤ a.count true → a = b)
  | [], [], _, _ => ⟨Nat.le_refl _, fun _ => rfl⟩
  | x :: a, y :: b, hl, h => by
    have ih := count_up (a := a) (b := b) (by simpa using hl) fun k hk => by simpa [atB] using h (k + 1) (by simpa [atB] using hk)
    have h0 := h 0
    simp only [atB, List.getElem?_cons_zero, Option.getD_some] at h0
    simp only [List.count_cons]
    cases x <;> cases y
    · simp; exact ⟨ih.1, ih.2⟩
    · have q := ih.1
      refine ⟨by simp; omega, fun z => ?_⟩
      simp at z; omega
    · exact absurd (h0 rfl) (by simp)
    · simp; exact ⟨ih.1, ih.2⟩
theorem bgs_up {T : List (List Nat)} {E : List Bool} {i : Nat} : (bgs T E i).count true ≤ (bgs T E (i + 1)).count true ∧ ((bgs T E (i + 1)).count true ≤ (bgs T E i).count true → bgs T E i = bgs T E (i + 1)) :=
  count_up (by rw [bgs_len, bgs_len]) fun k hk => bg_up hk
theorem bgs_fix {T : List (List Nat)} {E : List Bool} {i : Nat} (h : bgs T E i = bgs T E (i + 1)) : ∀ j, i ≤ j → bgs T E j = bgs T E i
  | 0, hj => by rw [show i = 0 by omega]
  | j + 1, hj => by
    by_cases hi : i = j + 1
    · rw [hi]
    · rw [bgs, bgs_fix h j (by omega)]
      exact h.symm
/-- the marks at the end: what every state's ways tell -/
def bgF (T : List (List Nat)) (E : List Bool) : List Bool := bgs T E E.length
theorem bg_end {T : List (List Nat)} {E : List Bool} {i : Nat} (h : bgs T E i = bgs T E (i + 1)) (hi : i ≤ E.length) : bgs T E (i + 1) = bgF T E := by
  rw [← h]; exact (bgs_fix h _ hi).symm
theorem count_le (m : List Bool) : m.count true ≤ m.length := List.count_le_length
/-- rising as long as the counts rise -/
theorem bgs_rise {T : List (List Nat)} {E : List Bool} : ∀ i, (∀ j, j < i → (bgs T E j).count true < (bgs T E (j + 1)).count true) → i ≤ (bgs T E i).count true
  | 0, _ => Nat.zero_le _
  | i + 1, h => by
    have := bgs_rise i fun j hj => h j (by omega)
    have := h i (by omega)
    omega
theorem bgF_fix (T : List (List Nat)) (E : List Bool) : bg T (bgF T E) = bgF T E := by
  suffices ∃ i, i ≤ E.length ∧ bgs T E i = bgs T E (i + 1) by
    obtain ⟨i, hi, h⟩ := this
    have e := bgs_fix h E.length hi
    unfold bgF
    rw [e]
    exact h.symm
  by_cases hc : ∃ i, i ≤ E.length ∧ bgs T E i = bgs T E (i + 1)
  · exact hc
  · exfalso
    have := bgs_rise (T := T) (E := E) (E.length + 1) fun j hj => by
      by_cases h : (bgs T E j).count true < (bgs T E (j + 1)).count true
      · exact h
      · exact absurd ⟨j, by omega, bgs_up.2 (by omega)⟩ hc
    have h2 := count_le (bgs T E (E.length + 1))
    rw [bgs_len] at h2
    omega
theorem bgF_len (T : List (List Nat)) (E : List Bool) : (bgF T E).length = E.length := bgs_len T E _
theorem bgF_E {T : List (List Nat)} {E : List Bool} {k : Nat} (h : atB E k = true) : atB (bgF T E) k = true := by
  have : ∀ i, atB (bgs T E i) k = true := by
    intro i
    induction i with
    | zero => exact h
    | succ i ih => exact bg_up ih
  exact this _
theorem bgF_row {T : List (List Nat)} {E : List Bool} {k x : Nat} (hk : k < E.length) (hx : x ∈ row T k) (h : atB (bgF T E) x = true) : atB (bgF T E) k = true := by
  rw [← bgF_fix]
  unfold bg atB
  rw [List.getElem?_map, List.getElem?_range (by rw [bgF_len]; exact hk)]
  simp only [Option.map_some, Option.getD_some]
  rw [Bool.or_eq_true]
  exact .inr (List.any_eq_true.mpr ⟨x, hx, h⟩)
theorem bgF_pre {T : List (List Nat)} {E : List Bool} {b : Nat} (wf : Wf T) (fu : Full T b) (hE : E.length = T.length) : ∀ (w v : List Nat), (∀ l ∈ v ++ w, l < b) → atB (bgF T E) (beh T (v ++ w)) = true → atB (bgF T E) (beh T v) = true := by
  refine rev_ind ?_ ?_
  · intro v _ h; simpa using h
  · intro w l ih v hw h
    rw [← List.append_assoc, beh_snoc] at h
    have hw' : ∀ x ∈ v ++ w, x < b := fun x hx => hw x (by rw [← List.append_assoc]; exact List.mem_append_left _ hx)
    refine ih v hw' ?_
    have hl : beh T (v ++ w) < T.length := lt_ord wf _ (beh_ok wf fu (v ++ w) hw').1
    refine bgF_row (by rw [hE]; exact hl) ?_ h
    have : l < (row T (beh T (v ++ w))).length := by rw [full_row fu hl]; exact hw l (by simp)
    simp [this]
/-! ### a word ahead -/
def wR (b : Nat) (v : List Nat) (last : Nat) : List (List Nat) := (List.range v.length).map fun p => (List.range b).map fun l => if l = v[p]?.getD 0 then p + 1 else last
def aT (b : Nat) (v : List Nat) (U : List (List Nat)) : List (List Nat) := wR b v (v.length + (U.length - 1)) ++ U.map fun r => r.map (· + v.length)
def aE (v : List Nat) (F : List Bool) : List Bool := List.replicate v.length false ++ F
/-- a machine whose last state goes nowhere and is no end -/
structure Sk (b : Nat) (U : List (List Nat)) (F : List Bool) : Prop where
  wf : Wf U
  fu : Full U b
  he : F.length = U.length
  s : row U (U.length - 1) = List.replicate b (U.length - 1)
  e : atB F (U.length - 1) = false
section
variable {b : Nat} {v : List Nat} {U : List (List Nat)} {F : List Bool}
theorem aT_len : (aT b v U).length = v.length + U.length := by simp [aT, wR]
theorem row_a1 {p : Nat} (h : p < v.length) : row (aT b v U) p = (List.range b).map fun l => if l = v[p]?.getD 0 then p + 1 else v.length + (U.length - 1) := by
  unfold row aT
  rw [List.getElem?_append_left (by simpa [wR] using h)]
  simp [wR, h]
theorem row_a2 {s : Nat} (h : s < U.length) : row (aT b v U) (v.length + s) = (row U s).map (· + v.length) := by
  unfold row aT
  rw [List.getElem?_append_right (by simp [wR])]
  simp [wR, h]
theorem mo_a (S : Sk b U F) : Wf (aT b v U) ∧ Full (aT b v U) b ∧ (aE v F).length = (aT b v U).length := by
  have hU := S.wf.1
  refine ⟨⟨by rw [aT_len]; omega, fun r hr s hs => ?_⟩, fun r hr => ?_, by simp [aE, aT_len, S.he]⟩
  · rw [aT_len]
    rcases List.mem_append.mp hr with hr | hr
    · obtain ⟨p, hp, rfl⟩ := List.mem_map.mp hr
      obtain ⟨l, hl, rfl⟩ := List.mem_map.mp hs
      have := List.mem_range.mp hp
      split <;> omega
    · obtain ⟨r0, h0, rfl⟩ := List.mem_map.mp hr
      obtain ⟨x, hx, rfl⟩ := List.mem_map.mp hs
      have := S.wf.2 r0 h0 x hx
      omega
  · rcases List.mem_append.mp hr with hr | hr
    · obtain ⟨p, hp, rfl⟩ := List.mem_map.mp hr
      simp
    · obtain ⟨r0, h0, rfl⟩ := List.mem_map.mp hr
      rw [List.length_map]; exact S.fu r0 h0
theorem sk_lt (S : Sk b U F) (w : List Nat) (hw : ∀ l ∈ w, l < b) : beh U w < U.length := lt_ord S.wf _ (beh_ok S.wf S.fu w hw).1
/-- the state behind a word -/
theorem a_beh (S : Sk b U F) : ∀ u : List Nat, (∀ l ∈ u, l < b) → beh (aT b v U) u = if u.length < v.length then (if u = v.take u.length then u.length else v.length + (U.length - 1)) else (if u.take v.length = v then v.length + beh U (u.drop v.length) else v.length + (U.length - 1)) := by
  have hU := S.wf.1
  have sink : ∀ l, l < b → (row (aT b v U) (v.length + (U.length - 1)))[l]?.getD 0 = v.length + (U.length - 1) := by
    intro l hl
    rw [row_a2 (by omega), S.s]
    simp [hl]; omega
  refine rev_ind ?_ ?_
  · intro _
    by_cases h : 0 < v.length
    · simp [h, beh]
    · have : v = [] := List.eq_nil_of_length_eq_zero (by omega)
      subst this
      simp [beh]
  · intro u l ih hw
    have hl : l < b := hw l (by simp)
    have ih := ih fun x hx => hw x (by simp [hx])
    rw [beh_snoc, ih]
    by_cases h1 : u.length < v.length
    · rw [if_pos h1]
      by_cases h2 : u = v.take u.length
      · rw [if_pos h2, row_a1 h1]
        have ht : v.take (u ++ [l]).length = u ++ [v[u.length]?.getD 0] := by
          rw [List.length_append, List.length_singleton, List.take_add_one]
          rw [← h2]; simp [h1]
        have hq : u ++ [l] = v.take (u ++ [l]).length ↔ l = v[u.length]?.getD 0 := by
          rw [ht]; simp
        rw [show ((List.range b).map fun l => if l = v[u.length]?.getD 0 then u.length + 1 else v.length + (U.length - 1))[l]?.getD 0 = if l = v[u.length]?.getD 0 then u.length + 1 else v.length + (U.length - 1) by simp [hl]]
        by_cases h3 : (u ++ [l]).length < v.length
        · rw [if_pos h3]
          by_cases h4 : l = v[u.length]?.getD 0
          · rw [if_pos h4, if_pos (hq.mpr h4)]; simp
          · rw [if_neg h4, if_neg fun z => h4 (hq.mp z)]
        · rw [if_neg h3]
          have hlen : (u ++ [l]).length = v.length := by simp at h3 ⊢; omega
          have e1 : (u ++ [l]).take v.length = u ++ [l] := by rw [← hlen]; exact List.take_length
          have e2 : v.take (u ++ [l]).length = v := by rw [hlen]; exact List.take_length
          rw [e1]
          rw [e2] at hq
          by_cases h4 : l = v[u.length]?.getD 0
          · rw [if_pos h4, if_pos (hq.mpr h4), ← hlen, List.drop_length]
            simp [beh]
          · rw [if_neg h4, if_neg fun z => h4 (hq.mp z)]
      · rw [if_neg h2, sink l hl]
        have n1 : ∀ n, u.length ≤ n → ¬ (u ++ [l]).take n = v.take n := by
          intro n hn z
          refine h2 ?_
          have := congrArg (List.take u.length) z
          rw [List.take_take, List.take_take, Nat.min_eq_left hn, List.take_left'] at this
          · exact this
          · rfl
        by_cases h3 : (u ++ [l]).length < v.length
        · rw [if_pos h3, if_neg]
          intro z
          refine n1 (u ++ [l]).length (by simp) ?_
          rw [List.take_length]; exact z
        · rw [if_neg h3, if_neg]
          intro z
          refine n1 v.length (by omega) ?_
          rw [List.take_length]; exact z
    · rw [if_neg h1]
      have hn : ¬ (u ++ [l]).length < v.length := by simp; omega
      have ht : (u ++ [l]).take v.length = u.take v.length := List.take_append_of_le_length (by omega)
      have hd : (u ++ [l]).drop v.length = u.drop v.length ++ [l] := List.drop_append_of_le_length (by omega)
      rw [if_neg hn, ht, hd]
      by_cases h2 : u.take v.length = v
      · have hb := sk_lt S (u.drop v.length) fun x hx => hw x (List.mem_append_left _ (List.mem_of_mem_drop hx))
        rw [if_pos h2, if_pos h2, row_a2 hb, beh_snoc, get_map (by rw [full_row S.fu hb]; exact hl)]
        omega
      · rw [if_neg h2, if_neg h2, sink l hl]
theorem aE_at {i : Nat} : atB (aE v F) i = if i < v.length then false else atB F (i - v.length) := by
  unfold aE atB
  by_cases h : i < v.length
  · rw [if_pos h, List.getElem?_append_left (by simpa using h)]; simp [h]
  · rw [if_neg h, List.getElem?_append_right (by simpa using h)]; simp
theorem a_takes (S : Sk b U F) (u : List Nat) (hu : ∀ l ∈ u, l < b) : atB (aE v F) (beh (aT b v U) u) = (decide (u.take v.length = v) && atB F (beh U (u.drop v.length))) := by
  have hsink : atB (aE v F) (v.length + (U.length - 1)) = false := by
    rw [aE_at, if_neg (by omega), show v.length + (U.length - 1) - v.length = U.length - 1 by omega]; exact S.e
  rw [a_beh S u hu]
  by_cases h1 : u.length < v.length
  · rw [if_pos h1]
    have : ¬ u.take v.length = v := fun z => by
      have := congrArg List.length z
      rw [List.length_take] at this; omega
    rw [decide_eq_false this, Bool.false_and]
    split
    · rw [aE_at, if_pos h1]
    · exact hsink
  · rw [if_neg h1]
    by_cases h2 : u.take v.length = v
    · rw [if_pos h2, decide_eq_true h2, aE_at, if_neg (by omega), Nat.add_sub_cancel_left]; rfl
    · rw [if_neg h2, decide_eq_false h2]; exact hsink
end
/-- one word: nothing behind it -/
def u1 (b : Nat) : List (List Nat) := [List.replicate b 1, List.replicate b 1]
theorem sk_1 (b : Nat) : Sk b (u1 b) [true, false] := by
  refine ⟨⟨by simp [u1], fun r hr s hs => ?_⟩, fun r hr => ?_, rfl, rfl, rfl⟩
  · simp only [u1, List.mem_cons, List.not_mem_nil, or_false, or_self] at hr
    subst hr
    rw [List.eq_of_mem_replicate hs]; simp [u1]
  · simp only [u1, List.mem_cons, List.not_mem_nil, or_false, or_self] at hr
    subst hr; simp
theorem beh_1 (b : Nat) : ∀ w : List Nat, (∀ l ∈ w, l < b) → beh (u1 b) w = if w = [] then 0 else 1 := by
  refine rev_ind (fun _ => by simp [beh]) fun w l ih hw => ?_
  rw [beh_snoc, ih fun x hx => hw x (by simp [hx])]
  have hl : l < b := hw l (by simp)
  split <;> simp [row, u1, hl]
theorem only_takes (b : Nat) (v u : List Nat) (hu : ∀ l ∈ u, l < b) : atB (aE v [true, false]) (beh (aT b v (u1 b)) u) = decide (u = v) := by
  rw [a_takes (sk_1 b) u hu, beh_1 b _ fun l hl => hu l (List.mem_of_mem_drop hl)]
  by_cases h : u = v
  · subst h; simp [atB]
  · rw [decide_eq_false h]
    by_cases h2 : u.take v.length = v
    · have : ¬ u.drop v.length = [] := by
        intro z
        apply h
        rw [← List.take_append_drop v.length u, h2, z, List.append_nil]
      rw [if_neg this]; simp [atB]
    · rw [decide_eq_false h2]; rfl
/-- a machine with a state more, that goes nowhere -/
def us (b : Nat) (T : List (List Nat)) : List (List Nat) := T ++ [List.replicate b T.length]
section
variable {T : List (List Nat)} {E : List Bool} {b : Nat}
theorem row_us {s : Nat} (h : s < T.length) : row (us b T) s = row T s := by unfold row us; rw [List.getElem?_append_left h]
theorem sk_us (wf : Wf T) (fu : Full T b) (hE : E.length = T.length) : Sk b (us b T) (E ++ [false]) := by
  refine ⟨⟨by simp [us], fun r hr s hs => ?_⟩, fun r hr => ?_, by simp [us, hE], by simp [us, row], by simp [us, atB, ← hE]⟩
  · have hl : (us b T).length = T.length + 1 := by simp [us]
    rw [hl]
    rcases List.mem_append.mp hr with hr | hr
    · have := wf.2 r hr s hs; omega
    · rw [List.mem_singleton.mp hr] at hs
      rw [List.eq_of_mem_replicate hs]; omega
  · rcases List.mem_append.mp hr with hr | hr
    · exact fu r hr
    · rw [List.mem_singleton.mp hr]; simp
theorem beh_us (wf : Wf T) (fu : Full T b) : ∀ w : List Nat, (∀ l ∈ w, l < b) → beh (us b T) w = beh T w := by
  refine rev_ind (fun _ => rfl) fun w l ih hw => ?_
  have hw' : ∀ x ∈ w, x < b := fun x hx => hw x (by simp [hx])
  rw [beh_snoc, beh_snoc, ih hw', row_us (lt_ord wf _ (beh_ok wf fu w hw').1)]
theorem ahead_takes (wf : Wf T) (fu : Full T b) (hE : E.length = T.length) (v u : List Nat) (hu : ∀ l ∈ u, l < b) : atB (aE v (E ++ [false])) (beh (aT b v (us b T)) u) = (decide (u.take v.length = v) && atB E (beh T (u.drop v.length))) := by
  have hd : ∀ l ∈ u.drop v.length, l < b := fun l hl => hu l (List.mem_of_mem_drop hl)
  rw [a_takes (sk_us wf fu hE) u hu, beh_us wf fu _ hd]
  congr 1
  have := lt_ord wf _ (beh_ok wf fu _ hd).1
  unfold atB
  rw [List.getElem?_append_left (by rw [hE]; exact this)]
end
end K02
namespace K06
open K03 K02
/-! ### plain: what lies ahead of a state -/
def Eqv (b : Nat) (T : List (List Nat)) (E : List Bool) (i j : Nat) : Prop := ∀ w : List Nat, (∀ l ∈ w, l < b) → atB E (behF T i w) = atB E (behF T j w)
def EqL (b : Nat) (T : List (List Nat)) (E : List Bool) (r i j : Nat) : Prop := ∀ w : List Nat, w.length ≤ r → (∀ l ∈ w, l < b) → atB E (behF T i w) = atB E (behF T j w)
section
variable {b : Nat} {T : List (List Nat)} {E : List Bool} {C : List Nat}
theorem Eqv.refl (i : Nat) : Eqv b T E i i := fun _ _ => rfl
theorem Eqv.symm {i j : Nat} (h : Eqv b T E i j) : Eqv b T E j i := fun w hw => (h w hw).symm
theorem Eqv.trans {i j k : Nat} (h : Eqv b T E i j) (g : Eqv b T E j k) : Eqv b T E i k := fun w hw => (h w hw).trans (g w hw)
theorem Eqv.next {i j l : Nat} (h : Eqv b T E i j) (hl : l < b) : Eqv b T E ((row T i)[l]?.getD 0) ((row T j)[l]?.getD 0) := fun w hw => h (l :: w) fun x hx => by
  rcases List.mem_cons.mp hx with rfl | hx
  · exact hl
  · exact hw x hx
noncomputable def ef (b : Nat) (T : List (List Nat)) (E : List Bool) (x : Nat) : Nat := Classical.epsilon fun j => Eqv b T E x j
theorem ef_spec (x : Nat) : Eqv b T E x (ef b T E x) := Classical.epsilon_spec (p := fun j => Eqv b T E x j) ⟨x, Eqv.refl x⟩
theorem ef_of {x y : Nat} (h : Eqv b T E x y) : ef b T E x = ef b T E y := by
  unfold ef
  refine congrArg _ (funext fun j => propext ⟨fun g => h.symm.trans g, fun g => h.trans g⟩)
theorem ef_eq {x y : Nat} (h : ef b T E x = ef b T E y) : Eqv b T E x y := (ef_spec x).trans (h ▸ (ef_spec y).symm)
theorem map_rows {f g : Nat → Nat} (fu : Full T b) {i j : Nat} (hi : i < T.length) (hj : j < T.length) (h : ∀ l, l < b → f ((row T i)[l]?.getD 0) = g ((row T j)[l]?.getD 0)) : (row T i).map f = (row T j).map g := by
  have li := full_row fu hi
  have lj := full_row fu hj
  refine List.ext_getElem (by simp [li, lj]) fun l h1 h2 => ?_
  have h1' : l < (row T i).length := by simpa using h1
  have h2' : l < (row T j).length := by simpa using h2
  have := h l (li ▸ h1')
  simpa [h1', h2'] using this
theorem rows_map {f g : Nat → Nat} (fu : Full T b) {i j l : Nat} (hi : i < T.length) (hj : j < T.length) (hl : l < b) (h : (row T i).map f = (row T j).map g) : f ((row T i)[l]?.getD 0) = g ((row T j)[l]?.getD 0) := by
  have li := full_row fu hi
  have lj := full_row fu hj
  have h1' : l < (row T i).length := by omega
  have h2' : l < (row T j).length := by omega
  have := congrArg (fun z : List Nat => z[l]?.getD 0) h
  simpa [h1', h2'] using this
theorem step_lt (wf : Wf T) (fu : Full T b) {i l : Nat} (hi : i < T.length) (hl : l < b) : (row T i)[l]?.getD 0 < T.length := by
  have li := full_row fu hi
  exact row_lt wf (s := i) (by simp [li, hl])
theorem behF_lt (wf : Wf T) (fu : Full T b) : ∀ (w : List Nat) (i : Nat), i < T.length → (∀ l ∈ w, l < b) → behF T i w < T.length
  | [], i, hi, _ => hi
  | l :: w, i, hi, hw => behF_lt wf fu w _ (step_lt wf fu hi (hw l List.mem_cons_self)) fun x hx => hw x (List.mem_cons_of_mem _ hx)
theorem goal_ef (fu : Full T b) : Goal T E (ef b T E) where
  m := fun i j _ _ h => ef_eq h [] (fun _ h => nomatch h)
  r := fun i j hi hj h => map_rows fu hi hj fun l hl => ef_of ((ef_eq h).next hl)
theorem done_to (wf : Wf T) (fu : Full T b) (D : Done T E C) : ∀ (w : List Nat) (i j : Nat), i < T.length → j < T.length → at0 C i = at0 C j → (∀ l ∈ w, l < b) → atB E (behF T i w) = atB E (behF T j w)
  | [], i, j, hi, hj, h, _ => D.m i j hi hj h
  | l :: w, i, j, hi, hj, h, hw => by
    have hl := hw l List.mem_cons_self
    exact done_to wf fu D w _ _ (step_lt wf fu hi hl) (step_lt wf fu hj hl) (rows_map fu hi hj hl (D.s i j hi hj h)) fun x hx => hw x (List.mem_cons_of_mem _ hx)
/-- the classes part just what words part -/
theorem done_iff (wf : Wf T) (fu : Full T b) (D : Done T E C) {i j : Nat} (hi : i < T.length) (hj : j < T.length) : at0 C i = at0 C j ↔ Eqv b T E i j :=
  ⟨fun h w hw => done_to wf fu D w i j hi hj h hw, fun h => D.b _ (goal_ef fu) i j hi hj (ef_of h)⟩
/-! ### rounds -/
def rs (T : List (List Nat)) (E : List Bool) : Nat → List Nat
  | 0 => cls E
  | r + 1 => rnd T (rs T E r)
def Nr (T : List (List Nat)) (E : List Bool) (r : Nat) : Nat := (firsts (rs T E r)).length
theorem fine_rs (wf : Wf T) (he : E.length = T.length) : ∀ r, Fine T E (rs T E r)
  | 0 => fine0 he
  | r + 1 => fine_rnd wf (fine_rs wf he r)
theorem rs_len (wf : Wf T) (he : E.length = T.length) (r : Nat) : (rs T E r).length = T.length := (fine_rs wf he r).len
theorem rs_iff (wf : Wf T) (fu : Full T b) (he : E.length = T.length) : ∀ (r i j : Nat), i < T.length → j < T.length → (at0 (rs T E r) i = at0 (rs T E r) j ↔ EqL b T E r i j)
  | 0, i, j, hi, hj => by
    have e : ∀ i (h : i < T.length), atB E i = E[i]'(he ▸ h) := fun i h => by simp [atB, he ▸ h]
    have k := cls_ker (ks := E) (he ▸ hi) (he ▸ hj)
    constructor
    · intro h w hw _
      have : w = [] := List.length_eq_zero_iff.mp (Nat.le_zero.mp hw)
      subst this
      show atB E i = atB E j
      rw [e i hi, e j hj]
      exact k.mp h
    · intro h
      refine k.mpr ?_
      rw [← e i hi, ← e j hj]
      exact h [] (Nat.le_refl _) fun _ h => nomatch h
  | r + 1, i, j, hi, hj => by
    show at0 (rnd T (rs T E r)) i = at0 (rnd T (rs T E r)) j ↔ _
    rw [rnd_ker hi hj, rs_iff wf fu he r i j hi hj]
    constructor
    · rintro ⟨h1, h2⟩ w hw hl
      cases w with
      | nil => exact h1 [] (Nat.zero_le _) hl
      | cons l w =>
        have hlb := hl l List.mem_cons_self
        exact (rs_iff wf fu he r _ _ (step_lt wf fu hi hlb) (step_lt wf fu hj hlb)).mp (rows_map fu hi hj hlb h2) w (by simpa using hw) fun x hx => hl x (List.mem_cons_of_mem _ hx)
    · intro h
      refine ⟨fun w hw hl => h w (by omega) hl, map_rows fu hi hj fun l hl => (rs_iff wf fu he r _ _ (step_lt wf fu hi hl) (step_lt wf fu hj hl)).mpr fun w hw hlw => ?_⟩
      refine h (l :: w) (by simpa using hw) fun x hx => ?_
      rcases List.mem_cons.mp hx with rfl | hx
      · exact hl
      · exact hlw x hx
theorem stab (wf : Wf T) (fu : Full T b) (he : E.length = T.length) {r : Nat} (h : Nr T E (r + 1) ≤ Nr T E r) : Done T E (rs T E (r + 1)) := done_of wf (fine_rs wf he r) h
theorem stab_eq (wf : Wf T) (fu : Full T b) (he : E.length = T.length) {r i j : Nat} (h : Nr T E (r + 1) ≤ Nr T E r) (hi : i < T.length) (hj : j < T.length) (g : EqL b T E r i j) : Eqv b T E i j :=
  (done_iff wf fu (stab wf fu he h) hi hj).mp (rnd_same (rs_len wf he r) h hi hj ((rs_iff wf fu he r i j hi hj).mpr g))
theorem Nr_le (wf : Wf T) (he : E.length = T.length) (r : Nat) : Nr T E r ≤ T.length := by
  have := firsts_len (rs T E r)
  rw [rs_len wf he r] at this
  exact this
theorem Nr_pos (wf : Wf T) (he : E.length = T.length) (r : Nat) : 0 < Nr T E r := by
  have h0 : 0 < (rs T E r).length := by rw [rs_len wf he r]; exact wf.1
  exact List.length_pos_of_mem (mem_firsts.mpr (List.getElem_mem h0))
theorem Nr_rise : ∀ {r : Nat}, 0 < Nr T E 0 → (∀ t, t < r → Nr T E t < Nr T E (t + 1)) → r + 1 ≤ Nr T E r
  | 0, h0, _ => h0
  | r + 1, h0, h => by
    have := Nr_rise (r := r) h0 fun t ht => h t (by omega)
    have := h r (by omega)
    omega
theorem stop_ex (wf : Wf T) (he : E.length = T.length) {L : Nat} (hL : T.length ≤ L + 1) : ∃ r, r ≤ L ∧ Nr T E (r + 1) ≤ Nr T E r := by
  refine Classical.byContradiction fun z => ?_
  have h : ∀ t, t < L + 1 → Nr T E t < Nr T E (t + 1) := fun t ht => Nat.lt_of_not_le fun g => z ⟨t, by omega, g⟩
  have := Nr_rise (Nr_pos wf he 0) h
  have := Nr_le wf he (E := E) (L + 1)
  omega
/-- words shorter than there are states part what words part -/
theorem moore (wf : Wf T) (fu : Full T b) (he : E.length = T.length) {L i j : Nat} (hL : T.length ≤ L + 1) (hi : i < T.length) (hj : j < T.length) : EqL b T E L i j ↔ Eqv b T E i j := by
  refine ⟨fun h => ?_, fun h w _ hw => h w hw⟩
  obtain ⟨r, hr, hs⟩ := stop_ex wf he hL
  exact stab_eq wf fu he hs hi hj fun w hw hl => h w (by omega) hl
theorem done_ex (wf : Wf T) (fu : Full T b) (he : E.length = T.length) : ∃ C, Done T E C := by
  obtain ⟨r, _, hs⟩ := stop_ex wf he (L := T.length) (by omega)
  exact ⟨_, stab wf fu he hs⟩
/-- the round behind which nothing more is parted -/
structure IsR (T : List (List Nat)) (E : List Bool) (R : Nat) : Prop where
  s : Nr T E (R + 1) ≤ Nr T E R
  u : ∀ t, t < R → Nr T E t < Nr T E (t + 1)
theorem IsR.lt (wf : Wf T) (he : E.length = T.length) {R : Nat} (h : IsR T E R) : R < T.length := by
  have := Nr_rise (Nr_pos wf he 0) h.u
  have := Nr_le wf he (E := E) R
  omega
end
/-! ### the same kernel -/
section
variable {α β : Type} [DecidableEq α] [DecidableEq β]
theorem ker_le {ks : List α} {ps : List β} (hl : ks.length = ps.length) (h : ∀ i j (hi : i < ks.length) (hj : j < ks.length), ps[i]'(hl ▸ hi) = ps[j]'(hl ▸ hj) → ks[i] = ks[j]) : (firsts ks).length ≤ (firsts ps).length := by
  have key := len_sub (nd_firsts ks |>.map (f := some) (fun a b h z => h (Option.some.inj z))) (L := (firsts ps).map fun p => ks[ps.idxOf p]?) fun v hv => by
    obtain ⟨k, hk, rfl⟩ := List.mem_map.mp hv
    obtain ⟨i, hi, rfl⟩ := List.mem_iff_getElem.mp (mem_firsts.mp hk)
    have hi' : i < ps.length := hl ▸ hi
    have hm : ps.idxOf ps[i] < ps.length := List.idxOf_lt_length_of_mem (List.getElem_mem hi')
    have hm' : ps.idxOf ps[i] < ks.length := by omega
    refine List.mem_map.mpr ⟨ps[i], mem_firsts.mpr (List.getElem_mem hi'), ?_⟩
    rw [List.getElem?_eq_getElem hm']
    exact congrArg some (h _ _ hm' hi (List.getElem_idxOf hm))
  simpa using key
theorem ker_len {ks : List α} {ps : List β} (hl : ks.length = ps.length) (h : ∀ i j (hi : i < ks.length) (hj : j < ks.length), ks[i] = ks[j] ↔ ps[i]'(hl ▸ hi) = ps[j]'(hl ▸ hj)) : (firsts ks).length = (firsts ps).length :=
  Nat.le_antisymm (ker_le hl fun i j hi hj => (h i j hi hj).mpr) (ker_le hl.symm fun i j hi hj => (h i j (hl ▸ hi) (hl ▸ hj)).mp)
theorem idx_le {ks : List α} {i : Nat} (hi : i < ks.length) : ks.idxOf ks[i] ≤ i := by
  refine Nat.le_of_not_lt fun z => ?_
  have := List.not_of_lt_findIdx (p := fun x => x == ks[i]) (xs := ks) (i := i) z
  simp at this
theorem idx_ker {ks : List α} {ps : List β} (hl : ks.length = ps.length) (h : ∀ i j (hi : i < ks.length) (hj : j < ks.length), ks[i] = ks[j] ↔ ps[i]'(hl ▸ hi) = ps[j]'(hl ▸ hj)) {i : Nat} (hi : i < ks.length) : ks.idxOf ks[i] = ps.idxOf (ps[i]'(hl ▸ hi)) := by
  have hi' : i < ps.length := hl ▸ hi
  have h1 : ks.idxOf ks[i] < ks.length := List.idxOf_lt_length_of_mem (List.getElem_mem hi)
  have h2 : ps.idxOf ps[i] < ps.length := List.idxOf_lt_length_of_mem (List.getElem_mem hi')
  have e1 := List.getElem_idxOf h1
  have e2 := List.getElem_idxOf h2
  have h1' : ks.idxOf ks[i] < ps.length := hl ▸ h1
  have h2' : ps.idxOf ps[i] < ks.length := hl ▸ h2
  have f1 := (h _ _ h1 hi).mp e1
  have f2 := (h _ _ h2' hi).mpr e2
  have g1 := idx_le h1'
  have g2 := idx_le h2'
  rw [f1] at g1
  rw [f2] at g2
  omega
/-- a first place for each -/
def fi (ks : List α) : List Nat := ks.map fun k => ks.idxOf k
theorem fi_len (ks : List α) : (fi ks).length = ks.length := by simp [fi]
theorem fi_get {ks : List α} {i : Nat} (hi : i < ks.length) : at0 (fi ks) i = ks.idxOf ks[i] := by simp [fi, at0, hi]
theorem fi_ker {ks : List α} {i j : Nat} (hi : i < ks.length) (hj : j < ks.length) : at0 (fi ks) i = at0 (fi ks) j ↔ ks[i] = ks[j] := by
  rw [fi_get hi, fi_get hj]
  exact ⟨fun e => idx_inj (List.getElem_mem hi) e, fun e => by rw [e]⟩
theorem fi_eq {ks : List α} {ps : List β} (hl : ks.length = ps.length) (h : ∀ i j (hi : i < ks.length) (hj : j < ks.length), ks[i] = ks[j] ↔ ps[i]'(hl ▸ hi) = ps[j]'(hl ▸ hj)) : fi ks = fi ps := by
  refine List.ext_getElem (by simp [fi_len, hl]) fun i h1 h2 => ?_
  have hi : i < ks.length := by simpa [fi_len] using h1
  have := idx_ker hl h hi
  simpa [fi] using this
end
end K06
namespace K06
open K03 K02
/-! ### plain: least machines -/
structure Ma (b : Nat) (T : List (List Nat)) (E : List Bool) : Prop where
  wf : Wf T
  fu : Full T b
  he : E.length = T.length
  b2 : 2 ≤ b
structure Lea (b : Nat) (L : List (List Nat)) (F : List Bool) : Prop extends Ma b L F where
  o : ord L = List.range L.length
  inj : ∀ i j, i < L.length → j < L.length → Eqv b L F i j → i = j
def Same (b : Nat) (T : List (List Nat)) (E : List Bool) (L : List (List Nat)) (F : List Bool) : Prop := ∀ w : List Nat, (∀ l ∈ w, l < b) → atB F (beh L w) = atB E (beh T w)
section
variable {b : Nat} {T : List (List Nat)} {E : List Bool} {L : List (List Nat)} {F : List Bool}
theorem beh_lt (M : Ma b T E) (w : List Nat) (hw : ∀ l ∈ w, l < b) : beh T w < T.length := lt_ord M.wf _ (beh_ok M.wf M.fu w hw).1
theorem lea_of (M : Ma b L F) (o : ord L = List.range L.length) (cl : ∀ C, Done L F C → C = List.range L.length) : Lea b L F := by
  obtain ⟨C, D⟩ := done_ex M.wf M.fu M.he
  refine ⟨M, o, fun i j hi hj h => ?_⟩
  have := (done_iff M.wf M.fu D hi hj).mpr h
  rw [cl C D] at this
  simpa [at0, hi, hj] using this
theorem lea_cl (H : Lea b L F) {C : List Nat} (D : Done L F C) : C = List.range L.length := D.range fun i j hi hj h => H.inj i j hi hj ((done_iff H.wf H.fu D hi hj).mp h)
/-- a word to a state -/
def wd (b : Nat) (T : List (List Nat)) (s : Nat) : List Nat := (wds b T T.length)[s]?.getD []
theorem inord (M : Ma b T E) (o : ord T = List.range T.length) : InOrd T b := ⟨M.wf, M.fu, M.b2, o⟩
theorem wd_beh (I : InOrd T b) {s : Nat} (hs : s < T.length) : beh T (wd b T s) = s := (I.all.2.1 s hs).1
theorem wd_lt (I : InOrd T b) {s : Nat} (hs : s < T.length) : ∀ x ∈ wd b T s, x < b := (I.all.2.1 s hs).2
/-- the state of the least machine for a state -/
def nu (b : Nat) (T L : List (List Nat)) (s : Nat) : Nat := beh L (wd b T s)
theorem app_lt {v w : List Nat} (hv : ∀ l ∈ v, l < b) (hw : ∀ l ∈ w, l < b) : ∀ l ∈ v ++ w, l < b := fun l hl => by
  rcases List.mem_append.mp hl with h | h
  · exact hv l h
  · exact hw l h
theorem same_at (S : Same b T E L F) {v w : List Nat} (hv : ∀ l ∈ v, l < b) (hw : ∀ l ∈ w, l < b) : atB F (behF L (beh L v) w) = atB E (behF T (beh T v) w) := by
  rw [behF_app, behF_app]; exact S _ (app_lt hv hw)
theorem nu_beh (I : InOrd T b) (M : Ma b T E) (H : Lea b L F) (S : Same b T E L F) (w : List Nat) (hw : ∀ l ∈ w, l < b) : beh L w = nu b T L (beh T w) := by
  have hs := beh_lt M w hw
  have h1 := wd_lt I hs
  refine H.inj _ _ (beh_lt H.toMa w hw) (beh_lt H.toMa _ h1) fun u hu => ?_
  show atB F (behF L (beh L w) u) = atB F (behF L (beh L (wd b T (beh T w))) u)
  rw [same_at S hw hu, same_at S h1 hu, wd_beh I hs]
theorem nu_lt (I : InOrd T b) (H : Lea b L F) {s : Nat} (hs : s < T.length) : nu b T L s < L.length := beh_lt H.toMa _ (wd_lt I hs)
theorem nu_eqv (I : InOrd T b) (S : Same b T E L F) (H : Lea b L F) {s t : Nat} (hs : s < T.length) (ht : t < T.length) : nu b T L s = nu b T L t ↔ Eqv b T E s t := by
  have e : ∀ s, s < T.length → ∀ w : List Nat, (∀ l ∈ w, l < b) → atB F (behF L (nu b T L s) w) = atB E (behF T s w) := fun s hs w hw => by
    have := same_at S (wd_lt I hs) hw
    rw [wd_beh I hs] at this
    exact this
  constructor
  · intro h w hw
    rw [← e s hs w hw, ← e t ht w hw, h]
  · intro h
    exact H.inj _ _ (nu_lt I H hs) (nu_lt I H ht) fun w hw => by rw [e s hs w hw, e t ht w hw]; exact h w hw
theorem nu_zero (I : InOrd T b) (M : Ma b T E) (H : Lea b L F) (S : Same b T E L F) : nu b T L 0 = 0 := (nu_beh I M H S [] fun _ h => nomatch h).symm
theorem nu_end (I : InOrd T b) (S : Same b T E L F) {s : Nat} (hs : s < T.length) : atB F (nu b T L s) = atB E s := by
  have := S _ (wd_lt I hs)
  rw [wd_beh I hs] at this
  exact this
theorem nu_step (I : InOrd T b) (M : Ma b T E) (H : Lea b L F) (S : Same b T E L F) {s l : Nat} (hs : s < T.length) (hl : l < b) : (row L (nu b T L s))[l]?.getD 0 = nu b T L ((row T s)[l]?.getD 0) := by
  have h := nu_beh I M H S (wd b T s ++ [l]) (app_lt (wd_lt I hs) fun x hx => by rw [List.mem_singleton.mp hx]; exact hl)
  rw [beh_snoc, beh_snoc, wd_beh I hs] at h
  exact h
theorem nu_row (I : InOrd T b) (M : Ma b T E) (H : Lea b L F) (S : Same b T E L F) {s : Nat} (hs : s < T.length) : row L (nu b T L s) = (row T s).map (nu b T L) := by
  have l1 := full_row H.fu (nu_lt I H hs)
  have l2 := full_row M.fu hs
  refine List.ext_getElem (by simp [l1, l2]) fun l h1 h2 => ?_
  have h2' : l < (row T s).length := by simpa using h2
  have := nu_step I M H S hs (l := l) (by omega)
  simpa [h1, h2'] using this
theorem nu_onto (I : InOrd T b) (M : Ma b T E) (H : Lea b L F) (S : Same b T E L F) {x : Nat} (hx : x < L.length) : ∃ s, s < T.length ∧ nu b T L s = x := by
  have J := inord H.toMa H.o
  refine ⟨beh T (wd b L x), beh_lt M _ (wd_lt J hx), ?_⟩
  rw [← nu_beh I M H S _ (wd_lt J hx), wd_beh J hx]
/-- as many states as are parted -/
theorem lea_len (I : InOrd T b) (M : Ma b T E) (H : Lea b L F) (S : Same b T E L F) {α : Type} [DecidableEq α] {ks : List α} (hl : ks.length = T.length) (h : ∀ i j (hi : i < T.length) (hj : j < T.length), ks[i]'(hl ▸ hi) = ks[j]'(hl ▸ hj) ↔ Eqv b T E i j) : (firsts ks).length = L.length := by
  have e := ker_len (ks := ks) (ps := (List.range T.length).map (nu b T L)) (by simp [hl]) fun i j hi hj => by
    have hi' : i < T.length := hl ▸ hi
    have hj' : j < T.length := hl ▸ hj
    rw [h i j hi' hj', ← nu_eqv I S H hi' hj']
    simp
  rw [e]
  refine Nat.le_antisymm ?_ ?_
  · have := len_sub (nd_firsts ((List.range T.length).map (nu b T L))) (L := List.range L.length) fun v hv => by
      obtain ⟨s, hs, rfl⟩ := List.mem_map.mp (mem_firsts.mp hv)
      exact List.mem_range.mpr (nu_lt I H (List.mem_range.mp hs))
    simpa using this
  · have := len_sub (List.nodup_range (n := L.length)) (L := firsts ((List.range T.length).map (nu b T L))) fun v hv => by
      obtain ⟨s, hs, e⟩ := nu_onto I M H S (List.mem_range.mp hv)
      exact mem_firsts.mpr (List.mem_map.mpr ⟨s, List.mem_range.mpr hs, e⟩)
    simpa using this
theorem same_symm (S : Same b T E L F) : Same b L F T E := fun w hw => (S w hw).symm
theorem nd_map_range {f : Nat → Nat} : ∀ {n : Nat}, (∀ i j, i < n → j < n → f i = f j → i = j) → ((List.range n).map f).Nodup := fun {n} h => by
  unfold List.Nodup
  rw [List.pairwise_map]
  have : (List.range n).Pairwise fun a b => a ≠ b := List.nodup_range
  exact this.imp_of_mem fun ha hb ne e => ne (h _ _ (List.mem_range.mp ha) (List.mem_range.mp hb) e)
theorem lea_le {U : List (List Nat)} {G : List Bool} (H : Lea b L F) (K : Lea b U G) (S : Same b L F U G) : L.length ≤ U.length := by
  have I := inord H.toMa H.o
  have := len_sub (nd_map_range (n := L.length) (f := nu b L U) fun i j hi hj e => H.inj i j hi hj ((nu_eqv I S K hi hj).mp e)) (L := List.range U.length) fun v hv => by
    obtain ⟨s, hs, rfl⟩ := List.mem_map.mp hv
    exact List.mem_range.mpr (nu_lt I K (List.mem_range.mp hs))
  simpa using this
theorem lea_uniq {U : List (List Nat)} {G : List Bool} (H : Lea b L F) (K : Lea b U G) (S : Same b L F U G) : U = L ∧ G = F := by
  have I := inord H.toMa H.o
  have hl : U.length = L.length := Nat.le_antisymm (lea_le K H (same_symm S)) (lea_le H K S)
  have inj : ∀ x, x < L.length → ∀ y, y < L.length → nu b L U x = nu b L U y → x = y := fun x hx y hy e => H.inj x y hx hy ((nu_eqv I S K hx hy).mp e)
  have h0 := nu_zero I H.toMa K S
  have hr : ∀ s, s < L.length → row U (nu b L U s) = (row L s).map (nu b L U) := fun s hs => nu_row I H.toMa K S hs
  have e1 := ren_rows H.wf hl h0 inj hr
  have e2 := ren_ends (E := F) (E' := G) H.wf hl h0 inj hr fun s hs => nu_end I S hs
  rw [in_same K.wf K.o, in_same H.wf H.o] at e1
  rw [inE_same K.he K.o, inE_same H.he H.o] at e2
  exact ⟨e1, e2⟩
/-! ### doubled -/
structure Dbl (b : Nat) (T : List (List Nat)) (E : List Bool) (U : List (List Nat)) (G : List Bool) : Prop where
  len : U.length = 2 * T.length
  e : G = E ++ E
  fu : Full U b
  lt : ∀ r ∈ U, ∀ x ∈ r, x < U.length
  md : ∀ k l, k < U.length → l < b → (row U k)[l]?.getD 0 % T.length = (row T (k % T.length))[l]?.getD 0
variable {U : List (List Nat)} {G : List Bool}
theorem dbl_ma (M : Ma b T E) (D : Dbl b T E U G) : Ma b U G := by
  refine ⟨⟨by have := D.len; have := M.wf.1; omega, D.lt⟩, D.fu, ?_, M.b2⟩
  rw [D.e, List.length_append, M.he, D.len]; omega
theorem dbl_beh (M : Ma b T E) (D : Dbl b T E U G) : ∀ w : List Nat, (∀ l ∈ w, l < b) → beh U w % T.length = beh T w := by
  refine rev_ind (fun _ => Nat.zero_mod _) fun w l ih hw => ?_
  have h := ih fun x hx => hw x (by simp [hx])
  have hl : l < b := hw l (by simp)
  rw [beh_snoc, beh_snoc, D.md _ _ (beh_lt (dbl_ma M D) w fun x hx => hw x (by simp [hx])) hl, h]
theorem dbl_end (M : Ma b T E) (D : Dbl b T E U G) {k : Nat} (hk : k < U.length) : atB G k = atB E (k % T.length) := by
  have hn := M.wf.1
  rw [D.e]
  unfold atB
  by_cases h : k < T.length
  · rw [List.getElem?_append_left (by rw [M.he]; exact h), Nat.mod_eq_of_lt h]
  · rw [List.getElem?_append_right (by rw [M.he]; omega), M.he]
    have : k % T.length = k - T.length := by
      rw [Nat.mod_eq_sub_mod (by omega), Nat.mod_eq_of_lt (by have := D.len; omega)]
    rw [this]
theorem dbl_same (M : Ma b T E) (D : Dbl b T E U G) : Same b T E U G := fun w hw => by
  rw [dbl_end M D (beh_lt (dbl_ma M D) w hw), dbl_beh M D w hw]
end
end K06
namespace K06
open K03 K02
section
variable {b : Nat} {T : List (List Nat)} {E : List Bool} {L : List (List Nat)} {F : List Bool} {C : List Nat}
theorem rep_rng (n : Nat) : rep (List.range n) = List.range n := by
  unfold rep
  refine List.ext_getElem (by simp) fun i h1 h2 => ?_
  have hi : i < n := by simpa using h2
  simp only [List.getElem_map, List.getElem_range]
  exact ix_range hi
theorem il_eq (M : Ma b T E) (D : Done T E C) (H : Lea b L F) (S : Same b T E L F) : (decide (ord T = List.range T.length) && decide (rep C = List.range T.length)) = decide (T = L ∧ E = F) := by
  by_cases h : T = L ∧ E = F
  · rw [decide_eq_true h]
    obtain ⟨rfl, rfl⟩ := h
    rw [decide_eq_true H.o, lea_cl H D, rep_rng]; simp
  · rw [decide_eq_false h]
    rw [Bool.and_eq_false_iff]
    refine Classical.byContradiction fun z => ?_
    have h1 : ord T = List.range T.length := by
      refine Classical.byContradiction fun q => z (.inl (decide_eq_false q))
    have h2 : rep C = List.range T.length := by
      refine Classical.byContradiction fun q => z (.inr (decide_eq_false q))
    have HT : Lea b T E := ⟨M, h1, fun i j hi hj e => by
      have q := (rep_eq (C := C) (by rw [D.len]; exact hi) (by rw [D.len]; exact hj)).mpr ((done_iff M.wf M.fu D hi hj).mpr e)
      rw [h2] at q
      simpa [at0, hi, hj] using q⟩
    obtain ⟨e1, e2⟩ := lea_uniq HT H S
    exact h ⟨e1.symm, e2.symm⟩
theorem eql_succ (fu : Full T b) {r i j : Nat} : EqL b T E (r + 1) i j ↔ EqL b T E r i j ∧ ∀ l, l < b → EqL b T E r ((row T i)[l]?.getD 0) ((row T j)[l]?.getD 0) := by
  constructor
  · intro h
    refine ⟨fun w hw hl => h w (by omega) hl, fun l hl w hw hlw => h (l :: w) (by simpa using hw) fun x hx => ?_⟩
    rcases List.mem_cons.mp hx with rfl | hx
    · exact hl
    · exact hlw x hx
  · rintro ⟨h1, h2⟩ w hw hl
    cases w with
    | nil => exact h1 [] (Nat.zero_le _) hl
    | cons l w => exact h2 l (hl l List.mem_cons_self) w (by simpa using hw) fun x hx => hl x (List.mem_cons_of_mem _ hx)
/-- classes of words of at most t letters -/
structure Kr (b : Nat) (T : List (List Nat)) (E : List Bool) (t : Nat) (c : List Nat) : Prop where
  len : c.length = T.length
  k : ∀ i j, i < T.length → j < T.length → (at0 c i = at0 c j ↔ EqL b T E t i j)
theorem at0_get {c : List Nat} {i : Nat} (h : i < c.length) : at0 c i = c[i] := by simp [at0, h]
theorem kr_ker {t : Nat} {c d : List Nat} (h : Kr b T E t c) (g : Kr b T E t d) : (firsts c).length = (firsts d).length := by
  have hl : c.length = d.length := by rw [h.len, g.len]
  refine ker_len hl fun i j hi hj => ?_
  rw [← at0_get hi, ← at0_get hj, ← at0_get (c := d), ← at0_get (c := d)]
  exact (h.k i j (h.len ▸ hi) (h.len ▸ hj)).trans (g.k i j (h.len ▸ hi) (h.len ▸ hj)).symm
theorem kr_rs (M : Ma b T E) (t : Nat) : Kr b T E t (rs T E t) := ⟨rs_len M.wf M.he t, fun i j hi hj => rs_iff M.wf M.fu M.he t i j hi hj⟩
theorem Kr.count (M : Ma b T E) {t : Nat} {c : List Nat} (h : Kr b T E t c) : (firsts c).length = Nr T E t := kr_ker h (kr_rs M t)
theorem kr0 (M : Ma b T E) : Kr b T E 0 (E.map fun e => if e = true then 1 else 0) := by
  refine ⟨by simp [M.he], fun i j hi hj => ?_⟩
  have hi' : i < E.length := M.he ▸ hi
  have hj' : j < E.length := M.he ▸ hj
  have e : at0 (E.map fun e => if e = true then 1 else 0) i = at0 (E.map fun e => if e = true then 1 else 0) j ↔ atB E i = atB E j := by
    simp only [at0, atB, List.getElem?_map, hi', hj', List.getElem?_eq_getElem, Option.map_some, Option.getD_some]
    cases E[i] <;> cases E[j] <;> simp
  rw [e]
  constructor
  · intro h w hw _
    have : w = [] := List.length_eq_zero_iff.mp (Nat.le_zero.mp hw)
    subst this; exact h
  · intro h; exact h [] (Nat.le_refl _) fun _ h => nomatch h
theorem Kr.next (M : Ma b T E) {t : Nat} {c : List Nat} (h : Kr b T E t c) : Kr b T E (t + 1) (fi (keys T c)) := by
  refine ⟨by rw [fi_len, keys_len], fun i j hi hj => ?_⟩
  have hi' : i < (keys T c).length := by rw [keys_len]; exact hi
  have hj' : j < (keys T c).length := by rw [keys_len]; exact hj
  rw [fi_ker hi' hj', keys_get, keys_get, Prod.mk.injEq, h.k i j hi hj, eql_succ M.fu]
  refine and_congr_right fun _ => ⟨fun e l hl => ?_, fun e => ?_⟩
  · exact (h.k _ _ (step_lt M.wf M.fu hi hl) (step_lt M.wf M.fu hj hl)).mp (rows_map M.fu hi hj hl e)
  · exact map_rows M.fu hi hj fun l hl => (h.k _ _ (step_lt M.wf M.fu hi hl) (step_lt M.wf M.fu hj hl)).mpr (e l hl)
theorem Nr_still (M : Ma b T E) {R t : Nat} (h : IsR T E R) (ht : R ≤ t) : Nr T E (t + 1) = Nr T E t := by
  have k : ∀ t, R ≤ t → ∀ i j, i < T.length → j < T.length → (EqL b T E t i j ↔ Eqv b T E i j) := fun t ht i j hi hj =>
    ⟨fun g => stab_eq M.wf M.fu M.he h.s hi hj fun w hw hl => g w (by omega) hl, fun g w _ hl => g w hl⟩
  have : Kr b T E t (rs T E (t + 1)) := ⟨rs_len M.wf M.he _, fun i j hi hj => by
    rw [rs_iff M.wf M.fu M.he (t + 1) i j hi hj, k (t + 1) (by omega) i j hi hj, k t ht i j hi hj]⟩
  exact this.count M
theorem Nr_test (M : Ma b T E) {R t : Nat} (h : IsR T E R) : decide (Nr T E t < Nr T E (t + 1)) = decide (t < R) := by
  by_cases ht : t < R
  · rw [decide_eq_true ht, decide_eq_true (h.u t ht)]
  · rw [decide_eq_false ht, decide_eq_false (by rw [Nr_still M h (by omega)]; omega)]
/-! ### rows of ends -/
def rw1 (T : List (List Nat)) (E : List Bool) (ws : List (List Nat)) (s : Nat) : List Bool := ws.map fun w => atB E (behF T s w)
def rws (T : List (List Nat)) (E : List Bool) (ws : List (List Nat)) : List (List Bool) := (List.range T.length).map (rw1 T E ws)
theorem rws_len {ws : List (List Nat)} : (rws T E ws).length = T.length := by simp [rws]
theorem rw1_iff (M : Ma b T E) {m : Nat} (hm : T.length ≤ m) {i j : Nat} (hi : i < T.length) (hj : j < T.length) : rw1 T E (alls b m) i = rw1 T E (alls b m) j ↔ Eqv b T E i j := by
  obtain ⟨L, rfl⟩ : ∃ L, m = L + 1 := ⟨m - 1, by have := M.wf.1; omega⟩
  rw [← moore M.wf M.fu M.he hm hi hj]
  unfold rw1
  rw [List.map_inj_left]
  exact ⟨fun h w hw hl => h w (alls_mem.mpr ⟨by omega, hl⟩), fun h w hw => h w (by have := (alls_mem.mp hw).1; omega) (alls_mem.mp hw).2⟩
theorem rws_iff (M : Ma b T E) {m : Nat} (hm : T.length ≤ m) {i j : Nat} (hi : i < T.length) (hj : j < T.length) : (rws T E (alls b m))[i]'(by rw [rws_len]; exact hi) = (rws T E (alls b m))[j]'(by rw [rws_len]; exact hj) ↔ Eqv b T E i j := by
  rw [← rw1_iff M hm hi hj]; simp [rws]
theorem rws_fi (M : Ma b T E) (D : Done T E C) {m : Nat} (hm : T.length ≤ m) : fi (rws T E (alls b m)) = rep C := by
  have hl : (rws T E (alls b m)).length = C.length := by rw [rws_len, D.len]
  show _ = fi C
  refine fi_eq hl fun i j hi hj => ?_
  have hi' : i < T.length := by rw [rws_len] at hi; exact hi
  have hj' : j < T.length := by rw [rws_len] at hj; exact hj
  rw [rws_iff M hm hi' hj', ← done_iff M.wf M.fu D hi' hj', at0_get, at0_get]
theorem rws_count (I : InOrd T b) (M : Ma b T E) (H : Lea b L F) (S : Same b T E L F) {m : Nat} (hm : T.length ≤ m) : (firsts (rws T E (alls b m))).length = L.length :=
  lea_len I M H S rws_len fun i j hi hj => rws_iff M hm hi hj
/-! ### maps that go along -/
def jk (T : List (List Nat)) (E : List Bool) (L : List (List Nat)) (F : List Bool) (Q : List Nat) (k : Nat) : Bool := decide (atB E k = atB F (at0 Q k)) && decide ((row T k).map (at0 Q) = row L (at0 Q k))
def jq (T : List (List Nat)) (E : List Bool) (L : List (List Nat)) (F : List Bool) (Q : List Nat) : Bool := decide (at0 Q 0 = 0) && (List.range T.length).all (jk T E L F Q)
def nuL (b : Nat) (T L : List (List Nat)) : List Nat := (List.range T.length).map (nu b T L)
theorem nuL_at {s : Nat} (hs : s < T.length) : at0 (nuL b T L) s = nu b T L s := by simp [nuL, at0, hs]
theorem nuL_jq (I : InOrd T b) (M : Ma b T E) (H : Lea b L F) (S : Same b T E L F) : jq T E L F (nuL b T L) = true := by
  unfold jq
  rw [Bool.and_eq_true]
  refine ⟨decide_eq_true ?_, List.all_eq_true.mpr fun k hk => ?_⟩
  · rw [nuL_at M.wf.1]; exact nu_zero I M H S
  · have hk' := List.mem_range.mp hk
    unfold jk
    rw [Bool.and_eq_true, nuL_at hk']
    refine ⟨decide_eq_true (nu_end I S hk').symm, decide_eq_true ?_⟩
    rw [nu_row I M H S hk']
    exact List.map_congr_left fun x hx => nuL_at (row_lt M.wf hx)
end
end K06
namespace K06
open PySem PF
def d_order_of_states : Fd := { name := Str.ofString "order_of_states", ps := 1, n := 5, keep := [0], body := [.set 1 (.lst [(.int 0)]), .set 2 (.sdsp (.int 0)), .set 3 (.int 0), .whl (.cmp .lt (.var 3) (.blt .len [(.var 1)])) [.for (.nm 4) (.idx (.idx (.var 0) (.int 1)) (.idx (.var 1) (.var 3))) [.ite (.cmp .notin (.var 4) (.var 2)) [.expr (.mut .add 2 [(.var 4)]), .expr (.mut .append 1 [(.var 4)])] []], .aug .add 3 (.int 1)], .ret (.blt .tuple [(.var 1)])] }
def d_numbers_by : Fd := { name := Str.ofString "numbers_by", ps := 2, n := 4, keep := [0, 1], body := [.set 2 (.bin .mul (.lst [(.int 0)]) (.var 1)), .for (.nm 3) (.rng [(.blt .len [(.var 0)])]) [.sub 2 (.idx (.var 0) (.var 3)) (.var 3)], .ret (.var 2)] }
def d_machine_in_order : Fd := { name := Str.ofString "machine_in_order", ps := 1, n := 9, keep := [0], body := [.unp [1, 2, 3] (.var 0), .set 4 (.call (Str.ofString "order_of_states") [(.var 0)]), .set 5 (.call (Str.ofString "numbers_by") [(.var 4), (.blt .len [(.var 2)])]), .set 6 (.blt .tuple [(.lc [7] (.nm 7) (.var 4) [] (.blt .tuple [(.lc [8] (.nm 8) (.idx (.var 2) (.var 7)) [] (.idx (.var 5) (.var 8)))]))]), .ret (.tup [(.var 1), (.var 6), (.blt .tuple [(.lc [7] (.nm 7) (.var 4) [] (.idx (.var 3) (.var 7)))])])] }
def d_is_in_order : Fd := { name := Str.ofString "is_in_order", ps := 1, n := 1, keep := [0], body := [.ret (.cmp .eq (.call (Str.ofString "order_of_states") [(.var 0)]) (.lrng true [(.blt .len [(.idx (.var 0) (.int 1))])]))] }
def d_classes_by : Fd := { name := Str.ofString "classes_by", ps := 1, n := 4, keep := [0], body := [.set 1 .dnew, .set 2 (.lst []), .for (.nm 3) (.var 0) [.ite (.cmp .notin (.var 3) (.var 1)) [.sub 1 (.var 3) (.blt .len [(.var 1)])] [], .expr (.mut .append 2 [(.idx (.var 1) (.var 3))])], .ret (.var 2)] }
def d_parted_classes : Fd := { name := Str.ofString "parted_classes", ps := 2, n := 7, keep := [0, 1], body := [.set 2 (.call (Str.ofString "classes_by") [(.var 1)]), .set 3 (.int 0), .whl (.cmp .gt (.blt .len [(.blt .set [(.var 2)])]) (.var 3)) [.set 3 (.blt .len [(.blt .set [(.var 2)])]), .set 4 (.lc [5] (.nm 5) (.rng [(.blt .len [(.var 0)])]) [] (.tup [(.idx (.var 2) (.var 5)), (.blt .tuple [(.lc [6] (.nm 6) (.idx (.var 0) (.var 5)) [] (.idx (.var 2) (.var 6)))])])), .set 2 (.call (Str.ofString "classes_by") [(.var 4)])], .ret (.var 2)] }
def d_state_classes : Fd := { name := Str.ofString "state_classes", ps := 1, n := 3, keep := [0], body := [.set 1 (.call (Str.ofString "parted_classes") [(.idx (.var 0) (.int 1)), (.idx (.var 0) (.int 2))]), .ret (.blt .tuple [(.lc [2] (.nm 2) (.var 1) [] (.mth .index (.var 1) [(.var 2)]))])] }
def d_with_states_joined : Fd := { name := Str.ofString "with_states_joined", ps := 2, n := 8, keep := [0, 1], body := [.unp [2, 3, 4] (.var 0), .set 5 (.blt .tuple [(.lc [6] (.nm 6) (.var 3) [] (.blt .tuple [(.lc [7] (.nm 7) (.var 6) [] (.idx (.var 1) (.var 7)))]))]), .ret (.call (Str.ofString "machine_in_order") [(.tup [(.var 2), (.var 5), (.var 4)])])] }
def d_least_machine : Fd := { name := Str.ofString "least_machine", ps := 1, n := 2, keep := [0], body := [.set 1 (.call (Str.ofString "machine_in_order") [(.var 0)]), .ret (.call (Str.ofString "with_states_joined") [(.var 1), (.call (Str.ofString "state_classes") [(.var 1)])])] }
def d_is_least_machine : Fd := { name := Str.ofString "is_least_machine", ps := 1, n := 1, keep := [0], body := [.ret (.and [(.call (Str.ofString "is_in_order") [(.var 0)]), (.cmp .eq (.call (Str.ofString "state_classes") [(.var 0)]) (.lrng true [(.blt .len [(.idx (.var 0) (.int 1))])]))])] }
def d_least_size : Fd := { name := Str.ofString "least_size", ps := 1, n := 1, keep := [0], body := [.ret (.blt .len [(.idx (.call (Str.ofString "least_machine") [(.var 0)]) (.int 1))])] }
def d_map_to_least : Fd := { name := Str.ofString "map_to_least", ps := 1, n := 5, keep := [0], body := [.set 1 (.call (Str.ofString "least_machine") [(.var 0)]), .set 2 (.dsp1 (.int 0) (.int 0)), .for (.nm 3) (.rng [(.blt .len [(.idx (.var 0) (.int 1))])]) [.for (.nm 4) (.rng [(.blt .len [(.idx (.idx (.var 0) (.int 1)) (.var 3))])]) [.sub 2 (.idx (.idx (.idx (.var 0) (.int 1)) (.var 3)) (.var 4)) (.idx (.idx (.idx (.var 1) (.int 1)) (.idx (.var 2) (.var 3))) (.var 4))]], .ret (.blt .tuple [(.lc [3] (.nm 3) (.rng [(.blt .len [(.idx (.var 0) (.int 1))])]) [] (.idx (.var 2) (.var 3)))])] }
def d_is_map_at : Fd := { name := Str.ofString "is_map_at", ps := 4, n := 6, keep := [0, 1, 2, 3], body := [.set 4 (.idx (.var 2) (.var 3)), .ite (.cmp .ne (.idx (.idx (.var 0) (.int 2)) (.var 3)) (.idx (.idx (.var 1) (.int 2)) (.var 4))) [.ret (.bl false)] [], .ret (.cmp .eq (.blt .tuple [(.lc [5] (.nm 5) (.idx (.idx (.var 0) (.int 1)) (.var 3)) [] (.idx (.var 2) (.var 5)))]) (.idx (.idx (.var 1) (.int 1)) (.var 4)))] }
def d_judge_map : Fd := { name := Str.ofString "judge_map", ps := 3, n := 5, keep := [0, 1, 2], body := [.ite (.or [(.cmp .ne (.blt .len [(.var 2)]) (.blt .len [(.idx (.var 0) (.int 1))])), (.not (.blt .all [(.lc [3] (.nm 3) (.var 2) [] (.chain .le .lt (.int 0) (.var 3) (.blt .len [(.idx (.var 1) (.int 1))])))]))]) [.ret (.bl false)] [], .ret (.and [(.cmp .eq (.idx (.var 2) (.int 0)) (.int 0)), (.blt .all [(.lc [4] (.nm 4) (.rng [(.blt .len [(.var 2)])]) [] (.call (Str.ofString "is_map_at") [(.var 0), (.var 1), (.var 2), (.var 4)]))])])] }
def d_rounds_to_part : Fd := { name := Str.ofString "rounds_to_part", ps := 1, n := 8, keep := [0], body := [.unp [1, 2] (.tup [(.idx (.var 0) (.int 1)), (.idx (.var 0) (.int 2))]), .set 3 (.call (Str.ofString "classes_by") [(.var 2)]), .set 4 (.neg (.int 1)), .set 5 (.int 0), .whl (.cmp .gt (.blt .len [(.blt .set [(.var 3)])]) (.var 5)) [.set 5 (.blt .len [(.blt .set [(.var 3)])]), .set 3 (.call (Str.ofString "classes_by") [(.lc [6] (.nm 6) (.rng [(.blt .len [(.var 1)])]) [] (.tup [(.idx (.var 3) (.var 6)), (.blt .tuple [(.lc [7] (.nm 7) (.idx (.var 1) (.var 6)) [] (.idx (.var 3) (.var 7)))])]))]), .aug .add 4 (.int 1)], .ret (.var 4)] }
def d_state_from : Fd := { name := Str.ofString "state_from", ps := 3, n := 4, keep := [0, 2], body := [.for (.nm 3) (.var 2) [.set 1 (.idx (.idx (.idx (.var 0) (.int 1)) (.var 1)) (.var 3))], .ret (.var 1)] }
def d_state_behind : Fd := { name := Str.ofString "state_behind", ps := 2, n := 2, keep := [0, 1], body := [.ret (.call (Str.ofString "state_from") [(.var 0), (.int 0), (.var 1)])] }
def d_takes_word : Fd := { name := Str.ofString "takes_word", ps := 2, n := 2, keep := [0, 1], body := [.ret (.idx (.idx (.var 0) (.int 2)) (.call (Str.ofString "state_behind") [(.var 0), (.var 1)]))] }
def d__law_draws : Fd := { name := Str.ofString "_law_draws", ps := 2, n := 9, keep := [0, 1], body := [.set 2 (.lc [3] (.nm 3) (.var 0) [] (.blt .int [(.var 3)])), .ite (.cmp .eq (.blt .len [(.var 2)]) (.int 0)) [.expr (.mut .append 2 [(.int 0)])] [], .set 4 (.blt .list [(.var 2)]), .set 5 (.lst []), .for (.nm 6) (.rng [(.var 1)]) [.set 7 (.bin .mod (.var 6) (.blt .len [(.var 2)])), .ite (.and [(.cmp .ge (.idx (.var 2) (.var 7)) (.bin .pow (.int 10) (.int 18))), (.cmp .gt (.idx (.var 4) (.var 7)) (.int 0))]) [.expr (.mut .append 5 [(.bin .mod (.blt .int [(.idx (.var 4) (.var 7))]) (.int 1000))]), .sub 4 (.var 7) (.bin .fdiv (.idx (.var 4) (.var 7)) (.int 1000))] [.set 8 (.bin .mod (.blt .int [(.bin .add (.bin .add (.bin .mul (.idx (.var 2) (.var 7)) (.int 48271)) (.bin .mul (.var 6) (.int 69621))) (.int 11))]) (.int 2147483647)), .expr (.mut .append 5 [(.bin .mod (.blt .int [(.bin .add (.bin .add (.bin .mul (.var 8) (.var 8)) (.bin .mul (.int 3) (.var 8))) (.var 6))]) (.int 1000003))])]], .expr (.mut .reverse 5 []), .ret (.var 5)] }
def d__law_take : Fd := { name := Str.ofString "_law_take", ps := 2, n := 2, keep := [0, 1], body := [.ite (.cmp .eq (.blt .len [(.var 0)]) (.int 0)) [.ret (.int 0)] [], .ret (.bin .mod (.blt .int [(.mut .pop 0 [])]) (.var 1))] }
def d__law_cell : Fd := { name := Str.ofString "_law_cell", ps := 1, n := 2, keep := [0], body := [.ite (.cmp .eq (.blt .len [(.var 0)]) (.int 0)) [.ret (.int 0)] [], .set 1 (.blt .int [(.idx (.var 0) (.bin .mod (.bin .mod (.blt .int [(.bin .sub (.blt .len [(.var 0)]) (.int 1))]) (.int 7)) (.blt .len [(.var 0)])))]), .ite (.cmp .lt (.var 1) (.int 0)) [.ret (.neg (.bin .mod (.blt .int [(.neg (.var 1))]) (.bin .pow (.int 10) (.int 60))))] [], .ret (.bin .mod (.blt .int [(.var 1)]) (.bin .pow (.int 10) (.int 60)))] }
def d__law_same : Fd := { name := Str.ofString "_law_same", ps := 2, n := 3, keep := [0, 1], body := [.ite (.isi (.var 1) .bool) [.ret (.and [(.isi (.var 0) .bool), (.cmp .eq (.var 0) (.var 1))])] [], .ite (.isi (.var 1) .int) [.ret (.and [(.isi (.var 0) .int), (.not (.isi (.var 0) .bool)), (.cmp .eq (.var 0) (.var 1))])] [], .ite (.isi (.var 1) .str) [.ret (.and [(.isi (.var 0) .str), (.cmp .eq (.var 0) (.var 1))])] [], .ite (.cmp .is (.var 1) .non) [.ret (.cmp .is (.var 0) .non)] [], .ite (.or [(.not (.isi (.var 0) .tuple)), (.cmp .ne (.blt .len [(.var 0)]) (.blt .len [(.var 1)]))]) [.ret (.bl false)] [], .for (.nm 2) (.rng [(.blt .len [(.var 1)])]) [.ite (.not (.call (Str.ofString "_law_same") [(.idx (.var 0) (.var 2)), (.idx (.var 1) (.var 2))])) [.ret (.bl false)] []], .ret (.bl true)] }
def d__law_behind : Fd := { name := Str.ofString "_law_behind", ps := 2, n := 4, keep := [0, 1], body := [.set 2 (.int 0), .for (.nm 3) (.var 1) [.set 2 (.idx (.idx (.idx (.var 0) (.int 1)) (.var 2)) (.var 3))], .ret (.var 2)] }
def d__law_takes : Fd := { name := Str.ofString "_law_takes", ps := 2, n := 2, keep := [0, 1], body := [.ret (.idx (.idx (.var 0) (.int 2)) (.call (Str.ofString "_law_behind") [(.var 0), (.var 1)]))] }
def d__law_machine : Fd := { name := Str.ofString "_law_machine", ps := 3, n := 6, keep := [0, 1, 2], body := [.set 3 (.lst []), .for (.nm 4) (.rng [(.var 2)]) [.expr (.mut .append 3 [(.blt .tuple [(.lc [5] (.nm 5) (.rng [(.bin .shl (.int 1) (.var 1))]) [] (.call (Str.ofString "_law_take") [(.var 0), (.var 2)]))])])], .ret (.tup [(.var 1), (.blt .tuple [(.var 3)]), (.blt .tuple [(.lc [4] (.nm 4) (.rng [(.var 2)]) [] (.cmp .eq (.call (Str.ofString "_law_take") [(.var 0), (.int 2)]) (.int 0)))])])] }
def d__law_words : Fd := { name := Str.ofString "_law_words", ps := 2, n := 8, keep := [0, 1], body := [.set 2 (.lst []), .set 3 (.lst [(.tup [])]), .for (.nm 4) (.rng [(.bin .add (.var 1) (.int 1))]) [.set 2 (.bin .add (.var 2) (.var 3)), .set 5 (.lst []), .for (.nm 6) (.var 3) [.set 5 (.bin .add (.var 5) (.lc [7] (.nm 7) (.rng [(.bin .shl (.int 1) (.var 0))]) [] (.bin .add (.var 6) (.tup [(.var 7)]))))], .set 3 (.var 5)], .ret (.var 2)] }
def d__law_doubled : Fd := { name := Str.ofString "_law_doubled", ps := 2, n := 6, keep := [0, 1], body := [.set 2 (.blt .len [(.idx (.var 1) (.int 1))]), .set 3 (.lst []), .for (.nm 4) (.rng [(.bin .mul (.int 2) (.var 2))]) [.expr (.mut .append 3 [(.blt .tuple [(.lc [5] (.nm 5) (.idx (.idx (.var 1) (.int 1)) (.bin .mod (.var 4) (.var 2))) [] (.bin .add (.var 5) (.bin .mul (.var 2) (.call (Str.ofString "_law_take") [(.var 0), (.int 2)]))))])])], .ret (.tup [(.idx (.var 1) (.int 0)), (.blt .tuple [(.var 3)]), (.bin .add (.idx (.var 1) (.int 2)) (.idx (.var 1) (.int 2)))])] }
def d__law_rows : Fd := { name := Str.ofString "_law_rows", ps := 2, n := 8, keep := [0, 1], body := [.set 2 (.lst []), .for (.nm 3) (.rng [(.blt .len [(.idx (.var 0) (.int 1))])]) [.set 4 (.lst []), .for (.nm 5) (.var 1) [.set 6 (.var 3), .for (.nm 7) (.var 5) [.set 6 (.idx (.idx (.idx (.var 0) (.int 1)) (.var 6)) (.var 7))], .expr (.mut .append 4 [(.idx (.idx (.var 0) (.int 2)) (.var 6))])], .expr (.mut .append 2 [(.var 4)])], .ret (.var 2)] }
def d__law_rounds : Fd := { name := Str.ofString "_law_rounds", ps := 1, n := 10, keep := [0], body := [.set 1 (.lc [2] (.nm 2) (.idx (.var 0) (.int 2)) [] (.blt .int [(.var 2)])), .set 3 (.int 0), .for (.nm 4) (.rng [(.blt .len [(.var 1)])]) [.set 5 (.lc [7] (.nm 7) (.rng [(.blt .len [(.var 1)])]) [] (.tup [(.idx (.var 1) (.var 7)), (.lc [9] (.nm 9) (.idx (.idx (.var 0) (.int 1)) (.var 7)) [] (.idx (.var 1) (.var 9)))])), .set 6 (.lc [8] (.nm 8) (.var 5) [] (.mth .index (.var 5) [(.var 8)])), .ite (.cmp .gt (.blt .len [(.blt .set [(.var 6)])]) (.blt .len [(.blt .set [(.var 1)])])) [.set 3 (.bin .add (.var 3) (.int 1))] [], .set 1 (.var 6)], .ret (.var 3)] }
def d__law_is_map : Fd := { name := Str.ofString "_law_is_map", ps := 3, n := 5, keep := [0, 1, 2], body := [.ite (.or [(.cmp .ne (.blt .len [(.var 2)]) (.blt .len [(.idx (.var 0) (.int 1))])), (.cmp .ne (.idx (.var 2) (.int 0)) (.int 0))]) [.ret (.bl false)] [], .for (.nm 3) (.rng [(.blt .len [(.var 2)])]) [.ite (.or [(.cmp .lt (.idx (.var 2) (.var 3)) (.int 0)), (.cmp .ge (.idx (.var 2) (.var 3)) (.blt .len [(.idx (.var 1) (.int 1))]))]) [.ret (.bl false)] []], .for (.nm 3) (.rng [(.blt .len [(.var 2)])]) [.ite (.or [(.cmp .ne (.idx (.idx (.var 0) (.int 2)) (.var 3)) (.idx (.idx (.var 1) (.int 2)) (.idx (.var 2) (.var 3)))), (.cmp .ne (.lc [4] (.nm 4) (.idx (.idx (.var 0) (.int 1)) (.var 3)) [] (.idx (.var 2) (.var 4))) (.blt .list [(.idx (.idx (.var 1) (.int 1)) (.idx (.var 2) (.var 3)))]))]) [.ret (.bl false)] []], .ret (.bl true)] }
def d__law_is_right_for : Fd := { name := Str.ofString "_law_is_right_for", ps := 4, n := 16, keep := [0, 1, 2, 3], body := [.set 4 (.call (Str.ofString "_law_rows") [(.var 1), (.var 2)]), .set 5 (.blt .tuple [(.lc [6] (.nm 6) (.var 4) [] (.mth .index (.var 4) [(.var 6)]))]), .set 7 (.call (Str.ofString "least_machine") [(.var 1)]), .ite (.or [(.not (.call (Str.ofString "_law_same") [(.call (Str.ofString "state_classes") [(.var 1)]), (.var 5)])), (.not (.call (Str.ofString "_law_same") [(.call (Str.ofString "rounds_to_part") [(.var 1)]), (.call (Str.ofString "_law_rounds") [(.var 1)])]))]) [.ret (.bl false)] [], .set 8 (.call (Str.ofString "machine_in_order") [(.var 1)]), .set 9 (.lst []), .for (.nm 10) (.rng [(.blt .len [(.idx (.var 8) (.int 1))])]) [.set 6 (.idx (.call (Str.ofString "_law_rows") [(.var 8), (.var 2)]) (.var 10)), .ite (.cmp .notin (.var 6) (.var 9)) [.expr (.mut .append 9 [(.var 6)])] []], .ite (.or [(.cmp .ne (.blt .len [(.idx (.var 7) (.int 1))]) (.blt .len [(.var 9)])), (.not (.call (Str.ofString "_law_same") [(.call (Str.ofString "machine_in_order") [(.var 7)]), (.var 7)])), (.not (.call (Str.ofString "_law_same") [(.call (Str.ofString "least_size") [(.var 1)]), (.blt .len [(.var 9)])]))]) [.ret (.bl false)] [], .ite (.or [(.not (.call (Str.ofString "_law_same") [(.call (Str.ofString "is_least_machine") [(.var 7)]), (.bl true)])), (.not (.call (Str.ofString "_law_same") [(.call (Str.ofString "is_least_machine") [(.var 1)]), (.cmp .eq (.var 1) (.var 7))])), (.not (.call (Str.ofString "_law_same") [(.call (Str.ofString "least_machine") [(.var 7)]), (.var 7)]))]) [.ret (.bl false)] [], .for (.nm 11) (.var 2) [.ite (.not (.call (Str.ofString "_law_same") [(.call (Str.ofString "takes_word") [(.var 7), (.var 11)]), (.call (Str.ofString "_law_takes") [(.var 1), (.var 11)])])) [.ret (.bl false)] []], .set 12 (.call (Str.ofString "map_to_least") [(.var 8)]), .ite (.or [(.not (.call (Str.ofString "_law_is_map") [(.var 8), (.var 7), (.var 12)])), (.not (.call (Str.ofString "_law_same") [(.call (Str.ofString "judge_map") [(.var 8), (.var 7), (.var 12)]), (.bl true)]))]) [.ret (.bl false)] [], .set 13 (.call (Str.ofString "_law_take") [(.var 0), (.blt .len [(.var 12)])]), .for (.nm 14) (.lst [(.call (Str.ofString "_law_take") [(.var 0), (.blt .len [(.idx (.var 7) (.int 1))])]), (.blt .len [(.idx (.var 7) (.int 1))]), (.neg (.int 1)), (.var 3)]) [.set 15 (.bin .add (.bin .add (.slc (.var 12) .non (.var 13)) (.tup [(.var 14)])) (.slc (.var 12) (.bin .add (.var 13) (.int 1)) .non)), .ite (.not (.call (Str.ofString "_law_same") [(.call (Str.ofString "judge_map") [(.var 8), (.var 7), (.var 15)]), (.call (Str.ofString "_law_is_map") [(.var 8), (.var 7), (.var 15)])])) [.ret (.bl false)] []], .ret (.and [(.call (Str.ofString "_law_same") [(.call (Str.ofString "judge_map") [(.var 8), (.var 7), (.slc (.var 12) (.int 1) .non)]), (.bl false)]), (.call (Str.ofString "_law_same") [(.call (Str.ofString "least_machine") [(.call (Str.ofString "_law_doubled") [(.var 0), (.var 1)])]), (.var 7)])])] }
def d_law : Fd := { name := Str.ofString "law", ps := 1, n := 8, keep := [0], body := [.set 1 (.call (Str.ofString "_law_draws") [(.var 0), (.int 220)]), .set 2 (.call (Str.ofString "_law_cell") [(.var 0)]), .for (.nm 3) (.rng [(.int 2)]) [.set 4 (.bin .add (.int 1) (.call (Str.ofString "_law_take") [(.var 1), (.int 2)])), .set 5 (.call (Str.ofString "_law_machine") [(.var 1), (.var 4), (.bin .add (.int 1) (.call (Str.ofString "_law_take") [(.var 1), (.idx (.lst [(.int 6), (.int 4)]) (.bin .sub (.var 4) (.int 1)))]))]), .ite (.not (.call (Str.ofString "_law_is_right_for") [(.var 1), (.var 5), (.call (Str.ofString "_law_words") [(.var 4), (.idx (.lst [(.int 5), (.int 3)]) (.bin .sub (.var 4) (.int 1)))]), (.var 2)])) [.ret (.bl false)] []], .set 6 (.tup [(.int 1), (.tup [(.tup [(.int 3), (.int 1)]), (.tup [(.int 4), (.int 0)]), (.tup [(.int 2), (.int 2)]), (.tup [(.int 0), (.int 4)]), (.tup [(.int 1), (.int 3)]), (.tup [(.int 0), (.int 1)])]), (.tup [(.bl true), (.bl false), (.bl true), (.bl true), (.bl false), (.bl true)])]), .ite (.or [(.not (.call (Str.ofString "_law_same") [(.call (Str.ofString "state_classes") [(.var 6)]), (.tup [(.int 0), (.int 1), (.int 2), (.int 0), (.int 1), (.int 0)])])), (.not (.call (Str.ofString "_law_same") [(.call (Str.ofString "least_machine") [(.var 6)]), (.tup [(.int 1), (.tup [(.tup [(.int 0), (.int 1)]), (.tup [(.int 1), (.int 0)])]), (.tup [(.bl true), (.bl false)])])]))]) [.ret (.bl false)] [], .ite (.or [(.not (.call (Str.ofString "_law_same") [(.call (Str.ofString "map_to_least") [(.tup [(.int 1), (.tup [(.tup [(.int 1), (.int 2)]), (.tup [(.int 0), (.int 3)]), (.tup [(.int 3), (.int 0)]), (.tup [(.int 2), (.int 1)])]), (.tup [(.bl true), (.bl true), (.bl false), (.bl false)])])]), (.tup [(.int 0), (.int 0), (.int 1), (.int 1)])])), (.not (.call (Str.ofString "_law_same") [(.call (Str.ofString "rounds_to_part") [(.var 6)]), (.int 1)]))]) [.ret (.bl false)] [], .set 7 (.tup [(.int 1), (.tup [(.tup [(.int 1), (.int 0)]), (.tup [(.int 2), (.int 0)]), (.tup [(.int 3), (.int 0)]), (.tup [(.int 3), (.int 0)])]), (.tup [(.bl false), (.bl false), (.bl false), (.bl true)])]), .ret (.and [(.call (Str.ofString "_law_same") [(.call (Str.ofString "rounds_to_part") [(.var 7)]), (.int 2)]), (.call (Str.ofString "_law_same") [(.call (Str.ofString "is_least_machine") [(.var 7)]), (.bl true)]), (.call (Str.ofString "_law_is_right_for") [(.var 1), (.var 6), (.call (Str.ofString "_law_words") [(.int 1), (.int 5)]), (.var 2)])])] }
def prog : List Fd := [d_order_of_states, d_numbers_by, d_machine_in_order, d_is_in_order, d_classes_by, d_parted_classes, d_state_classes, d_with_states_joined, d_least_machine, d_is_least_machine, d_least_size, d_map_to_least, d_is_map_at, d_judge_map, d_rounds_to_part, d_state_from, d_state_behind, d_takes_word, d__law_draws, d__law_take, d__law_cell, d__law_same, d__law_behind, d__law_takes, d__law_machine, d__law_words, d__law_doubled, d__law_rows, d__law_rounds, d__law_is_map, d__law_is_right_for, d_law]
theorem f_order_of_states : prog.find? (fun d => d.name == Str.ofString "order_of_states") = some d_order_of_states := by rfl
theorem c_order_of_states {W k : Nat} {x0 : Slot} {o : Opd} {fs : List Slot} (hb : Goes (callL prog W k) W [.set 1 (.lst [(.int 0)]), .set 2 (.sdsp (.int 0)), .set 3 (.int 0), .whl (.cmp .lt (.var 3) (.blt .len [(.var 1)])) [.for (.nm 4) (.idx (.idx (.var 0) (.int 1)) (.idx (.var 1) (.var 3))) [.ite (.cmp .notin (.var 4) (.var 2)) [.expr (.mut .add 2 [(.var 4)]), .expr (.mut .append 1 [(.var 4)])] []], .aug .add 3 (.int 1)], .ret (.blt .tuple [(.var 1)])] [x0, .un, .un, .un, .un] (fun r => outR d_order_of_states r = some (o, fs))) : callL prog W (k + 1) (Str.ofString "order_of_states") [x0] = some (o, fs) := callL_eq d_order_of_states f_order_of_states rfl hb
theorem e_order_of_states {W k : Nat} {x0 : Slot} {Ψ : Opd → List Slot → Prop} (hb : Goes (callL prog W k) W [.set 1 (.lst [(.int 0)]), .set 2 (.sdsp (.int 0)), .set 3 (.int 0), .whl (.cmp .lt (.var 3) (.blt .len [(.var 1)])) [.for (.nm 4) (.idx (.idx (.var 0) (.int 1)) (.idx (.var 1) (.var 3))) [.ite (.cmp .notin (.var 4) (.var 2)) [.expr (.mut .add 2 [(.var 4)]), .expr (.mut .append 1 [(.var 4)])] []], .aug .add 3 (.int 1)], .ret (.blt .tuple [(.var 1)])] [x0, .un, .un, .un, .un] (fun r => match outR d_order_of_states r with | some (o, fs) => Ψ o fs | none => False)) : ∃ o fs, callL prog W (k + 1) (Str.ofString "order_of_states") [x0] = some (o, fs) ∧ Ψ o fs := callL_at d_order_of_states f_order_of_states rfl hb
theorem f_numbers_by : prog.find? (fun d => d.name == Str.ofString "numbers_by") = some d_numbers_by := by rfl
theorem c_numbers_by {W k : Nat} {x0 x1 : Slot} {o : Opd} {fs : List Slot} (hb : Goes (callL prog W k) W [.set 2 (.bin .mul (.lst [(.int 0)]) (.var 1)), .for (.nm 3) (.rng [(.blt .len [(.var 0)])]) [.sub 2 (.idx (.var 0) (.var 3)) (.var 3)], .ret (.var 2)] [x0, x1, .un, .un] (fun r => outR d_numbers_by r = some (o, fs))) : callL prog W (k + 1) (Str.ofString "numbers_by") [x0, x1] = some (o, fs) := callL_eq d_numbers_by f_numbers_by rfl hb
theorem e_numbers_by {W k : Nat} {x0 x1 : Slot} {Ψ : Opd → List Slot → Prop} (hb : Goes (callL prog W k) W [.set 2 (.bin .mul (.lst [(.int 0)]) (.var 1)), .for (.nm 3) (.rng [(.blt .len [(.var 0)])]) [.sub 2 (.idx (.var 0) (.var 3)) (.var 3)], .ret (.var 2)] [x0, x1, .un, .un] (fun r => match outR d_numbers_by r with | some (o, fs) => Ψ o fs | none => False)) : ∃ o fs, callL prog W (k + 1) (Str.ofString "numbers_by") [x0, x1] = some (o, fs) ∧ Ψ o fs := callL_at d_numbers_by f_numbers_by rfl hb
theorem f_machine_in_order : prog.find? (fun d => d.name == Str.ofString "machine_in_order") = some d_machine_in_order := by rfl
theorem c_machine_in_order {W k : Nat} {x0 : Slot} {o : Opd} {fs : List Slot} (hb : Goes (callL prog W k) W [.unp [1, 2, 3] (.var 0), .set 4 (.call (Str.ofString "order_of_states") [(.var 0)]), .set 5 (.call (Str.ofString "numbers_by") [(.var 4), (.blt .len [(.var 2)])]), .set 6 (.blt .tuple [(.lc [7] (.nm 7) (.var 4) [] (.blt .tuple [(.lc [8] (.nm 8) (.idx (.var 2) (.var 7)) [] (.idx (.var 5) (.var 8)))]))]), .ret (.tup [(.var 1), (.var 6), (.blt .tuple [(.lc [7] (.nm 7) (.var 4) [] (.idx (.var 3) (.var 7)))])])] [x0, .un, .un, .un, .un, .un, .un, .un, .un] (fun r => outR d_machine_in_order r = some (o, fs))) : callL prog W (k + 1) (Str.ofString "machine_in_order") [x0] = some (o, fs) := callL_eq d_machine_in_order f_machine_in_order rfl hb
theorem e_machine_in_order {W k : Nat} {x0 : Slot} {Ψ : Opd → List Slot → Prop} (hb : Goes (callL prog W k) W [.unp [1, 2, 3] (.var 0), .set 4 (.call (Str.ofString "order_of_states") [(.var 0)]), .set 5 (.call (Str.ofString "numbers_by") [(.var 4), (.blt .len [(.var 2)])]), .set 6 (.blt .tuple [(.lc [7] (.nm 7) (.var 4) [] (.blt .tuple [(.lc [8] (.nm 8) (.idx (.var 2) (.var 7)) [] (.idx (.var 5) (.var 8)))]))]), .ret (.tup [(.var 1), (.var 6), (.blt .tuple [(.lc [7] (.nm 7) (.var 4) [] (.idx (.var 3) (.var 7)))])])] [x0, .un, .un, .un, .un, .un, .un, .un, .un] (fun r => match outR d_machine_in_order r with | some (o, fs) => Ψ o fs | none => False)) : ∃ o fs, callL prog W (k + 1) (Str.ofString "machine_in_order") [x0] = some (o, fs) ∧ Ψ o fs := callL_at d_machine_in_order f_machine_in_order rfl hb
theorem f_is_in_order : prog.find? (fun d => d.name == Str.ofString "is_in_order") = some d_is_in_order := by rfl
theorem c_is_in_order {W k : Nat} {x0 : Slot} {o : Opd} {fs : List Slot} (hb : Goes (callL prog W k) W [.ret (.cmp .eq (.call (Str.ofString "order_of_states") [(.var 0)]) (.lrng true [(.blt .len [(.idx (.var 0) (.int 1))])]))] [x0] (fun r => outR d_is_in_order r = some (o, fs))) : callL prog W (k + 1) (Str.ofString "is_in_order") [x0] = some (o, fs) := callL_eq d_is_in_order f_is_in_order rfl hb
theorem e_is_in_order {W k : Nat} {x0 : Slot} {Ψ : Opd → List Slot → Prop} (hb : Goes (callL prog W k) W [.ret (.cmp .eq (.call (Str.ofString "order_of_states") [(.var 0)]) (.lrng true [(.blt .len [(.idx (.var 0) (.int 1))])]))] [x0] (fun r => match outR d_is_in_order r with | some (o, fs) => Ψ o fs | none => False)) : ∃ o fs, callL prog W (k + 1) (Str.ofString "is_in_order") [x0] = some (o, fs) ∧ Ψ o fs := callL_at d_is_in_order f_is_in_order rfl hb
theorem f_classes_by : prog.find? (fun d => d.name == Str.ofString "classes_by") = some d_classes_by := by rfl
theorem c_classes_by {W k : Nat} {x0 : Slot} {o : Opd} {fs : List Slot} (hb : Goes (callL prog W k) W [.set 1 .dnew, .set 2 (.lst []), .for (.nm 3) (.var 0) [.ite (.cmp .notin (.var 3) (.var 1)) [.sub 1 (.var 3) (.blt .len [(.var 1)])] [], .expr (.mut .append 2 [(.idx (.var 1) (.var 3))])], .ret (.var 2)] [x0, .un, .un, .un] (fun r => outR d_classes_by r = some (o, fs))) : callL prog W (k + 1) (Str.ofString "classes_by") [x0] = some (o, fs) := callL_eq d_classes_by f_classes_by rfl hb
theorem e_classes_by {W k : Nat} {x0 : Slot} {Ψ : Opd → List Slot → Prop} (hb : Goes (callL prog W k) W [.set 1 .dnew, .set 2 (.lst []), .for (.nm 3) (.var 0) [.ite (.cmp .notin (.var 3) (.var 1)) [.sub 1 (.var 3) (.blt .len [(.var 1)])] [], .expr (.mut .append 2 [(.idx (.var 1) (.var 3))])], .ret (.var 2)] [x0, .un, .un, .un] (fun r => match outR d_classes_by r with | some (o, fs) => Ψ o fs | none => False)) : ∃ o fs, callL prog W (k + 1) (Str.ofString "classes_by") [x0] = some (o, fs) ∧ Ψ o fs := callL_at d_classes_by f_classes_by rfl hb
theorem f_parted_classes : prog.find? (fun d => d.name == Str.ofString "parted_classes") = some d_parted_classes := by rfl
theorem c_parted_classes {W k : Nat} {x0 x1 : Slot} {o : Opd} {fs : List Slot} (hb : Goes (callL prog W k) W [.set 2 (.call (Str.ofString "classes_by") [(.var 1)]), .set 3 (.int 0), .whl (.cmp .gt (.blt .len [(.blt .set [(.var 2)])]) (.var 3)) [.set 3 (.blt .len [(.blt .set [(.var 2)])]), .set 4 (.lc [5] (.nm 5) (.rng [(.blt .len [(.var 0)])]) [] (.tup [(.idx (.var 2) (.var 5)), (.blt .tuple [(.lc [6] (.nm 6) (.idx (.var 0) (.var 5)) [] (.idx (.var 2) (.var 6)))])])), .set 2 (.call (Str.ofString "classes_by") [(.var 4)])], .ret (.var 2)] [x0, x1, .un, .un, .un, .un, .un] (fun r => outR d_parted_classes r = some (o, fs))) : callL prog W (k + 1) (Str.ofString "parted_classes") [x0, x1] = some (o, fs) := callL_eq d_parted_classes f_parted_classes rfl hb
theorem e_parted_classes {W k : Nat} {x0 x1 : Slot} {Ψ : Opd → List Slot → Prop} (hb : Goes (callL prog W k) W [.set 2 (.call (Str.ofString "classes_by") [(.var 1)]), .set 3 (.int 0), .whl (.cmp .gt (.blt .len [(.blt .set [(.var 2)])]) (.var 3)) [.set 3 (.blt .len [(.blt .set [(.var 2)])]), .set 4 (.lc [5] (.nm 5) (.rng [(.blt .len [(.var 0)])]) [] (.tup [(.idx (.var 2) (.var 5)), (.blt .tuple [(.lc [6] (.nm 6) (.idx (.var 0) (.var 5)) [] (.idx (.var 2) (.var 6)))])])), .set 2 (.call (Str.ofString "classes_by") [(.var 4)])], .ret (.var 2)] [x0, x1, .un, .un, .un, .un, .un] (fun r => match outR d_parted_classes r with | some (o, fs) => Ψ o fs | none => False)) : ∃ o fs, callL prog W (k + 1) (Str.ofString "parted_classes") [x0, x1] = some (o, fs) ∧ Ψ o fs := callL_at d_parted_classes f_parted_classes rfl hb
theorem f_state_classes : prog.find? (fun d => d.name == Str.ofString "state_classes") = some d_state_classes := by rfl
theorem c_state_classes {W k : Nat} {x0 : Slot} {o : Opd} {fs : List Slot} (hb : Goes (callL prog W k) W [.set 1 (.call (Str.ofString "parted_classes") [(.idx (.var 0) (.int 1)), (.idx (.var 0) (.int 2))]), .ret (.blt .tuple [(.lc [2] (.nm 2) (.var 1) [] (.mth .index (.var 1) [(.var 2)]))])] [x0, .un, .un] (fun r => outR d_state_classes r = some (o, fs))) : callL prog W (k + 1) (Str.ofString "state_classes") [x0] = some (o, fs) := callL_eq d_state_classes f_state_classes rfl hb
theorem e_state_classes {W k : Nat} {x0 : Slot} {Ψ : Opd → List Slot → Prop} (hb : Goes (callL prog W k) W [.set 1 (.call (Str.ofString "parted_classes") [(.idx (.var 0) (.int 1)), (.idx (.var 0) (.int 2))]), .ret (.blt .tuple [(.lc [2] (.nm 2) (.var 1) [] (.mth .index (.var 1) [(.var 2)]))])] [x0, .un, .un] (fun r => match outR d_state_classes r with | some (o, fs) => Ψ o fs | none => False)) : ∃ o fs, callL prog W (k + 1) (Str.ofString "state_classes") [x0] = some (o, fs) ∧ Ψ o fs := callL_at d_state_classes f_state_classes rfl hb
theorem f_with_states_joined : prog.find? (fun d => d.name == Str.ofString "with_states_joined") = some d_with_states_joined := by rfl
theorem c_with_states_joined {W k : Nat} {x0 x1 : Slot} {o : Opd} {fs : List Slot} (hb : Goes (callL prog W k) W [.unp [2, 3, 4] (.var 0), .set 5 (.blt .tuple [(.lc [6] (.nm 6) (.var 3) [] (.blt .tuple [(.lc [7] (.nm 7) (.var 6) [] (.idx (.var 1) (.var 7)))]))]), .ret (.call (Str.ofString "machine_in_order") [(.tup [(.var 2), (.var 5), (.var 4)])])] [x0, x1, .un, .un, .un, .un, .un, .un] (fun r => outR d_with_states_joined r = some (o, fs))) : callL prog W (k + 1) (Str.ofString "with_states_joined") [x0, x1] = some (o, fs) := callL_eq d_with_states_joined f_with_states_joined rfl hb
theorem e_with_states_joined {W k : Nat} {x0 x1 : Slot} {Ψ : Opd → List Slot → Prop} (hb : Goes (callL prog W k) W [.unp [2, 3, 4] (.var 0), .set 5 (.blt .tuple [(.lc [6] (.nm 6) (.var 3) [] (.blt .tuple [(.lc [7] (.nm 7) (.var 6) [] (.idx (.var 1) (.var 7)))]))]), .ret (.call (Str.ofString "machine_in_order") [(.tup [(.var 2), (.var 5), (.var 4)])])] [x0, x1, .un, .un, .un, .un, .un, .un] (fun r => match outR d_with_states_joined r with | some (o, fs) => Ψ o fs | none => False)) : ∃ o fs, callL prog W (k + 1) (Str.ofString "with_states_joined") [x0, x1] = some (o, fs) ∧ Ψ o fs := callL_at d_with_states_joined f_with_states_joined rfl hb
theorem f_least_machine : prog.find? (fun d => d.name == Str.ofString "least_machine") = some d_least_machine := by rfl
theorem c_least_machine {W k : Nat} {x0 : Slot} {o : Opd} {fs : List Slot} (hb : Goes (callL prog W k) W [.set 1 (.call (Str.ofString "machine_in_order") [(.var 0)]), .ret (.call (Str.ofString "with_states_joined") [(.var 1), (.call (Str.ofString "state_classes") [(.var 1)])])] [x0, .un] (fun r => outR d_least_machine r = some (o, fs))) : callL prog W (k + 1) (Str.ofString "least_machine") [x0] = some (o, fs) := callL_eq d_least_machine f_least_machine rfl hb
theorem e_least_machine {W k : Nat} {x0 : Slot} {Ψ : Opd → List Slot → Prop} (hb : Goes (callL prog W k) W [.set 1 (.call (Str.ofString "machine_in_order") [(.var 0)]), .ret (.call (Str.ofString "with_states_joined") [(.var 1), (.call (Str.ofString "state_classes") [(.var 1)])])] [x0, .un] (fun r => match outR d_least_machine r with | some (o, fs) => Ψ o fs | none => False)) : ∃ o fs, callL prog W (k + 1) (Str.ofString "least_machine") [x0] = some (o, fs) ∧ Ψ o fs := callL_at d_least_machine f_least_machine rfl hb
theorem f_is_least_machine : prog.find? (fun d => d.name == Str.ofString "is_least_machine") = some d_is_least_machine := by rfl
theorem c_is_least_machine {W k : Nat} {x0 : Slot} {o : Opd} {fs : List Slot} (hb : Goes (callL prog W k) W [.ret (.and [(.call (Str.ofString "is_in_order") [(.var 0)]), (.cmp .eq (.call (Str.ofString "state_classes") [(.var 0)]) (.lrng true [(.blt .len [(.idx (.var 0) (.int 1))])]))])] [x0] (fun r => outR d_is_least_machine r = some (o, fs))) : callL prog W (k + 1) (Str.ofString "is_least_machine") [x0] = some (o, fs) := callL_eq d_is_least_machine f_is_least_machine rfl hb
theorem e_is_least_machine {W k : Nat} {x0 : Slot} {Ψ : Opd → List Slot → Prop} (hb : Goes (callL prog W k) W [.ret (.and [(.call (Str.ofString "is_in_order") [(.var 0)]), (.cmp .eq (.call (Str.ofString "state_classes") [(.var 0)]) (.lrng true [(.blt .len [(.idx (.var 0) (.int 1))])]))])] [x0] (fun r => match outR d_is_least_machine r with | some (o, fs) => Ψ o fs | none => False)) : ∃ o fs, callL prog W (k + 1) (Str.ofString "is_least_machine") [x0] = some (o, fs) ∧ Ψ o fs := callL_at d_is_least_machine f_is_least_machine rfl hb
theorem f_least_size : prog.find? (fun d => d.name == Str.ofString "least_size") = some d_least_size := by rfl
theorem c_least_size {W k : Nat} {x0 : Slot} {o : Opd} {fs : List Slot} (hb : Goes (callL prog W k) W [.ret (.blt .len [(.idx (.call (Str.ofString "least_machine") [(.var 0)]) (.int 1))])] [x0] (fun r => outR d_least_size r = some (o, fs))) : callL prog W (k + 1) (Str.ofString "least_size") [x0] = some (o, fs) := callL_eq d_least_size f_least_size rfl hb
theorem e_least_size {W k : Nat} {x0 : Slot} {Ψ : Opd → List Slot → Prop} (hb : Goes (callL prog W k) W [.ret (.blt .len [(.idx (.call (Str.ofString "least_machine") [(.var 0)]) (.int 1))])] [x0] (fun r => match outR d_least_size r with | some (o, fs) => Ψ o fs | none => False)) : ∃ o fs, callL prog W (k + 1) (Str.ofString "least_size") [x0] = some (o, fs) ∧ Ψ o fs := callL_at d_least_size f_least_size rfl hb
theorem f_map_to_least : prog.find? (fun d => d.name == Str.ofString "map_to_least") = some d_map_to_least := by rfl
theorem c_map_to_least {W k : Nat} {x0 : Slot} {o : Opd} {fs : List Slot} (hb : Goes (callL prog W k) W [.set 1 (.call (Str.ofString "least_machine") [(.var 0)]), .set 2 (.dsp1 (.int 0) (.int 0)), .for (.nm 3) (.rng [(.blt .len [(.idx (.var 0) (.int 1))])]) [.for (.nm 4) (.rng [(.blt .len [(.idx (.idx (.var 0) (.int 1)) (.var 3))])]) [.sub 2 (.idx (.idx (.idx (.var 0) (.int 1)) (.var 3)) (.var 4)) (.idx (.idx (.idx (.var 1) (.int 1)) (.idx (.var 2) (.var 3))) (.var 4))]], .ret (.blt .tuple [(.lc [3] (.nm 3) (.rng [(.blt .len [(.idx (.var 0) (.int 1))])]) [] (.idx (.var 2) (.var 3)))])] [x0, .un, .un, .un, .un] (fun r => outR d_map_to_least r = some (o, fs))) : callL prog W (k + 1) (Str.ofString "map_to_least") [x0] = some (o, fs) := callL_eq d_map_to_least f_map_to_least rfl hb
theorem e_map_to_least {W k : Nat} {x0 : Slot} {Ψ : Opd → List Slot → Prop} (hb : Goes (callL prog W k) W [.set 1 (.call (Str.ofString "least_machine") [(.var 0)]), .set 2 (.dsp1 (.int 0) (.int 0)), .for (.nm 3) (.rng [(.blt .len [(.idx (.var 0) (.int 1))])]) [.for (.nm 4) (.rng [(.blt .len [(.idx (.idx (.var 0) (.int 1)) (.var 3))])]) [.sub 2 (.idx (.idx (.idx (.var 0) (.int 1)) (.var 3)) (.var 4)) (.idx (.idx (.idx (.var 1) (.int 1)) (.idx (.var 2) (.var 3))) (.var 4))]], .ret (.blt .tuple [(.lc [3] (.nm 3) (.rng [(.blt .len [(.idx (.var 0) (.int 1))])]) [] (.idx (.var 2) (.var 3)))])] [x0, .un, .un, .un, .un] (fun r => match outR d_map_to_least r with | some (o, fs) => Ψ o fs | none => False)) : ∃ o fs, callL prog W (k + 1) (Str.ofString "map_to_least") [x0] = some (o, fs) ∧ Ψ o fs := callL_at d_map_to_least f_map_to_least rfl hb
theorem f_is_map_at : prog.find? (fun d => d.name == Str.ofString "is_map_at") = some d_is_map_at := by rfl
theorem c_is_map_at {W k : Nat} {x0 x1 x2 x3 : Slot} {o : Opd} {fs : List Slot} (hb : Goes (callL prog W k) W [.set 4 (.idx (.var 2) (.var 3)), .ite (.cmp .ne (.idx (.idx (.var 0) (.int 2)) (.var 3)) (.idx (.idx (.var 1) (.int 2)) (.var 4))) [.ret (.bl false)] [], .ret (.cmp .eq (.blt .tuple [(.lc [5] (.nm 5) (.idx (.idx (.var 0) (.int 1)) (.var 3)) [] (.idx (.var 2) (.var 5)))]) (.idx (.idx (.var 1) (.int 1)) (.var 4)))] [x0, x1, x2, x3, .un, .un] (fun r => outR d_is_map_at r = some (o, fs))) : callL prog W (k + 1) (Str.ofString "is_map_at") [x0, x1, x2, x3] = some (o, fs) := callL_eq d_is_map_at f_is_map_at rfl hb
theorem e_is_map_at {W k : Nat} {x0 x1 x2 x3 : Slot} {Ψ : Opd → List Slot → Prop} (hb : Goes (callL prog W k) W [.set 4 (.idx (.var 2) (.var 3)), .ite (.cmp .ne (.idx (.idx (.var 0) (.int 2)) (.var 3)) (.idx (.idx (.var 1) (.int 2)) (.var 4))) [.ret (.bl false)] [], .ret (.cmp .eq (.blt .tuple [(.lc [5] (.nm 5) (.idx (.idx (.var 0) (.int 1)) (.var 3)) [] (.idx (.var 2) (.var 5)))]) (.idx (.idx (.var 1) (.int 1)) (.var 4)))] [x0, x1, x2, x3, .un, .un] (fun r => match outR d_is_map_at r with | some (o, fs) => Ψ o fs | none => False)) : ∃ o fs, callL prog W (k + 1) (Str.ofString "is_map_at") [x0, x1, x2, x3] = some (o, fs) ∧ Ψ o fs := callL_at d_is_map_at f_is_map_at rfl hb
theorem f_judge_map : prog.find? (fun d => d.name == Str.ofString "judge_map") = some d_judge_map := by rfl
theorem c_judge_map {W k : Nat} {x0 x1 x2 : Slot} {o : Opd} {fs : List Slot} (hb : Goes (callL prog W k) W [.ite (.or [(.cmp .ne (.blt .len [(.var 2)]) (.blt .len [(.idx (.var 0) (.int 1))])), (.not (.blt .all [(.lc [3] (.nm 3) (.var 2) [] (.chain .le .lt (.int 0) (.var 3) (.blt .len [(.idx (.var 1) (.int 1))])))]))]) [.ret (.bl false)] [], .ret (.and [(.cmp .eq (.idx (.var 2) (.int 0)) (.int 0)), (.blt .all [(.lc [4] (.nm 4) (.rng [(.blt .len [(.var 2)])]) [] (.call (Str.ofString "is_map_at") [(.var 0), (.var 1), (.var 2), (.var 4)]))])])] [x0, x1, x2, .un, .un] (fun r => outR d_judge_map r = some (o, fs))) : callL prog W (k + 1) (Str.ofString "judge_map") [x0, x1, x2] = some (o, fs) := callL_eq d_judge_map f_judge_map rfl hb
theorem e_judge_map {W k : Nat} {x0 x1 x2 : Slot} {Ψ : Opd → List Slot → Prop} (hb : Goes (callL prog W k) W [.ite (.or [(.cmp .ne (.blt .len [(.var 2)]) (.blt .len [(.idx (.var 0) (.int 1))])), (.not (.blt .all [(.lc [3] (.nm 3) (.var 2) [] (.chain .le .lt (.int 0) (.var 3) (.blt .len [(.idx (.var 1) (.int 1))])))]))]) [.ret (.bl false)] [], .ret (.and [(.cmp .eq (.idx (.var 2) (.int 0)) (.int 0)), (.blt .all [(.lc [4] (.nm 4) (.rng [(.blt .len [(.var 2)])]) [] (.call (Str.ofString "is_map_at") [(.var 0), (.var 1), (.var 2), (.var 4)]))])])] [x0, x1, x2, .un, .un] (fun r => match outR d_judge_map r with | some (o, fs) => Ψ o fs | none => False)) : ∃ o fs, callL prog W (k + 1) (Str.ofString "judge_map") [x0, x1, x2] = some (o, fs) ∧ Ψ o fs := callL_at d_judge_map f_judge_map rfl hb
theorem f_rounds_to_part : prog.find? (fun d => d.name == Str.ofString "rounds_to_part") = some d_rounds_to_part := by rfl
theorem c_rounds_to_part {W k : Nat} {x0 : Slot} {o : Opd} {fs : List Slot} (hb : Goes (callL prog W k) W [.unp [1, 2] (.tup [(.idx (.var 0) (.int 1)), (.idx (.var 0) (.int 2))]), .set 3 (.call (Str.ofString "classes_by") [(.var 2)]), .set 4 (.neg (.int 1)), .set 5 (.int 0), .whl (.cmp .gt (.blt .len [(.blt .set [(.var 3)])]) (.var 5)) [.set 5 (.blt .len [(.blt .set [(.var 3)])]), .set 3 (.call (Str.ofString "classes_by") [(.lc [6] (.nm 6) (.rng [(.blt .len [(.var 1)])]) [] (.tup [(.idx (.var 3) (.var 6)), (.blt .tuple [(.lc [7] (.nm 7) (.idx (.var 1) (.var 6)) [] (.idx (.var 3) (.var 7)))])]))]), .aug .add 4 (.int 1)], .ret (.var 4)] [x0, .un, .un, .un, .un, .un, .un, .un] (fun r => outR d_rounds_to_part r = some (o, fs))) : callL prog W (k + 1) (Str.ofString "rounds_to_part") [x0] = some (o, fs) := callL_eq d_rounds_to_part f_rounds_to_part rfl hb
theorem e_rounds_to_part {W k : Nat} {x0 : Slot} {Ψ : Opd → List Slot → Prop} (hb : Goes (callL prog W k) W [.unp [1, 2] (.tup [(.idx (.var 0) (.int 1)), (.idx (.var 0) (.int 2))]), .set 3 (.call (Str.ofString "classes_by") [(.var 2)]), .set 4 (.neg (.int 1)), .set 5 (.int 0), .whl (.cmp .gt (.blt .len [(.blt .set [(.var 3)])]) (.var 5)) [.set 5 (.blt .len [(.blt .set [(.var 3)])]), .set 3 (.call (Str.ofString "classes_by") [(.lc [6] (.nm 6) (.rng [(.blt .len [(.var 1)])]) [] (.tup [(.idx (.var 3) (.var 6)), (.blt .tuple [(.lc [7] (.nm 7) (.idx (.var 1) (.var 6)) [] (.idx (.var 3) (.var 7)))])]))]), .aug .add 4 (.int 1)], .ret (.var 4)] [x0, .un, .un, .un, .un, .un, .un, .un] (fun r => match outR d_rounds_to_part r with | some (o, fs) => Ψ o fs | none => False)) : ∃ o fs, callL prog W (k + 1) (Str.ofString "rounds_to_part") [x0] = some (o, fs) ∧ Ψ o fs := callL_at d_rounds_to_part f_rounds_to_part rfl hb
theorem f_state_from : prog.find? (fun d => d.name == Str.ofString "state_from") = some d_state_from := by rfl
theorem c_state_from {W k : Nat} {x0 x1 x2 : Slot} {o : Opd} {fs : List Slot} (hb : Goes (callL prog W k) W [.for (.nm 3) (.var 2) [.set 1 (.idx (.idx (.idx (.var 0) (.int 1)) (.var 1)) (.var 3))], .ret (.var 1)] [x0, x1, x2, .un] (fun r => outR d_state_from r = some (o, fs))) : callL prog W (k + 1) (Str.ofString "state_from") [x0, x1, x2] = some (o, fs) := callL_eq d_state_from f_state_from rfl hb
theorem e_state_from {W k : Nat} {x0 x1 x2 : Slot} {Ψ : Opd → List Slot → Prop} (hb : Goes (callL prog W k) W [.for (.nm 3) (.var 2) [.set 1 (.idx (.idx (.idx (.var 0) (.int 1)) (.var 1)) (.var 3))], .ret (.var 1)] [x0, x1, x2, .un] (fun r => match outR d_state_from r with | some (o, fs) => Ψ o fs | none => False)) : ∃ o fs, callL prog W (k + 1) (Str.ofString "state_from") [x0, x1, x2] = some (o, fs) ∧ Ψ o fs := callL_at d_state_from f_state_from rfl hb
theorem f_state_behind : prog.find? (fun d => d.name == Str.ofString "state_behind") = some d_state_behind := by rfl
theorem c_state_behind {W k : Nat} {x0 x1 : Slot} {o : Opd} {fs : List Slot} (hb : Goes (callL prog W k) W [.ret (.call (Str.ofString "state_from") [(.var 0), (.int 0), (.var 1)])] [x0, x1] (fun r => outR d_state_behind r = some (o, fs))) : callL prog W (k + 1) (Str.ofString "state_behind") [x0, x1] = some (o, fs) := callL_eq d_state_behind f_state_behind rfl hb
theorem e_state_behind {W k : Nat} {x0 x1 : Slot} {Ψ : Opd → List Slot → Prop} (hb : Goes (callL prog W k) W [.ret (.call (Str.ofString "state_from") [(.var 0), (.int 0), (.var 1)])] [x0, x1] (fun r => match outR d_state_behind r with | some (o, fs) => Ψ o fs | none => False)) : ∃ o fs, callL prog W (k + 1) (Str.ofString "state_behind") [x0, x1] = some (o, fs) ∧ Ψ o fs := callL_at d_state_behind f_state_behind rfl hb
theorem f_takes_word : prog.find? (fun d => d.name == Str.ofString "takes_word") = some d_takes_word := by rfl
theorem c_takes_word {W k : Nat} {x0 x1 : Slot} {o : Opd} {fs : List Slot} (hb : Goes (callL prog W k) W [.ret (.idx (.idx (.var 0) (.int 2)) (.call (Str.ofString "state_behind") [(.var 0), (.var 1)]))] [x0, x1] (fun r => outR d_takes_word r = some (o, fs))) : callL prog W (k + 1) (Str.ofString "takes_word") [x0, x1] = some (o, fs) := callL_eq d_takes_word f_takes_word rfl hb
theorem e_takes_word {W k : Nat} {x0 x1 : Slot} {Ψ : Opd → List Slot → Prop} (hb : Goes (callL prog W k) W [.ret (.idx (.idx (.var 0) (.int 2)) (.call (Str.ofString "state_behind") [(.var 0), (.var 1)]))] [x0, x1] (fun r => match outR d_takes_word r with | some (o, fs) => Ψ o fs | none => False)) : ∃ o fs, callL prog W (k + 1) (Str.ofString "takes_word") [x0, x1] = some (o, fs) ∧ Ψ o fs := callL_at d_takes_word f_takes_word rfl hb
theorem f__law_draws : prog.find? (fun d => d.name == Str.ofString "_law_draws") = some d__law_draws := by rfl
theorem c__law_draws {W k : Nat} {x0 x1 : Slot} {o : Opd} {fs : List Slot} (hb : Goes (callL prog W k) W [.set 2 (.lc [3] (.nm 3) (.var 0) [] (.blt .int [(.var 3)])), .ite (.cmp .eq (.blt .len [(.var 2)]) (.int 0)) [.expr (.mut .append 2 [(.int 0)])] [], .set 4 (.blt .list [(.var 2)]), .set 5 (.lst []), .for (.nm 6) (.rng [(.var 1)]) [.set 7 (.bin .mod (.var 6) (.blt .len [(.var 2)])), .ite (.and [(.cmp .ge (.idx (.var 2) (.var 7)) (.bin .pow (.int 10) (.int 18))), (.cmp .gt (.idx (.var 4) (.var 7)) (.int 0))]) [.expr (.mut .append 5 [(.bin .mod (.blt .int [(.idx (.var 4) (.var 7))]) (.int 1000))]), .sub 4 (.var 7) (.bin .fdiv (.idx (.var 4) (.var 7)) (.int 1000))] [.set 8 (.bin .mod (.blt .int [(.bin .add (.bin .add (.bin .mul (.idx (.var 2) (.var 7)) (.int 48271)) (.bin .mul (.var 6) (.int 69621))) (.int 11))]) (.int 2147483647)), .expr (.mut .append 5 [(.bin .mod (.blt .int [(.bin .add (.bin .add (.bin .mul (.var 8) (.var 8)) (.bin .mul (.int 3) (.var 8))) (.var 6))]) (.int 1000003))])]], .expr (.mut .reverse 5 []), .ret (.var 5)] [x0, x1, .un, .un, .un, .un, .un, .un, .un] (fun r => outR d__law_draws r = some (o, fs))) : callL prog W (k + 1) (Str.ofString "_law_draws") [x0, x1] = some (o, fs) := callL_eq d__law_draws f__law_draws rfl hb
theorem e__law_draws {W k : Nat} {x0 x1 : Slot} {Ψ : Opd → List Slot → Prop} (hb : Goes (callL prog W k) W [.set 2 (.lc [3] (.nm 3) (.var 0) [] (.blt .int [(.var 3)])), .ite (.cmp .eq (.blt .len [(.var 2)]) (.int 0)) [.expr (.mut .append 2 [(.int 0)])] [], .set 4 (.blt .list [(.var 2)]), .set 5 (.lst []), .for (.nm 6) (.rng [(.var 1)]) [.set 7 (.bin .mod (.var 6) (.blt .len [(.var 2)])), .ite (.and [(.cmp .ge (.idx (.var 2) (.var 7)) (.bin .pow (.int 10) (.int 18))), (.cmp .gt (.idx (.var 4) (.var 7)) (.int 0))]) [.expr (.mut .append 5 [(.bin .mod (.blt .int [(.idx (.var 4) (.var 7))]) (.int 1000))]), .sub 4 (.var 7) (.bin .fdiv (.idx (.var 4) (.var 7)) (.int 1000))] [.set 8 (.bin .mod (.blt .int [(.bin .add (.bin .add (.bin .mul (.idx (.var 2) (.var 7)) (.int 48271)) (.bin .mul (.var 6) (.int 69621))) (.int 11))]) (.int 2147483647)), .expr (.mut .append 5 [(.bin .mod (.blt .int [(.bin .add (.bin .add (.bin .mul (.var 8) (.var 8)) (.bin .mul (.int 3) (.var 8))) (.var 6))]) (.int 1000003))])]], .expr (.mut .reverse 5 []), .ret (.var 5)] [x0, x1, .un, .un, .un, .un, .un, .un, .un] (fun r => match outR d__law_draws r with | some (o, fs) => Ψ o fs | none => False)) : ∃ o fs, callL prog W (k + 1) (Str.ofString "_law_draws") [x0, x1] = some (o, fs) ∧ Ψ o fs := callL_at d__law_draws f__law_draws rfl hb
theorem f__law_take : prog.find? (fun d => d.name == Str.ofString "_law_take") = some d__law_take := by rfl
theorem c__law_take {W k : Nat} {x0 x1 : Slot} {o : Opd} {fs : List Slot} (hb : Goes (callL prog W k) W [.ite (.cmp .eq (.blt .len [(.var 0)]) (.int 0)) [.ret (.int 0)] [], .ret (.bin .mod (.blt .int [(.mut .pop 0 [])]) (.var 1))] [x0, x1] (fun r => outR d__law_take r = some (o, fs))) : callL prog W (k + 1) (Str.ofString "_law_take") [x0, x1] = some (o, fs) := callL_eq d__law_take f__law_take rfl hb
theorem e__law_take {W k : Nat} {x0 x1 : Slot} {Ψ : Opd → List Slot → Prop} (hb : Goes (callL prog W k) W [.ite (.cmp .eq (.blt .len [(.var 0)]) (.int 0)) [.ret (.int 0)] [], .ret (.bin .mod (.blt .int [(.mut .pop 0 [])]) (.var 1))] [x0, x1] (fun r => match outR d__law_take r with | some (o, fs) => Ψ o fs | none => False)) : ∃ o fs, callL prog W (k + 1) (Str.ofString "_law_take") [x0, x1] = some (o, fs) ∧ Ψ o fs := callL_at d__law_take f__law_take rfl hb
theorem f__law_cell : prog.find? (fun d => d.name == Str.ofString "_law_cell") = some d__law_cell := by rfl
theorem c__law_cell {W k : Nat} {x0 : Slot} {o : Opd} {fs : List Slot} (hb : Goes (callL prog W k) W [.ite (.cmp .eq (.blt .len [(.var 0)]) (.int 0)) [.ret (.int 0)] [], .set 1 (.blt .int [(.idx (.var 0) (.bin .mod (.bin .mod (.blt .int [(.bin .sub (.blt .len [(.var 0)]) (.int 1))]) (.int 7)) (.blt .len [(.var 0)])))]), .ite (.cmp .lt (.var 1) (.int 0)) [.ret (.neg (.bin .mod (.blt .int [(.neg (.var 1))]) (.bin .pow (.int 10) (.int 60))))] [], .ret (.bin .mod (.blt .int [(.var 1)]) (.bin .pow (.int 10) (.int 60)))] [x0, .un] (fun r => outR d__law_cell r = some (o, fs))) : callL prog W (k + 1) (Str.ofString "_law_cell") [x0] = some (o, fs) := callL_eq d__law_cell f__law_cell rfl hb
theorem e__law_cell {W k : Nat} {x0 : Slot} {Ψ : Opd → List Slot → Prop} (hb : Goes (callL prog W k) W [.ite (.cmp .eq (.blt .len [(.var 0)]) (.int 0)) [.ret (.int 0)] [], .set 1 (.blt .int [(.idx (.var 0) (.bin .mod (.bin .mod (.blt .int [(.bin .sub (.blt .len [(.var 0)]) (.int 1))]) (.int 7)) (.blt .len [(.var 0)])))]), .ite (.cmp .lt (.var 1) (.int 0)) [.ret (.neg (.bin .mod (.blt .int [(.neg (.var 1))]) (.bin .pow (.int 10) (.int 60))))] [], .ret (.bin .mod (.blt .int [(.var 1)]) (.bin .pow (.int 10) (.int 60)))] [x0, .un] (fun r => match outR d__law_cell r with | some (o, fs) => Ψ o fs | none => False)) : ∃ o fs, callL prog W (k + 1) (Str.ofString "_law_cell") [x0] = some (o, fs) ∧ Ψ o fs := callL_at d__law_cell f__law_cell rfl hb
theorem f__law_same : prog.find? (fun d => d.name == Str.ofString "_law_same") = some d__law_same := by rfl
theorem c__law_same {W k : Nat} {x0 x1 : Slot} {o : Opd} {fs : List Slot} (hb : Goes (callL prog W k) W [.ite (.isi (.var 1) .bool) [.ret (.and [(.isi (.var 0) .bool), (.cmp .eq (.var 0) (.var 1))])] [], .ite (.isi (.var 1) .int) [.ret (.and [(.isi (.var 0) .int), (.not (.isi (.var 0) .bool)), (.cmp .eq (.var 0) (.var 1))])] [], .ite (.isi (.var 1) .str) [.ret (.and [(.isi (.var 0) .str), (.cmp .eq (.var 0) (.var 1))])] [], .ite (.cmp .is (.var 1) .non) [.ret (.cmp .is (.var 0) .non)] [], .ite (.or [(.not (.isi (.var 0) .tuple)), (.cmp .ne (.blt .len [(.var 0)]) (.blt .len [(.var 1)]))]) [.ret (.bl false)] [], .for (.nm 2) (.rng [(.blt .len [(.var 1)])]) [.ite (.not (.call (Str.ofString "_law_same") [(.idx (.var 0) (.var 2)), (.idx (.var 1) (.var 2))])) [.ret (.bl false)] []], .ret (.bl true)] [x0, x1, .un] (fun r => outR d__law_same r = some (o, fs))) : callL prog W (k + 1) (Str.ofString "_law_same") [x0, x1] = some (o, fs) := callL_eq d__law_same f__law_same rfl hb
theorem e__law_same {W k : Nat} {x0 x1 : Slot} {Ψ : Opd → List Slot → Prop} (hb : Goes (callL prog W k) W [.ite (.isi (.var 1) .bool) [.ret (.and [(.isi (.var 0) .bool), (.cmp .eq (.var 0) (.var 1))])] [], .ite (.isi (.var 1) .int) [.ret (.and [(.isi (.var 0) .int), (.not (.isi (.var 0) .bool)), (.cmp .eq (.var 0) (.var 1))])] [], .ite (.isi (.var 1) .str) [.ret (.and [(.isi (.var 0) .str), (.cmp .eq (.var 0) (.var 1))])] [], .ite (.cmp .is (.var 1) .non) [.ret (.cmp .is (.var 0) .non)] [], .ite (.or [(.not (.isi (.var 0) .tuple)), (.cmp .ne (.blt .len [(.var 0)]) (.blt .len [(.var 1)]))]) [.ret (.bl false)] [], .for (.nm 2) (.rng [(.blt .len [(.var 1)])]) [.ite (.not (.call (Str.ofString "_law_same") [(.idx (.var 0) (.var 2)), (.idx (.var 1) (.var 2))])) [.ret (.bl false)] []], .ret (.bl true)] [x0, x1, .un] (fun r => match outR d__law_same r with | some (o, fs) => Ψ o fs | none => False)) : ∃ o fs, callL prog W (k + 1) (Str.ofString "_law_same") [x0, x1] = some (o, fs) ∧ Ψ o fs := callL_at d__law_same f__law_same rfl hb
theorem f__law_behind : prog.find? (fun d => d.name == Str.ofString "_law_behind") = some d__law_behind := by rfl
theorem c__law_behind {W k : Nat} {x0 x1 : Slot} {o : Opd} {fs : List Slot} (hb : Goes (callL prog W k) W [.set 2 (.int 0), .for (.nm 3) (.var 1) [.set 2 (.idx (.idx (.idx (.var 0) (.int 1)) (.var 2)) (.var 3))], .ret (.var 2)] [x0, x1, .un, .un] (fun r => outR d__law_behind r = some (o, fs))) : callL prog W (k + 1) (Str.ofString "_law_behind") [x0, x1] = some (o, fs) := callL_eq d__law_behind f__law_behind rfl hb
theorem e__law_behind {W k : Nat} {x0 x1 : Slot} {Ψ : Opd → List Slot → Prop} (hb : Goes (callL prog W k) W [.set 2 (.int 0), .for (.nm 3) (.var 1) [.set 2 (.idx (.idx (.idx (.var 0) (.int 1)) (.var 2)) (.var 3))], .ret (.var 2)] [x0, x1, .un, .un] (fun r => match outR d__law_behind r with | some (o, fs) => Ψ o fs | none => False)) : ∃ o fs, callL prog W (k + 1) (Str.ofString "_law_behind") [x0, x1] = some (o, fs) ∧ Ψ o fs := callL_at d__law_behind f__law_behind rfl hb
theorem f__law_takes : prog.find? (fun d => d.name == Str.ofString "_law_takes") = some d__law_takes := by rfl
theorem c__law_takes {W k : Nat} {x0 x1 : Slot} {o : Opd} {fs : List Slot} (hb : Goes (callL prog W k) W [.ret (.idx (.idx (.var 0) (.int 2)) (.call (Str.ofString "_law_behind") [(.var 0), (.var 1)]))] [x0, x1] (fun r => outR d__law_takes r = some (o, fs))) : callL prog W (k + 1) (Str.ofString "_law_takes") [x0, x1] = some (o, fs) := callL_eq d__law_takes f__law_takes rfl hb
theorem e__law_takes {W k : Nat} {x0 x1 : Slot} {Ψ : Opd → List Slot → Prop} (hb : Goes (callL prog W k) W [.ret (.idx (.idx (.var 0) (.int 2)) (.call (Str.ofString "_law_behind") [(.var 0), (.var 1)]))] [x0, x1] (fun r => match outR d__law_takes r with | some (o, fs) => Ψ o fs | none => False)) : ∃ o fs, callL prog W (k + 1) (Str.ofString "_law_takes") [x0, x1] = some (o, fs) ∧ Ψ o fs := callL_at d__law_takes f__law_takes rfl hb
theorem f__law_machine : prog.find? (fun d => d.name == Str.ofString "_law_machine") = some d__law_machine := by rfl
theorem c__law_machine {W k : Nat} {x0 x1 x2 : Slot} {o : Opd} {fs : List Slot} (hb : Goes (callL prog W k) W [.set 3 (.lst []), .for (.nm 4) (.rng [(.var 2)]) [.expr (.mut .append 3 [(.blt .tuple [(.lc [5] (.nm 5) (.rng [(.bin .shl (.int 1) (.var 1))]) [] (.call (Str.ofString "_law_take") [(.var 0), (.var 2)]))])])], .ret (.tup [(.var 1), (.blt .tuple [(.var 3)]), (.blt .tuple [(.lc [4] (.nm 4) (.rng [(.var 2)]) [] (.cmp .eq (.call (Str.ofString "_law_take") [(.var 0), (.int 2)]) (.int 0)))])])] [x0, x1, x2, .un, .un, .un] (fun r => outR d__law_machine r = some (o, fs))) : callL prog W (k + 1) (Str.ofString "_law_machine") [x0, x1, x2] = some (o, fs) := callL_eq d__law_machine f__law_machine rfl hb
theorem e__law_machine {W k : Nat} {x0 x1 x2 : Slot} {Ψ : Opd → List Slot → Prop} (hb : Goes (callL prog W k) W [.set 3 (.lst []), .for (.nm 4) (.rng [(.var 2)]) [.expr (.mut .append 3 [(.blt .tuple [(.lc [5] (.nm 5) (.rng [(.bin .shl (.int 1) (.var 1))]) [] (.call (Str.ofString "_law_take") [(.var 0), (.var 2)]))])])], .ret (.tup [(.var 1), (.blt .tuple [(.var 3)]), (.blt .tuple [(.lc [4] (.nm 4) (.rng [(.var 2)]) [] (.cmp .eq (.call (Str.ofString "_law_take") [(.var 0), (.int 2)]) (.int 0)))])])] [x0, x1, x2, .un, .un, .un] (fun r => match outR d__law_machine r with | some (o, fs) => Ψ o fs | none => False)) : ∃ o fs, callL prog W (k + 1) (Str.ofString "_law_machine") [x0, x1, x2] = some (o, fs) ∧ Ψ o fs := callL_at d__law_machine f__law_machine rfl hb
theorem f__law_words : prog.find? (fun d => d.name == Str.ofString "_law_words") = some d__law_words := by rfl
theorem c__law_words {W k : Nat} {x0 x1 : Slot} {o : Opd} {fs : List Slot} (hb : Goes (callL prog W k) W [.set 2 (.lst []), .set 3 (.lst [(.tup [])]), .for (.nm 4) (.rng [(.bin .add (.var 1) (.int 1))]) [.set 2 (.bin .add (.var 2) (.var 3)), .set 5 (.lst []), .for (.nm 6) (.var 3) [.set 5 (.bin .add (.var 5) (.lc [7] (.nm 7) (.rng [(.bin .shl (.int 1) (.var 0))]) [] (.bin .add (.var 6) (.tup [(.var 7)]))))], .set 3 (.var 5)], .ret (.var 2)] [x0, x1, .un, .un, .un, .un, .un, .un] (fun r => outR d__law_words r = some (o, fs))) : callL prog W (k + 1) (Str.ofString "_law_words") [x0, x1] = some (o, fs) := callL_eq d__law_words f__law_words rfl hb
theorem e__law_words {W k : Nat} {x0 x1 : Slot} {Ψ : Opd → List Slot → Prop} (hb : Goes (callL prog W k) W [.set 2 (.lst []), .set 3 (.lst [(.tup [])]), .for (.nm 4) (.rng [(.bin .add (.var 1) (.int 1))]) [.set 2 (.bin .add (.var 2) (.var 3)), .set 5 (.lst []), .for (.nm 6) (.var 3) [.set 5 (.bin .add (.var 5) (.lc [7] (.nm 7) (.rng [(.bin .shl (.int 1) (.var 0))]) [] (.bin .add (.var 6) (.tup [(.var 7)]))))], .set 3 (.var 5)], .ret (.var 2)] [x0, x1, .un, .un, .un, .un, .un, .un] (fun r => match outR d__law_words r with | some (o, fs) => Ψ o fs | none => False)) : ∃ o fs, callL prog W (k + 1) (Str.ofString "_law_words") [x0, x1] = some (o, fs) ∧ Ψ o fs := callL_at d__law_words f__law_words rfl hb
theorem f__law_doubled : prog.find? (fun d => d.name == Str.ofString "_law_doubled") = some d__law_doubled := by rfl
theorem c__law_doubled {W k : Nat} {x0 x1 : Slot} {o : Opd} {fs : List Slot} (hb : Goes (callL prog W k) W [.set 2 (.blt .len [(.idx (.var 1) (.int 1))]), .set 3 (.lst []), .for (.nm 4) (.rng [(.bin .mul (.int 2) (.var 2))]) [.expr (.mut .append 3 [(.blt .tuple [(.lc [5] (.nm 5) (.idx (.idx (.var 1) (.int 1)) (.bin .mod (.var 4) (.var 2))) [] (.bin .add (.var 5) (.bin .mul (.var 2) (.call (Str.ofString "_law_take") [(.var 0), (.int 2)]))))])])], .ret (.tup [(.idx (.var 1) (.int 0)), (.blt .tuple [(.var 3)]), (.bin .add (.idx (.var 1) (.int 2)) (.idx (.var 1) (.int 2)))])] [x0, x1, .un, .un, .un, .un] (fun r => outR d__law_doubled r = some (o, fs))) : callL prog W (k + 1) (Str.ofString "_law_doubled") [x0, x1] = some (o, fs) := callL_eq d__law_doubled f__law_doubled rfl hb
theorem e__law_doubled {W k : Nat} {x0 x1 : Slot} {Ψ : Opd → List Slot → Prop} (hb : Goes (callL prog W k) W [.set 2 (.blt .len [(.idx (.var 1) (.int 1))]), .set 3 (.lst []), .for (.nm 4) (.rng [(.bin .mul (.int 2) (.var 2))]) [.expr (.mut .append 3 [(.blt .tuple [(.lc [5] (.nm 5) (.idx (.idx (.var 1) (.int 1)) (.bin .mod (.var 4) (.var 2))) [] (.bin .add (.var 5) (.bin .mul (.var 2) (.call (Str.ofString "_law_take") [(.var 0), (.int 2)]))))])])], .ret (.tup [(.idx (.var 1) (.int 0)), (.blt .tuple [(.var 3)]), (.bin .add (.idx (.var 1) (.int 2)) (.idx (.var 1) (.int 2)))])] [x0, x1, .un, .un, .un, .un] (fun r => match outR d__law_doubled r with | some (o, fs) => Ψ o fs | none => False)) : ∃ o fs, callL prog W (k + 1) (Str.ofString "_law_doubled") [x0, x1] = some (o, fs) ∧ Ψ o fs := callL_at d__law_doubled f__law_doubled rfl hb
theorem f__law_rows : prog.find? (fun d => d.name == Str.ofString "_law_rows") = some d__law_rows := by rfl
theorem c__law_rows {W k : Nat} {x0 x1 : Slot} {o : Opd} {fs : List Slot} (hb : Goes (callL prog W k) W [.set 2 (.lst []), .for (.nm 3) (.rng [(.blt .len [(.idx (.var 0) (.int 1))])]) [.set 4 (.lst []), .for (.nm 5) (.var 1) [.set 6 (.var 3), .for (.nm 7) (.var 5) [.set 6 (.idx (.idx (.idx (.var 0) (.int 1)) (.var 6)) (.var 7))], .expr (.mut .append 4 [(.idx (.idx (.var 0) (.int 2)) (.var 6))])], .expr (.mut .append 2 [(.var 4)])], .ret (.var 2)] [x0, x1, .un, .un, .un, .un, .un, .un] (fun r => outR d__law_rows r = some (o, fs))) : callL prog W (k + 1) (Str.ofString "_law_rows") [x0, x1] = some (o, fs) := callL_eq d__law_rows f__law_rows rfl hb
theorem e__law_rows {W k : Nat} {x0 x1 : Slot} {Ψ : Opd → List Slot → Prop} (hb : Goes (callL prog W k) W [.set 2 (.lst []), .for (.nm 3) (.rng [(.blt .len [(.idx (.var 0) (.int 1))])]) [.set 4 (.lst []), .for (.nm 5) (.var 1) [.set 6 (.var 3), .for (.nm 7) (.var 5) [.set 6 (.idx (.idx (.idx (.var 0) (.int 1)) (.var 6)) (.var 7))], .expr (.mut .append 4 [(.idx (.idx (.var 0) (.int 2)) (.var 6))])], .expr (.mut .append 2 [(.var 4)])], .ret (.var 2)] [x0, x1, .un, .un, .un, .un, .un, .un] (fun r => match outR d__law_rows r with | some (o, fs) => Ψ o fs | none => False)) : ∃ o fs, callL prog W (k + 1) (Str.ofString "_law_rows") [x0, x1] = some (o, fs) ∧ Ψ o fs := callL_at d__law_rows f__law_rows rfl hb
theorem f__law_rounds : prog.find? (fun d => d.name == Str.ofString "_law_rounds") = some d__law_rounds := by rfl
theorem c__law_rounds {W k : Nat} {x0 : Slot} {o : Opd} {fs : List Slot} (hb : Goes (callL prog W k) W [.set 1 (.lc [2] (.nm 2) (.idx (.var 0) (.int 2)) [] (.blt .int [(.var 2)])), .set 3 (.int 0), .for (.nm 4) (.rng [(.blt .len [(.var 1)])]) [.set 5 (.lc [7] (.nm 7) (.rng [(.blt .len [(.var 1)])]) [] (.tup [(.idx (.var 1) (.var 7)), (.lc [9] (.nm 9) (.idx (.idx (.var 0) (.int 1)) (.var 7)) [] (.idx (.var 1) (.var 9)))])), .set 6 (.lc [8] (.nm 8) (.var 5) [] (.mth .index (.var 5) [(.var 8)])), .ite (.cmp .gt (.blt .len [(.blt .set [(.var 6)])]) (.blt .len [(.blt .set [(.var 1)])])) [.set 3 (.bin .add (.var 3) (.int 1))] [], .set 1 (.var 6)], .ret (.var 3)] [x0, .un, .un, .un, .un, .un, .un, .un, .un, .un] (fun r => outR d__law_rounds r = some (o, fs))) : callL prog W (k + 1) (Str.ofString "_law_rounds") [x0] = some (o, fs) := callL_eq d__law_rounds f__law_rounds rfl hb
theorem e__law_rounds {W k : Nat} {x0 : Slot} {Ψ : Opd → List Slot → Prop} (hb : Goes (callL prog W k) W [.set 1 (.lc [2] (.nm 2) (.idx (.var 0) (.int 2)) [] (.blt .int [(.var 2)])), .set 3 (.int 0), .for (.nm 4) (.rng [(.blt .len [(.var 1)])]) [.set 5 (.lc [7] (.nm 7) (.rng [(.blt .len [(.var 1)])]) [] (.tup [(.idx (.var 1) (.var 7)), (.lc [9] (.nm 9) (.idx (.idx (.var 0) (.int 1)) (.var 7)) [] (.idx (.var 1) (.var 9)))])), .set 6 (.lc [8] (.nm 8) (.var 5) [] (.mth .index (.var 5) [(.var 8)])), .ite (.cmp .gt (.blt .len [(.blt .set [(.var 6)])]) (.blt .len [(.blt .set [(.var 1)])])) [.set 3 (.bin .add (.var 3) (.int 1))] [], .set 1 (.var 6)], .ret (.var 3)] [x0, .un, .un, .un, .un, .un, .un, .un, .un, .un] (fun r => match outR d__law_rounds r with | some (o, fs) => Ψ o fs | none => False)) : ∃ o fs, callL prog W (k + 1) (Str.ofString "_law_rounds") [x0] = some (o, fs) ∧ Ψ o fs := callL_at d__law_rounds f__law_rounds rfl hb
theorem f__law_is_map : prog.find? (fun d => d.name == Str.ofString "_law_is_map") = some d__law_is_map := by rfl
theorem c__law_is_map {W k : Nat} {x0 x1 x2 : Slot} {o : Opd} {fs : List Slot} (hb : Goes (callL prog W k) W [.ite (.or [(.cmp .ne (.blt .len [(.var 2)]) (.blt .len [(.idx (.var 0) (.int 1))])), (.cmp .ne (.idx (.var 2) (.int 0)) (.int 0))]) [.ret (.bl false)] [], .for (.nm 3) (.rng [(.blt .len [(.var 2)])]) [.ite (.or [(.cmp .lt (.idx (.var 2) (.var 3)) (.int 0)), (.cmp .ge (.idx (.var 2) (.var 3)) (.blt .len [(.idx (.var 1) (.int 1))]))]) [.ret (.bl false)] []], .for (.nm 3) (.rng [(.blt .len [(.var 2)])]) [.ite (.or [(.cmp .ne (.idx (.idx (.var 0) (.int 2)) (.var 3)) (.idx (.idx (.var 1) (.int 2)) (.idx (.var 2) (.var 3)))), (.cmp .ne (.lc [4] (.nm 4) (.idx (.idx (.var 0) (.int 1)) (.var 3)) [] (.idx (.var 2) (.var 4))) (.blt .list [(.idx (.idx (.var 1) (.int 1)) (.idx (.var 2) (.var 3)))]))]) [.ret (.bl false)] []], .ret (.bl true)] [x0, x1, x2, .un, .un] (fun r => outR d__law_is_map r = some (o, fs))) : callL prog W (k + 1) (Str.ofString "_law_is_map") [x0, x1, x2] = some (o, fs) := callL_eq d__law_is_map f__law_is_map rfl hb
theorem e__law_is_map {W k : Nat} {x0 x1 x2 : Slot} {Ψ : Opd → List Slot → Prop} (hb : Goes (callL prog W k) W [.ite (.or [(.cmp .ne (.blt .len [(.var 2)]) (.blt .len [(.idx (.var 0) (.int 1))])), (.cmp .ne (.idx (.var 2) (.int 0)) (.int 0))]) [.ret (.bl false)] [], .for (.nm 3) (.rng [(.blt .len [(.var 2)])]) [.ite (.or [(.cmp .lt (.idx (.var 2) (.var 3)) (.int 0)), (.cmp .ge (.idx (.var 2) (.var 3)) (.blt .len [(.idx (.var 1) (.int 1))]))]) [.ret (.bl false)] []], .for (.nm 3) (.rng [(.blt .len [(.var 2)])]) [.ite (.or [(.cmp .ne (.idx (.idx (.var 0) (.int 2)) (.var 3)) (.idx (.idx (.var 1) (.int 2)) (.idx (.var 2) (.var 3)))), (.cmp .ne (.lc [4] (.nm 4) (.idx (.idx (.var 0) (.int 1)) (.var 3)) [] (.idx (.var 2) (.var 4))) (.blt .list [(.idx (.idx (.var 1) (.int 1)) (.idx (.var 2) (.var 3)))]))]) [.ret (.bl false)] []], .ret (.bl true)] [x0, x1, x2, .un, .un] (fun r => match outR d__law_is_map r with | some (o, fs) => Ψ o fs | none => False)) : ∃ o fs, callL prog W (k + 1) (Str.ofString "_law_is_map") [x0, x1, x2] = some (o, fs) ∧ Ψ o fs := callL_at d__law_is_map f__law_is_map rfl hb
theorem f__law_is_right_for : prog.find? (fun d => d.name == Str.ofString "_law_is_right_for") = some d__law_is_right_for := by rfl
theorem c__law_is_right_for {W k : Nat} {x0 x1 x2 x3 : Slot} {o : Opd} {fs : List Slot} (hb : Goes (callL prog W k) W [.set 4 (.call (Str.ofString "_law_rows") [(.var 1), (.var 2)]), .set 5 (.blt .tuple [(.lc [6] (.nm 6) (.var 4) [] (.mth .index (.var 4) [(.var 6)]))]), .set 7 (.call (Str.ofString "least_machine") [(.var 1)]), .ite (.or [(.not (.call (Str.ofString "_law_same") [(.call (Str.ofString "state_classes") [(.var 1)]), (.var 5)])), (.not (.call (Str.ofString "_law_same") [(.call (Str.ofString "rounds_to_part") [(.var 1)]), (.call (Str.ofString "_law_rounds") [(.var 1)])]))]) [.ret (.bl false)] [], .set 8 (.call (Str.ofString "machine_in_order") [(.var 1)]), .set 9 (.lst []), .for (.nm 10) (.rng [(.blt .len [(.idx (.var 8) (.int 1))])]) [.set 6 (.idx (.call (Str.ofString "_law_rows") [(.var 8), (.var 2)]) (.var 10)), .ite (.cmp .notin (.var 6) (.var 9)) [.expr (.mut .append 9 [(.var 6)])] []], .ite (.or [(.cmp .ne (.blt .len [(.idx (.var 7) (.int 1))]) (.blt .len [(.var 9)])), (.not (.call (Str.ofString "_law_same") [(.call (Str.ofString "machine_in_order") [(.var 7)]), (.var 7)])), (.not (.call (Str.ofString "_law_same") [(.call (Str.ofString "least_size") [(.var 1)]), (.blt .len [(.var 9)])]))]) [.ret (.bl false)] [], .ite (.or [(.not (.call (Str.ofString "_law_same") [(.call (Str.ofString "is_least_machine") [(.var 7)]), (.bl true)])), (.not (.call (Str.ofString "_law_same") [(.call (Str.ofString "is_least_machine") [(.var 1)]), (.cmp .eq (.var 1) (.var 7))])), (.not (.call (Str.ofString "_law_same") [(.call (Str.ofString "least_machine") [(.var 7)]), (.var 7)]))]) [.ret (.bl false)] [], .for (.nm 11) (.var 2) [.ite (.not (.call (Str.ofString "_law_same") [(.call (Str.ofString "takes_word") [(.var 7), (.var 11)]), (.call (Str.ofString "_law_takes") [(.var 1), (.var 11)])])) [.ret (.bl false)] []], .set 12 (.call (Str.ofString "map_to_least") [(.var 8)]), .ite (.or [(.not (.call (Str.ofString "_law_is_map") [(.var 8), (.var 7), (.var 12)])), (.not (.call (Str.ofString "_law_same") [(.call (Str.ofString "judge_map") [(.var 8), (.var 7), (.var 12)]), (.bl true)]))]) [.ret (.bl false)] [], .set 13 (.call (Str.ofString "_law_take") [(.var 0), (.blt .len [(.var 12)])]), .for (.nm 14) (.lst [(.call (Str.ofString "_law_take") [(.var 0), (.blt .len [(.idx (.var 7) (.int 1))])]), (.blt .len [(.idx (.var 7) (.int 1))]), (.neg (.int 1)), (.var 3)]) [.set 15 (.bin .add (.bin .add (.slc (.var 12) .non (.var 13)) (.tup [(.var 14)])) (.slc (.var 12) (.bin .add (.var 13) (.int 1)) .non)), .ite (.not (.call (Str.ofString "_law_same") [(.call (Str.ofString "judge_map") [(.var 8), (.var 7), (.var 15)]), (.call (Str.ofString "_law_is_map") [(.var 8), (.var 7), (.var 15)])])) [.ret (.bl false)] []], .ret (.and [(.call (Str.ofString "_law_same") [(.call (Str.ofString "judge_map") [(.var 8), (.var 7), (.slc (.var 12) (.int 1) .non)]), (.bl false)]), (.call (Str.ofString "_law_same") [(.call (Str.ofString "least_machine") [(.call (Str.ofString "_law_doubled") [(.var 0), (.var 1)])]), (.var 7)])])] [x0, x1, x2, x3, .un, .un, .un, .un, .un, .un, .un, .un, .un, .un, .un, .un] (fun r => outR d__law_is_right_for r = some (o, fs))) : callL prog W (k + 1) (Str.ofString "_law_is_right_for") [x0, x1, x2, x3] = some (o, fs) := callL_eq d__law_is_right_for f__law_is_right_for rfl hb
theorem e__law_is_right_for {W k : Nat} {x0 x1 x2 x3 : Slot} {Ψ : Opd → List Slot → Prop} (hb : Goes (callL prog W k) W [.set 4 (.call (Str.ofString "_law_rows") [(.var 1), (.var 2)]), .set 5 (.blt .tuple [(.lc [6] (.nm 6) (.var 4) [] (.mth .index (.var 4) [(.var 6)]))]), .set 7 (.call (Str.ofString "least_machine") [(.var 1)]), .ite (.or [(.not (.call (Str.ofString "_law_same") [(.call (Str.ofString "state_classes") [(.var 1)]), (.var 5)])), (.not (.call (Str.ofString "_law_same") [(.call (Str.ofString "rounds_to_part") [(.var 1)]), (.call (Str.ofString "_law_rounds") [(.var 1)])]))]) [.ret (.bl false)] [], .set 8 (.call (Str.ofString "machine_in_order") [(.var 1)]), .set 9 (.lst []), .for (.nm 10) (.rng [(.blt .len [(.idx (.var 8) (.int 1))])]) [.set 6 (.idx (.call (Str.ofString "_law_rows") [(.var 8), (.var 2)]) (.var 10)), .ite (.cmp .notin (.var 6) (.var 9)) [.expr (.mut .append 9 [(.var 6)])] []], .ite (.or [(.cmp .ne (.blt .len [(.idx (.var 7) (.int 1))]) (.blt .len [(.var 9)])), (.not (.call (Str.ofString "_law_same") [(.call (Str.ofString "machine_in_order") [(.var 7)]), (.var 7)])), (.not (.call (Str.ofString "_law_same") [(.call (Str.ofString "least_size") [(.var 1)]), (.blt .len [(.var 9)])]))]) [.ret (.bl false)] [], .ite (.or [(.not (.call (Str.ofString "_law_same") [(.call (Str.ofString "is_least_machine") [(.var 7)]), (.bl true)])), (.not (.call (Str.ofString "_law_same") [(.call (Str.ofString "is_least_machine") [(.var 1)]), (.cmp .eq (.var 1) (.var 7))])), (.not (.call (Str.ofString "_law_same") [(.call (Str.ofString "least_machine") [(.var 7)]), (.var 7)]))]) [.ret (.bl false)] [], .for (.nm 11) (.var 2) [.ite (.not (.call (Str.ofString "_law_same") [(.call (Str.ofString "takes_word") [(.var 7), (.var 11)]), (.call (Str.ofString "_law_takes") [(.var 1), (.var 11)])])) [.ret (.bl false)] []], .set 12 (.call (Str.ofString "map_to_least") [(.var 8)]), .ite (.or [(.not (.call (Str.ofString "_law_is_map") [(.var 8), (.var 7), (.var 12)])), (.not (.call (Str.ofString "_law_same") [(.call (Str.ofString "judge_map") [(.var 8), (.var 7), (.var 12)]), (.bl true)]))]) [.ret (.bl false)] [], .set 13 (.call (Str.ofString "_law_take") [(.var 0), (.blt .len [(.var 12)])]), .for (.nm 14) (.lst [(.call (Str.ofString "_law_take") [(.var 0), (.blt .len [(.idx (.var 7) (.int 1))])]), (.blt .len [(.idx (.var 7) (.int 1))]), (.neg (.int 1)), (.var 3)]) [.set 15 (.bin .add (.bin .add (.slc (.var 12) .non (.var 13)) (.tup [(.var 14)])) (.slc (.var 12) (.bin .add (.var 13) (.int 1)) .non)), .ite (.not (.call (Str.ofString "_law_same") [(.call (Str.ofString "judge_map") [(.var 8), (.var 7), (.var 15)]), (.call (Str.ofString "_law_is_map") [(.var 8), (.var 7), (.var 15)])])) [.ret (.bl false)] []], .ret (.and [(.call (Str.ofString "_law_same") [(.call (Str.ofString "judge_map") [(.var 8), (.var 7), (.slc (.var 12) (.int 1) .non)]), (.bl false)]), (.call (Str.ofString "_law_same") [(.call (Str.ofString "least_machine") [(.call (Str.ofString "_law_doubled") [(.var 0), (.var 1)])]), (.var 7)])])] [x0, x1, x2, x3, .un, .un, .un, .un, .un, .un, .un, .un, .un, .un, .un, .un] (fun r => match outR d__law_is_right_for r with | some (o, fs) => Ψ o fs | none => False)) : ∃ o fs, callL prog W (k + 1) (Str.ofString "_law_is_right_for") [x0, x1, x2, x3] = some (o, fs) ∧ Ψ o fs := callL_at d__law_is_right_for f__law_is_right_for rfl hb
theorem f_law : prog.find? (fun d => d.name == Str.ofString "law") = some d_law := by rfl
theorem c_law {W k : Nat} {x0 : Slot} {o : Opd} {fs : List Slot} (hb : Goes (callL prog W k) W [.set 1 (.call (Str.ofString "_law_draws") [(.var 0), (.int 220)]), .set 2 (.call (Str.ofString "_law_cell") [(.var 0)]), .for (.nm 3) (.rng [(.int 2)]) [.set 4 (.bin .add (.int 1) (.call (Str.ofString "_law_take") [(.var 1), (.int 2)])), .set 5 (.call (Str.ofString "_law_machine") [(.var 1), (.var 4), (.bin .add (.int 1) (.call (Str.ofString "_law_take") [(.var 1), (.idx (.lst [(.int 6), (.int 4)]) (.bin .sub (.var 4) (.int 1)))]))]), .ite (.not (.call (Str.ofString "_law_is_right_for") [(.var 1), (.var 5), (.call (Str.ofString "_law_words") [(.var 4), (.idx (.lst [(.int 5), (.int 3)]) (.bin .sub (.var 4) (.int 1)))]), (.var 2)])) [.ret (.bl false)] []], .set 6 (.tup [(.int 1), (.tup [(.tup [(.int 3), (.int 1)]), (.tup [(.int 4), (.int 0)]), (.tup [(.int 2), (.int 2)]), (.tup [(.int 0), (.int 4)]), (.tup [(.int 1), (.int 3)]), (.tup [(.int 0), (.int 1)])]), (.tup [(.bl true), (.bl false), (.bl true), (.bl true), (.bl false), (.bl true)])]), .ite (.or [(.not (.call (Str.ofString "_law_same") [(.call (Str.ofString "state_classes") [(.var 6)]), (.tup [(.int 0), (.int 1), (.int 2), (.int 0), (.int 1), (.int 0)])])), (.not (.call (Str.ofString "_law_same") [(.call (Str.ofString "least_machine") [(.var 6)]), (.tup [(.int 1), (.tup [(.tup [(.int 0), (.int 1)]), (.tup [(.int 1), (.int 0)])]), (.tup [(.bl true), (.bl false)])])]))]) [.ret (.bl false)] [], .ite (.or [(.not (.call (Str.ofString "_law_same") [(.call (Str.ofString "map_to_least") [(.tup [(.int 1), (.tup [(.tup [(.int 1), (.int 2)]), (.tup [(.int 0), (.int 3)]), (.tup [(.int 3), (.int 0)]), (.tup [(.int 2), (.int 1)])]), (.tup [(.bl true), (.bl true), (.bl false), (.bl false)])])]), (.tup [(.int 0), (.int 0), (.int 1), (.int 1)])])), (.not (.call (Str.ofString "_law_same") [(.call (Str.ofString "rounds_to_part") [(.var 6)]), (.int 1)]))]) [.ret (.bl false)] [], .set 7 (.tup [(.int 1), (.tup [(.tup [(.int 1), (.int 0)]), (.tup [(.int 2), (.int 0)]), (.tup [(.int 3), (.int 0)]), (.tup [(.int 3), (.int 0)])]), (.tup [(.bl false), (.bl false), (.bl false), (.bl true)])]), .ret (.and [(.call (Str.ofString "_law_same") [(.call (Str.ofString "rounds_to_part") [(.var 7)]), (.int 2)]), (.call (Str.ofString "_law_same") [(.call (Str.ofString "is_least_machine") [(.var 7)]), (.bl true)]), (.call (Str.ofString "_law_is_right_for") [(.var 1), (.var 6), (.call (Str.ofString "_law_words") [(.int 1), (.int 5)]), (.var 2)])])] [x0, .un, .un, .un, .un, .un, .un, .un] (fun r => outR d_law r = some (o, fs))) : callL prog W (k + 1) (Str.ofString "law") [x0] = some (o, fs) := callL_eq d_law f_law rfl hb
theorem e_law {W k : Nat} {x0 : Slot} {Ψ : Opd → List Slot → Prop} (hb : Goes (callL prog W k) W [.set 1 (.call (Str.ofString "_law_draws") [(.var 0), (.int 220)]), .set 2 (.call (Str.ofString "_law_cell") [(.var 0)]), .for (.nm 3) (.rng [(.int 2)]) [.set 4 (.bin .add (.int 1) (.call (Str.ofString "_law_take") [(.var 1), (.int 2)])), .set 5 (.call (Str.ofString "_law_machine") [(.var 1), (.var 4), (.bin .add (.int 1) (.call (Str.ofString "_law_take") [(.var 1), (.idx (.lst [(.int 6), (.int 4)]) (.bin .sub (.var 4) (.int 1)))]))]), .ite (.not (.call (Str.ofString "_law_is_right_for") [(.var 1), (.var 5), (.call (Str.ofString "_law_words") [(.var 4), (.idx (.lst [(.int 5), (.int 3)]) (.bin .sub (.var 4) (.int 1)))]), (.var 2)])) [.ret (.bl false)] []], .set 6 (.tup [(.int 1), (.tup [(.tup [(.int 3), (.int 1)]), (.tup [(.int 4), (.int 0)]), (.tup [(.int 2), (.int 2)]), (.tup [(.int 0), (.int 4)]), (.tup [(.int 1), (.int 3)]), (.tup [(.int 0), (.int 1)])]), (.tup [(.bl true), (.bl false), (.bl true), (.bl true), (.bl false), (.bl true)])]), .ite (.or [(.not (.call (Str.ofString "_law_same") [(.call (Str.ofString "state_classes") [(.var 6)]), (.tup [(.int 0), (.int 1), (.int 2), (.int 0), (.int 1), (.int 0)])])), (.not (.call (Str.ofString "_law_same") [(.call (Str.ofString "least_machine") [(.var 6)]), (.tup [(.int 1), (.tup [(.tup [(.int 0), (.int 1)]), (.tup [(.int 1), (.int 0)])]), (.tup [(.bl true), (.bl false)])])]))]) [.ret (.bl false)] [], .ite (.or [(.not (.call (Str.ofString "_law_same") [(.call (Str.ofString "map_to_least") [(.tup [(.int 1), (.tup [(.tup [(.int 1), (.int 2)]), (.tup [(.int 0), (.int 3)]), (.tup [(.int 3), (.int 0)]), (.tup [(.int 2), (.int 1)])]), (.tup [(.bl true), (.bl true), (.bl false), (.bl false)])])]), (.tup [(.int 0), (.int 0), (.int 1), (.int 1)])])), (.not (.call (Str.ofString "_law_same") [(.call (Str.ofString "rounds_to_part") [(.var 6)]), (.int 1)]))]) [.ret (.bl false)] [], .set 7 (.tup [(.int 1), (.tup [(.tup [(.int 1), (.int 0)]), (.tup [(.int 2), (.int 0)]), (.tup [(.int 3), (.int 0)]), (.tup [(.int 3), (.int 0)])]), (.tup [(.bl false), (.bl false), (.bl false), (.bl true)])]), .ret (.and [(.call (Str.ofString "_law_same") [(.call (Str.ofString "rounds_to_part") [(.var 7)]), (.int 2)]), (.call (Str.ofString "_law_same") [(.call (Str.ofString "is_least_machine") [(.var 7)]), (.bl true)]), (.call (Str.ofString "_law_is_right_for") [(.var 1), (.var 6), (.call (Str.ofString "_law_words") [(.int 1), (.int 5)]), (.var 2)])])] [x0, .un, .un, .un, .un, .un, .un, .un] (fun r => match outR d_law r with | some (o, fs) => Ψ o fs | none => False)) : ∃ o fs, callL prog W (k + 1) (Str.ofString "law") [x0] = some (o, fs) ∧ Ψ o fs := callL_at d_law f_law rfl hb
end K06
namespace K06
open PySem PF K03 K02
variable {W : Nat}
theorem r2 : List.range 2 = [0, 1] := rfl
theorem rep_bits (i : Nat) : (List.replicate i [D.int 0]).flatten = bits (List.replicate i 0) := by
  induction i with
  | zero => rfl
  | succ i ih => rw [List.replicate_succ, List.flatten_cons, ih]; rfl
theorem pow_le2 {a b : Nat} (h : a ≤ b) : 2 ^ a ≤ 2 ^ b := Nat.pow_le_pow_right (by decide) h
theorem same_int (k : Nat) (n : Int) : callL prog W (k + 1) (Str.ofString "_law_same") [.val (.int n), .val (.int n)] = some (.dat (.bl true), [.val (.int n), .val (.int n)]) := by
  refine c__law_same ?_
  simp [Goes, outR, exs, ex, ev, evds, evs, evAnd, evOr, look, fin, view, views, cm, D.plain, wantsM, isSeq, sameQ, truth, mutD, toD, op2, store, aug2, giveOut, finals, lend, PF.giveBack, bltD, isiD, kd, isK, idxD, mthD, b2i, itemsOf, bindT, Md.tv, setAll, revD, part, slcD, shp_int, shp_bl, deq_int, deq_bl, shp_non, rg1, rg2, rg3, rg4, ln1, ln2, ln3, ln4, d__law_same]
theorem same_bl (k : Nat) (n : Bool) : callL prog W (k + 1) (Str.ofString "_law_same") [.val (.bl n), .val (.bl n)] = some (.dat (.bl true), [.val (.bl n), .val (.bl n)]) := by
  refine c__law_same ?_
  simp [Goes, outR, exs, ex, ev, evds, evs, evAnd, evOr, look, fin, view, views, cm, D.plain, wantsM, isSeq, sameQ, truth, mutD, toD, op2, store, aug2, giveOut, finals, lend, PF.giveBack, bltD, isiD, kd, isK, idxD, mthD, b2i, itemsOf, bindT, Md.tv, setAll, revD, part, slcD, shp_int, shp_bl, deq_int, deq_bl, shp_non, rg1, rg2, rg3, rg4, ln1, ln2, ln3, ln4, d__law_same]
theorem take_ok (k : Nat) (l : List Int) (m : Nat) (hm : 0 < m) : ∃ (v : Nat) (l' : List Int), v < m ∧ callL prog W (k + 1) (Str.ofString "_law_take") [.own (.lst (l.map .int)), .val (nt m)] = some (.dat (nt v), [.own (.lst (l'.map .int)), .val (nt m)]) := by
  cases h : l.getLast? with
  | none =>
    have : l = [] := List.getLast?_eq_none_iff.mp h
    subst this
    refine ⟨0, [], hm, ?_⟩
    refine c__law_take ?_
    simp [Goes, outR, exs, ex, ev, evds, evs, evAnd, evOr, look, fin, view, views, cm, D.plain, wantsM, isSeq, sameQ, truth, mutD, toD, op2, store, aug2, giveOut, finals, lend, PF.giveBack, bltD, isiD, kd, isK, idxD, mthD, b2i, itemsOf, bindT, Md.tv, setAll, revD, part, slcD, shp_int, shp_bl, deq_int, deq_bl, shp_non, rg1, rg2, rg3, rg4, ln1, ln2, ln3, ln4, d__law_take]
  | some y =>
    have hne : l ≠ [] := fun z => by subst z; cases h
    have hlen : ¬ ((l.length : Int) = 0) := by
      have := List.length_pos_iff.mpr hne; omega
    refine ⟨(y % m).toNat, l.dropLast, ?_, ?_⟩
    · have := Int.emod_lt_of_pos y (show (0 : Int) < m by omega)
      omega
    · refine c__law_take ?_
      have e : (((y % m).toNat : Nat) : Int) = y % m := by
        have := Int.emod_nonneg y (show (m : Int) ≠ 0 by omega)
        omega
      simp [Goes, outR, exs, ex, ev, evds, evs, evAnd, evOr, look, fin, view, views, cm, D.plain, wantsM, isSeq, sameQ, truth, mutD, toD, op2, store, aug2, giveOut, finals, lend, PF.giveBack, bltD, isiD, kd, isK, idxD, mthD, b2i, itemsOf, bindT, Md.tv, setAll, revD, part, slcD, shp_int, shp_bl, deq_int, deq_bl, shp_non, rg1, rg2, rg3, rg4, ln1, ln2, ln3, ln4, d__law_take, hne, h, hm, e, List.map_dropLast]
theorem take_z (k : Nat) (l : List Int) (m : Int) (hm : 0 < m) : ∃ (v : Nat) (l' : List Int), (v : Int) < m ∧ callL prog W (k + 1) (Str.ofString "_law_take") [.own (.lst (l.map .int)), .val (.int m)] = some (.dat (.int v), [.own (.lst (l'.map .int)), .val (.int m)]) := by
  obtain ⟨v, l', h1, h2⟩ := take_ok (W := W) k l m.toNat (by omega)
  have e : ((m.toNat : Nat) : Int) = m := by omega
  refine ⟨v, l', by omega, ?_⟩
  rw [nt, e] at h2
  exact h2
theorem draws_ok (k : Nat) (ns : List Int) (hl : ns.length ≤ 63) : ∃ l : List Int, callL prog W (k + 1) (Str.ofString "_law_draws") [.val (.lst (zs ns)), .val (.int 220)] = some (.own (.lst (zs l)), [.val (.lst (zs ns)), .val (.int 220)]) := by
  suffices H : ∃ o fs, callL prog W (k + 1) (Str.ofString "_law_draws") [.val (.lst (zs ns)), .val (.int 220)] = some (o, fs) ∧ ∃ l : List Int, o = .own (.lst (zs l)) ∧ fs = [.val (.lst (zs ns)), .val (.int 220)] by
    obtain ⟨o, fs, e, l, rfl, rfl⟩ := H
    exact ⟨l, e⟩
  refine e__law_draws ?_
  obtain ⟨ds, env', ⟨x, rfl, hds⟩, e⟩ := ev_lc (c := callL prog W k) (own := [3]) (tg := .nm 3) (src := .var 0) (elt := (.blt .int [(.var 3)])) (cond := []) (env := [.val (.lst (zs ns)), .val (.int 220), .un, .un, .un, .un, .un, .un, .un])
    (zs ns) [.val (.lst (zs ns)), .val (.int 220), .un, .un, .un, .un, .un, .un, .un] (fun i ds env => ∃ x, env = [.val (.lst (zs ns)), .val (.int 220), .un, x, .un, .un, .un, .un, .un] ∧ ds = zs (ns.take i))
    (by simp [exs, ex, ev, evds, evs, evAnd, evOr, look, fin, view, views, cm, D.plain, wantsM, isSeq, sameQ, truth, mutD, toD, op2, store, aug2, giveOut, finals, lend, PF.giveBack, bltD, isiD, kd, isK, idxD, mthD, b2i, itemsOf, bindT, Md.tv, setAll, revD, part, slcD, shp_int, shp_bl, deq_int, deq_bl, shp_non, rg1, rg2, rg3, rg4, ln1, ln2, ln3, ln4]) ⟨.un, rfl, by simp⟩ (fun i x ds env hx ⟨y, he, hd⟩ => by
      rw [List.getElem?_map] at hx
      have hi : i < ns.length := by
        by_cases hi : i < ns.length
        · exact hi
        · rw [List.getElem?_eq_none (by omega)] at hx; cases hx
      rw [List.getElem?_eq_getElem hi] at hx
      cases hx
      subst he
      subst hd
      refine ⟨some (.int ns[i]), _, ?_, .val (.int ns[i]), rfl, ?_⟩
      · simp [lcT, wipeE, exs, ex, ev, evds, evs, evAnd, evOr, look, fin, view, views, cm, D.plain, wantsM, isSeq, sameQ, truth, mutD, toD, op2, store, aug2, giveOut, finals, lend, PF.giveBack, bltD, isiD, kd, isK, idxD, mthD, b2i, itemsOf, bindT, Md.tv, setAll, revD, part, slcD, shp_int, shp_bl, deq_int, deq_bl, shp_non, rg1, rg2, rg3, rg4, ln1, ln2, ln3, ln4]
      · show (ns.take i).map D.int ++ [D.int ns[i]] = (ns.take (i + 1)).map D.int
        rw [List.take_add_one, List.getElem?_eq_getElem hi, List.map_append]; rfl)
  have hln : ds.length ≤ line := by rw [hds]; simp; unfold line; omega
  have e2 := e hln
  rw [hds] at e2
  simp at e2
  refine go_step [.val (.lst (zs ns)), .val (.int 220), .own (.lst (zs ns)), .un, .un, .un, .un, .un, .un] (by
    generalize E.lc [3] (.nm 3) (.var 0) [] (.blt .int [(.var 3)]) = q at e2 ⊢
    simp [exs, ex, ev, evds, evs, evAnd, evOr, look, fin, view, views, cm, D.plain, wantsM, isSeq, sameQ, truth, mutD, toD, op2, store, aug2, giveOut, finals, lend, PF.giveBack, bltD, isiD, kd, isK, idxD, mthD, b2i, itemsOf, bindT, Md.tv, setAll, revD, part, slcD, shp_int, shp_bl, deq_int, deq_bl, shp_non, rg1, rg2, rg3, rg4, ln1, ln2, ln3, ln4, e2, backE]) ?_
  have key : ∀ C : List Int, C ≠ [] → Goes (callL prog W k) W [.set 4 (.blt .list [(.var 2)]), .set 5 (.lst []), .for (.nm 6) (.rng [(.var 1)]) [.set 7 (.bin .mod (.var 6) (.blt .len [(.var 2)])), .ite (.and [(.cmp .ge (.idx (.var 2) (.var 7)) (.bin .pow (.int 10) (.int 18))), (.cmp .gt (.idx (.var 4) (.var 7)) (.int 0))]) [.expr (.mut .append 5 [(.bin .mod (.blt .int [(.idx (.var 4) (.var 7))]) (.int 1000))]), .sub 4 (.var 7) (.bin .fdiv (.idx (.var 4) (.var 7)) (.int 1000))] [.set 8 (.bin .mod (.blt .int [(.bin .add (.bin .add (.bin .mul (.idx (.var 2) (.var 7)) (.int 48271)) (.bin .mul (.var 6) (.int 69621))) (.int 11))]) (.int 2147483647)), .expr (.mut .append 5 [(.bin .mod (.blt .int [(.bin .add (.bin .add (.bin .mul (.var 8) (.var 8)) (.bin .mul (.int 3) (.var 8))) (.var 6))]) (.int 1000003))])]], .expr (.mut .reverse 5 []), .ret (.var 5)]
      [.val (.lst (zs ns)), .val (.int 220), .own (.lst (zs C)), .un, .un, .un, .un, .un, .un] (fun r => match outR d__law_draws r with | some (o, fs) => ∃ l : List Int, o = .own (.lst (zs l)) ∧ fs = [.val (.lst (zs ns)), .val (.int 220)] | none => False) := by
    intro C hC
    have hCl : 0 < C.length := List.length_pos_iff.mpr hC
    refine go_step [.val (.lst (zs ns)), .val (.int 220), .own (.lst (zs C)), .un, .own (.lst (zs C)), .un, .un, .un, .un] (by simp [exs, ex, ev, evds, evs, evAnd, evOr, look, fin, view, views, cm, D.plain, wantsM, isSeq, sameQ, truth, mutD, toD, op2, store, aug2, giveOut, finals, lend, PF.giveBack, bltD, isiD, kd, isK, idxD, mthD, b2i, itemsOf, bindT, Md.tv, setAll, revD, part, slcD, shp_int, shp_bl, deq_int, deq_bl, shp_non, rg1, rg2, rg3, rg4, ln1, ln2, ln3, ln4]) ?_
    refine go_step [.val (.lst (zs ns)), .val (.int 220), .own (.lst (zs C)), .un, .own (.lst (zs C)), .own (.lst (zs [])), .un, .un, .un] (by simp [exs, ex, ev, evds, evs, evAnd, evOr, look, fin, view, views, cm, D.plain, wantsM, isSeq, sameQ, truth, mutD, toD, op2, store, aug2, giveOut, finals, lend, PF.giveBack, bltD, isiD, kd, isK, idxD, mthD, b2i, itemsOf, bindT, Md.tv, setAll, revD, part, slcD, shp_int, shp_bl, deq_int, deq_bl, shp_non, rg1, rg2, rg3, rg4, ln1, ln2, ln3, ln4]) ?_
    refine go_for ((List.range 220).map nt) [.val (.lst (zs ns)), .val (.int 220), .own (.lst (zs C)), .un, .own (.lst (zs C)), .own (.lst (zs [])), .un, .un, .un]
      (fun i env => ∃ (R Dd : List Int) (x6 x7 x8 : Slot), env = [.val (.lst (zs ns)), .val (.int 220), .own (.lst (zs C)), .un, .own (.lst (zs R)), .own (.lst (zs Dd)), x6, x7, x8] ∧ R.length = C.length ∧ Dd.length = i)
      (ev_rng (ds := [nt 220]) (by simp [exs, ex, ev, evds, evs, evAnd, evOr, look, fin, view, views, cm, D.plain, wantsM, isSeq, sameQ, truth, mutD, toD, op2, store, aug2, giveOut, finals, lend, PF.giveBack, bltD, isiD, kd, isK, idxD, mthD, b2i, itemsOf, bindT, Md.tv, setAll, revD, part, slcD, shp_int, shp_bl, deq_int, deq_bl, shp_non, rg1, rg2, rg3, rg4, ln1, ln2, ln3, ln4, nt]) (rng_nat _ (by decide))) ⟨C, [], .un, .un, .un, rfl, rfl, rfl⟩ (fun i x env hx ⟨R, Dd, x6, x7, x8, he, h1, h2⟩ => ?_) fun env ⟨R, Dd, x6, x7, x8, he, h1, h2⟩ => ?_
    · obtain ⟨hi, rfl⟩ := xs_at hx
      subst he
      refine ⟨_, rfl, ?_⟩
      have hj : i % C.length < C.length := Nat.mod_lt _ hCl
      have hj2 : i % C.length < R.length := by omega
      have hp : (0 : Int) < C.length := by omega
      have hln : Dd.length < line := by unfold line; omega
      refine go_step [.val (.lst (zs ns)), .val (.int 220), .own (.lst (zs C)), .un, .own (.lst (zs R)), .own (.lst (zs Dd)), .val (nt i), .val (nt (i % C.length)), x8] (by simp [exs, ex, ev, evds, evs, evAnd, evOr, look, fin, view, views, cm, D.plain, wantsM, isSeq, sameQ, truth, mutD, toD, op2, store, aug2, giveOut, finals, lend, PF.giveBack, bltD, isiD, kd, isK, idxD, mthD, b2i, itemsOf, bindT, Md.tv, setAll, revD, part, slcD, shp_int, shp_bl, deq_int, deq_bl, shp_non, rg1, rg2, rg3, rg4, ln1, ln2, ln3, ln4, hCl]) ?_
      generalize i % C.length = j at *
      have a1 := atD_zs hj
      have a2 := atD_zs hj2
      generalize C[j]?.getD 0 = cv at *
      generalize hrv : R[j]?.getD 0 = rv at *
      have other : Goes (callL prog W k) W [.set 8 (.bin .mod (.blt .int [(.bin .add (.bin .add (.bin .mul (.idx (.var 2) (.var 7)) (.int 48271)) (.bin .mul (.var 6) (.int 69621))) (.int 11))]) (.int 2147483647)), .expr (.mut .append 5 [(.bin .mod (.blt .int [(.bin .add (.bin .add (.bin .mul (.var 8) (.var 8)) (.bin .mul (.int 3) (.var 8))) (.var 6))]) (.int 1000003))])]
          [.val (.lst (zs ns)), .val (.int 220), .own (.lst (zs C)), .un, .own (.lst (zs R)), .own (.lst (zs Dd)), .val (nt i), .val (nt j), x8] (fun r => ∃ (D2 : List Int) (x8 : Slot), r = .nx [.val (.lst (zs ns)), .val (.int 220), .own (.lst (zs C)), .un, .own (.lst (zs R)), .own (.lst (zs D2)), .val (nt i), .val (nt j), x8] ∧ D2.length = i + 1) := by
        have hs := small_mod (cv * 48271 + i * 69621 + 11)
        refine go_step [.val (.lst (zs ns)), .val (.int 220), .own (.lst (zs C)), .un, .own (.lst (zs R)), .own (.lst (zs Dd)), .val (nt i), .val (nt j), .val (.int ((cv * 48271 + i * 69621 + 11) % 2147483647))] (ex8 _ 48271 69621 11 2147483647 cv i j _ _ _ _ _ _ _ (by decide) (by decide) (by decide) a1) ?_
        generalize (cv * 48271 + i * 69621 + 11) % 2147483647 = o at *
        simp [Goes, exs, ex, ev, evds, evs, evAnd, evOr, look, fin, view, views, cm, D.plain, wantsM, isSeq, sameQ, truth, mutD, toD, op2, store, aug2, giveOut, finals, lend, PF.giveBack, bltD, isiD, kd, isK, idxD, mthD, b2i, itemsOf, bindT, Md.tv, setAll, revD, part, slcD, shp_int, shp_bl, deq_int, deq_bl, shp_non, rg1, rg2, rg3, rg4, ln1, ln2, ln3, ln4, hs, hln, show small64 3 = true by decide]
        exact ⟨Dd ++ [(o * o + 3 * o + i) % 1000003], by simp, by simp [h2]⟩
      by_cases hc1 : (1000000000000000000 : Int) ≤ cv
      · by_cases hc2 : 0 < rv
        · have s1 := setL_zs hj2 (rv / 1000)
          refine go_ite true [.val (.lst (zs ns)), .val (.int 220), .own (.lst (zs C)), .un, .own (.lst (zs R)), .own (.lst (zs Dd)), .val (nt i), .val (nt j), x8] (by simp [exs, ex, ev, evds, evs, evAnd, evOr, look, fin, view, views, cm, D.plain, wantsM, isSeq, sameQ, truth, mutD, toD, op2, store, aug2, giveOut, finals, lend, PF.giveBack, bltD, isiD, kd, isK, idxD, mthD, b2i, itemsOf, bindT, Md.tv, setAll, revD, part, slcD, shp_int, shp_bl, deq_int, deq_bl, shp_non, rg1, rg2, rg3, rg4, ln1, ln2, ln3, ln4, a1, a2, hc1, hc2]) (fun _ => ?_) (fun h => absurd h (by simp))
          simp [Goes, Turn, exs, ex, ev, evds, evs, evAnd, evOr, look, fin, view, views, cm, D.plain, wantsM, isSeq, sameQ, truth, mutD, toD, op2, store, aug2, giveOut, finals, lend, PF.giveBack, bltD, isiD, kd, isK, idxD, mthD, b2i, itemsOf, bindT, Md.tv, setAll, revD, part, slcD, shp_int, shp_bl, deq_int, deq_bl, shp_non, rg1, rg2, rg3, rg4, ln1, ln2, ln3, ln4, a1, a2, hln, s1]
          exact ⟨R.set j (rv / 1000), Dd ++ [rv % 1000], ⟨by simp [List.map_set], by simp⟩, by simp [h1], by simp [h2]⟩
        · refine go_ite false [.val (.lst (zs ns)), .val (.int 220), .own (.lst (zs C)), .un, .own (.lst (zs R)), .own (.lst (zs Dd)), .val (nt i), .val (nt j), x8] (by simp [exs, ex, ev, evds, evs, evAnd, evOr, look, fin, view, views, cm, D.plain, wantsM, isSeq, sameQ, truth, mutD, toD, op2, store, aug2, giveOut, finals, lend, PF.giveBack, bltD, isiD, kd, isK, idxD, mthD, b2i, itemsOf, bindT, Md.tv, setAll, revD, part, slcD, shp_int, shp_bl, deq_int, deq_bl, shp_non, rg1, rg2, rg3, rg4, ln1, ln2, ln3, ln4, a1, a2, hc1, hc2]) (fun h => absurd h (by simp)) (fun _ => ?_)
          rw [List.append_nil]
          exact other.imp fun r ⟨D2, x8, e, h⟩ => by subst e; exact ⟨R, D2, _, _, _, rfl, h1, h⟩
      · refine go_ite false [.val (.lst (zs ns)), .val (.int 220), .own (.lst (zs C)), .un, .own (.lst (zs R)), .own (.lst (zs Dd)), .val (nt i), .val (nt j), x8] (by simp [exs, ex, ev, evds, evs, evAnd, evOr, look, fin, view, views, cm, D.plain, wantsM, isSeq, sameQ, truth, mutD, toD, op2, store, aug2, giveOut, finals, lend, PF.giveBack, bltD, isiD, kd, isK, idxD, mthD, b2i, itemsOf, bindT, Md.tv, setAll, revD, part, slcD, shp_int, shp_bl, deq_int, deq_bl, shp_non, rg1, rg2, rg3, rg4, ln1, ln2, ln3, ln4, a1, a2, hc1]) (fun h => absurd h (by simp)) (fun _ => ?_)
        rw [List.append_nil]
        exact other.imp fun r ⟨D2, x8, e, h⟩ => by subst e; exact ⟨R, D2, _, _, _, rfl, h1, h⟩
    · subst he
      simp [Goes, outR, exs, ex, ev, evds, evs, evAnd, evOr, look, fin, view, views, cm, D.plain, wantsM, isSeq, sameQ, truth, mutD, toD, op2, store, aug2, giveOut, finals, lend, PF.giveBack, bltD, isiD, kd, isK, idxD, mthD, b2i, itemsOf, bindT, Md.tv, setAll, revD, part, slcD, shp_int, shp_bl, deq_int, deq_bl, shp_non, rg1, rg2, rg3, rg4, ln1, ln2, ln3, ln4, d__law_draws]
      exact ⟨Dd.reverse, by simp⟩
  cases ns with
  | nil =>
    refine go_ite true [.val (.lst (zs [])), .val (.int 220), .own (.lst (zs [])), .un, .un, .un, .un, .un, .un] (by simp [exs, ex, ev, evds, evs, evAnd, evOr, look, fin, view, views, cm, D.plain, wantsM, isSeq, sameQ, truth, mutD, toD, op2, store, aug2, giveOut, finals, lend, PF.giveBack, bltD, isiD, kd, isK, idxD, mthD, b2i, itemsOf, bindT, Md.tv, setAll, revD, part, slcD, shp_int, shp_bl, deq_int, deq_bl, shp_non, rg1, rg2, rg3, rg4, ln1, ln2, ln3, ln4]) (fun _ => ?_) (fun h => absurd h (by simp))
    refine go_step [.val (.lst (zs [])), .val (.int 220), .own (.lst (zs [0])), .un, .un, .un, .un, .un, .un] (by simp [exs, ex, ev, evds, evs, evAnd, evOr, look, fin, view, views, cm, D.plain, wantsM, isSeq, sameQ, truth, mutD, toD, op2, store, aug2, giveOut, finals, lend, PF.giveBack, bltD, isiD, kd, isK, idxD, mthD, b2i, itemsOf, bindT, Md.tv, setAll, revD, part, slcD, shp_int, shp_bl, deq_int, deq_bl, shp_non, rg1, rg2, rg3, rg4, ln1, ln2, ln3, ln4, show 0 < line by decide]) ?_
    exact key [0] (by simp)
  | cons n0 ns =>
    have hn : ¬ (((ns.length : Int) + 1) = 0) := by omega
    refine go_ite false [.val (.lst (zs (n0 :: ns))), .val (.int 220), .own (.lst (zs (n0 :: ns))), .un, .un, .un, .un, .un, .un] (by simp [exs, ex, ev, evds, evs, evAnd, evOr, look, fin, view, views, cm, D.plain, wantsM, isSeq, sameQ, truth, mutD, toD, op2, store, aug2, giveOut, finals, lend, PF.giveBack, bltD, isiD, kd, isK, idxD, mthD, b2i, itemsOf, bindT, Md.tv, setAll, revD, part, slcD, shp_int, shp_bl, deq_int, deq_bl, shp_non, rg1, rg2, rg3, rg4, ln1, ln2, ln3, ln4, hn]) (fun h => absurd h (by simp)) (fun _ => ?_)
    exact key (n0 :: ns) (by simp)
theorem intsM {α : Type} (as : List α) (f : α → Nat) : intsD (as.map fun a => nt (f a)) = some ((as.map f).map Int.ofNat) := by
  have := ints_bits (as.map f)
  rwa [bits, List.map_map] at this
theorem mapB {α : Type} (as : List α) (f : α → Nat) : (as.map fun a => nt (f a)) = bits (as.map f) := by simp [bits]
theorem shl_bit {b j : Nat} (hb : b < 2) (hj : j < 100000) : op2 .shl (nt b) (nt j) = some (.dat (nt (b * 2 ^ j))) := by
  have h1 : (Builtin.Int.intBits 0 : Nat) = 0 := by decide
  have h2 : (Builtin.Int.intBits 1 : Nat) = 1 := by decide
  have hb2 : b = 0 ∨ b = 1 := by omega
  rcases hb2 with rfl | rfl
  · have : ((Builtin.Int.intBits ((0 : Nat) : Int) : Int) + (j : Int) ≤ 2 ^ 27) := by
      rw [show Builtin.Int.intBits ((0 : Nat) : Int) = 0 from h1]; omega
    simp only [op2, nt]
    rw [if_pos ⟨by omega, this⟩]
    simp
  · have : ((Builtin.Int.intBits ((1 : Nat) : Int) : Int) + (j : Int) ≤ 2 ^ 27) := by
      rw [show Builtin.Int.intBits ((1 : Nat) : Int) = 1 from h2]; omega
    simp only [op2, nt]
    rw [if_pos ⟨by omega, this⟩]
    simp
theorem ev_two {c : Cl} {env : PF.Env} : ev c (.int 2) .v env = some (.dat (nt 2), env) := by simp only [ev, fin, nt]; rfl
theorem ev_one {c : Cl} {env : PF.Env} : ev c (.int 1) .v env = some (.dat (nt 1), env) := by simp only [ev, fin, nt]; rfl
theorem ev_pow2 {c : Cl} {env : PF.Env} {b : E} {j : Nat} (hj : j < 100000) (hb : ev c b .v env = some (.dat (nt j), env)) : ev c (.bin .shl (.int 1) b) .v env = some (.dat (nt (2 ^ j)), env) := by
  have := ev_bin (c := c) ev_one hb (shl_bit (b := 1) (by decide) hj)
  rwa [Nat.one_mul] at this
theorem ev_take {i m : Nat} {l : List Int} (hm : 0 < m) (h0 : look env i = .own (.lst (zs l))) (ha : ev (callL prog W (k + 1)) a .v env = some (.dat (nt m), env)) :
    ∃ (v : Nat) (l' : List Int), v < m ∧ ev (callL prog W (k + 1)) (.call (Str.ofString "_law_take") [.var i, a]) .v env = some (.dat (nt v), env.set i (.own (.lst (zs l')))) := by
  obtain ⟨v, l', hv, e⟩ := take_ok (W := W) k l m hm
  refine ⟨v, l', hv, ?_⟩
  have := ev_callS2 h0 ha h0 e
  rwa [List.set_set] at this
theorem and_two {c : Cl} {env env1 env2 : PF.Env} {a b : E} (ha : ev c a .v env = some (.dat (.bl true), env1)) (hb : ev c b .v env1 = some (.dat (.bl true), env2)) : ev c (.and [a, b]) .v env = some (.dat (.bl true), env2) := by
  simp [ev, evAnd, ha, hb, fin, Md.tv]
theorem ev_lcTk {c : Cl} {i : Nat} {src elt : E} {cond : List E} {env : PF.Env} (xs : List D) (E : List Int → Slot → PF.Env) (l0 : List Int) (x0 : Slot) (m : Nat) (hsrc : ev c src .i env = some (.dat (.tup xs), E l0 x0)) (hl : xs.length ≤ 100)
    (h : ∀ x ∈ xs, ∀ l w, ∃ r l' w', lcT c [i] (.nm i) cond elt x (E l w) = some (r, E l' w') ∧ ∀ d, r = some d → ∃ v : Nat, v < m ∧ d = nt v) (hb : ∀ l w, backE (E l0 x0) (E l w) [i] = E l x0) :
    ∃ (vs : List Nat) (l' : List Int), vs.length ≤ xs.length ∧ (∀ v ∈ vs, v < m) ∧ ev c (.lc [i] (.nm i) src cond elt) .v env = some (.own (.lst (bits vs)), E l' x0) := by
  have key : ∀ (ys : List D), (∀ x ∈ ys, x ∈ xs) → ∀ l w, ∃ (vs : List Nat) (l' : List Int) (w' : Slot), vs.length ≤ ys.length ∧ (∀ v ∈ vs, v < m) ∧ lcLoop (lcT c [i] (.nm i) cond elt) ys (E l w) = some (bits vs, E l' w') := by
    intro ys
    induction ys with
    | nil => intro _ l w; exact ⟨[], l, w, Nat.le_refl _, (fun _ h => nomatch h), rfl⟩
    | cons y ys ih =>
      intro hm l w
      obtain ⟨r, l1, w1, e1, q1⟩ := h y (hm y List.mem_cons_self) l w
      obtain ⟨vs, l2, w2, h1, h2, h3⟩ := ih (fun x hx => hm x (List.mem_cons_of_mem _ hx)) l1 w1
      cases r with
      | none => exact ⟨vs, l2, w2, by simp; omega, h2, by simp only [lcLoop, e1, h3]⟩
      | some d =>
        obtain ⟨v, hv, rfl⟩ := q1 d rfl
        refine ⟨v :: vs, l2, w2, by simp; omega, fun z hz => ?_, by simp only [lcLoop, e1, h3, bits, List.map_cons]⟩
        rcases List.mem_cons.mp hz with rfl | hz
        · exact hv
        · exact h2 z hz
  obtain ⟨vs, l', w', h1, h2, h3⟩ := key xs (fun _ h => h) l0 x0
  refine ⟨vs, l', h1, h2, ?_⟩
  rw [ev_lc0]
  have : (bits vs).length ≤ line := by simp; unfold line; omega
  simp only [hsrc, h3, if_pos this, hb]
theorem eqv_bits : ∀ (a b : List Nat), PyData.eqvAll (D.pys (bits a)) (D.pys (bits b)) = decide (a = b)
  | [], [] => by simp [D.pys, PyData.eqvAll]
  | [], y :: ys => by simp [D.pys, PyData.eqvAll]
  | x :: xs, [] => by simp [D.pys, PyData.eqvAll]
  | x :: xs, y :: ys => by
    simp only [List.map_cons, D.pys, PyData.eqvAll]
    rw [eqv_bits xs ys, show PyData.eqv (nt x).py (nt y).py = deq (nt x) (nt y) from rfl, deq_int]
    by_cases h : x = y <;> simp [h] <;> omega
theorem deq_bits (a b : List Nat) : deq (.tup (bits a)) (.tup (bits b)) = decide (a = b) := by
  unfold deq; simp only [D.py, PyData.eqv]; exact eqv_bits a b
theorem lay_bits : ∀ ds : List Nat, PyData.canLayAll0 (D.pys (bits ds)) = true
  | [] => rfl
  | d :: ds => by simp only [List.map_cons, D.pys, D.py, PyData.canLayAll0, PyData.canLay0, Bool.true_and]; exact lay_bits ds
theorem dep_bits : ∀ ds : List Nat, PyData.depthAll (D.pys (bits ds)) = 0
  | [] => rfl
  | d :: ds => by simp only [List.map_cons, D.pys, D.py, PyData.depthAll, PyData.depth]; rw [dep_bits ds]; rfl
abbrev tb (T : List (List Nat)) : List D := T.map fun r => .tup (bits r)
abbrev bl (E : List Bool) : List D := E.map .bl
abbrev mach (t : Nat) (T : List (List Nat)) (E : List Bool) : D := .tup [nt t, .tup (tb T), .tup (bl E)]
theorem at_tb {T : List (List Nat)} {s : Nat} (h : s < T.length) : idxD (.tup (tb T)) (nt s) = some (.tup (bits (row T s))) := by
  simp [idxD, atD, L2.atI, L2.ixN, h, row]
theorem at_bl {E : List Bool} {s : Nat} (h : s < E.length) : idxD (.tup (bl E)) (nt s) = some (.bl (E[s]?.getD false)) := by
  simp [idxD, atD, L2.atI, L2.ixN, h]
section
variable {c : Cl} {env : PF.Env} {a : E} {t : Nat} {T : List (List Nat)} {E : List Bool}
theorem ev_m1 (h : ev c a .v env = some (.dat (mach t T E), env)) : ev c (.idx a (.int 1)) .v env = some (.dat (.tup (tb T)), env) := ev_idx h ev_ci rfl
end
section
variable {c : Cl} {env : PF.Env} {a : E} {t : Nat} {T : List (List Nat)} {E : List Bool}
theorem ev_m2 (h : ev c a .v env = some (.dat (mach t T E), env)) : ev c (.idx a (.int 2)) .v env = some (.dat (.tup (bl E)), env) := ev_idx h ev_ci rfl
end
section
variable {c : Cl} {env : PF.Env} {a : E} {t : Nat} {T : List (List Nat)} {E : List Bool}
theorem ev_m0 (h : ev c a .v env = some (.dat (mach t T E), env)) : ev c (.idx a (.int 0)) .v env = some (.dat (nt t), env) := ev_idx h ev_ci rfl
end
theorem memI_bits (x : Nat) (f : List Nat) : memI (x : Int) (bits f) = decide (x ∈ f) := by
  induction f with
  | nil => simp [memI]
  | cons n f ih =>
    simp only [memI, bits, List.map_cons, List.any_cons] at ih ⊢
    rw [ih]
    by_cases h : n = x
    · simp [h]
    · have h2 : ¬ x = n := fun z => h z.symm
      have h3 : ¬ (n : Int) = x := by omega
      simp [h2, h3]
theorem shp_bits (ds : List Nat) : shp (.tup (bits ds)) = true := by
  unfold shp SeqAt.shaped
  simp [D.plain, D.py, PyData.canLay0, PyData.depth, lay_bits, dep_bits]
theorem shp_bitsL (ds : List Nat) : shp (.lst (bits ds)) = true := by
  unfold shp SeqAt.shaped
  simp [D.plain, D.py, PyData.canLay0, PyData.depth, lay_bits, dep_bits]
theorem mem_bits (x : Nat) (L : List Nat) : memD (nt x) (bits L) = decide (x ∈ L) := by
  unfold memD
  induction L with
  | nil => simp
  | cons y L ih =>
    rw [bits, List.map_cons, List.any_cons, ih, deq_int]
    by_cases h : y = x
    · simp [h]
    · have h2 : ¬ x = y := fun z => h z.symm
      have h3 : ¬ (y : Int) = x := by omega
      simp [h2, h3]
theorem notin_bits (x : Nat) (f : List Nat) : cm .notin (nt x) (.lst (bits f)) = some (!decide (x ∈ f)) := by
  simp only [cm, shp_int, shp_bitsL, Bool.and_self, if_true, mem_bits]
theorem notin_set (x : Nat) (f : List Nat) : cm .notin (nt x) (.set (bits f)) = some (!decide (x ∈ f)) := by
  simp only [cm, nt, memI_bits]
theorem lt_nt (a b : Nat) : cm .lt (nt a) (nt b) = some (decide (a < b)) := by simp [cm, nt]
theorem app_bits {f : List Nat} {x : Nat} (h : f.length < 1000) : mutD .append (.lst (bits f)) [nt x] = some (.non, .lst (bits (f ++ [x]))) := by
  have : (bits f).length < line := by simp; unfold line; omega
  simp only [mutD]; rw [if_pos this]; simp [bits]
theorem add_bits {f : List Nat} {x : Nat} (h : f.length < 1000) (hx : x ∉ f) : mutD .add (.set (bits f)) [nt x] = some (.non, .set (bits (f ++ [x]))) := by
  have h2 : (bits f).length + 1 < 4000 := by simp; omega
  simp only [mutD, nt]
  rw [if_pos h2, addI, memI_bits, decide_eq_false hx]
  simp [bits]
theorem take_succ' {r : List Nat} {j : Nat} (h : j < r.length) : r.take (j + 1) = r.take j ++ [r[j]?.getD 0] := by
  rw [List.take_succ]; simp [h]
theorem addRow_snoc (f r : List Nat) (x : Nat) : addRow f (r ++ [x]) = addS (addRow f r) x := by simp [addRow, List.foldl_append]
theorem nth_bits {r : List Nat} {i : Nat} {x : D} (h : (bits r)[i]? = some x) : i < r.length ∧ x = nt (r[i]?.getD 0) := by
  have hl : i < r.length := by simpa using (List.getElem?_eq_some_iff.mp h).1
  refine ⟨hl, ?_⟩
  rw [bits, List.getElem?_map, List.getElem?_eq_getElem hl] at h
  simp [hl]
  simpa using h.symm
/-! ### the law's own order -/
end K06
namespace K06
open PySem PF K03 K02
variable {W : Nat}
inductive dp : Nat → D → Prop
  | int (m : Nat) (i : Int) : dp m (.int i)
  | bl (m : Nat) (b : Bool) : dp m (.bl b)
  | non (m : Nat) : dp m .non
  | tup (m : Nat) (xs : List D) : xs.length < 100000 → (∀ x ∈ xs, dp m x) → dp (m + 1) (.tup xs)
theorem same_non (k : Nat) : callL prog W (k + 1) (Str.ofString "_law_same") [.val .non, .val .non] = some (.dat (.bl true), [.val .non, .val .non]) := by
  refine c__law_same ?_
  simp [Goes, outR, exs, ex, ev, evds, evs, evAnd, evOr, look, fin, view, views, cm, D.plain, wantsM, isSeq, sameQ, truth, mutD, toD, op2, store, aug2, giveOut, finals, lend, PF.giveBack, bltD, isiD, kd, isK, idxD, mthD, b2i, itemsOf, bindT, Md.tv, setAll, revD, part, slcD, shp_int, shp_bl, deq_int, deq_bl, shp_non, rg1, rg2, rg3, rg4, ln1, ln2, ln3, ln4, d__law_same, D.isNon]
theorem at_any {xs : List D} {i : Nat} (h : i < xs.length) : idxD (.tup xs) (nt i) = some (xs[i]?.getD .non) := by
  simp [idxD, atD, L2.atI, L2.ixN, h]
theorem same_ok : ∀ (m k : Nat) (d : D), dp m d → callL prog W (k + m + 1) (Str.ofString "_law_same") [.val d, .val d] = some (.dat (.bl true), [.val d, .val d])
  | m, k, .int i, h => same_int (k + m) i
  | m, k, .bl i, h => same_bl (k + m) i
  | m, k, .non, h => same_non (k + m)
  | 0, k, .tup xs, h => by cases h
  | m + 1, k, .tup xs, h => by
    cases h with
    | tup _ _ hl hx =>
      refine c__law_same ?_
      refine go_step [.val (.tup xs), .val (.tup xs), .un] (by simp [exs, ex, ev, evds, evs, evAnd, evOr, look, fin, view, views, cm, D.plain, wantsM, isSeq, sameQ, truth, mutD, toD, op2, store, aug2, giveOut, finals, lend, PF.giveBack, bltD, isiD, kd, isK, idxD, mthD, b2i, itemsOf, bindT, Md.tv, setAll, revD, part, slcD, shp_int, shp_bl, deq_int, deq_bl, shp_non, rg1, rg2, rg3, rg4, ln1, ln2, ln3, ln4]) ?_
      refine go_step [.val (.tup xs), .val (.tup xs), .un] (by simp [exs, ex, ev, evds, evs, evAnd, evOr, look, fin, view, views, cm, D.plain, wantsM, isSeq, sameQ, truth, mutD, toD, op2, store, aug2, giveOut, finals, lend, PF.giveBack, bltD, isiD, kd, isK, idxD, mthD, b2i, itemsOf, bindT, Md.tv, setAll, revD, part, slcD, shp_int, shp_bl, deq_int, deq_bl, shp_non, rg1, rg2, rg3, rg4, ln1, ln2, ln3, ln4]) ?_
      refine go_step [.val (.tup xs), .val (.tup xs), .un] (by simp [exs, ex, ev, evds, evs, evAnd, evOr, look, fin, view, views, cm, D.plain, wantsM, isSeq, sameQ, truth, mutD, toD, op2, store, aug2, giveOut, finals, lend, PF.giveBack, bltD, isiD, kd, isK, idxD, mthD, b2i, itemsOf, bindT, Md.tv, setAll, revD, part, slcD, shp_int, shp_bl, deq_int, deq_bl, shp_non, rg1, rg2, rg3, rg4, ln1, ln2, ln3, ln4]) ?_
      refine go_step [.val (.tup xs), .val (.tup xs), .un] (by simp [exs, ex, ev, evds, evs, evAnd, evOr, look, fin, view, views, cm, D.plain, wantsM, isSeq, sameQ, truth, mutD, toD, op2, store, aug2, giveOut, finals, lend, PF.giveBack, bltD, isiD, kd, isK, idxD, mthD, b2i, itemsOf, bindT, Md.tv, setAll, revD, part, slcD, shp_int, shp_bl, deq_int, deq_bl, shp_non, rg1, rg2, rg3, rg4, ln1, ln2, ln3, ln4, D.isNon]) ?_
      refine go_step [.val (.tup xs), .val (.tup xs), .un] (by simp [exs, ex, ev, evds, evs, evAnd, evOr, look, fin, view, views, cm, D.plain, wantsM, isSeq, sameQ, truth, mutD, toD, op2, store, aug2, giveOut, finals, lend, PF.giveBack, bltD, isiD, kd, isK, idxD, mthD, b2i, itemsOf, bindT, Md.tv, setAll, revD, part, slcD, shp_int, shp_bl, deq_int, deq_bl, shp_non, rg1, rg2, rg3, rg4, ln1, ln2, ln3, ln4]) ?_
      refine go_for ((List.range xs.length).map nt) [.val (.tup xs), .val (.tup xs), .un] (fun i env => ∃ (x : Slot), env = [.val (.tup xs), .val (.tup xs), x]) (ev_range hl (ev_tlen (ev_var rfl) rfl)) ⟨.un, rfl⟩ (fun i x env hx2 ⟨y, he⟩ => ?_) fun env ⟨y, he⟩ => ?_
      · obtain ⟨hi, rfl⟩ := xs_at hx2
        subst he
        refine ⟨_, rfl, ?_⟩
        have hm : xs[i]?.getD .non ∈ xs := by simp [hi]
        have e := same_ok m k _ (hx _ hm)
        exact go_pass (call_n (ev_call2 (ev_idx (ev_var rfl) (ev_var rfl) (at_any hi)) (ev_idx (ev_var rfl) (ev_var rfl) (at_any hi)) e)) (go_nil ⟨.val (nt i), rfl⟩)
      · subst he
        simp [Goes, outR, exs, ex, ev, evds, evs, evAnd, evOr, look, fin, view, views, cm, D.plain, wantsM, isSeq, sameQ, truth, mutD, toD, op2, store, aug2, giveOut, finals, lend, PF.giveBack, bltD, isiD, kd, isK, idxD, mthD, b2i, itemsOf, bindT, Md.tv, setAll, revD, part, slcD, shp_int, shp_bl, deq_int, deq_bl, shp_non, rg1, rg2, rg3, rg4, ln1, ln2, ln3, ln4, d__law_same]
  | m, k, .str x, h => by cases h
  | m, k, .lst x, h => by cases h
  | m, k, .set x, h => by cases h
  | m, k, .dct x y, h => by cases h
  | m, k, .dkt x y, h => by cases h
  | m, k, .fn x, h => by cases h
theorem dp_bits (m : Nat) (ds : List Nat) (h : ds.length < 100000) : dp (m + 1) (.tup (bits ds)) := .tup _ _ (by simpa using h) fun x hx => by obtain ⟨n, _, rfl⟩ := List.mem_map.mp hx; exact .int _ _
theorem dp_mach {t : Nat} {T : List (List Nat)} {E : List Bool} (h1 : T.length < 100000) (h2 : ∀ r ∈ T, r.length < 100000) (h3 : E.length < 100000) : dp 3 (mach t T E) := by
  refine .tup _ _ (by simp) fun x hx => ?_
  simp only [List.mem_cons, List.not_mem_nil, or_false] at hx
  rcases hx with rfl | rfl | rfl
  · exact .int _ _
  · refine .tup _ _ (by simpa using h1) fun x hx => ?_
    obtain ⟨r, hr, rfl⟩ := List.mem_map.mp hx
    exact dp_bits 0 r (h2 r hr)
  · refine .tup _ _ (by simpa using h3) fun x hx => ?_
    obtain ⟨b, _, rfl⟩ := List.mem_map.mp hx
    exact .bl _ _
section
variable {k : Nat} {env env1 env2 : PF.Env} {a b : E}
theorem chk {m : Nat} {d : D} (hd : dp m d) (ha : ev (callL prog W (k + m + 1)) a .v env = some (.dat d, env1)) (hb : ev (callL prog W (k + m + 1)) b .v env1 = some (.dat d, env2)) :
    ev (callL prog W (k + m + 1)) (.not (.call (Str.ofString "_law_same") [a, b])) .t env = some (.dat (.bl false), env2) := call_n (ev_call2 ha hb (same_ok m k d hd))
theorem chkV {m : Nat} {d : D} (hd : dp m d) (ha : ev (callL prog W (k + m + 1)) a .v env = some (.dat d, env1)) (hb : ev (callL prog W (k + m + 1)) b .v env1 = some (.dat d, env2)) :
    ev (callL prog W (k + m + 1)) (.call (Str.ofString "_law_same") [a, b]) .v env = some (.dat (.bl true), env2) := ev_call2 ha hb (same_ok m k d hd)
end
theorem addT1 (a : List Nat) (b : Nat) (h : a.length + 1 ≤ 1000) : op2 .add (.tup (bits a)) (.tup [nt b]) = some (.dat (.tup (bits (a ++ [b])))) := by
  have : (bits a).length + [nt b].length ≤ line := by simp; unfold line; omega
  simp only [op2]
  rw [if_pos this]
  simp [bits]
theorem ev_one1 {c : Cl} {env env1 : PF.Env} {a : E} {n : Nat} (h : ev c a .v env = some (.dat (nt n), env1)) : ev c (.tup [a]) .v env = some (.dat (.tup [nt n]), env1) := by
  simp [ev, evds, h, fin, toD, line]
theorem cell_ok (k : Nat) (ns : List Int) : ∃ c : Int, (-(10 ^ 60) < c ∧ c < 10 ^ 60) ∧ callL prog W (k + 1) (Str.ofString "_law_cell") [.val (.lst (zs ns))] = some (.dat (.int c), [.val (.lst (zs ns))]) := by
  cases ns with
  | nil =>
    refine ⟨0, by decide, ?_⟩
    refine c__law_cell ?_
    simp [Goes, outR, exs, ex, ev, evds, evs, evAnd, evOr, look, fin, view, views, cm, D.plain, wantsM, isSeq, sameQ, truth, mutD, toD, op2, store, aug2, giveOut, finals, lend, PF.giveBack, bltD, isiD, kd, isK, idxD, mthD, b2i, itemsOf, bindT, Md.tv, setAll, revD, part, slcD, shp_int, shp_bl, deq_int, deq_bl, shp_non, rg1, rg2, rg3, rg4, ln1, ln2, ln3, ln4, d__law_cell]
  | cons n0 ns =>
    have hj : (((n0 :: ns).length : Int) - 1) % 7 % ((n0 :: ns).length : Int) = ((((n0 :: ns).length - 1) % 7 % (n0 :: ns).length : Nat) : Int) := by simp
    have hlt : ((n0 :: ns).length - 1) % 7 % (n0 :: ns).length < (n0 :: ns).length := Nat.mod_lt _ (by simp)
    generalize hL : n0 :: ns = L at *
    have hpos : 0 < L.length := by rw [← hL]; simp
    generalize (L.length - 1) % 7 % L.length = j at *
    have ha : atD (zs L) (j : Int) = some (.int (L[j]'hlt)) := by simp [atD, L2.atI, L2.ixN, hlt]
    have hn : ¬ ((L.length : Int) = 0) := by omega
    have hne : ¬ (L = []) := by rw [← hL]; simp
    have hp : (0 : Int) < L.length := by omega
    generalize L[j]'hlt = v at *
    by_cases hv : v < 0
    · refine ⟨-(-v % 10 ^ 60), ?_, ?_⟩
      · have h1 := Int.emod_nonneg (-v) (show (10 : Int) ^ 60 ≠ 0 by decide)
        have h2 := Int.emod_lt_of_pos (-v) (show (0 : Int) < 10 ^ 60 by decide)
        omega
      · refine c__law_cell ?_
        simp [Goes, outR, exs, ex, ev, evds, evs, evAnd, evOr, look, fin, view, views, cm, D.plain, wantsM, isSeq, sameQ, truth, mutD, toD, op2, store, aug2, giveOut, finals, lend, PF.giveBack, bltD, isiD, kd, isK, idxD, mthD, b2i, itemsOf, bindT, Md.tv, setAll, revD, part, slcD, shp_int, shp_bl, deq_int, deq_bl, shp_non, rg1, rg2, rg3, rg4, ln1, ln2, ln3, ln4, d__law_cell, hj, ha, hn, hne, hp, hv, hpos]
    · refine ⟨v % 10 ^ 60, ?_, ?_⟩
      · have h1 := Int.emod_nonneg v (show (10 : Int) ^ 60 ≠ 0 by decide)
        have h2 := Int.emod_lt_of_pos v (show (0 : Int) < 10 ^ 60 by decide)
        omega
      · refine c__law_cell ?_
        simp [Goes, outR, exs, ex, ev, evds, evs, evAnd, evOr, look, fin, view, views, cm, D.plain, wantsM, isSeq, sameQ, truth, mutD, toD, op2, store, aug2, giveOut, finals, lend, PF.giveBack, bltD, isiD, kd, isK, idxD, mthD, b2i, itemsOf, bindT, Md.tv, setAll, revD, part, slcD, shp_int, shp_bl, deq_int, deq_bl, shp_non, rg1, rg2, rg3, rg4, ln1, ln2, ln3, ln4, d__law_cell, hj, ha, hn, hne, hp, hv, hpos]
theorem go_len {T : List (List Nat)} (wf : Wf T) (k : Nat) : (go T k 0 [0]).length ≤ T.length := len_le (nd_go T (by simp)) (lt_go wf fun s hs => by rw [List.mem_singleton.mp hs]; exact wf.1)
theorem go_lt {T : List (List Nat)} (wf : Wf T) (k : Nat) : ∀ s ∈ go T k 0 [0], s < T.length := lt_go wf fun s hs => by rw [List.mem_singleton.mp hs]; exact wf.1
theorem ord_of {T : List (List Nat)} {k : Nat} (hk : k ≤ T.length) (h : (go T k 0 [0]).length ≤ k) : ord T = go T k 0 [0] := by
  obtain ⟨m, hm⟩ : ∃ m, T.length = k + m := ⟨T.length - k, by omega⟩
  unfold ord
  rw [hm]
  exact go_more m (by omega)
theorem os_ok (k t : Nat) (T : List (List Nat)) (E : List Bool) (wf : Wf T) (hT : T.length ≤ 100) (hW : 1000 < W) : callL prog W (k + 1) (Str.ofString "order_of_states") [.val (mach t T E)] = some (.dat (.tup (bits (ord T))), [.val (mach t T E)]) := by
  refine c_order_of_states ?_
  refine go_setO (d := .lst (bits [0])) (env1 := [.val (mach t T E), .un, .un, .un, .un]) (by simp [exs, ex, ev, evds, evs, evAnd, evOr, look, fin, view, views, cm, D.plain, wantsM, isSeq, sameQ, truth, mutD, toD, op2, store, aug2, giveOut, finals, lend, PF.giveBack, bltD, isiD, kd, isK, idxD, mthD, b2i, itemsOf, bindT, Md.tv, setAll, revD, part, slcD, shp_int, shp_bl, deq_int, deq_bl, shp_non, rg1, rg2, rg3, rg4, ln1, ln2, ln3, ln4]) ?_
  refine go_setO (d := .set (bits [0])) (env1 := [.val (mach t T E), .own (.lst (bits [0])), .un, .un, .un]) (by simp [exs, ex, ev, evds, evs, evAnd, evOr, look, fin, view, views, cm, D.plain, wantsM, isSeq, sameQ, truth, mutD, toD, op2, store, aug2, giveOut, finals, lend, PF.giveBack, bltD, isiD, kd, isK, idxD, mthD, b2i, itemsOf, bindT, Md.tv, setAll, revD, part, slcD, shp_int, shp_bl, deq_int, deq_bl, shp_non, rg1, rg2, rg3, rg4, ln1, ln2, ln3, ln4]) ?_
  refine go_setD (d := nt 0) (env1 := [.val (mach t T E), .own (.lst (bits [0])), .own (.set (bits [0])), .un, .un]) (by simp [exs, ex, ev, evds, evs, evAnd, evOr, look, fin, view, views, cm, D.plain, wantsM, isSeq, sameQ, truth, mutD, toD, op2, store, aug2, giveOut, finals, lend, PF.giveBack, bltD, isiD, kd, isK, idxD, mthD, b2i, itemsOf, bindT, Md.tv, setAll, revD, part, slcD, shp_int, shp_bl, deq_int, deq_bl, shp_non, rg1, rg2, rg3, rg4, ln1, ln2, ln3, ln4]) ?_
  show Goes _ _ _ [.val (mach t T E), .own (.lst (bits [0])), .own (.set (bits [0])), .val (nt 0), .un] _
  refine go_whl (fun m env => ∃ i x4, m = T.length - i ∧ env = [.val (mach t T E), .own (.lst (bits (go T i 0 [0]))), .own (.set (bits (go T i 0 [0]))), .val (nt i), x4] ∧ i ≤ (go T i 0 [0]).length) T.length (by omega) ⟨0, .un, by omega, rfl, by simp [go]⟩ fun m env ⟨i, x4, hm, he, hi⟩ => ?_
  subst he
  have hlen := go_len wf i
  refine ⟨decide (i < (go T i 0 [0]).length), _, ev_cmpT (ev_var rfl) (ev_lenS (xs := bits (go T i 0 [0])) rfl) (by rw [show D.int ((bits (go T i 0 [0])).length : Int) = nt (go T i 0 [0]).length by simp]; exact lt_nt _ _), fun hb => ?_, fun hb => ?_⟩
  · have hig : i < (go T i 0 [0]).length := by simpa using hb
    obtain ⟨g, hg⟩ : ∃ g, g = go T i 0 [0] := ⟨_, rfl⟩
    have gs := go_snoc (T := T) i 0 [0]
    rw [Nat.zero_add, if_pos hig] at gs
    have hgi : (go T i 0 [0])[i]?.getD 0 < T.length := go_lt wf i _ (by simp [hig])
    have ndg : (go T i 0 [0]).Nodup := nd_go T (by simp)
    have ltg := go_lt wf i
    rw [← hg] at gs hgi ndg ltg hig hlen ⊢
    have src : ev (callL prog W k) (.idx (.idx (.var 0) (.int 1)) (.idx (.var 1) (.var 3))) .i [.val (mach t T E), .own (.lst (bits g)), .own (.set (bits g)), .val (nt i), x4] = some (.dat (.tup (bits (row T (g[i]?.getD 0)))), [.val (mach t T E), .own (.lst (bits g)), .own (.set (bits g)), .val (nt i), x4]) :=
      ev_idx_i (ev_idx (ev_m1 (ev_var rfl)) (ev_idxS rfl (ev_var rfl) (at_bitsL hig)) (at_tb hgi))
    refine go_for (bits (row T (g[i]?.getD 0))) _ (fun j env => ∃ x4, env = [.val (mach t T E), .own (.lst (bits (addRow g ((row T (g[i]?.getD 0)).take j)))), .own (.set (bits (addRow g ((row T (g[i]?.getD 0)).take j)))), .val (nt i), x4]) src ⟨x4, by simp [addRow]⟩ (fun j x env hx ⟨x4, he⟩ => ?_) fun env ⟨x4, he⟩ => ?_
    · obtain ⟨hj, rfl⟩ := nth_bits hx
      subst he
      refine ⟨_, rfl, ?_⟩
      obtain ⟨f, hf⟩ : ∃ f, f = addRow g ((row T (g[i]?.getD 0)).take j) := ⟨_, rfl⟩
      obtain ⟨y, hy⟩ : ∃ y, y = (row T (g[i]?.getD 0))[j]?.getD 0 := ⟨_, rfl⟩
      rw [take_succ' hj, addRow_snoc, ← hf, ← hy]
      show Goes _ _ _ [.val (mach t T E), .own (.lst (bits f)), .own (.set (bits f)), .val (nt i), .val (nt y)] _
      have fl : f.length ≤ T.length := by
        refine len_le (by rw [hf]; exact nd_addRow ndg) fun s hs => ?_
        rw [hf] at hs
        rcases mem_addRow.mp hs with hs | hs
        · exact ltg s hs
        · exact row_lt wf (List.mem_of_mem_take hs)
      refine go_ite (!decide (y ∈ f)) _ (ev_cmpS (ev_var rfl) rfl (notin_set y f)) (fun hb => ?_) (fun hb => ?_)
      · have hny : y ∉ f := by simpa using hb
        refine go_expr (ev_mut1 rfl rfl (ev_var rfl) rfl (add_bits (by omega) hny)) ?_
        show Goes _ _ _ [.val (mach t T E), .own (.lst (bits f)), .own (.set (bits (f ++ [y]))), .val (nt i), .val (nt y)] _
        refine go_expr (ev_mut1 rfl rfl (ev_var rfl) rfl (app_bits (by omega))) (go_nil ⟨.val (nt y), ?_⟩)
        rw [addS, if_neg hny]; rfl
      · have hy : y ∈ f := by simpa using hb
        refine go_nil ⟨.val (nt y), ?_⟩
        rw [addS, if_pos hy]
    · subst he
      rw [bits, List.length_map, List.take_length, ← gs]
      refine go_augI rfl (go_nil ⟨T.length - (i + 1), by omega, i + 1, x4, rfl, rfl, ?_⟩)
      obtain ⟨e, he⟩ := addRow_pre (row T (g[i]?.getD 0)) g
      rw [gs, he, List.length_append]; omega
  · have hig : ¬ i < (go T i 0 [0]).length := by simpa using hb
    have e := ord_of (T := T) (k := i) (by omega) (by omega)
    rw [← e]
    have e2 : ev (callL prog W k) (.blt .tuple [.var 1]) .v [.val (mach t T E), .own (.lst (bits (ord T))), .own (.set (bits (ord T))), .val (nt i), x4] = some (.dat (.tup (bits (ord T))), [.val (mach t T E), .own (.lst (bits (ord T))), .own (.set (bits (ord T))), .val (nt i), x4]) := by simp [exs, ex, ev, evds, evs, evAnd, evOr, look, fin, view, views, cm, D.plain, wantsM, isSeq, sameQ, truth, mutD, toD, op2, store, aug2, giveOut, finals, lend, PF.giveBack, bltD, isiD, kd, isK, idxD, mthD, b2i, itemsOf, bindT, Md.tv, setAll, revD, part, slcD, shp_int, shp_bl, deq_int, deq_bl, shp_non, rg1, rg2, rg3, rg4, ln1, ln2, ln3, ln4]
    exact go_ret e2 rfl
/-! ### along a word -/
theorem beh_take (T : List (List Nat)) (w : List Nat) (j : Nat) (h : j < w.length) : beh T (w.take (j + 1)) = (row T (beh T (w.take j)))[w[j]?.getD 0]?.getD 0 := by rw [take_succ' h, beh_snoc]
theorem beh_mem {T : List (List Nat)} {b : Nat} (wf : Wf T) (fu : Full T b) (w : List Nat) (hw : ∀ l ∈ w, l < b) : beh T w < T.length := lt_ord wf _ (beh_ok wf fu w hw).1
theorem be_ok (k t b : Nat) (T : List (List Nat)) (E : List Bool) (w : List Nat) (wf : Wf T) (fu : Full T b) (hw : ∀ l ∈ w, l < b) : callL prog W (k + 1) (Str.ofString "_law_behind") [.val (mach t T E), .val (.tup (bits w))] = some (.dat (nt (beh T w)), [.val (mach t T E), .val (.tup (bits w))]) := by
  refine c__law_behind ?_
  refine go_setD (d := nt 0) ev_ci ?_
  show Goes _ _ _ [.val (mach t T E), .val (.tup (bits w)), .val (nt 0), .un] _
  refine go_for (bits w) _ (fun j env => ∃ x3, env = [.val (mach t T E), .val (.tup (bits w)), .val (nt (beh T (w.take j))), x3]) (ev_walkT rfl) ⟨.un, rfl⟩ (fun j x env hx ⟨x3, he⟩ => ?_) fun env ⟨x3, he⟩ => ?_
  · obtain ⟨hj, rfl⟩ := nth_bits hx
    subst he
    refine ⟨_, rfl, ?_⟩
    show Goes _ _ _ [.val (mach t T E), .val (.tup (bits w)), .val (nt (beh T (w.take j))), .val (nt (w[j]?.getD 0))] _
    have hs := beh_mem wf fu (w.take j) fun l hl => hw l (List.mem_of_mem_take hl)
    have hl : w[j]?.getD 0 < b := hw _ (by simp [hj])
    refine go_setD (ev_idx (ev_idx (ev_m1 (ev_var rfl)) (ev_var rfl) (at_tb hs)) (ev_var rfl) (at_bits (by rw [full_row fu hs]; exact hl))) (go_nil ⟨.val (nt (w[j]?.getD 0)), ?_⟩)
    rw [beh_take T w j hj]; rfl
  · subst he
    rw [bits, List.length_map, List.take_length]
    exact go_ret (ev_var rfl) rfl
theorem ta_ok (k t b : Nat) (T : List (List Nat)) (E : List Bool) (w : List Nat) (wf : Wf T) (fu : Full T b) (hE : E.length = T.length) (hw : ∀ l ∈ w, l < b) : callL prog W (k + 2) (Str.ofString "_law_takes") [.val (mach t T E), .val (.tup (bits w))] = some (.dat (.bl (E[beh T w]?.getD false)), [.val (mach t T E), .val (.tup (bits w))]) :=
  c__law_takes (go_ret (ev_idx (ev_m2 (ev_var rfl)) (ev_call2 (ev_var rfl) (ev_var rfl) (be_ok k t b T E w wf fu hw)) (at_bl (by rw [hE]; exact beh_mem wf fu w hw))) rfl)
/-! ### numbers of states -/
def nb (O : List Nat) (n j : Nat) : List Nat := (List.range j).foldl (fun a i => a.set (O[i]?.getD 0) i) (List.replicate n 0)
theorem nb_succ (O : List Nat) (n j : Nat) : nb O n (j + 1) = (nb O n j).set (O[j]?.getD 0) j := by simp [nb, List.range_succ, List.foldl_append]
theorem nb_len (O : List Nat) (n : Nat) : ∀ j, (nb O n j).length = n
  | 0 => by simp [nb]
  | j + 1 => by rw [nb_succ, List.length_set, nb_len O n j]
theorem nb_get {O : List Nat} {n : Nat} (nd : O.Nodup) (h : ∀ s ∈ O, s < n) : ∀ j, j ≤ O.length → ∀ i, i < j → (nb O n j)[O[i]?.getD 0]?.getD 0 = i
  | 0, _, i, hi => by omega
  | j + 1, hj, i, hi => by
    have hm : ∀ i, i < O.length → O[i]?.getD 0 < n := fun i hi => h _ (by simp [hi])
    rw [nb_succ, List.getElem?_set]
    by_cases hij : i = j
    · subst hij
      simp [nb_len, hm i (by omega)]
    · have ne : ¬ O[j]?.getD 0 = O[i]?.getD 0 := fun e => by
        have h1 := ix_get nd (show j < O.length by omega)
        have h2 := ix_get nd (show i < O.length by omega)
        rw [e, h2] at h1
        exact hij h1
      rw [if_neg ne]
      exact nb_get nd h j (by omega) i (by omega)
theorem nb_ix {O : List Nat} {n x : Nat} (nd : O.Nodup) (h : ∀ s ∈ O, s < n) (hx : x ∈ O) : (nb O n O.length)[x]?.getD 0 = ix O x := by
  have h1 := nb_get nd h O.length (Nat.le_refl _) (ix O x) (ix_lt hx)
  rwa [get_ix hx] at h1
theorem set_bits {ds : List Nat} {p v : Nat} (h : p < ds.length) : setL (.lst (bits ds)) (nt p) (nt v) = some (.lst (bits (ds.set p v))) := by
  simp [setL, ixn, L2.ixN, h, List.map_set]
theorem rep0 (n : Nat) : (List.replicate n [D.int 0]).flatten = bits (List.replicate n 0) := rep_bits n
theorem nu_ok (k n : Nat) (O : List Nat) (hn : n ≤ 1000) (hO : O.length ≤ 1000) (h : ∀ s ∈ O, s < n) : callL prog W (k + 1) (Str.ofString "numbers_by") [.val (.tup (bits O)), .val (nt n)] = some (.own (.lst (bits (nb O n O.length))), [.val (.tup (bits O)), .val (nt n)]) := by
  refine c_numbers_by ?_
  have e0 : ev (callL prog W k) (.bin .mul (.lst [.int 0]) (.var 1)) .v [.val (.tup (bits O)), .val (nt n), .un, .un] = some (.own (.lst (bits (nb O n 0))), [.val (.tup (bits O)), .val (nt n), .un, .un]) := by
    have h1 : n ≤ line := by unfold line; omega
    have h2 : (n : Int) < 2 ^ 63 := by omega
    have h3 : -(2 ^ 63 : Int) ≤ n := by omega
    have h4 : 1 ≤ line := by decide
    simp only [ev, evds, toD, List.length_cons, List.length_nil, h4, if_true, fin, look, view]
    simp only [List.getElem?_cons_succ, List.getElem?_cons_zero, Option.getD_some, op2, nt, List.length_cons, List.length_nil, Nat.zero_add, Nat.one_mul, Int.toNat_natCast, h1, h2, h3, true_and, and_true, if_true, rep0]
    rfl
  refine go_setO e0 ?_
  show Goes _ _ _ [.val (.tup (bits O)), .val (nt n), .own (.lst (bits (nb O n 0))), .un] _
  refine go_for ((List.range O.length).map nt) _ (fun j env => ∃ x3, env = [.val (.tup (bits O)), .val (nt n), .own (.lst (bits (nb O n j))), x3]) (ev_range (by omega) (ev_nlen (ev_var rfl))) ⟨.un, rfl⟩ (fun j x env hx ⟨x3, he⟩ => ?_) fun env ⟨x3, he⟩ => ?_
  · obtain ⟨hj, rfl⟩ := xs_at hx
    subst he
    refine ⟨_, rfl, ?_⟩
    show Goes _ _ _ [.val (.tup (bits O)), .val (nt n), .own (.lst (bits (nb O n j))), .val (nt j)] _
    refine go_step _ (ex_sub (ev_var rfl) rfl (ev_idx (ev_var rfl) (ev_var rfl) (at_bits hj)) (set_bits (by rw [nb_len]; exact h _ (by simp [hj])))) (go_nil ⟨.val (nt j), ?_⟩)
    rw [nb_succ]; rfl
  · subst he
    rw [List.length_map, List.length_range]
    exact go_retS rfl rfl
theorem at_blL {E : List Bool} {s : Nat} (h : s < E.length) : idxD (.lst (bl E)) (nt s) = some (.bl (E[s]?.getD false)) := by
  simp [idxD, atD, L2.atI, L2.ixN, h]
theorem mapT {α : Type} (as : List α) (f : α → List Nat) : (as.map fun a => D.tup (bits (f a))) = tb (as.map f) := by simp [tb]
theorem mapE {α : Type} (as : List α) (f : α → Bool) : (as.map fun a => D.bl (f a)) = bl (as.map f) := by simp [bl]
theorem ln_tb {T : List (List Nat)} (h : T.length ≤ 100) : (tb T).length ≤ line := by simp; unfold line; omega
theorem unp3 {c : Cl} {W : Nat} {env : PF.Env} {e : E} {a b d : D} {i j k : Nat} (h : ev c e .v env = some (.dat (.tup [a, b, d]), env)) : ex c W (.unp [i, j, k] e) env = some (.nx (((env.set i (.val a)).set j (.val b)).set k (.val d))) := by
  simp only [ex, h, toD, setAll]
theorem tup3 {c : Cl} {env : PF.Env} {e1 e2 e3 : E} {a b d : D} (h1 : ev c e1 .v env = some (.dat a, env)) (h2 : ev c e2 .v env = some (.dat b, env)) (h3 : ev c e3 .v env = some (.dat d, env)) : ev c (.tup [e1, e2, e3]) .v env = some (.dat (.tup [a, b, d]), env) := by
  have l3 : 3 ≤ line := by decide
  simp [ev, evds, fin, h1, h2, h3, toD, l3]
structure MO (t b : Nat) (T : List (List Nat)) (E : List Bool) : Prop where
  wf : Wf T
  fu : Full T b
  he : E.length = T.length
  n : T.length ≤ 100
  b1 : b ≤ 100
theorem row_len {T : List (List Nat)} {b s : Nat} (h : Full T b) (hs : s < T.length) : (row T s).length = b := full_row h hs
theorem mi_ok (k t b : Nat) (T : List (List Nat)) (E : List Bool) (M : MO t b T E) (hW : 1000 < W) : callL prog W (k + 2) (Str.ofString "machine_in_order") [.val (mach t T E)] = some (.dat (mach t (inRows T) (inEnds T E)), [.val (mach t T E)]) := by
  refine c_machine_in_order ?_
  have hT := M.n
  refine go_step _ (unp3 (ev_var rfl)) ?_
  show Goes _ _ _ [.val (mach t T E), .val (nt t), .val (.tup (tb T)), .val (.tup (bl E)), .un, .un, .un, .un, .un] _
  refine go_setD (ev_call1 (ev_var rfl) (os_ok k t T E M.wf hT hW)) ?_
  show Goes _ _ _ [.val (mach t T E), .val (nt t), .val (.tup (tb T)), .val (.tup (bl E)), .val (.tup (bits (ord T))), .un, .un, .un, .un] _
  have ol := ord_len M.wf
  obtain ⟨N, hN⟩ : ∃ N, N = nb (ord T) T.length (ord T).length := ⟨_, rfl⟩
  have nu := nu_ok (W := W) k T.length (ord T) (by omega) (by omega) (lt_ord M.wf)
  rw [← hN] at nu
  have nl : N.length = T.length := by rw [hN]; exact nb_len _ _ _
  refine go_setO (ev_call2 (ev_var rfl) (ev_tlen (ev_var rfl) (by simp)) nu) ?_
  show Goes _ _ _ [.val (mach t T E), .val (nt t), .val (.tup (tb T)), .val (.tup (bl E)), .val (.tup (bits (ord T))), .own (.lst (bits N)), .un, .un, .un] _
  have e1 := ev_lcm (c := callL prog W (k + 1)) (i := 7) (src := .var 4) (elt := .blt .tuple [.lc [8] (.nm 8) (.idx (.var 2) (.var 7)) [] (.idx (.var 5) (.var 8))]) (ord T) nt (fun s => .tup (bits ((row T s).map (ix (ord T)))))
    [.val (mach t T E), .val (nt t), .val (.tup (tb T)), .val (.tup (bl E)), .val (.tup (bits (ord T))), .own (.lst (bits N)), .un, .un, .un] (ev_walkT rfl) (ln_of (by omega)) fun s hs => lcT1 (by
      have hs2 := lt_ord M.wf s hs
      have q := ev_lcm (c := callL prog W (k + 1)) (i := 8) (src := .idx (.var 2) (.var 7)) (elt := .idx (.var 5) (.var 8)) (row T s) nt (fun x => nt (ix (ord T) x))
        [.val (mach t T E), .val (nt t), .val (.tup (tb T)), .val (.tup (bl E)), .val (.tup (bits (ord T))), .own (.lst (bits N)), .un, .val (nt s), .un] (ev_idx_i (ev_idx (ev_var rfl) (ev_var rfl) (at_tb hs2))) (ln_of (by rw [row_len M.fu hs2]; have := M.b1; omega)) fun x hx => lcT1 (ev_idxS rfl (ev_var rfl) (by
          have hx2 := row_lt M.wf hx
          rw [at_bitsL (by rw [nl]; exact hx2), hN, nb_ix (nd_ord T) (lt_ord M.wf) (ord_closed M.wf hs hx)]))
      rw [mapB] at q
      exact ev_tuple q)
  rw [mapT] at e1
  refine go_setD (ev_tuple e1) ?_
  show Goes _ _ _ [.val (mach t T E), .val (nt t), .val (.tup (tb T)), .val (.tup (bl E)), .val (.tup (bits (ord T))), .own (.lst (bits N)), .val (.tup (tb (inRows T))), .un, .un] _
  have e2 := ev_lcm (c := callL prog W (k + 1)) (i := 7) (src := .var 4) (elt := .idx (.var 3) (.var 7)) (ord T) nt (fun s => .bl (E[s]?.getD false))
    [.val (mach t T E), .val (nt t), .val (.tup (tb T)), .val (.tup (bl E)), .val (.tup (bits (ord T))), .own (.lst (bits N)), .val (.tup (tb (inRows T))), .un, .un] (ev_walkT rfl) (ln_of (by omega)) fun s hs => lcT1 (ev_idx (ev_var rfl) (ev_var rfl) (at_bl (by rw [M.he]; exact lt_ord M.wf s hs)))
  rw [mapE] at e2
  exact go_ret (tup3 (ev_var rfl) (ev_var rfl) (ev_tuple e2)) rfl
theorem idx_ints {x : Nat} {O : List Nat} (h : x ∈ O) : indexD (bits O) (nt x) = some (nt (ix O x)) := by
  simp only [indexD, ints_bits]
  have h1 : ((x : Nat) : Int) ∈ O.map Int.ofNat := List.mem_map.mpr ⟨x, h, rfl⟩
  rw [if_pos h1]
  have : ∀ O : List Nat, (O.map Int.ofNat).idxOf (x : Int) = O.idxOf x := by
    intro O
    induction O with
    | nil => rfl
    | cons y O ih =>
      rw [List.map_cons, List.idxOf_cons, List.idxOf_cons, ih]
      by_cases e : y = x
      · subst e; simp
      · have e2 : ¬ (Int.ofNat y) = (x : Int) := by simp; omega
        rw [beq_eq_false_iff_ne.mpr e, beq_eq_false_iff_ne.mpr e2]
  rw [this]
theorem ev_index {c : Cl} {env : PF.Env} {a b : E} {ys : List D} {x r : D} (ha : ev c a .v env = some (.dat (.lst ys), env)) (hb : ev c b .v env = some (.dat x, env)) (h : indexD ys x = some r) : ev c (.mth .index a [b]) .v env = some (.dat r, env) := by
  simp only [ev, evds, fin, ha, hb, toD, view, isSeq, sameQ, if_true, mthD, h]
theorem ev_indexS {c : Cl} {env : PF.Env} {i : Nat} {b : E} {ys : List D} {x r : D} (ha : look env i = .own (.lst ys)) (hb : ev c b .v env = some (.dat x, env)) (h : indexD ys x = some r) : ev c (.mth .index (.var i) [b]) .v env = some (.dat r, env) := by
  simp only [ev, evds, fin, ha, hb, toD, view, isSeq, sameQ, if_true, mthD, h]
theorem eqv_tb : ∀ (a b : List (List Nat)), PyData.eqvAll (D.pys (tb a)) (D.pys (tb b)) = decide (a = b)
  | [], [] => by simp [D.pys, PyData.eqvAll]
  | [], y :: ys => by simp [D.pys, PyData.eqvAll]
  | x :: xs, [] => by simp [D.pys, PyData.eqvAll]
  | x :: xs, y :: ys => by
    simp only [tb, List.map_cons, D.pys, PyData.eqvAll]
    rw [show PyData.eqvAll (D.pys (List.map (fun r => D.tup (bits r)) xs)) (D.pys (List.map (fun r => D.tup (bits r)) ys)) = _ from eqv_tb xs ys, show PyData.eqv (D.tup (bits x)).py (D.tup (bits y)).py = deq (.tup (bits x)) (.tup (bits y)) from rfl, deq_bits]
    by_cases h : x = y <;> simp [h]
theorem eqv_bl : ∀ (a b : List Bool), PyData.eqvAll (D.pys (bl a)) (D.pys (bl b)) = decide (a = b)
  | [], [] => by simp [D.pys, PyData.eqvAll]
  | [], y :: ys => by simp [D.pys, PyData.eqvAll]
  | x :: xs, [] => by simp [D.pys, PyData.eqvAll]
  | x :: xs, y :: ys => by
    simp only [bl, List.map_cons, D.pys, PyData.eqvAll]
    rw [show PyData.eqvAll (D.pys (List.map D.bl xs)) (D.pys (List.map D.bl ys)) = _ from eqv_bl xs ys, show PyData.eqv (D.bl x).py (D.bl y).py = deq (.bl x) (.bl y) from rfl, deq_bl]
    by_cases h : x = y <;> simp [h]
theorem deq_mach (t : Nat) (T T' : List (List Nat)) (E E' : List Bool) : deq (mach t T E) (mach t T' E') = decide (T = T' ∧ E = E') := by
  unfold deq
  simp only [D.py, D.pys, PyData.eqv, PyData.eqvAll]
  rw [eqv_tb, eqv_bl]
  by_cases h1 : T = T' <;> by_cases h2 : E = E' <;> simp [h1, h2]
theorem lay_tb : ∀ T : List (List Nat), PyData.canLayAll0 (D.pys (tb T)) = true
  | [] => rfl
  | r :: T => by
    simp only [tb, List.map_cons, D.pys, D.py, PyData.canLayAll0, PyData.canLay0, Bool.and_eq_true]
    exact ⟨lay_bits r, lay_tb T⟩
theorem dep_tb : ∀ T : List (List Nat), PyData.depthAll (D.pys (tb T)) ≤ 1
  | [] => by decide
  | r :: T => by
    simp only [tb, List.map_cons, D.pys, D.py, PyData.depthAll, PyData.depth]
    have := dep_tb T
    rw [dep_bits]
    simp only [tb] at this
    omega
theorem lay_bl : ∀ E : List Bool, PyData.canLayAll0 (D.pys (bl E)) = true ∧ PyData.depthAll (D.pys (bl E)) = 0
  | [] => ⟨rfl, rfl⟩
  | b :: E => by
    obtain ⟨h1, h2⟩ := lay_bl E
    simp only [bl] at h1 h2
    simp only [bl, List.map_cons, D.pys, D.py, PyData.canLayAll0, PyData.canLay0, PyData.depthAll, PyData.depth, Bool.true_and, h1, h2]
    exact ⟨trivial, rfl⟩
theorem shp_mach (t : Nat) (T : List (List Nat)) (E : List Bool) : shp (mach t T E) = true := by
  unfold shp SeqAt.shaped
  obtain ⟨h1, h2⟩ := lay_bl E
  have h3 := dep_tb T
  have h4 := lay_tb T
  simp only [D.plain, D.py, D.pys, PyData.canLay0, PyData.canLayAll0, PyData.depth, PyData.depthAll, h1, h2, h4, Bool.true_and, Bool.and_true, decide_eq_true_eq]
  omega
theorem range_bits (n : Nat) : rngL 0 (n : Int) 1 = bits (List.range n) := by
  unfold rngL
  rw [if_pos (by decide)]
  have : (((n : Int) - 0 + 1 - 1) / 1).toNat = n := by rw [Int.ediv_one]; omega
  rw [this, bits]
  refine List.map_congr_left fun i _ => ?_
  simp
theorem rl_len {n : Nat} (h : n < 100000) : (bits (List.range n)).length ≤ line := by simp; unfold line; omega
theorem ev_trange {c : Cl} {env : PF.Env} {a : E} {n : Nat} (hn : n < 100000) (h : ev c a .v env = some (.dat (nt n), env)) : ev c (.lrng true [a]) .v env = some (.dat (.tup (bits (List.range n))), env) :=
  ev_lrT h (rng_nat n (lt60 hn)) (rl_len hn)
theorem io_ok (k t : Nat) (T : List (List Nat)) (E : List Bool) (wf : Wf T) (hT : T.length ≤ 100) (hW : 1000 < W) : callL prog W (k + 2) (Str.ofString "is_in_order") [.val (mach t T E)] = some (.dat (.bl (decide (ord T = List.range T.length))), [.val (mach t T E)]) :=
  c_is_in_order (go_ret (ev_cmp (ev_call1 (ev_var rfl) (os_ok k t T E wf hT hW)) (ev_trange (n := T.length) (by omega) (ev_tlen (ev_m1 (ev_var rfl)) (by simp))) (by simp only [cm, shp_bits, Bool.and_self, if_true, deq_bits])) rfl)
theorem set_tb {A : List (List Nat)} {p : Nat} {v : List Nat} (h : p < A.length) : setL (.lst (tb A)) (nt p) (.tup (bits v)) = some (.lst (tb (A.set p v))) := by
  simp [setL, ixn, L2.ixN, h, List.map_set]
theorem set_bl {A : List Bool} {p : Nat} {v : Bool} (h : p < A.length) : setL (.lst (bl A)) (nt p) (.bl v) = some (.lst (bl (A.set p v))) := by
  simp [setL, ixn, L2.ixN, h, List.map_set]
theorem rep_one {α : Type} (f : α → D) (a : α) (n : Nat) : (List.replicate n [f a]).flatten = (List.replicate n a).map f := by
  induction n with
  | zero => rfl
  | succ n ih => rw [List.replicate_succ, List.flatten_cons, ih, List.replicate_succ]; rfl
theorem mul_one {α : Type} (f : α → D) (a : α) {n : Nat} (h : n ≤ 1000) : op2 .mul (.lst [f a]) (nt n) = some (.own (.lst ((List.replicate n a).map f))) := by
  have h1 : [f a].length * (n : Int).toNat ≤ line ∧ -(2 ^ 63) ≤ (n : Int) ∧ (n : Int) < 2 ^ 63 := by
    refine ⟨?_, by omega, by omega⟩
    rw [List.length_singleton, Nat.one_mul, Int.toNat_natCast]; unfold line; omega
  simp only [op2, nt]
  rw [if_pos h1, Int.toNat_natCast, rep_one]
theorem ev_mulL {c : Cl} {env : PF.Env} {a b : E} {xs : List D} {d : D} {r : Opd} (ha : ev c a .v env = some (.own (.lst xs), env)) (hb : ev c b .v env = some (.dat d, env)) (ho : op2 .mul (.lst xs) d = some r) : ev c (.bin .mul a b) .v env = some (r, env) := by
  simp only [ev, fin, ha, hb, view, ho]
theorem ev_cb {c : Cl} {env : PF.Env} {b : Bool} : ev c (.bl b) .v env = some (.dat (.bl b), env) := by simp only [ev, fin]
theorem ev_tupS {c : Cl} {env : PF.Env} {i : Nat} {xs : List D} (h : look env i = .own (.lst xs)) : ev c (.blt .tuple [.var i]) .v env = some (.dat (.tup xs), env) := by
  simp only [ev, evs, fin, h, views, view, bltD]
theorem ev_lcTe {α : Type} {c : Cl} {i : Nat} {src elt : E} {env : PF.Env} (enc : α → D) (Q : α → Prop) (xs : List D) (E : List Int → Slot → PF.Env) (l0 : List Int) (x0 : Slot) (hsrc : ev c src .i env = some (.dat (.tup xs), E l0 x0)) (hl : xs.length ≤ 1000)
    (h : ∀ x ∈ xs, ∀ l w, ∃ a l' w', lcT c [i] (.nm i) [] elt x (E l w) = some (some (enc a), E l' w') ∧ Q a) (hb : ∀ l w, backE (E l0 x0) (E l w) [i] = E l x0) :
    ∃ (as : List α) (l' : List Int), as.length = xs.length ∧ (∀ a ∈ as, Q a) ∧ ev c (.lc [i] (.nm i) src [] elt) .v env = some (.own (.lst (as.map enc)), E l' x0) := by
  have key : ∀ (ys : List D), (∀ x ∈ ys, x ∈ xs) → ∀ l w, ∃ (as : List α) (l' : List Int) (w' : Slot), as.length = ys.length ∧ (∀ a ∈ as, Q a) ∧ lcLoop (lcT c [i] (.nm i) [] elt) ys (E l w) = some (as.map enc, E l' w') := by
    intro ys
    induction ys with
    | nil => intro _ l w; exact ⟨[], l, w, rfl, (fun _ h => nomatch h), rfl⟩
    | cons y ys ih =>
      intro hm l w
      obtain ⟨a, l1, w1, e1, q1⟩ := h y (hm y List.mem_cons_self) l w
      obtain ⟨as, l2, w2, h1, h2, h3⟩ := ih (fun x hx => hm x (List.mem_cons_of_mem _ hx)) l1 w1
      refine ⟨a :: as, l2, w2, by simp [h1], fun z hz => ?_, by simp only [lcLoop, e1, h3, List.map_cons]⟩
      rcases List.mem_cons.mp hz with rfl | hz
      · exact q1
      · exact h2 z hz
  obtain ⟨as, l', w', h1, h2, h3⟩ := key xs (fun _ h => h) l0 x0
  refine ⟨as, l', h1, h2, ?_⟩
  rw [ev_lc0]
  have : (as.map enc).length ≤ line := by rw [List.length_map, h1]; unfold line; omega
  simp only [hsrc, h3, if_pos this, hb]
theorem tup3g {c : Cl} {env env1 env2 env3 : PF.Env} {e1 e2 e3 : E} {a b d : D} (h1 : ev c e1 .v env = some (.dat a, env1)) (h2 : ev c e2 .v env1 = some (.dat b, env2)) (h3 : ev c e3 .v env2 = some (.dat d, env3)) : ev c (.tup [e1, e2, e3]) .v env = some (.dat (.tup [a, b, d]), env3) := by
  have l3 : 3 ≤ line := by decide
  simp [ev, evds, fin, h1, h2, h3, toD, l3]
theorem app_tb {A : List (List Nat)} {v : List Nat} (h : A.length < 1000) : mutD .append (.lst (tb A)) [.tup (bits v)] = some (.non, .lst (tb (A ++ [v]))) := by
  have : (tb A).length < line := by simp; unfold line; omega
  simp only [mutD]; rw [if_pos this]; simp [tb]
theorem ma_ok (k t n : Nat) (l : List Int) (ht : t < 6) (hn : 0 < n) (hn2 : n ≤ 100) : ∃ (T : List (List Nat)) (E : List Bool) (l' : List Int), (Wf T ∧ Full T (2 ^ t) ∧ E.length = T.length ∧ T.length = n) ∧
    callL prog W (k + 2) (Str.ofString "_law_machine") [.own (.lst (zs l)), .val (nt t), .val (nt n)] = some (.dat (mach t T E), [.own (.lst (zs l')), .val (nt t), .val (nt n)]) := by
  suffices H : ∃ o fs, callL prog W (k + 2) (Str.ofString "_law_machine") [.own (.lst (zs l)), .val (nt t), .val (nt n)] = some (o, fs) ∧ ∃ (T : List (List Nat)) (E : List Bool) (l' : List Int), (Wf T ∧ Full T (2 ^ t) ∧ E.length = T.length ∧ T.length = n) ∧ o = .dat (mach t T E) ∧ fs = [.own (.lst (zs l')), .val (nt t), .val (nt n)] by
    obtain ⟨o, fs, e, T, E, l', h, rfl, rfl⟩ := H
    exact ⟨T, E, l', h, e⟩
  refine e__law_machine ?_
  have hp : 0 < 2 ^ t := Nat.pow_pos (by decide)
  have h32 : 2 ^ t ≤ 32 := show 2 ^ t ≤ 2 ^ 5 from Nat.pow_le_pow_right (by decide) (by omega)
  refine go_setO (d := .lst (tb [])) (env1 := [.own (.lst (zs l)), .val (nt t), .val (nt n), .un, .un, .un]) (by simp [ev, evds, fin]) ?_
  show Goes _ _ _ [.own (.lst (zs l)), .val (nt t), .val (nt n), .own (.lst (tb [])), .un, .un] _
  refine go_for ((List.range n).map nt) _ (fun j env => ∃ l A x4, env = [.own (.lst (zs l)), .val (nt t), .val (nt n), .own (.lst (tb A)), x4, .un] ∧ A.length = j ∧ ∀ r ∈ A, r.length = 2 ^ t ∧ ∀ s ∈ r, s < n) (ev_range (by omega) (ev_var rfl)) ⟨l, [], .un, rfl, rfl, by simp⟩ (fun j x env hx ⟨l, A, x4, he, h1, h2⟩ => ?_) fun env ⟨l, A, x4, he, h1, h2⟩ => ?_
  · obtain ⟨hj, rfl⟩ := xs_at hx
    subst he
    refine ⟨_, rfl, ?_⟩
    show Goes _ _ _ [.own (.lst (zs l)), .val (nt t), .val (nt n), .own (.lst (tb A)), .val (nt j), .un] _
    obtain ⟨r, l1, r1, r2, e1⟩ := ev_lcTe (c := callL prog W (k + 1)) (i := 5) (src := .rng [.bin .shl (.int 1) (.var 1)]) (elt := .call (Str.ofString "_law_take") [.var 0, .var 2]) nt (fun s => s < n) ((List.range (2 ^ t)).map nt)
      (fun l w => [.own (.lst (zs l)), .val (nt t), .val (nt n), .own (.lst (tb A)), .val (nt j), w]) l .un (ev_range (by omega) (ev_pow2 (by omega) (ev_var rfl))) (by simp; omega) (fun x hx l w => by
        obtain ⟨v, l', hv, e⟩ := ev_take (W := W) (k := k) (i := 0) (l := l) (m := n) (a := .var 2) (env := [.own (.lst (zs l)), .val (nt t), .val (nt n), .own (.lst (tb A)), .val (nt j), .val x]) hn rfl (ev_var rfl)
        exact ⟨v, l', .val x, lcT2 e, hv⟩) (fun l w => rfl)
    refine go_expr (ev_mut1 rfl rfl (ev_tuple e1) rfl (app_tb (by omega))) (go_nil ⟨l1, A ++ [r], .val (nt j), rfl, by simp [h1], fun q hq => ?_⟩)
    rcases List.mem_append.mp hq with hq | hq
    · exact h2 q hq
    · rw [List.mem_singleton.mp hq]
      exact ⟨by simpa using r1, r2⟩
  · subst he
    rw [List.length_map, List.length_range] at h1
    obtain ⟨E, l1, r1, _, e1⟩ := ev_lcTe (c := callL prog W (k + 1)) (i := 4) (src := .rng [.var 2]) (elt := .cmp .eq (.call (Str.ofString "_law_take") [.var 0, .int 2]) (.int 0)) D.bl (fun _ => True) ((List.range n).map nt)
      (fun l w => [.own (.lst (zs l)), .val (nt t), .val (nt n), .own (.lst (tb A)), w, .un]) l x4 (ev_range (by omega) (ev_var rfl)) (by simp; omega) (fun x hx l w => by
        obtain ⟨v, l', hv, e⟩ := ev_take (W := W) (k := k) (i := 0) (l := l) (m := 2) (a := .int 2) (env := [.own (.lst (zs l)), .val (nt t), .val (nt n), .own (.lst (tb A)), .val x, .un]) (by decide) rfl ev_ci
        exact ⟨decide ((v : Int) = 0), l', .val x, lcT2 (ev_cmp e ev_ci (by simp only [cm, nt, shp_int, deq_int, Bool.and_self, if_true])), trivial⟩) (fun l w => rfl)
    have e2 := tup3g (c := callL prog W (k + 1)) (e1 := .var 1) (e2 := .blt .tuple [.var 3]) (env := [.own (.lst (zs l)), .val (nt t), .val (nt n), .own (.lst (tb A)), x4, .un]) (ev_var rfl) (ev_tupS rfl) (ev_tuple e1)
    refine go_ret e2 ⟨A, E, l1, ⟨⟨by omega, fun r hr s hs => by rw [h1]; exact (h2 r hr).2 s hs⟩, fun r hr => (h2 r hr).1, ?_, h1⟩, rfl, rfl⟩
    simpa [h1] using r1
theorem addL {a b : List (List Nat)} (h : a.length + b.length ≤ 1000000) : op2 .add (.lst (tb a)) (.lst (tb b)) = some (.own (.lst (tb (a ++ b)))) := by
  have : (tb a).length + (tb b).length ≤ line := by simp; unfold line; omega
  simp only [op2]
  rw [if_pos this]
  simp [tb]
def ext (b : Nat) (w : List Nat) : List (List Nat) := (List.range b).map fun l => w ++ [l]
theorem lay_succ (b n : Nat) : lay b (n + 1) = (lay b n).flatMap (ext b) := rfl
theorem ext_len (b : Nat) : ∀ ws : List (List Nat), (ws.flatMap (ext b)).length = ws.length * b
  | [] => by simp
  | w :: ws => by rw [List.flatMap_cons, List.length_append, ext_len b ws, List.length_cons, Nat.add_mul, Nat.one_mul]; simp [ext]; omega
theorem lay_len (b : Nat) : ∀ n, (lay b n).length = b ^ n
  | 0 => rfl
  | n + 1 => by rw [lay_succ, ext_len, lay_len b n, Nat.pow_succ]
theorem alls_len {b B : Nat} : ∀ n, (∀ j, j < n → b ^ j ≤ B) → (alls b n).length ≤ n * B
  | 0, _ => by simp [alls]
  | n + 1, h => by
    have h1 := alls_len n fun j hj => h j (by omega)
    have h2 := h n (by omega)
    unfold alls
    rw [List.length_append, lay_len, Nat.add_mul, Nat.one_mul]
    omega
theorem pow_le4 {b j : Nat} (hb : b ≤ 4) (hj : j ≤ 6) : b ^ j ≤ 4096 := Nat.le_trans (Nat.pow_le_pow_left hb j) (show 4 ^ j ≤ 4 ^ 6 from Nat.pow_le_pow_right (by decide) hj)
theorem nth_tb {T : List (List Nat)} {i : Nat} {x : D} (h : (tb T)[i]? = some x) : i < T.length ∧ x = .tup (bits (T[i]?.getD [])) := by
  have hl : i < T.length := by simpa using (List.getElem?_eq_some_iff.mp h).1
  refine ⟨hl, ?_⟩
  rw [tb, List.getElem?_map, List.getElem?_eq_getElem hl] at h
  simp [hl]
  simpa using h.symm
theorem wo_ok (k t M : Nat) (ht : t < 3) (hM : M ≤ 5) : callL prog W (k + 1) (Str.ofString "_law_words") [.val (nt t), .val (nt M)] = some (.own (.lst (tb (alls (2 ^ t) (M + 1)))), [.val (nt t), .val (nt M)]) := by
  refine c__law_words ?_
  have hb4 : 2 ^ t ≤ 4 := show 2 ^ t ≤ 2 ^ 2 from Nat.pow_le_pow_right (by decide) (by omega)
  have hpow : ∀ j, j ≤ 6 → (2 ^ t) ^ j ≤ 4096 := fun j hj => pow_le4 hb4 hj
  have htp : ev (callL prog W k) (.bin .shl (.int 1) (.var 0)) .v = ev (callL prog W k) (.bin .shl (.int 1) (.var 0)) .v := rfl
  obtain ⟨b, hbe⟩ : ∃ b, b = 2 ^ t := ⟨_, rfl⟩
  rw [← hbe] at hb4 hpow ⊢
  have hall : ∀ i, i ≤ 6 → (alls b i).length ≤ 6 * 4096 := fun i hi => Nat.le_trans (alls_len (B := 4096) i fun j hj => hpow j (by omega)) (Nat.mul_le_mul_right _ hi)
  refine go_setO (d := .lst (tb [])) (env1 := [.val (nt t), .val (nt M), .un, .un, .un, .un, .un, .un]) (by simp [ev, evds, fin]) ?_
  show Goes _ _ _ [.val (nt t), .val (nt M), .own (.lst (tb [])), .un, .un, .un, .un, .un] _
  refine go_setO (d := .lst (tb [[]])) (env1 := [.val (nt t), .val (nt M), .own (.lst (tb [])), .un, .un, .un, .un, .un]) (ev_l1 ev_t0) ?_
  show Goes _ _ _ [.val (nt t), .val (nt M), .own (.lst (tb [])), .own (.lst (tb [[]])), .un, .un, .un, .un] _
  refine go_for ((List.range (M + 1)).map nt) _ (fun i env => ∃ s3 s4 s5 s6, env = [.val (nt t), .val (nt M), .own (.lst (tb (alls b i))), s3, s4, s5, s6, .un] ∧ (s3 = .own (.lst (tb (lay b i))) ∨ s3 = .val (.lst (tb (lay b i))))) (ev_range (by omega) (ev_bin (ev_var rfl) ev_one (add_nt _ _))) ⟨_, _, _, _, rfl, .inl rfl⟩ (fun i x env hx ⟨s3, s4, s5, s6, he, h3⟩ => ?_) fun env ⟨s3, s4, s5, s6, he, h3⟩ => ?_
  · obtain ⟨hi, rfl⟩ := xs_at hx
    subst he
    refine ⟨_, rfl, ?_⟩
    show Goes _ _ _ [.val (nt t), .val (nt M), .own (.lst (tb (alls b i))), s3, .val (nt i), s5, s6, .un] _
    have hll : (lay b i).length ≤ 4096 := by rw [lay_len]; exact hpow i (by omega)
    have hal := hall i (by omega)
    have v3 : ∃ y, ev (callL prog W k) (.var 3) .v [.val (nt t), .val (nt M), .own (.lst (tb (alls b i))), s3, .val (nt i), s5, s6, .un] = some (y, [.val (nt t), .val (nt M), .own (.lst (tb (alls b i))), s3, .val (nt i), s5, s6, .un]) ∧ view [.val (nt t), .val (nt M), .own (.lst (tb (alls b i))), s3, .val (nt i), s5, s6, .un] y = some (.lst (tb (lay b i))) := by
      rcases h3 with rfl | rfl
      · exact ⟨.slot 3, ev_slot rfl, rfl⟩
      · exact ⟨_, ev_var rfl, rfl⟩
    obtain ⟨y, hy1, hy2⟩ := v3
    refine go_setO (ev_binV (ev_slot rfl) hy1 rfl hy2 (addL (by omega))) ?_
    show Goes _ _ _ [.val (nt t), .val (nt M), .own (.lst (tb (alls b (i + 1)))), s3, .val (nt i), s5, s6, .un] _
    refine go_setO (d := .lst (tb [])) (env1 := [.val (nt t), .val (nt M), .own (.lst (tb (alls b (i + 1)))), s3, .val (nt i), s5, s6, .un]) (by simp [ev, evds, fin]) ?_
    show Goes _ _ _ [.val (nt t), .val (nt M), .own (.lst (tb (alls b (i + 1)))), s3, .val (nt i), .own (.lst (tb [])), s6, .un] _
    have src : ev (callL prog W k) (.var 3) .i [.val (nt t), .val (nt M), .own (.lst (tb (alls b (i + 1)))), s3, .val (nt i), .own (.lst (tb [])), s6, .un] = some (.dat (.tup (tb (lay b i))), [.val (nt t), .val (nt M), .own (.lst (tb (alls b (i + 1)))), .val (.lst (tb (lay b i))), .val (nt i), .own (.lst (tb [])), s6, .un]) := by
      rcases h3 with rfl | rfl
      · exact ev_walkO rfl
      · exact ev_walk rfl
    refine go_for (tb (lay b i)) _ (fun j env => ∃ s6, env = [.val (nt t), .val (nt M), .own (.lst (tb (alls b (i + 1)))), .val (.lst (tb (lay b i))), .val (nt i), .own (.lst (tb (((lay b i).take j).flatMap (ext b)))), s6, .un]) src ⟨s6, by simp⟩ (fun j x env hx ⟨s6, he⟩ => ?_) fun env ⟨s6, he⟩ => ?_
    · obtain ⟨hj, rfl⟩ := nth_tb hx
      subst he
      refine ⟨_, rfl, ?_⟩
      obtain ⟨w, hw⟩ : ∃ w, w = (lay b i)[j]?.getD [] := ⟨_, rfl⟩
      have hwm : w ∈ lay b i := by rw [hw]; simp [hj]
      have hwl : w.length = i := (lay_mem.mp hwm).1
      rw [← hw]
      show Goes _ _ _ [.val (nt t), .val (nt M), .own (.lst (tb (alls b (i + 1)))), .val (.lst (tb (lay b i))), .val (nt i), .own (.lst (tb (((lay b i).take j).flatMap (ext b)))), .val (.tup (bits w)), .un] _
      obtain ⟨A, hA⟩ : ∃ A, A = ((lay b i).take j).flatMap (ext b) := ⟨_, rfl⟩
      have hAl : A.length ≤ 4096 * 4 := by
        rw [hA, ext_len, List.length_take]
        exact Nat.mul_le_mul (by omega) hb4
      rw [← hA]
      have hp : ev (callL prog W k) (.bin .shl (.int 1) (.var 0)) .v [.val (nt t), .val (nt M), .own (.lst (tb (alls b (i + 1)))), .val (.lst (tb (lay b i))), .val (nt i), .own (.lst (tb A)), .val (.tup (bits w)), .un] = some (.dat (nt b), [.val (nt t), .val (nt M), .own (.lst (tb (alls b (i + 1)))), .val (.lst (tb (lay b i))), .val (nt i), .own (.lst (tb A)), .val (.tup (bits w)), .un]) := by
        have h := ev_pow2 (c := callL prog W k) (j := t) (env := [.val (nt t), .val (nt M), .own (.lst (tb (alls b (i + 1)))), .val (.lst (tb (lay b i))), .val (nt i), .own (.lst (tb A)), .val (.tup (bits w)), .un]) (by omega) (ev_var (i := 0) rfl)
        rwa [← hbe] at h
      have q := ev_lcm (c := callL prog W k) (i := 7) (src := .rng [.bin .shl (.int 1) (.var 0)]) (elt := .bin .add (.var 6) (.tup [.var 7])) (List.range b) nt (fun l => .tup (bits (w ++ [l])))
        [.val (nt t), .val (nt M), .own (.lst (tb (alls b (i + 1)))), .val (.lst (tb (lay b i))), .val (nt i), .own (.lst (tb A)), .val (.tup (bits w)), .un] (ev_range (by omega) hp) (by rw [List.length_range]; exact ln_of (by omega)) fun l hl => lcT1 (ev_bin (ev_var rfl) (ev_one1 (ev_var rfl)) (addT1 _ _ (by omega)))
      have em : (List.range b).map (fun l => D.tup (bits (w ++ [l]))) = tb (ext b w) := by simp [tb, ext]
      rw [em] at q
      have hxl : (ext b w).length = b := by simp [ext]
      refine go_setO (ev_binV (ev_slot rfl) q rfl rfl (addL (a := A) (b := ext b w) (by omega))) (go_nil ⟨.val (.tup (bits w)), ?_⟩)
      have e : (lay b i).take (j + 1) = (lay b i).take j ++ [w] := by rw [List.take_succ, hw]; simp [hj]
      rw [e, List.flatMap_append, ← hA]
      simp
    · subst he
      rw [tb, List.length_map, List.take_length]
      refine go_setS rfl (go_nil ⟨.val (.lst (tb (lay b (i + 1)))), .val (nt i), .val (.lst (tb (lay b (i + 1)))), s6, rfl, .inr rfl⟩)
  · subst he
    rw [List.length_map, List.length_range]
    exact go_retS rfl rfl
end K06
namespace K06
open PySem PF K03 K02
variable {W : Nat}
/-! ### classes by keys -/
structure Kk {α : Type} (enc : α → D) (q : α → NestedKey) : Prop where
  ck : ∀ (F : List α) a, ckey (F.map enc) (enc a) = some (q a)
  k : ∀ a, nk (enc a) = some (q a)
  inj : ∀ a b, q a = q b → a = b
  ni : ∀ a ks vs, cm .notin (enc a) (.dct ks vs) = (inT (enc a) (.dct ks vs)).map (!·)
  nt : ∀ a ks vs, cm .notin (enc a) (.dkt ks vs) = (inT (enc a) (.dkt ks vs)).map (!·)
  s : ∀ a d, setL (.dct [] []) (enc a) d = some (.dkt [enc a] [d])
  s' : ∀ a ks vs d, setL (.dkt ks vs) (enc a) d = (match ckey ks (enc a) with | some q => if ks.length < line then some (.dkt (addT (enc a) q ks) (putT ks vs q d)) else none | none => none)
section
variable {α : Type} [DecidableEq α] {enc : α → D} {q : α → NestedKey}
def dq (enc : α → D) : List α → D
  | [] => .dct [] []
  | x :: F => .dkt ((x :: F).map enc) (bits (List.range (F.length + 1)))
theorem memT_F (K : Kk enc q) (a : α) : ∀ F : List α, memT (q a) (F.map enc) = decide (a ∈ F)
  | [] => by simp [memT]
  | x :: F => by
    rw [List.map_cons, show memT (q a) (enc x :: F.map enc) = (decide (PF.nk (enc x) = some (q a)) || memT (q a) (F.map enc)) from rfl, memT_F K a F, K.k]
    by_cases h : a = x
    · subst h; simp
    · have h2 : ¬ q x = q a := fun z => h (K.inj _ _ z).symm
      simp [h, h2]
theorem notin_dq (K : Kk enc q) (a : α) (F : List α) : cm .notin (enc a) (dq enc F) = some (!decide (a ∈ F)) := by
  cases F with
  | nil =>
    rw [dq, K.ni]
    have e := K.ck [] a
    simp only [List.map_nil] at e
    simp [inT, dkv, e, memT]
  | cons x F =>
    rw [dq, K.nt]
    have e := K.ck (x :: F) a
    simp only [inT, dkv, e, Option.map_some, memT_F K a (x :: F)]
theorem getT_F (K : Kk enc q) (a : α) : ∀ (F : List α) (m : Nat), a ∈ F → getT (F.map enc) (bits (List.range' m F.length)) (q a) = some (nt (m + F.idxOf a))
  | [], m, h => by cases h
  | x :: F, m, h => by
    rw [List.map_cons, List.length_cons, List.range'_succ]
    simp only [bits, List.map_cons, getT, K.k]
    by_cases hx : x = a
    · subst hx; simp
    · have h2 : ¬ some (q x) = some (q a) := fun z => hx (K.inj _ _ (Option.some.inj z))
      rw [if_neg h2]
      have ha : a ∈ F := by
        rcases List.mem_cons.mp h with z | z
        · exact absurd z.symm hx
        · exact z
      have ih := getT_F K a F (m + 1) ha
      rw [show (List.map PF.nt (List.range' (m + 1) F.length)) = bits (List.range' (m + 1) F.length) from rfl, ih, List.idxOf_cons, show (x == a) = false from beq_eq_false_iff_ne.mpr hx]
      simp only [cond_false]
      rw [show m + 1 + F.idxOf a = m + (F.idxOf a + 1) by omega]
theorem get_dq (K : Kk enc q) {a : α} {F : List α} (h : a ∈ F) : idxD (dq enc F) (enc a) = some (nt (F.idxOf a)) := by
  cases F with
  | nil => cases h
  | cons x F =>
    have e := getT_F K a (x :: F) 0 h
    rw [← List.range_eq_range', Nat.zero_add] at e
    simp only [dq, idxD, K.ck]
    exact e
theorem put_dq (K : Kk enc q) {a : α} {F : List α} (h : a ∉ F) (hl : F.length < 1000) : setL (dq enc F) (enc a) (nt F.length) = some (dq enc (F ++ [a])) := by
  cases F with
  | nil => rw [dq, K.s]; rfl
  | cons x F =>
    have hm : memT (q a) ((x :: F).map enc) = false := by rw [memT_F K]; exact decide_eq_false h
    have hl2 : ((x :: F).map enc).length < line := by rw [List.length_map]; unfold line; omega
    simp only [dq]
    rw [K.s', K.ck]
    simp only
    rw [if_pos hl2]
    unfold addT putT
    rw [hm]
    simp only [Bool.false_eq_true, if_false, List.cons_append, dq]
    congr 2
    · simp
    · simp only [List.length_append, List.length_cons, List.length_nil]
      rw [show F.length + (0 + 1) + 1 = (F.length + 1) + 1 by omega, List.range_succ (n := F.length + 1)]
      simp [bits]
theorem len_dq (F : List α) : bltD .len [dq enc F] = some (.dat (nt F.length)) := by
  cases F <;> simp [dq, bltD]
theorem ev_lenD {c : Cl} {env : PF.Env} {i : Nat} {l : D} {o : Opd} (h : look env i = .own l) (ho : bltD .len [l] = some o) : ev c (.blt .len [.var i]) .v env = some (o, env) := by
  simp only [ev, evs, fin, h, views, view, ho]
theorem ev_cmpS' {c : Cl} {env : PF.Env} {a : E} {op : Cm} {i : Nat} {d l : D} {r : Bool} (ha : ev c a .v env = some (.dat d, env)) (h : look env i = .own l) (ho : cm op d l = some r) : ev c (.cmp op a (.var i)) .t env = some (.dat (.bl r), env) := ev_cmpS ha h ho
theorem idx_addA {F : List α} {a x : α} (h : x ∈ F) : (addA F a).idxOf x = F.idxOf x := by
  unfold addA
  split
  · rfl
  · rw [List.idxOf_append, if_pos h]
theorem cb_ok (K : Kk enc q) (k : Nat) (ks : List α) (hl : ks.length < 1000) (s0 s0' : Slot) (h0 : ∀ c s1 s2 s3, ev c (.var 0) .i [s0, s1, s2, s3] = some (.dat (.tup (ks.map enc)), [s0', s1, s2, s3])) :
    callL prog W (k + 1) (Str.ofString "classes_by") [s0] = some (.own (.lst (bits (cls ks))), [s0']) := by
  refine c_classes_by ?_
  refine go_setO (d := dq enc []) (env1 := [s0, .un, .un, .un]) (by simp only [ev, fin, dq]) ?_
  show Goes _ _ _ [s0, .own (dq enc []), .un, .un] _
  refine go_setO (d := .lst (bits [])) (env1 := [s0, .own (dq enc []), .un, .un]) (by simp [ev, evds, fin]) ?_
  show Goes _ _ _ [s0, .own (dq enc []), .own (.lst (bits [])), .un] _
  refine go_for (ks.map enc) [s0', .own (dq enc []), .own (.lst (bits [])), .un] (fun i env => ∃ x, env = [s0', .own (dq enc (firsts (ks.take i))), .own (.lst (bits ((ks.take i).map fun a => (firsts (ks.take i)).idxOf a))), x]) (h0 _ _ _ _) ⟨.un, rfl⟩ (fun i x env hx ⟨y, he⟩ => ?_) fun env ⟨y, he⟩ => ?_
  · rw [List.getElem?_map] at hx
    have hi : i < ks.length := by
      by_cases hi : i < ks.length
      · exact hi
      · rw [List.getElem?_eq_none (by omega)] at hx; cases hx
    rw [List.getElem?_eq_getElem hi] at hx
    cases hx
    subst he
    have ht : ks.take (i + 1) = ks.take i ++ [ks[i]] := by rw [List.take_succ]; simp [hi]
    rw [ht, firsts_snoc]
    generalize hF : firsts (ks.take i) = F
    generalize ks[i] = a
    have hFl : F.length < 1000 := by rw [← hF]; have := firsts_len (ks.take i); rw [List.length_take] at this; omega
    have hold : (ks.take i).map (fun x => (addA F a).idxOf x) = (ks.take i).map fun x => F.idxOf x := List.map_congr_left fun x hx => idx_addA (by rw [← hF]; exact mem_firsts.mpr hx)
    have hll : ((ks.take i).map fun x => F.idxOf x).length < 1000 := by simp; omega
    refine ⟨_, rfl, ?_⟩
    show Goes _ _ _ [s0', .own (dq enc F), .own (.lst (bits ((ks.take i).map fun a => F.idxOf a))), .val (enc a)] _
    have fin : Goes (callL prog W k) W [.expr (.mut .append 2 [(.idx (.var 1) (.var 3))])] [s0', .own (dq enc (addA F a)), .own (.lst (bits ((ks.take i).map fun a => F.idxOf a))), .val (enc a)]
        (Turn (fun env => ∃ x, env = [s0', .own (dq enc (addA F a)), .own (.lst (bits ((ks.take i ++ [a]).map fun x => (addA F a).idxOf x))), x]) (fun env => Goes (callL prog W k) W [.ret (.var 2)] env fun r => outR d_classes_by r = some (.own (.lst (bits (cls ks))), [s0'])) fun r => outR d_classes_by r = some (.own (.lst (bits (cls ks))), [s0'])) := by
      refine go_expr (ev_mut1 (l := .lst (bits ((ks.take i).map fun a => F.idxOf a))) rfl rfl (ev_idxS (l := dq enc (addA F a)) rfl (ev_var rfl) (get_dq K (mem_addA.mpr (.inr rfl)))) rfl (app_bits hll)) (go_nil ⟨.val (enc a), ?_⟩)
      rw [List.map_append, hold]
      rfl
    by_cases ha : a ∈ F
    · refine go_ite false _ (ev_cmpS (ev_var rfl) rfl (by rw [notin_dq K]; simp [ha])) (fun z => nomatch z) fun _ => ?_
      have e : addA F a = F := if_pos ha
      rw [e] at fin ⊢
      exact fin
    · refine go_ite true _ (ev_cmpS (ev_var rfl) rfl (by rw [notin_dq K]; simp [ha])) (fun _ => ?_) fun z => nomatch z
      have e : addA F a = F ++ [a] := if_neg ha
      refine go_step _ (ex_sub (l := dq enc F) (ev_lenD rfl (len_dq F)) rfl (ev_var rfl) (put_dq K ha hFl)) ?_
      rw [e] at fin ⊢
      exact fin
  · subst he
    refine go_retS rfl ?_
    rw [List.length_map, List.take_length]
    rfl
end
/-! ### the two kinds of keys -/
theorem kk_bl : Kk D.bl (fun b => NestedKey.num (if b = true then 1 else 0)) where
  ck := fun F a => by
    show (if (F.map D.bl).all isBlD then _ else _) = _
    rw [if_pos (by rw [List.all_map]; exact List.all_eq_true.mpr fun _ _ => rfl)]
  k := fun a => rfl
  inj := fun a b h => by cases a <;> cases b <;> simp at h ⊢
  ni := fun a ks vs => rfl
  nt := fun a ks vs => rfl
  s := fun a d => by simp [setL, dkv, ckey, addT, putT, memT, line]
  s' := fun a ks vs d => rfl
abbrev enc2 (p : Nat × List Nat) : D := .tup [nt p.1, .tup (bits p.2)]
abbrev nkn (n : Nat) : NestedKey := .num (n : Int)
theorem nks_bits : ∀ l : List Nat, nks (bits l) = some (l.map nkn)
  | [] => rfl
  | x :: l => by
    simp only [bits, List.map_cons, nks, nk]
    rw [show nks (List.map nt l) = _ from nks_bits l]
theorem dep_nkn : ∀ l : List Nat, NestedKey.depthAll (l.map nkn) = 0
  | [] => rfl
  | x :: l => by
    simp only [List.map_cons, NestedKey.depthAll, NestedKey.depth, dep_nkn l]; rfl
theorem nkn_inj : ∀ a b : List Nat, a.map nkn = b.map nkn → a = b
  | [], [], _ => rfl
  | [], _ :: _, h => by cases h
  | _ :: _, [], h => by cases h
  | x :: a, y :: b, h => by
    rw [List.map_cons, List.map_cons] at h
    injection h with h1 h2
    injection h1 with h1
    rw [nkn_inj a b h2, show x = y by omega]
abbrev q2 (p : Nat × List Nat) : NestedKey := .tup [nkn p.1, .tup (p.2.map nkn)]
theorem nk_2 (p : Nat × List Nat) : nk (enc2 p) = some (q2 p) := by
  simp only [enc2, nk, nks, nks_bits, Option.map_some]
theorem dep_2 (p : Nat × List Nat) : (q2 p).depth ≤ 8 := by
  simp [q2, NestedKey.depth, NestedKey.depthAll, dep_nkn]
theorem kk_2 : Kk enc2 q2 where
  ck := fun F a => by
    have e := nk_2 a
    show (if (F.map enc2).all isTupD then _ else _) = _
    rw [if_pos (by rw [List.all_map]; exact List.all_eq_true.mpr fun _ _ => rfl)]
    rw [e]
    simp only
    rw [if_pos (dep_2 a)]
  k := nk_2
  inj := fun a b h => by
    obtain ⟨a1, a2⟩ := a
    obtain ⟨b1, b2⟩ := b
    simp only [q2, NestedKey.tup.injEq, List.cons.injEq, and_true] at h
    obtain ⟨h1, h2⟩ := h
    injection h1 with h1
    rw [nkn_inj _ _ h2, show a1 = b1 by omega]
  ni := fun a ks vs => rfl
  nt := fun a ks vs => rfl
  s := fun a d => by
    have e := nk_2 a
    have e2 : ckey [] (enc2 a) = some (q2 a) := by
      have : ckey [] (enc2 a) = (match nk (enc2 a) with | some q => if q.depth ≤ 8 then some q else none | none => none) := rfl
      rw [this, e]
      simp only
      rw [if_pos (dep_2 a)]
    have e3 : setL (.dct [] []) (enc2 a) d = (match ckey [] (enc2 a) with | some q => if ([] : List D).length < line then some (.dkt (addT (enc2 a) q []) (putT [] [] q d)) else none | none => none) := rfl
    rw [e3]
    rw [e2]
    simp [addT, putT, memT, line]
  s' := fun a ks vs d => rfl
/-! ### rounds of parting -/
theorem ded_mem {z : Int} : ∀ {l : List Int}, z ∈ dedI l ↔ z ∈ l
  | [] => by simp [dedI]
  | x :: l => by
    simp only [dedI, List.mem_cons, List.mem_filter, ded_mem (l := l)]
    by_cases h : z = x <;> simp [h]
theorem dedI_nd : ∀ ns : List Int, (dedI ns).Nodup
  | [] => List.nodup_nil
  | x :: xs => List.nodup_cons.mpr ⟨by simp, (dedI_nd xs).filter _⟩
theorem ded_firsts (c : List Nat) : (dedI (c.map Int.ofNat)).length = (firsts c).length := by
  have nd : ((firsts c).map Int.ofNat).Nodup := by
    have hp := nd_firsts c
    unfold List.Nodup at hp ⊢
    rw [List.pairwise_map]
    exact hp.imp fun h z => h (Int.ofNat.inj z)
  have a := len_sub (dedI_nd (c.map Int.ofNat)) (L := (firsts c).map Int.ofNat) fun v hv => by
    obtain ⟨x, hx, rfl⟩ := List.mem_map.mp (ded_mem.mp hv)
    exact List.mem_map.mpr ⟨x, mem_firsts.mpr hx, rfl⟩
  have b := len_sub nd (L := dedI (c.map Int.ofNat)) fun v hv => by
    obtain ⟨x, hx, rfl⟩ := List.mem_map.mp hv
    exact ded_mem.mpr (List.mem_map.mpr ⟨x, mem_firsts.mp hx, rfl⟩)
  rw [List.length_map] at b
  rw [List.length_map] at a
  omega
theorem ev_cnt {c : Cl} {env : PF.Env} {i : Nat} {l : List Nat} (h : look env i = .own (.lst (bits l))) (hl : l.length < 1000) : ev c (.blt .len [.blt .set [.var i]]) .v env = some (.dat (nt (firsts l).length), env) := by
  have l1 : (l.map Int.ofNat).length < 3000 := by simp; omega
  have e1 : ev c (.blt .set [.var i]) .v env = some (.own (setI (l.map Int.ofNat)), env) := by
    simp only [ev, evs, fin, h, views, view, bltD, ints_bits]
    rw [if_pos l1]
  have e2 : bltD .len [setI (l.map Int.ofNat)] = some (.dat (nt (firsts l).length)) := by
    simp only [setI, bltD, List.length_map, ded_firsts]
  simp only [ev, evs, fin] at e1 ⊢
  rw [e1]
  simp only [views, view, e2]
theorem gt_nt (a b : Nat) : cm .gt (nt a) (nt b) = some (decide (b < a)) := by simp [cm, nt]
theorem map2 {α : Type} (as : List α) (f : α → Nat × List Nat) : (as.map fun a => D.tup [nt (f a).1, .tup (bits (f a).2)]) = (as.map f).map enc2 := by simp [enc2]
theorem pc_ok (k : Nat) (T : List (List Nat)) (E : List Bool) (wf : Wf T) (hE : E.length = T.length) (hT : T.length ≤ 100) (hR : ∀ r ∈ T, r.length ≤ 100) (hW : 1000 < W) :
    ∃ C, Done T E C ∧ callL prog W (k + 2) (Str.ofString "parted_classes") [.val (.tup (tb T)), .val (.tup (bl E))] = some (.own (.lst (bits C)), [.val (.tup (tb T)), .val (.tup (bl E))]) := by
  suffices H : ∃ o fs, callL prog W (k + 2) (Str.ofString "parted_classes") [.val (.tup (tb T)), .val (.tup (bl E))] = some (o, fs) ∧ ∃ C, Done T E C ∧ o = .own (.lst (bits C)) ∧ fs = [.val (.tup (tb T)), .val (.tup (bl E))] by
    obtain ⟨o, fs, e, C, D, rfl, rfl⟩ := H
    exact ⟨C, D, e⟩
  refine e_parted_classes ?_
  have e0 := cb_ok (W := W) kk_bl k E (by omega) (.val (.tup (bl E))) (.val (.tup (bl E))) (fun c s1 s2 s3 => ev_walkT rfl)
  refine go_setO (ev_call1 (ev_var rfl) e0) ?_
  show Goes _ _ _ [.val (.tup (tb T)), .val (.tup (bl E)), .own (.lst (bits (cls E))), .un, .un, .un, .un] _
  refine go_setD ev_ci ?_
  show Goes _ _ _ [.val (.tup (tb T)), .val (.tup (bl E)), .own (.lst (bits (cls E))), .val (nt 0), .un, .un, .un] _
  refine go_whl (fun m env => ∃ (C : List Nat) (many : Nat) (x4 x5 x6 : Slot), env = [.val (.tup (tb T)), .val (.tup (bl E)), .own (.lst (bits C)), .val (nt many), x4, x5, x6] ∧ Fine T E C ∧ many ≤ T.length ∧ m = T.length + 1 - many ∧
    (many = 0 ∨ ∃ p, Fine T E p ∧ C = rnd T p ∧ many = (firsts p).length)) (T.length + 1) (by omega) ⟨cls E, 0, .un, .un, .un, rfl, fine0 hE, Nat.zero_le _, rfl, .inl rfl⟩ fun m env ⟨C, many, x4, x5, x6, he, hf, hm, em, hq⟩ => ?_
  subst he
  have hC : C.length = T.length := hf.len
  have hc1 : (firsts C).length ≤ T.length := by rw [← hC]; exact firsts_len C
  refine ⟨decide (many < (firsts C).length), _, ev_cmpT (ev_cnt rfl (by omega)) (ev_var rfl) (gt_nt _ _), fun hb => ?_, fun hb => ?_⟩
  · have hlt := of_decide_eq_true hb
    refine go_setD (ev_cnt rfl (by omega)) ?_
    show Goes _ _ _ [.val (.tup (tb T)), .val (.tup (bl E)), .own (.lst (bits C)), .val (nt (firsts C).length), x4, x5, x6] _
    have e1 := ev_lcm (c := callL prog W (k + 1)) (i := 5) (src := .rng [(.blt .len [(.var 0)])]) (elt := .tup [(.idx (.var 2) (.var 5)), (.blt .tuple [(.lc [6] (.nm 6) (.idx (.var 0) (.var 5)) [] (.idx (.var 2) (.var 6)))])]) (List.range T.length) nt (fun s => .tup [nt (at0 C s), .tup (bits ((row T s).map (at0 C)))])
      [.val (.tup (tb T)), .val (.tup (bl E)), .own (.lst (bits C)), .val (nt (firsts C).length), x4, x5, x6] (ev_range (by omega) (ev_tlen (ev_var rfl) (by simp))) (ln_of (by simp; omega)) fun s hs => lcT1 (by
        have hs2 := List.mem_range.mp hs
        have hrl : (row T s).length ≤ 100 := by
          unfold row; rw [List.getElem?_eq_getElem hs2]; exact hR _ (List.getElem_mem hs2)
        have q := ev_lcm (c := callL prog W (k + 1)) (i := 6) (src := .idx (.var 0) (.var 5)) (elt := .idx (.var 2) (.var 6)) (row T s) nt (fun x => nt (at0 C x))
          [.val (.tup (tb T)), .val (.tup (bl E)), .own (.lst (bits C)), .val (nt (firsts C).length), x4, .val (nt s), x6] (ev_idx_i (ev_idx (ev_var rfl) (ev_var rfl) (at_tb hs2))) (ln_of (by omega)) fun x hx => lcT1 (ev_idxS rfl (ev_var rfl) (at_bitsL (by rw [hC]; exact row_lt wf hx)))
        rw [mapB] at q
        exact ev_tup2 (ev_idxS rfl (ev_var rfl) (at_bitsL (by rw [hC]; exact hs2))) (ev_tuple q))
    rw [map2 (List.range T.length) (fun s => (at0 C s, (row T s).map (at0 C)))] at e1
    refine go_setO e1 ?_
    show Goes _ _ _ [.val (.tup (tb T)), .val (.tup (bl E)), .own (.lst (bits C)), .val (nt (firsts C).length), .own (.lst ((keys T C).map enc2)), x5, x6] _
    have e2 := cb_ok (W := W) kk_2 k (keys T C) (by rw [keys_len]; omega) (.own (.lst ((keys T C).map enc2))) (.val (.lst ((keys T C).map enc2))) (fun c s1 s2 s3 => ev_walkO rfl)
    have e3 : ev (callL prog W (k + 1)) (.call (Str.ofString "classes_by") [(.var 4)]) .v [.val (.tup (tb T)), .val (.tup (bl E)), .own (.lst (bits C)), .val (nt (firsts C).length), .own (.lst ((keys T C).map enc2)), x5, x6] = some (.own (.lst (bits (rnd T C))), [.val (.tup (tb T)), .val (.tup (bl E)), .own (.lst (bits C)), .val (nt (firsts C).length), .val (.lst ((keys T C).map enc2)), x5, x6]) := by
      simp only [ev, evs, fin, look, lend, e2, List.getElem?_cons_succ, List.getElem?_cons_zero, Option.getD_some, List.set_cons_succ, List.set_cons_zero, PF.giveBack]
      rfl
    refine go_setO e3 (go_nil ⟨T.length + 1 - (firsts C).length, by omega, rnd T C, (firsts C).length, _, _, _, rfl, fine_rnd wf hf, hc1, rfl, .inr ⟨C, hf, rfl, rfl⟩⟩)
  · have hle : ¬ many < (firsts C).length := of_decide_eq_false hb
    refine go_retS rfl ?_
    rcases hq with rfl | ⟨p, hp, rfl, rfl⟩
    · exfalso
      have h0 := wf.1
      have : (C[0]'(by omega)) ∈ firsts C := mem_firsts.mpr (List.getElem_mem _)
      have := List.length_pos_of_mem this
      omega
    · exact ⟨rnd T p, done_of wf hp (by omega), rfl, rfl⟩
end K06
namespace K06
open PySem PF K03 K02
variable {W : Nat}
theorem mo_rows {t b : Nat} {T : List (List Nat)} {E : List Bool} (M : MO t b T E) : ∀ r ∈ T, r.length ≤ 100 := fun r hr => by rw [M.fu r hr]; exact M.b1
theorem sc_ok (k t b : Nat) (T : List (List Nat)) (E : List Bool) (M : MO t b T E) (hW : 1000 < W) :
    ∃ C, Done T E C ∧ callL prog W (k + 3) (Str.ofString "state_classes") [.val (mach t T E)] = some (.dat (.tup (bits (rep C))), [.val (mach t T E)]) := by
  obtain ⟨C, D, e⟩ := pc_ok (W := W) k T E M.wf M.he M.n (mo_rows M) hW
  refine ⟨C, D, ?_⟩
  refine c_state_classes ?_
  refine go_setO (ev_call2 (ev_m1 (ev_var rfl)) (ev_m2 (ev_var rfl)) e) ?_
  show Goes _ _ _ [.val (mach t T E), .own (.lst (bits C)), .un] _
  have hC : C.length = T.length := D.len
  have q := ev_lcm (c := callL prog W (k + 2)) (i := 2) (src := .var 1) (elt := .mth .index (.var 1) [(.var 2)]) (env := [.val (mach t T E), .own (.lst (bits C)), .un]) C nt (fun x => nt (ix C x))
    [.val (mach t T E), .val (.lst (bits C)), .un] (ev_walkO rfl) (ln_of (by have := M.n; omega)) fun x hx => lcT1 (ev_index (ev_var rfl) (ev_var rfl) (idx_ints hx))
  rw [mapB] at q
  exact go_ret (ev_tuple q) rfl
/-- a machine's rows turned by numbers of states -/
theorem wj_ok (k t b : Nat) (T : List (List Nat)) (E : List Bool) (S : List Nat) (M : MO t b T E) (M' : MO t b (jn T S) E) (hS : S.length = T.length) (hW : 1000 < W) :
    callL prog W (k + 3) (Str.ofString "with_states_joined") [.val (mach t T E), .val (.tup (bits S))] = some (.dat (mach t (inRows (jn T S)) (inEnds (jn T S) E)), [.val (mach t T E), .val (.tup (bits S))]) := by
  refine c_with_states_joined ?_
  have hT := M.n
  refine go_step _ (unp3 (ev_var rfl)) ?_
  show Goes _ _ _ [.val (mach t T E), .val (.tup (bits S)), .val (nt t), .val (.tup (tb T)), .val (.tup (bl E)), .un, .un, .un] _
  have e1 := ev_lcm (c := callL prog W (k + 2)) (i := 6) (src := .var 3) (elt := .blt .tuple [.lc [7] (.nm 7) (.var 6) [] (.idx (.var 1) (.var 7))]) T (fun r => .tup (bits r)) (fun r => .tup (bits (r.map (at0 S))))
    [.val (mach t T E), .val (.tup (bits S)), .val (nt t), .val (.tup (tb T)), .val (.tup (bl E)), .un, .un, .un] (ev_walkT rfl) (ln_of (by omega)) fun r hr => lcT1 (by
      have q := ev_lcm (c := callL prog W (k + 2)) (i := 7) (src := .var 6) (elt := .idx (.var 1) (.var 7)) r nt (fun x => nt (at0 S x))
        [.val (mach t T E), .val (.tup (bits S)), .val (nt t), .val (.tup (tb T)), .val (.tup (bl E)), .un, .val (.tup (bits r)), .un] (ev_walkT rfl) (ln_of (by have := mo_rows M r hr; omega)) fun x hx => lcT1 (ev_idx (ev_var rfl) (ev_var rfl) (at_bits (by rw [hS]; exact M.wf.2 r hr x hx)))
      rw [mapB] at q
      exact ev_tuple q)
  rw [mapT] at e1
  refine go_setD (ev_tuple e1) ?_
  show Goes _ _ _ [.val (mach t T E), .val (.tup (bits S)), .val (nt t), .val (.tup (tb T)), .val (.tup (bl E)), .val (.tup (tb (jn T S))), .un, .un] _
  exact go_ret (ev_call1 (tup3 (ev_var rfl) (ev_var rfl) (ev_var rfl)) (mi_ok k t b (jn T S) E M' hW)) rfl
theorem mo_in {t b : Nat} {T : List (List Nat)} {E : List Bool} (M : MO t b T E) : MO t b (inRows T) (inEnds T E) := by
  refine ⟨wf_in M.wf, fun r hr => ?_, by simp [inEnds, in_len], by rw [in_len]; exact Nat.le_trans (ord_len M.wf) M.n, M.b1⟩
  obtain ⟨s, hs, rfl⟩ := List.mem_map.mp hr
  rw [List.length_map]
  exact full_row M.fu (lt_ord M.wf s hs)
theorem mo_jn {t b : Nat} {T : List (List Nat)} {E : List Bool} {C : List Nat} (M : MO t b T E) (D : Done T E C) : MO t b (jn T (rep C)) E :=
  ⟨wf_jn M.wf D.len, full_jn M.fu, by rw [jn_len]; exact M.he, by rw [jn_len]; exact M.n, M.b1⟩
/-- a least machine: it takes the same words, it is told to be least -/
structure Lst (t b : Nat) (T : List (List Nat)) (E : List Bool) (L : List (List Nat)) (F : List Bool) : Prop where
  mo : MO t b L F
  tk : ∀ w : List Nat, (∀ l ∈ w, l < b) → atB F (beh L w) = atB E (beh T w)
  ord : ord L = List.range L.length
  cl : ∀ C, Done L F C → C = List.range L.length
theorem lm_ok (k t b : Nat) (T : List (List Nat)) (E : List Bool) (M : MO t b T E) (hW : 1000 < W) :
    ∃ L F, Lst t b T E L F ∧ callL prog W (k + 4) (Str.ofString "least_machine") [.val (mach t T E)] = some (.dat (mach t L F), [.val (mach t T E)]) := by
  have M1 := mo_in M
  obtain ⟨C, D, e⟩ := sc_ok (W := W) k t b _ _ M1 hW
  refine ⟨lT (inRows T) C, lE (inRows T) (inEnds T E) C, ⟨mo_in (mo_jn M1 D), fun w hw => ?_, ?_, fun CL DL => l_done M1.wf M1.fu (by rw [ord_in M.wf, in_len]) D DL⟩, ?_⟩
  · exact (l_takes M1.wf M1.fu D w hw).trans (in_takes M.wf M.fu w hw)
  · rw [ord_in (wf_jn M1.wf D.len), in_len]
  · refine c_least_machine ?_
    refine go_setD (ev_call1 (ev_var rfl) (mi_ok (k + 1) t b T E M hW)) ?_
    show Goes _ _ _ [.val (mach t T E), .val (mach t (inRows T) (inEnds T E))] _
    exact go_ret (ev_call2 (ev_var rfl) (ev_call1 (ev_var rfl) e) (wj_ok k t b _ _ (rep C) M1 (mo_jn M1 D) (by rw [rep_len, D.len]) hW)) rfl
theorem rep_range (n : Nat) : rep (List.range n) = List.range n := by
  unfold rep
  refine List.ext_getElem (by simp) fun i h1 h2 => ?_
  have hi : i < n := by simpa using h2
  simp only [List.getElem_map, List.getElem_range]
  exact ix_range hi
theorem eq_bits (l : List Nat) : cm .eq (.tup (bits l)) (.tup (bits l)) = some true := by
  simp only [cm, shp_bits, Bool.and_self, if_true, deq_bits, decide_true]
theorem il_ok (k t b : Nat) (T L : List (List Nat)) (E F : List Bool) (H : Lst t b T E L F) (hW : 1000 < W) : callL prog W (k + 4) (Str.ofString "is_least_machine") [.val (mach t L F)] = some (.dat (.bl true), [.val (mach t L F)]) := by
  refine c_is_least_machine ?_
  obtain ⟨C, D, e⟩ := sc_ok (W := W) k t b _ _ H.mo hW
  have eC := H.cl C D
  subst eC
  rw [rep_range] at e
  have hL := H.mo.n
  have io := io_ok (W := W) (k + 1) t L F H.mo.wf hL hW
  rw [H.ord, decide_eq_true rfl] at io
  exact go_ret (and_two (ev_call1 (ev_var rfl) io) (ev_cmp (ev_call1 (ev_var rfl) e) (ev_trange (n := L.length) (by omega) (ev_tlen (ev_m1 (ev_var rfl)) (by simp))) (eq_bits _))) rfl
end K06
namespace K06
open PySem PF K03 K02
variable {W : Nat}
/-! ### states behind words -/
theorem behF_take (T : List (List Nat)) (s : Nat) (w : List Nat) (j : Nat) (h : j < w.length) : behF T s (w.take (j + 1)) = (row T (behF T s (w.take j)))[w[j]?.getD 0]?.getD 0 := by
  rw [take_succ' h]; simp [behF, List.foldl_append]
theorem sf_ok (k t b s : Nat) (T : List (List Nat)) (E : List Bool) (w : List Nat) (wf : Wf T) (fu : Full T b) (hs : s < T.length) (hw : ∀ l ∈ w, l < b) :
    callL prog W (k + 1) (Str.ofString "state_from") [.val (mach t T E), .val (nt s), .val (.tup (bits w))] = some (.dat (nt (behF T s w)), [.val (mach t T E), .un, .val (.tup (bits w))]) := by
  refine c_state_from ?_
  refine go_for (bits w) _ (fun j env => ∃ x3, env = [.val (mach t T E), .val (nt (behF T s (w.take j))), .val (.tup (bits w)), x3]) (ev_walkT rfl) ⟨.un, rfl⟩ (fun j x env hx ⟨x3, he⟩ => ?_) fun env ⟨x3, he⟩ => ?_
  · obtain ⟨hj, rfl⟩ := nth_bits hx
    subst he
    refine ⟨_, rfl, ?_⟩
    show Goes _ _ _ [.val (mach t T E), .val (nt (behF T s (w.take j))), .val (.tup (bits w)), .val (nt (w[j]?.getD 0))] _
    have hs := behF_lt wf fu (w.take j) s hs fun l hl => hw l (List.mem_of_mem_take hl)
    have hl : w[j]?.getD 0 < b := hw _ (by simp [hj])
    refine go_setD (ev_idx (ev_idx (ev_m1 (ev_var rfl)) (ev_var rfl) (at_tb hs)) (ev_var rfl) (at_bits (by rw [full_row fu hs]; exact hl))) (go_nil ⟨.val (nt (w[j]?.getD 0)), ?_⟩)
    rw [behF_take T s w j hj]; rfl
  · subst he
    rw [bits, List.length_map, List.take_length]
    exact go_ret (ev_var rfl) rfl
theorem sb_ok (k t b : Nat) (T : List (List Nat)) (E : List Bool) (w : List Nat) (wf : Wf T) (fu : Full T b) (hw : ∀ l ∈ w, l < b) :
    callL prog W (k + 2) (Str.ofString "state_behind") [.val (mach t T E), .val (.tup (bits w))] = some (.dat (nt (beh T w)), [.val (mach t T E), .val (.tup (bits w))]) :=
  c_state_behind (go_ret (ev_call3 (d' := nt 0) (ev_var rfl) ev_ci (ev_var rfl) (sf_ok k t b 0 T E w wf fu wf.1 hw)) rfl)
theorem tw_ok (k t b : Nat) (T : List (List Nat)) (E : List Bool) (w : List Nat) (wf : Wf T) (fu : Full T b) (hE : E.length = T.length) (hw : ∀ l ∈ w, l < b) :
    callL prog W (k + 3) (Str.ofString "takes_word") [.val (mach t T E), .val (.tup (bits w))] = some (.dat (.bl (atB E (beh T w))), [.val (mach t T E), .val (.tup (bits w))]) :=
  c_takes_word (go_ret (ev_idx (ev_m2 (ev_var rfl)) (ev_call2 (ev_var rfl) (ev_var rfl) (sb_ok k t b T E w wf fu hw)) (at_bl (by rw [hE]; exact beh_mem wf fu w hw))) rfl)
/-! ### least machines -/
theorem mo_ma {t b : Nat} {T : List (List Nat)} {E : List Bool} (M : MO t b T E) (h : 2 ≤ b) : Ma b T E := ⟨M.wf, M.fu, M.he, h⟩
theorem lst_lea {t b : Nat} {T L : List (List Nat)} {E F : List Bool} (h : 2 ≤ b) (H : Lst t b T E L F) : Lea b L F := lea_of (mo_ma H.mo h) H.ord H.cl
theorem lst_same {t b : Nat} {T L : List (List Nat)} {E F : List Bool} (H : Lst t b T E L F) : Same b T E L F := H.tk
theorem eq2_bits (l m : List Nat) : cm .eq (.tup (bits l)) (.tup (bits m)) = some (decide (l = m)) := by
  simp only [cm, shp_bits, Bool.and_self, if_true, deq_bits]
/-- one least machine for all that take the same -/
theorem lst_of {t b : Nat} {T L U K : List (List Nat)} {E F G J : List Bool} (hb : 2 ≤ b) (H : Lst t b T E L F) (H2 : Lst t b U G K J) (S : Same b T E U G) : K = L ∧ J = F :=
  lea_uniq (lst_lea hb H) (lst_lea hb H2) fun w hw => (H2.tk w hw).trans ((S w hw).trans (H.tk w hw).symm)
theorem lst_self {t b : Nat} {T L : List (List Nat)} {E F : List Bool} (hb : 2 ≤ b) (H : Lst t b T E L F) {K : List (List Nat)} {J : List Bool} (H2 : Lst t b L F K J) : K = L ∧ J = F := lst_of hb H H2 H.tk
theorem il_any (k t b : Nat) (T L : List (List Nat)) (E F : List Bool) (M : MO t b T E) (hb : 2 ≤ b) (H : Lst t b T E L F) (hW : 1000 < W) :
    callL prog W (k + 4) (Str.ofString "is_least_machine") [.val (mach t T E)] = some (.dat (.bl (decide (T = L ∧ E = F))), [.val (mach t T E)]) := by
  refine c_is_least_machine ?_
  obtain ⟨C, D, e⟩ := sc_ok (W := W) k t b _ _ M hW
  have hT := M.n
  have io := io_ok (W := W) (k + 1) t T E M.wf hT hW
  rw [← il_eq (mo_ma M hb) D (lst_lea hb H) H.tk]
  exact go_ret (ev_andV (ev_call1 (ev_var rfl) io) (ev_cmp (ev_call1 (ev_var rfl) e) (ev_trange (n := T.length) (by omega) (ev_tlen (ev_m1 (ev_var rfl)) (by simp))) (eq2_bits _ _))) rfl
theorem ls_ok (k t b : Nat) (T : List (List Nat)) (E : List Bool) (L : List (List Nat)) (F : List Bool) (e : callL prog W k (Str.ofString "least_machine") [.val (mach t T E)] = some (.dat (mach t L F), [.val (mach t T E)])) :
    callL prog W (k + 1) (Str.ofString "least_size") [.val (mach t T E)] = some (.dat (nt L.length), [.val (mach t T E)]) :=
  c_least_size (go_ret (ev_tlen (ev_idx (ev_call1 (ev_var rfl) e) ev_ci rfl) (by simp)) rfl)
/-! ### rows of ends -/
abbrev lbs (R : List (List Bool)) : List D := R.map fun r => .lst (bl r)
theorem app_any {xs : List D} {d : D} (h : xs.length < 100000) : mutD .append (.lst xs) [d] = some (.non, .lst (xs ++ [d])) := by
  have : xs.length < line := by unfold line; omega
  simp [mutD, this]
theorem ev_mutS {c : Cl} {env : PF.Env} {m : Mt} {i j : Nat} {l l' r : D} {xs : List D} (h : look env i = .own l) (hw : wantsM m l = true) (hj : look env j = .own (.lst xs)) (h1 : look (env.set j (.val (.lst xs))) i = .own l) (hm : mutD m l [.lst xs] = some (r, l')) :
    ev c (.mut m i [.var j]) .v env = some (.dat r, (env.set j (.val (.lst xs))).set i (.own l')) := by
  simp only [ev, evds, fin, h, hw, if_true, hj, toD, h1, hm]
def Hld (s : Slot) (xs : List D) : Prop := s = .own (.lst xs) ∨ s = .val (.lst xs)
theorem ev_walkH {c : Cl} {env : PF.Env} {i : Nat} {s : Slot} {xs : List D} (h : look env i = s) (H : Hld s xs) (hi : env.set i (.val (.lst xs)) = env.set i (.val (.lst xs))) : ∃ env', ev c (.var i) .i env = some (.dat (.tup xs), env') ∧ (env' = env.set i (.val (.lst xs)) ∨ (env' = env ∧ s = .val (.lst xs))) := by
  rcases H with rfl | rfl
  · exact ⟨_, ev_walkO h, .inl rfl⟩
  · exact ⟨_, ev_walk h, .inr ⟨rfl, rfl⟩⟩
theorem bl_snoc (r : List Bool) (x : Bool) : bl r ++ [D.bl x] = bl (r ++ [x]) := by simp [bl]
theorem lr_ok (k t b : Nat) (T : List (List Nat)) (E : List Bool) (M : MO t b T E) (ws : List (List Nat)) (hws : ws.length ≤ 20000) (hw : ∀ w ∈ ws, ∀ l ∈ w, l < b) (s1 : Slot) (h1 : Hld s1 (tb ws)) :
    callL prog W (k + 1) (Str.ofString "_law_rows") [.val (mach t T E), s1] = some (.own (.lst (lbs (rws T E ws))), [.val (mach t T E), .val (.lst (tb ws))]) := by
  refine c__law_rows ?_
  have hT := M.n
  have hn := M.wf.1
  refine go_setO (d := .lst (lbs [])) (env1 := [.val (mach t T E), s1, .un, .un, .un, .un, .un, .un]) (by simp [exs, ex, ev, evds, evs, evAnd, evOr, look, fin, view, views, cm, D.plain, wantsM, isSeq, sameQ, truth, mutD, toD, op2, store, aug2, giveOut, finals, lend, PF.giveBack, bltD, isiD, kd, isK, idxD, mthD, b2i, itemsOf, bindT, Md.tv, setAll, revD, part, slcD, shp_int, shp_bl, deq_int, deq_bl, shp_non, rg1, rg2, rg3, rg4, ln1, ln2, ln3, ln4]) ?_
  show Goes _ _ _ [.val (mach t T E), s1, .own (.lst (lbs [])), .un, .un, .un, .un, .un] _
  refine go_for ((List.range T.length).map nt) _ (fun i env => ∃ s1 x3 x4 x5 x6 x7, env = [.val (mach t T E), s1, .own (.lst (lbs ((List.range i).map (rw1 T E ws)))), x3, x4, x5, x6, x7] ∧ Hld s1 (tb ws) ∧ (0 < i → s1 = .val (.lst (tb ws)))) (ev_range (by omega) (ev_tlen (ev_m1 (ev_var rfl)) (by simp)))
    ⟨s1, .un, .un, .un, .un, .un, rfl, h1, fun h => by omega⟩ (fun i x env hx ⟨s1, x3, x4, x5, x6, x7, he, h1, _⟩ => ?_) fun env ⟨s1, x3, x4, x5, x6, x7, he, _, h2⟩ => ?_
  · obtain ⟨hi, rfl⟩ := xs_at hx
    subst he
    refine ⟨_, rfl, ?_⟩
    refine go_setO (d := .lst (bl [])) (env1 := [.val (mach t T E), s1, .own (.lst (lbs ((List.range i).map (rw1 T E ws)))), .val (nt i), x4, x5, x6, x7]) (by simp [exs, ex, ev, evds, evs, evAnd, evOr, look, fin, view, views, cm, D.plain, wantsM, isSeq, sameQ, truth, mutD, toD, op2, store, aug2, giveOut, finals, lend, PF.giveBack, bltD, isiD, kd, isK, idxD, mthD, b2i, itemsOf, bindT, Md.tv, setAll, revD, part, slcD, shp_int, shp_bl, deq_int, deq_bl, shp_non, rg1, rg2, rg3, rg4, ln1, ln2, ln3, ln4]) ?_
    have src : ev (callL prog W k) (.var 1) .i [.val (mach t T E), s1, .own (.lst (lbs ((List.range i).map (rw1 T E ws)))), .val (nt i), .own (.lst (bl [])), x5, x6, x7] = some (.dat (.tup (tb ws)), [.val (mach t T E), .val (.lst (tb ws)), .own (.lst (lbs ((List.range i).map (rw1 T E ws)))), .val (nt i), .own (.lst (bl [])), x5, x6, x7]) := by
      rcases h1 with rfl | rfl
      · exact ev_walkO rfl
      · exact ev_walk rfl
    show Goes _ _ _ [.val (mach t T E), s1, .own (.lst (lbs ((List.range i).map (rw1 T E ws)))), .val (nt i), .own (.lst (bl [])), x5, x6, x7] _
    refine go_for (tb ws) _ (fun j env => ∃ x5 x6 x7, env = [.val (mach t T E), .val (.lst (tb ws)), .own (.lst (lbs ((List.range i).map (rw1 T E ws)))), .val (nt i), .own (.lst (bl (rw1 T E (ws.take j) i))), x5, x6, x7]) src ⟨x5, x6, x7, rfl⟩ (fun j x env hx ⟨x5, x6, x7, he⟩ => ?_) fun env ⟨x5, x6, x7, he⟩ => ?_
    · obtain ⟨hj, rfl⟩ := nth_tb hx
      subst he
      refine ⟨_, rfl, ?_⟩
      have ht : ws.take (j + 1) = ws.take j ++ [ws[j]?.getD []] := by rw [List.take_succ]; simp [hj]
      have hwj : ∀ l ∈ ws[j]?.getD [], l < b := hw _ (by simp [hj])
      generalize ws[j]?.getD [] = w at *
      refine go_setD (ev_var rfl) ?_
      show Goes _ _ _ [.val (mach t T E), .val (.lst (tb ws)), .own (.lst (lbs ((List.range i).map (rw1 T E ws)))), .val (nt i), .own (.lst (bl (rw1 T E (ws.take j) i))), .val (.tup (bits w)), .val (nt (behF T i (w.take 0))), x7] _
      refine go_for (bits w) _ (fun m env => ∃ x7, env = [.val (mach t T E), .val (.lst (tb ws)), .own (.lst (lbs ((List.range i).map (rw1 T E ws)))), .val (nt i), .own (.lst (bl (rw1 T E (ws.take j) i))), .val (.tup (bits w)), .val (nt (behF T i (w.take m))), x7]) (ev_walkT rfl) ⟨x7, rfl⟩ (fun m x env hx ⟨x7, he⟩ => ?_) fun env ⟨x7, he⟩ => ?_
      · obtain ⟨hm, rfl⟩ := nth_bits hx
        subst he
        refine ⟨_, rfl, ?_⟩
        show Goes _ _ _ [.val (mach t T E), .val (.lst (tb ws)), .own (.lst (lbs ((List.range i).map (rw1 T E ws)))), .val (nt i), .own (.lst (bl (rw1 T E (ws.take j) i))), .val (.tup (bits w)), .val (nt (behF T i (w.take m))), .val (nt (w[m]?.getD 0))] _
        have hs := behF_lt M.wf M.fu (w.take m) i hi fun l hl => hwj l (List.mem_of_mem_take hl)
        have hl : w[m]?.getD 0 < b := hwj _ (by simp [hm])
        refine go_setD (ev_idx (ev_idx (ev_m1 (ev_var rfl)) (ev_var rfl) (at_tb hs)) (ev_var rfl) (at_bits (by rw [full_row M.fu hs]; exact hl))) (go_nil ⟨.val (nt (w[m]?.getD 0)), ?_⟩)
        rw [behF_take T i w m hm]; rfl
      · subst he
        rw [bits, List.length_map, List.take_length]
        have hs := behF_lt M.wf M.fu w i hi hwj
        refine go_expr (ev_mut1 (l := .lst (bl (rw1 T E (ws.take j) i))) rfl rfl (ev_idx (ev_m2 (ev_var rfl)) (ev_var rfl) (at_bl (by rw [M.he]; exact hs))) rfl (app_any (by simp [rw1]; omega))) (go_nil ⟨.val (.tup (bits w)), .val (nt (behF T i w)), x7, ?_⟩)
        rw [ht, bl_snoc]
        simp [rw1]
    · subst he
      rw [tb, List.length_map, List.take_length]
      refine go_expr (ev_mutS (l := .lst (lbs ((List.range i).map (rw1 T E ws)))) rfl rfl rfl rfl (app_any (by simp; omega))) (go_nil ⟨.val (.lst (tb ws)), .val (nt i), .val (.lst (bl (rw1 T E ws i))), x5, x6, x7, ?_, .inr rfl, fun _ => rfl⟩)
      have e : lbs ((List.range i).map (rw1 T E ws)) ++ [D.lst (bl (rw1 T E ws i))] = lbs ((List.range (i + 1)).map (rw1 T E ws)) := by simp [lbs, List.range_succ]
      rw [← e]
      rfl
  · subst he
    rw [List.length_map, List.length_range] at *
    have e := h2 hn
    subst e
    exact go_retS rfl rfl
end K06
namespace K06
open PySem PF K03 K02
variable {W : Nat}
/-! ### first places in lists of data -/
theorem lay_all {α : Type} {enc : α → D} {m : Nat} : ∀ {as : List α}, (∀ a ∈ as, (enc a).py.canLay0 = true ∧ (enc a).py.depth ≤ m) → PyData.canLayAll0 (D.pys (as.map enc)) = true ∧ PyData.depthAll (D.pys (as.map enc)) ≤ m
  | [], _ => ⟨rfl, Nat.zero_le _⟩
  | a :: as, h => by
    obtain ⟨h1, h2⟩ := lay_all (as := as) fun x hx => h x (List.mem_cons_of_mem _ hx)
    obtain ⟨h3, h4⟩ := h a List.mem_cons_self
    simp only [List.map_cons, D.pys, PyData.canLayAll0, PyData.depthAll, h1, h3, Bool.and_self, true_and]
    omega
theorem shp_of {d : D} (h : d.plain = true) (h1 : d.py.canLay0 = true) (h2 : d.py.depth ≤ 20) : shp d = true := by
  unfold shp SeqAt.shaped
  rw [h, h1]
  simp
  omega
theorem lay_lst {α : Type} {enc : α → D} {m : Nat} {as : List α} (h : ∀ a ∈ as, (enc a).py.canLay0 = true ∧ (enc a).py.depth ≤ m) : (D.lst (as.map enc)).py.canLay0 = true ∧ (D.lst (as.map enc)).py.depth ≤ m + 1 := by
  obtain ⟨h1, h2⟩ := lay_all h
  simp only [D.py, PyData.canLay0, PyData.depth, h1, true_and]
  omega
theorem lay_nt (n : Nat) : (nt n).py.canLay0 = true ∧ (nt n).py.depth ≤ 0 := ⟨rfl, Nat.le_refl _⟩
theorem lay_b (b : Bool) : (D.bl b).py.canLay0 = true ∧ (D.bl b).py.depth ≤ 0 := ⟨rfl, Nat.le_refl _⟩
theorem lay_row (r : List Bool) : (D.lst (bl r)).py.canLay0 = true ∧ (D.lst (bl r)).py.depth ≤ 1 := lay_lst fun b _ => lay_b b
theorem lay_lnt (r : List Nat) : (D.lst (bits r)).py.canLay0 = true ∧ (D.lst (bits r)).py.depth ≤ 1 := lay_lst fun b _ => lay_nt b
abbrev enc3 (p : Nat × List Nat) : D := .tup [nt p.1, .lst (bits p.2)]
theorem lay_3 (p : Nat × List Nat) : (enc3 p).py.canLay0 = true ∧ (enc3 p).py.depth ≤ 2 := by
  obtain ⟨h1, h2⟩ := lay_lnt p.2
  simp only [enc3, D.py, D.pys, PyData.canLay0, PyData.canLayAll0, PyData.depth, PyData.depthAll] at h1 h2 ⊢
  refine ⟨by simp [h1], by omega⟩
theorem deq_row (a b : List Bool) : deq (.lst (bl a)) (.lst (bl b)) = decide (a = b) := by
  unfold deq; simp only [D.py, PyData.eqv]; exact eqv_bl a b
theorem deq_lnt (a b : List Nat) : deq (.lst (bits a)) (.lst (bits b)) = decide (a = b) := by
  unfold deq; simp only [D.py, PyData.eqv]; exact eqv_bits a b
theorem deq_3 (p q : Nat × List Nat) : deq (enc3 p) (enc3 q) = decide (p = q) := by
  have h : deq (enc3 p) (enc3 q) = (deq (nt p.1) (nt q.1) && (deq (.lst (bits p.2)) (.lst (bits q.2)) && true)) := by
    unfold deq; simp only [enc3, D.py, D.pys, PyData.eqv, PyData.eqvAll]
  rw [h, deq_int, deq_lnt, Bool.and_true]
  obtain ⟨a, b⟩ := p
  obtain ⟨a', b'⟩ := q
  by_cases h1 : a = a' <;> by_cases h2 : b = b' <;> simp [h1, h2] <;> omega
theorem fst_idx {α : Type} [DecidableEq α] {enc : α → D} (hq : ∀ a b, deq (enc a) (enc b) = decide (a = b)) {x : α} : ∀ {as : List α}, x ∈ as → fstD (enc x) (as.map enc) = some (as.idxOf x)
  | [], h => by cases h
  | a :: as, h => by
    unfold fstD
    rw [List.map_cons, List.findIdx?_cons, hq]
    by_cases e : a = x
    · subst e; simp
    · rw [decide_eq_false e]
      have hx : x ∈ as := by
        rcases List.mem_cons.mp h with rfl | h
        · exact absurd rfl e
        · exact h
      have ih := fst_idx hq hx
      unfold fstD at ih
      rw [ih, List.idxOf_cons, beq_eq_false_iff_ne.mpr e]
      rfl
theorem index_any {α : Type} [DecidableEq α] {enc : α → D} (hq : ∀ a b, deq (enc a) (enc b) = decide (a = b)) (hi : ∀ x ys, indexD ys (enc x) = none) {m : Nat} (hm : m ≤ 10) {as : List α} (hl : as.length ≤ 10000) (h : ∀ a ∈ as, (enc a).plain = true ∧ (enc a).py.canLay0 = true ∧ (enc a).py.depth ≤ m) {x : α} (hx : x ∈ as) :
    mthD .index (.lst (as.map enc)) [enc x] = some (nt (as.idxOf x)) := by
  obtain ⟨h1, h2, h3⟩ := h x hx
  obtain ⟨g1, g2⟩ := lay_lst fun a ha => (h a ha).2
  have hll : (as.map enc).length ≤ line := by rw [List.length_map]; unfold line; omega
  simp only [mthD, hi, shp_of h1 h2 (by omega), shp_of (d := .lst (as.map enc)) rfl g1 (by omega), Bool.and_self, decide_eq_true hll, if_true, fst_idx hq hx, Option.map_some]
theorem ev_indexG {c : Cl} {env : PF.Env} {a b : E} {ys : List D} {x r : D} (ha : ev c a .v env = some (.dat (.lst ys), env)) (hb : ev c b .v env = some (.dat x, env)) (h : mthD .index (.lst ys) [x] = some r) : ev c (.mth .index a [b]) .v env = some (.dat r, env) := by
  simp only [ev, evds, fin, ha, hb, toD, view, isSeq, sameQ, if_true, h]
/-! ### rounds, by the code -/
theorem ex_unp2 {c : Cl} {env : PF.Env} {i j : Nat} {a b : E} {d d' : D} (ha : ev c a .v env = some (.dat d, env)) (hb : ev c b .v env = some (.dat d', env)) : ex c W (.unp [i, j] (.tup [a, b])) env = some (.nx ((env.set i (.val d)).set j (.val d'))) := by
  have := ev_tup2 ha hb
  simp only [ex, this, toD, setAll]
theorem ex_par {c : Cl} {env : PF.Env} {i j : Nat} {a b : E} {d d' : D} (ha : ev c a .v env = some (.dat d, env)) (hb : ev c b .v env = some (.dat d', env)) : ex c W (.par i j a b) env = some (.nx ((env.set i (.val d)).set j (.val d'))) := by
  simp only [ex, evds, ha, hb, toD]
theorem go_augZ {c : Cl} {ss : List S} {env : PF.Env} {Φ : R → Prop} {i : Nat} {n : Int} (h : look env i = .val (.int n)) (q : Goes c W ss (env.set i (.val (.int (n + 1)))) Φ) : Goes c W (.aug .add i (.int 1) :: ss) env Φ :=
  go_step _ (by simp only [ex, h, ev, fin, view, aug2]) q
theorem ev_callO' {c : Cl} {env env1 : PF.Env} {e : E} {f : Str} {d : D} {o : Opd} {fs : List Slot} (h : ev c e .v env = some (.own d, env1)) (hc : c f [.own d] = some (o, fs)) : ev c (.call f [e]) .v env = some (o, env1) := ev_call1O h hc
theorem rp_ok (k t b : Nat) (T : List (List Nat)) (E : List Bool) (M : MO t b T E) (hb2 : 2 ≤ b) (hW : 1000 < W) :
    ∃ R, IsR T E R ∧ callL prog W (k + 2) (Str.ofString "rounds_to_part") [.val (mach t T E)] = some (.dat (nt R), [.val (mach t T E)]) := by
  suffices H : ∃ o fs, callL prog W (k + 2) (Str.ofString "rounds_to_part") [.val (mach t T E)] = some (o, fs) ∧ ∃ R, IsR T E R ∧ o = .dat (nt R) ∧ fs = [.val (mach t T E)] by
    obtain ⟨o, fs, e, R, D, rfl, rfl⟩ := H
    exact ⟨R, D, e⟩
  have wf := M.wf
  have hE := M.he
  have hT := M.n
  refine e_rounds_to_part ?_
  refine go_step _ (ex_unp2 (ev_m1 (ev_var rfl)) (ev_m2 (ev_var rfl))) ?_
  show Goes _ _ _ [.val (mach t T E), .val (.tup (tb T)), .val (.tup (bl E)), .un, .un, .un, .un, .un] _
  have e0 := cb_ok (W := W) kk_bl k E (by omega) (.val (.tup (bl E))) (.val (.tup (bl E))) (fun c s1 s2 s3 => ev_walkT rfl)
  refine go_setO (ev_call1 (ev_var rfl) e0) ?_
  show Goes _ _ _ [.val (mach t T E), .val (.tup (tb T)), .val (.tup (bl E)), .own (.lst (bits (rs T E 0))), .un, .un, .un, .un] _
  refine go_setD (ev_neg ev_ci) ?_
  show Goes _ _ _ [.val (mach t T E), .val (.tup (tb T)), .val (.tup (bl E)), .own (.lst (bits (rs T E 0))), .val (.int (-1)), .un, .un, .un] _
  refine go_setD ev_ci ?_
  show Goes _ _ _ [.val (mach t T E), .val (.tup (tb T)), .val (.tup (bl E)), .own (.lst (bits (rs T E 0))), .val (.int (-1)), .val (nt 0), .un, .un] _
  refine go_whl (fun m env => ∃ (j many : Nat) (x6 x7 : Slot), env = [.val (mach t T E), .val (.tup (tb T)), .val (.tup (bl E)), .own (.lst (bits (rs T E j))), .val (.int ((j : Int) - 1)), .val (nt many), x6, x7] ∧ many ≤ T.length ∧ m = T.length + 1 - many ∧
    (∀ i, i + 1 < j → Nr T E i < Nr T E (i + 1)) ∧ ((j = 0 ∧ many = 0) ∨ ∃ i, j = i + 1 ∧ many = Nr T E i)) (T.length + 1) (by omega) ⟨0, 0, .un, .un, by simp, Nat.zero_le _, rfl, fun i h => by omega, .inl ⟨rfl, rfl⟩⟩ fun m env ⟨j, many, x6, x7, he, hm, em, hj, hq⟩ => ?_
  subst he
  obtain ⟨C, hCe⟩ : ∃ C, C = rs T E j := ⟨_, rfl⟩
  have hC : C.length = T.length := by rw [hCe]; exact rs_len wf hE j
  have hN : (firsts C).length = Nr T E j := by rw [hCe]; rfl
  have hc1 := Nr_le wf hE (E := E) j
  rw [← hCe]
  refine ⟨decide (many < Nr T E j), _, ev_cmpT (hN ▸ ev_cnt (l := C) rfl (by omega)) (ev_var rfl) (gt_nt _ _), fun hb => ?_, fun hb => ?_⟩
  · have hlt := of_decide_eq_true hb
    refine go_setD (hN ▸ ev_cnt (l := C) rfl (by omega)) ?_
    show Goes _ _ _ [.val (mach t T E), .val (.tup (tb T)), .val (.tup (bl E)), .own (.lst (bits C)), .val (.int ((j : Int) - 1)), .val (nt (Nr T E j)), x6, x7] _
    have e1 := ev_lcm (c := callL prog W (k + 1)) (i := 6) (src := .rng [(.blt .len [(.var 1)])]) (elt := .tup [(.idx (.var 3) (.var 6)), (.blt .tuple [(.lc [7] (.nm 7) (.idx (.var 1) (.var 6)) [] (.idx (.var 3) (.var 7)))])]) (List.range T.length) nt (fun s => .tup [nt (at0 C s), .tup (bits ((row T s).map (at0 C)))])
      [.val (mach t T E), .val (.tup (tb T)), .val (.tup (bl E)), .own (.lst (bits C)), .val (.int ((j : Int) - 1)), .val (nt (Nr T E j)), x6, x7] (ev_range (by omega) (ev_tlen (ev_var rfl) (by simp))) (ln_of (by simp; omega)) fun s hs => lcT1 (by
        have hs2 := List.mem_range.mp hs
        have hrl : (row T s).length ≤ 100 := by
          unfold row; rw [List.getElem?_eq_getElem hs2]; exact mo_rows M _ (List.getElem_mem hs2)
        have q := ev_lcm (c := callL prog W (k + 1)) (i := 7) (src := .idx (.var 1) (.var 6)) (elt := .idx (.var 3) (.var 7)) (row T s) nt (fun x => nt (at0 C x))
          [.val (mach t T E), .val (.tup (tb T)), .val (.tup (bl E)), .own (.lst (bits C)), .val (.int ((j : Int) - 1)), .val (nt (Nr T E j)), .val (nt s), x7] (ev_idx_i (ev_idx (ev_var rfl) (ev_var rfl) (at_tb hs2))) (ln_of (by omega)) fun x hx => lcT1 (ev_idxS rfl (ev_var rfl) (at_bitsL (by rw [hC]; exact row_lt wf hx)))
        rw [mapB] at q
        exact ev_tup2 (ev_idxS rfl (ev_var rfl) (at_bitsL (by rw [hC]; exact hs2))) (ev_tuple q))
    rw [map2 (List.range T.length) (fun s => (at0 C s, (row T s).map (at0 C)))] at e1
    have e2 := cb_ok (W := W) kk_2 k (keys T C) (by rw [keys_len]; omega) (.own (.lst ((keys T C).map enc2))) (.val (.lst ((keys T C).map enc2))) (fun c s1 s2 s3 => ev_walkO rfl)
    refine go_setO (ev_call1O e1 e2) ?_
    show Goes _ _ _ [.val (mach t T E), .val (.tup (tb T)), .val (.tup (bl E)), .own (.lst (bits (rnd T C))), .val (.int ((j : Int) - 1)), .val (nt (Nr T E j)), x6, x7] _
    rw [hCe]
    refine go_augZ rfl (go_nil ⟨T.length + 1 - Nr T E j, by omega, j + 1, Nr T E j, x6, x7, ?_, hc1, rfl, fun i hi => ?_, .inr ⟨j, rfl, rfl⟩⟩)
    · have : ((j + 1 : Nat) : Int) - 1 = (j : Int) - 1 + 1 := by omega
      rw [this]; rfl
    · by_cases h : i + 1 < j
      · exact hj i h
      · have : j = i + 1 := by omega
        subst this
        rcases hq with ⟨h, _⟩ | ⟨i', h, rfl⟩
        · omega
        · have : i' = i := by omega
          subst this; exact hlt
  · have hle : ¬ many < Nr T E j := of_decide_eq_false hb
    rcases hq with ⟨rfl, rfl⟩ | ⟨i, rfl, rfl⟩
    · exact absurd (Nr_pos wf hE 0) hle
    · refine go_ret (d := nt i) (by
        have e : ((i + 1 : Nat) : Int) - 1 = (i : Int) := by omega
        rw [e]
        exact ev_var rfl) ⟨i, ⟨Nat.le_of_not_lt hle, fun t' ht => hj t' (by omega)⟩, rfl, rfl⟩
end K06
namespace K06
open PySem PF K03 K02
variable {W : Nat}
section
variable {c : Cl} {env env1 env2 : PF.Env} {i n : Nat} {s : Slot} {xs : List D} {b : E} {d r : D}
theorem ev_H (h : look env i = s) (H : Hld s xs) : ∃ o, ev c (.var i) .v env = some (o, env) ∧ view env o = some (.lst xs) := by
  rcases H with rfl | rfl
  · exact ⟨.slot i, ev_slot h, by simp only [view, h]⟩
  · exact ⟨.dat (.lst xs), ev_var h, rfl⟩
theorem ev_idxH (h : look env i = s) (H : Hld s xs) (hb : ev c b .v env = some (.dat d, env)) (ho : idxD (.lst xs) d = some r) : ev c (.idx (.var i) b) .v env = some (.dat r, env) := by
  obtain ⟨o, e1, e2⟩ := ev_H (c := c) h H
  simp only [ev, fin] at e1 ⊢
  simp only [e1, hb, e2]
  simp only [view, ho]
theorem ev_lenH (h : look env i = s) (H : Hld s xs) (hn : xs.length = n) : ev c (.blt .len [.var i]) .v env = some (.dat (nt n), env) := by
  obtain ⟨o, e1, e2⟩ := ev_H (c := c) h H
  simp only [ev, evs, fin] at e1 ⊢
  simp only [e1, views, e2, bltD, hn]
theorem ev_cntH {l : List Nat} (h : look env i = s) (H : Hld s (bits l)) (hl : l.length < 1000) : ev c (.blt .len [.blt .set [.var i]]) .v env = some (.dat (nt (firsts l).length), env) := by
  rcases H with rfl | rfl
  · exact ev_cnt h hl
  · have l1 : (l.map Int.ofNat).length < 3000 := by simp; omega
    have e1 : ev c (.blt .set [.var i]) .v env = some (.own (setI (l.map Int.ofNat)), env) := by
      simp only [ev, evs, fin, h, views, view, bltD, ints_bits]
      rw [if_pos l1]
    have e2 : bltD .len [setI (l.map Int.ofNat)] = some (.dat (nt (firsts l).length)) := by
      simp only [setI, bltD, List.length_map, ded_firsts]
    simp only [ev, evs, fin] at e1 ⊢
    rw [e1]
    simp only [views, view, e2]
theorem ev_tup2O {a : E} (h : ev c a .v env = some (.dat d, env1)) (h' : ev c b .v env1 = some (.own (.lst xs), env2)) : ev c (.tup [a, b]) .v env = some (.dat (.tup [d, .lst xs]), env2) := by
  have l2 : 2 ≤ line := by unfold line; omega
  simp [ev, evds, fin, h, h', toD, l2]
end
theorem map3 {α : Type} (as : List α) (f : α → Nat × List Nat) : (as.map fun a => D.tup [nt (f a).1, .lst (bits (f a).2)]) = (as.map f).map enc3 := by simp [enc3]
theorem ifB {e : Bool} : (D.int (b2i e)) = nt (if e = true then 1 else 0) := by cases e <;> rfl
theorem ev_b2i {c : Cl} {env : PF.Env} {a : E} {e : Bool} (h : ev c a .v env = some (.dat (.bl e), env)) : ev c (.blt .int [a]) .v env = some (.dat (nt (if e = true then 1 else 0)), env) := by
  rw [← ifB]
  simp only [ev, evs, fin, h, views, view, bltD]
def fx {α : Type} [DecidableEq α] (ks : List α) (x : α) : Nat := ks.idxOf x
theorem kidx {p : Nat × List Nat} {ks : List (Nat × List Nat)} (hl : ks.length ≤ 10000) (hp : p ∈ ks) : mthD .index (.lst (ks.map enc3)) [enc3 p] = some (nt (fx ks p)) :=
  index_any deq_3 (fun _ _ => rfl) (m := 2) (by decide) hl (fun q _ => ⟨rfl, lay_3 q⟩) hp
/-! ### rounds, by the law -/
theorem lro_ok (k t b : Nat) (T : List (List Nat)) (E : List Bool) (M : MO t b T E) (hb2 : 2 ≤ b) (R : Nat) (hR : IsR T E R) :
    callL prog W (k + 1) (Str.ofString "_law_rounds") [.val (mach t T E)] = some (.dat (nt R), [.val (mach t T E)]) := by
  have MA := mo_ma M hb2
  have hT := M.n
  have hE := M.he
  have hRT := hR.lt M.wf M.he
  refine c__law_rounds ?_
  have e0 := ev_lcm (c := callL prog W k) (i := 2) (src := .idx (.var 0) (.int 2)) (elt := .blt .int [(.var 2)]) E D.bl (fun e => nt (if e = true then 1 else 0))
    [.val (mach t T E), .un, .un, .un, .un, .un, .un, .un, .un, .un] (ev_idx_i (ev_m2 (ev_var rfl))) (ln_of (by omega)) fun e _ => lcT1 (ev_b2i (ev_var rfl))
  rw [mapB] at e0
  refine go_setO e0 ?_
  refine go_setD ev_ci ?_
  have k0 := kr0 MA
  generalize hc0 : (E.map fun e => if e = true then 1 else 0) = c0 at k0
  show Goes _ _ _ [.val (mach t T E), .own (.lst (bits c0)), .un, .val (nt 0), .un, .un, .un, .un, .un, .un] _
  refine go_for ((List.range T.length).map nt) _ (fun j env => ∃ (c : List Nat) (s1 x2 x4 x5 x6 x7 x8 x9 : Slot), env = [.val (mach t T E), s1, x2, .val (nt (min j R)), x4, x5, x6, x7, x8, x9] ∧ Kr b T E j c ∧ Hld s1 (bits c))
    (ev_range (by omega) (ev_lenH rfl (.inl rfl) (by rw [bits, List.length_map, k0.len]))) ⟨c0, .own (.lst (bits c0)), .un, .un, .un, .un, .un, .un, .un, by rw [Nat.zero_min], k0, .inl rfl⟩ (fun j x env hx ⟨c, s1, x2, x4, x5, x6, x7, x8, x9, he, hk, hs⟩ => ?_) fun env ⟨c, s1, x2, x4, x5, x6, x7, x8, x9, he, hk, hs⟩ => ?_
  · obtain ⟨hj, rfl⟩ := xs_at hx
    subst he
    refine ⟨_, rfl, ?_⟩
    show Goes _ _ _ [.val (mach t T E), s1, x2, .val (nt (min j R)), .val (nt j), x5, x6, x7, x8, x9] _
    have hcl := hk.len
    have e1 := ev_lcm (c := callL prog W k) (i := 7) (src := .rng [(.blt .len [(.var 1)])]) (elt := .tup [(.idx (.var 1) (.var 7)), (.lc [9] (.nm 9) (.idx (.idx (.var 0) (.int 1)) (.var 7)) [] (.idx (.var 1) (.var 9)))]) (List.range T.length) nt (fun s => .tup [nt (at0 c s), .lst (bits ((row T s).map (at0 c)))])
      [.val (mach t T E), s1, x2, .val (nt (min j R)), .val (nt j), x5, x6, x7, x8, x9] (ev_range (by omega) (ev_lenH rfl hs (by simp [hcl]))) (ln_of (by simp; omega)) fun s hs' => lcT1 (by
        have hs2 := List.mem_range.mp hs'
        have hrl : (row T s).length ≤ 100 := by
          unfold row; rw [List.getElem?_eq_getElem hs2]; exact mo_rows M _ (List.getElem_mem hs2)
        have q := ev_lcm (c := callL prog W k) (i := 9) (src := .idx (.idx (.var 0) (.int 1)) (.var 7)) (elt := .idx (.var 1) (.var 9)) (row T s) nt (fun x => nt (at0 c x))
          [.val (mach t T E), s1, x2, .val (nt (min j R)), .val (nt j), x5, x6, .val (nt s), x8, x9] (ev_idx_i (ev_idx (ev_m1 (ev_var rfl)) (ev_var rfl) (at_tb hs2))) (ln_of (by omega)) fun x hx => lcT1 (ev_idxH rfl hs (ev_var rfl) (at_bitsL (by rw [hcl]; exact row_lt M.wf hx)))
        rw [mapB] at q
        exact ev_tup2O (ev_idxH rfl hs (ev_var rfl) (at_bitsL (by rw [hcl]; exact hs2))) q)
    rw [map3 (List.range T.length) (fun s => (at0 c s, (row T s).map (at0 c)))] at e1
    refine go_setO e1 ?_
    have hkl := keys_len T c
    have hn := hk.next MA
    have hnc := hn.count MA
    have hcc := hk.count MA
    change Goes _ _ _ [.val (mach t T E), s1, x2, .val (nt (min j R)), .val (nt j), .own (.lst ((keys T c).map enc3)), x6, x7, x8, x9] _
    obtain ⟨ks, hks⟩ : ∃ ks, ks = keys T c := ⟨_, rfl⟩
    rw [← hks] at hkl hn hnc ⊢
    have e2 := ev_lcm (c := callL prog W k) (i := 8) (src := .var 5) (elt := .mth .index (.var 5) [(.var 8)]) (env := [.val (mach t T E), s1, x2, .val (nt (min j R)), .val (nt j), .own (.lst (ks.map enc3)), x6, x7, x8, x9]) ks enc3 (fun p => nt (fx ks p))
      [.val (mach t T E), s1, x2, .val (nt (min j R)), .val (nt j), .val (.lst (ks.map enc3)), x6, x7, x8, x9] (ev_walkO rfl) (ln_of (by omega)) fun p hp => lcT1 (ev_indexG (ev_var rfl) (ev_var rfl) (kidx (by omega) hp))
    rw [mapB] at e2
    refine go_setO e2 ?_
    change Goes _ _ _ [.val (mach t T E), s1, x2, .val (nt (min j R)), .val (nt j), .val (.lst (ks.map enc3)), .own (.lst (bits (fi ks))), x7, x8, x9] _
    have hfl := hn.len
    obtain ⟨f, hf⟩ : ∃ f, f = fi ks := ⟨_, rfl⟩
    rw [← hf] at hn hnc hfl ⊢
    refine go_ite (decide (j < R)) _ (ev_cmpT (ev_cnt (l := f) rfl (by omega)) (ev_cntH (l := c) rfl hs (by omega)) (by rw [gt_nt, hnc, hcc, Nr_test MA hR])) (fun h => ?_) (fun h => ?_)
    · have hlt := of_decide_eq_true h
      refine go_setD (ev_bin (ev_var rfl) ev_one (add_nt _ _)) ?_
      refine go_setS rfl (go_nil ⟨f, .val (.lst (bits f)), x2, .val (nt j), .val (.lst (ks.map enc3)), .val (.lst (bits f)), x7, x8, x9, ?_, hn, .inr rfl⟩)
      rw [Nat.min_eq_left (by omega : j ≤ R), Nat.min_eq_left (by omega : j + 1 ≤ R)]
      rfl
    · have hlt := of_decide_eq_false h
      refine go_setS rfl (go_nil ⟨f, .val (.lst (bits f)), x2, .val (nt j), .val (.lst (ks.map enc3)), .val (.lst (bits f)), x7, x8, x9, ?_, hn, .inr rfl⟩)
      rw [Nat.min_eq_right (by omega : R ≤ j), Nat.min_eq_right (by omega : R ≤ j + 1)]
      rfl
  · subst he
    rw [List.length_map, List.length_range, Nat.min_eq_right (by omega)]
    exact go_ret (ev_var rfl) rfl
end K06
namespace K06
open PySem PF K03 K02
variable {W : Nat}
theorem eq0_nt (n : Nat) : cm .eq (nt n) (.int 0) = some (decide (n = 0)) := by
  simp only [cm, shp_int, Bool.and_self, if_true, deq_int]
  congr 1
  exact decide_eq_decide.mpr (by omega)
theorem ne_nt (a b : Nat) : cm .ne (nt a) (nt b) = some (!decide (a = b)) := by
  simp only [cm, shp_int, Bool.and_self, if_true, deq_int]
  congr 2
  exact decide_eq_decide.mpr (by omega)
theorem ne_int (a b : Int) : cm .ne (.int a) (.int b) = some (!decide (a = b)) := by
  simp only [cm, shp_int, Bool.and_self, if_true, deq_int]
theorem ne_bl (a b : Bool) : cm .ne (.bl a) (.bl b) = some (!decide (a = b)) := by
  simp only [cm, shp_bl, Bool.and_self, if_true, deq_bl]
theorem ne_lnt (a b : List Nat) : cm .ne (.lst (bits a)) (.lst (bits b)) = some (!decide (a = b)) := by
  simp only [cm, shp_bitsL, Bool.and_self, if_true, deq_lnt]
theorem or_fb {c : Cl} {env : PF.Env} {a b : E} {p q : Bool} (ha : ev c a .t env = some (.dat (.bl p), env)) (hb : p = false → ev c b .t env = some (.dat (.bl q), env)) : ev c (.or [a, b]) .t env = some (.dat (.bl (p || q)), env) := by
  cases p with
  | true => simp [ev, evOr, ha, fin, view, truth, Md.tv]
  | false =>
    have hb := hb rfl
    cases q <;> simp [ev, evOr, ha, hb, fin, view, truth, Md.tv]
theorem bls_map {α : Type} (f : α → Bool) : ∀ as : List α, blsD (as.map fun a => D.bl (f a)) = some (as.map f)
  | [] => rfl
  | a :: as => by simp only [List.map_cons, blsD, bls_map f as, Option.map_some]
theorem ev_allV {c : Cl} {env env1 : PF.Env} {a : E} {α : Type} {as : List α} {f : α → Bool} (h : ev c a .v env = some (.own (.lst (as.map fun a => D.bl (f a))), env1)) : ev c (.blt .all [a]) .v env = some (.dat (.bl (as.all f)), env1) := by
  have : (as.map f).all id = as.all f := by rw [List.all_map]; rfl
  simp only [ev, evs, fin, h, views, view, bltD, bls_map, Option.map_some, this]
theorem ev_allT {c : Cl} {env env1 : PF.Env} {a : E} {α : Type} {as : List α} {f : α → Bool} (h : ev c a .v env = some (.own (.lst (as.map fun a => D.bl (f a))), env1)) : ev c (.blt .all [a]) .t env = some (.dat (.bl (as.all f)), env1) := by
  have : (as.map f).all id = as.all f := by rw [List.all_map]; rfl
  simp only [ev, evs, fin, h, views, view, bltD, bls_map, Option.map_some, this, truth]
theorem ev_chnV {c : Cl} {env : PF.Env} {i n : Nat} {x : Int} {e : E} (h : look env i = .val (.int x)) (he : ev c e .v env = some (.dat (nt n), env)) : ev c (.chain .le .lt (.int 0) (.var i) e) .v env = some (.dat (.bl (decide (0 ≤ x) && decide (x < n))), env) := by
  by_cases h0 : 0 ≤ x
  · simp [ev, fin, h, he, view, cm, truth, h0]
  · simp [ev, fin, h, he, view, cm, truth, h0]
theorem ev_call4 {c : Cl} {env env1 env2 env3 env4 : PF.Env} {f : Str} {e1 e2 e3 e4 : E} {d1 d2 d3 d4 : D} {o : Opd} {fs : List Slot} (h1 : ev c e1 .v env = some (.dat d1, env1)) (h2 : ev c e2 .v env1 = some (.dat d2, env2)) (h3 : ev c e3 .v env2 = some (.dat d3, env3)) (h4 : ev c e4 .v env3 = some (.dat d4, env4)) (hc : c f [.val d1, .val d2, .val d3, .val d4] = some (o, fs)) : ev c (.call f [e1, e2, e3, e4]) .v env = some (o, env4) := by
  simp only [ev, evs, h1, h2, h3, h4, lend, hc, fin]
  match fs with
  | [] => rfl
  | [_] => rfl
  | [_, _] => rfl
  | [_, _, _] => rfl
  | _ :: _ :: _ :: _ :: _ => rfl
theorem ev_cmpOO {c : Cl} {env env1 env2 : PF.Env} {op : Cm} {a b : E} {d d' : D} {r : Bool} (ha : ev c a .v env = some (.own d, env1)) (hb : ev c b .v env1 = some (.own d', env2)) (ho : cm op d d' = some r) : ev c (.cmp op a b) .t env = some (.dat (.bl r), env2) := by
  simp only [ev, fin, ha, hb, view, ho, truth]
/-! ### maps judged -/
theorem ima_ok (k t m : Nat) (T L : List (List Nat)) (E F : List Bool) (Q : List Nat) (i : Nat) (wf : Wf T) (hE : E.length = T.length) (hF : F.length = L.length) (hT : T.length ≤ 100) (hR : ∀ r ∈ T, r.length ≤ 100) (hQ : Q.length = T.length) (hq : ∀ x ∈ Q, x < L.length) (hi : i < T.length) :
    callL prog W (k + 1) (Str.ofString "is_map_at") [.val (mach t T E), .val (mach m L F), .val (.tup (bits Q)), .val (nt i)] = some (.dat (.bl (jk T E L F Q i)), [.val (mach t T E), .val (mach m L F), .val (.tup (bits Q)), .val (nt i)]) := by
  have hqi : at0 Q i < L.length := hq _ (by simp [at0, hQ ▸ hi])
  refine c_is_map_at ?_
  refine go_setD (ev_idx (ev_var rfl) (ev_var rfl) (at_bits (by omega))) ?_
  show Goes _ _ _ [.val (mach t T E), .val (mach m L F), .val (.tup (bits Q)), .val (nt i), .val (nt (at0 Q i)), .un] _
  refine go_ite (!decide (atB E i = atB F (at0 Q i))) _ (ev_cmpT (ev_idx (ev_m2 (ev_var rfl)) (ev_var rfl) (at_bl (by omega))) (ev_idx (ev_m2 (ev_var rfl)) (ev_var rfl) (at_bl (by omega))) (ne_bl _ _)) (fun h => ?_) (fun h => ?_)
  · have h1 : decide (atB E i = atB F (at0 Q i)) = false := by simpa using h
    refine go_ret ev_cb ?_
    unfold jk
    rw [h1]; rfl
  · have h1 : decide (atB E i = atB F (at0 Q i)) = true := by simpa using h
    have hrl : (row T i).length ≤ 100 := by
      unfold row; rw [List.getElem?_eq_getElem hi]; exact hR _ (List.getElem_mem hi)
    have q := ev_lcm (c := callL prog W k) (i := 5) (src := .idx (.idx (.var 0) (.int 1)) (.var 3)) (elt := .idx (.var 2) (.var 5)) (row T i) nt (fun x => nt (at0 Q x))
      [.val (mach t T E), .val (mach m L F), .val (.tup (bits Q)), .val (nt i), .val (nt (at0 Q i)), .un] (ev_idx_i (ev_idx (ev_m1 (ev_var rfl)) (ev_var rfl) (at_tb hi))) (ln_of (by omega)) fun x hx => lcT1 (ev_idx (ev_var rfl) (ev_var rfl) (at_bits (by rw [hQ]; exact row_lt wf hx)))
    rw [mapB] at q
    refine go_ret (ev_cmp (ev_tuple q) (ev_idx (ev_m1 (ev_var rfl)) (ev_var rfl) (at_tb hqi)) (eq2_bits _ _)) ?_
    unfold jk
    rw [h1]; rfl
def inr (m : Nat) (x : Int) : Bool := decide (0 ≤ x) && decide (x < m)
def jz (T : List (List Nat)) (E : List Bool) (L : List (List Nat)) (F : List Bool) (P : List Int) : Bool := decide (P.length = T.length) && (P.all (inr L.length) && jq T E L F (P.map Int.toNat))
theorem zs_bits {m : Nat} : ∀ {P : List Int}, P.all (inr m) = true → zs P = bits (P.map Int.toNat) ∧ ∀ x ∈ P.map Int.toNat, x < m
  | [], _ => ⟨rfl, fun _ h => nomatch h⟩
  | x :: P, h => by
    rw [List.all_cons, Bool.and_eq_true] at h
    obtain ⟨h1, h2⟩ := zs_bits h.2
    have h3 := h.1
    unfold inr at h3
    rw [Bool.and_eq_true, decide_eq_true_eq, decide_eq_true_eq] at h3
    refine ⟨?_, fun y hy => ?_⟩
    · show D.int x :: zs P = nt x.toNat :: bits (P.map Int.toNat)
      rw [h1]
      congr 1
      exact congrArg D.int (by omega)
    · rcases List.mem_cons.mp (by simpa using hy : y ∈ x.toNat :: P.map Int.toNat) with rfl | hy
      · omega
      · exact h2 y hy
theorem jm_ok (k t m : Nat) (T L : List (List Nat)) (E F : List Bool) (P : List Int) (wf : Wf T) (hE : E.length = T.length) (hF : F.length = L.length) (hT : T.length ≤ 100) (hR : ∀ r ∈ T, r.length ≤ 100) (hP : P.length ≤ 1000) :
    callL prog W (k + 2) (Str.ofString "judge_map") [.val (mach t T E), .val (mach m L F), .val (.tup (zs P))] = some (.dat (.bl (jz T E L F P)), [.val (mach t T E), .val (mach m L F), .val (.tup (zs P))]) := by
  refine c_judge_map ?_
  have q := ev_lcm (c := callL prog W (k + 1)) (i := 3) (src := .var 2) (elt := .chain .le .lt (.int 0) (.var 3) (.blt .len [(.idx (.var 1) (.int 1))])) P D.int (fun x => .bl (inr L.length x))
    [.val (mach t T E), .val (mach m L F), .val (.tup (zs P)), .un, .un] (ev_walkT rfl) (ln_of (by omega)) fun x hx => lcT1 (ev_chnV rfl (ev_tlen (ev_m1 (ev_var rfl)) (by simp)))
  refine go_ite (!decide (P.length = T.length) || !P.all (inr L.length)) _ (or_fb (ev_cmpT (ev_tlen (n := P.length) (ev_var rfl) (by simp)) (ev_tlen (n := T.length) (ev_m1 (ev_var rfl)) (by simp)) (ne_nt _ _)) fun _ => ev_not (ev_allT q)) (fun h => ?_) (fun h => ?_)
  · refine go_ret ev_cb ?_
    have : jz T E L F P = false := by
      unfold jz
      cases h1 : decide (P.length = T.length) <;> cases h2 : P.all (inr L.length) <;> simp [h1, h2] at h ⊢
    rw [this]; rfl
  · rw [Bool.or_eq_false_iff] at h
    have h1 : decide (P.length = T.length) = true := by simpa using h.1
    have h2 : P.all (inr L.length) = true := by simpa using h.2
    obtain ⟨e, hlt⟩ := zs_bits h2
    have ej : jz T E L F P = jq T E L F (P.map Int.toNat) := by unfold jz; rw [h1, h2]; rfl
    have hQ : (P.map Int.toNat).length = T.length := by rw [List.length_map]; exact of_decide_eq_true h1
    rw [ej, e]
    generalize P.map Int.toNat = Q at *
    have hn := wf.1
    have q2 := ev_lcm (c := callL prog W (k + 1)) (i := 4) (src := .rng [(.blt .len [(.var 2)])]) (elt := .call (Str.ofString "is_map_at") [(.var 0), (.var 1), (.var 2), (.var 4)]) (List.range T.length) nt (fun i => .bl (jk T E L F Q i))
      [.val (mach t T E), .val (mach m L F), .val (.tup (bits Q)), .un, .un] (ev_range (by omega) (ev_tlen (ev_var rfl) (by simp [hQ]))) (ln_of (by simp; omega)) fun i hi => lcT1 (ev_call4 (ev_var rfl) (ev_var rfl) (ev_var rfl) (ev_var rfl) (ima_ok k t m T L E F Q i wf hE hF hT hR hQ hlt (List.mem_range.mp hi)))
    exact go_ret (ev_andV (ev_cmp (ev_idx (ev_var rfl) (d' := nt 0) ev_ci (at_bits (by omega))) ev_ci (eq0_nt _)) (ev_allV q2)) rfl
theorem nth_zs {r : List Int} {i : Nat} {x : D} (h : (zs r)[i]? = some x) : ∃ hi : i < r.length, x = .int r[i] := by
  rw [List.getElem?_map] at h
  by_cases hi : i < r.length
  · rw [List.getElem?_eq_getElem hi] at h; cases h; exact ⟨hi, rfl⟩
  · rw [List.getElem?_eq_none (by omega)] at h; cases h
theorem tk_one {α : Type} {l : List α} {i : Nat} (h : i < l.length) : l.take (i + 1) = l.take i ++ [l[i]] := by rw [List.take_succ]; simp [h]
theorem all_false_of {α : Type} {l : List α} {f : α → Bool} {x : α} (h : x ∈ l) (e : f x = false) : l.all f = false := by
  rw [List.all_eq_false]; exact ⟨x, h, by rw [e]; simp⟩
theorem at_zsT {P : List Int} {i : Nat} (h : i < P.length) : idxD (.tup (zs P)) (nt i) = some (.int P[i]) := by
  simp [idxD, atD, L2.atI, L2.ixN, h]
theorem lt_int (a b : Int) : cm .lt (.int a) (.int b) = some (decide (a < b)) := rfl
theorem ge_int (a b : Int) : cm .ge (.int a) (.int b) = some (decide (b ≤ a)) := rfl
theorem inr_or {m : Nat} {x : Int} : (decide (x < 0) || decide ((m : Int) ≤ x)) = !inr m x := by
  unfold inr
  by_cases h1 : x < 0
  · rw [decide_eq_true h1, decide_eq_false (show ¬ 0 ≤ x by omega)]; rfl
  · rw [decide_eq_false h1, decide_eq_true (show 0 ≤ x by omega)]
    by_cases h2 : (m : Int) ≤ x
    · rw [decide_eq_true h2, decide_eq_false (show ¬ x < m by omega)]; rfl
    · rw [decide_eq_false h2, decide_eq_true (show x < m by omega)]; rfl
theorem lim_ok (k t m : Nat) (T L : List (List Nat)) (E F : List Bool) (P : List Int) (wf : Wf T) (hE : E.length = T.length) (hF : F.length = L.length) (hT : T.length ≤ 100) (hR : ∀ r ∈ T, r.length ≤ 100) (hP : P.length ≤ 1000) :
    callL prog W (k + 1) (Str.ofString "_law_is_map") [.val (mach t T E), .val (mach m L F), .val (.tup (zs P))] = some (.dat (.bl (jz T E L F P)), [.val (mach t T E), .val (mach m L F), .val (.tup (zs P))]) := by
  refine c__law_is_map ?_
  have hn := wf.1
  refine go_ite (!decide (P.length = T.length) || !decide (P[0]?.getD 0 = 0)) _ (or_fb (ev_cmpT (ev_tlen (n := P.length) (ev_var rfl) (by simp)) (ev_tlen (n := T.length) (ev_m1 (ev_var rfl)) (by simp)) (ne_nt _ _)) fun h => by
      have h1 : P.length = T.length := by simpa using h
      have h0 : 0 < P.length := by omega
      rw [show P[0]?.getD 0 = P[0] by simp [h0]]
      exact ev_cmpT (ev_idx (ev_var rfl) (d' := nt 0) ev_ci (at_zsT h0)) ev_ci (ne_int _ _)) (fun h => ?_) (fun h => ?_)
  · refine go_ret ev_cb ?_
    have : jz T E L F P = false := by
      unfold jz
      by_cases h1 : P.length = T.length
      · have h0 : 0 < P.length := by omega
        have h2 : ¬ P[0]?.getD 0 = 0 := by
          simp only [h1, decide_true, Bool.not_true, Bool.false_or, Bool.not_eq_true', decide_eq_false_iff_not] at h
          exact h
        rw [decide_eq_true h1, Bool.true_and]
        cases h3 : P.all (inr L.length) with
        | false => rfl
        | true =>
          have h4 := List.all_eq_true.mp h3 P[0] (List.getElem_mem h0)
          unfold inr at h4
          rw [Bool.and_eq_true, decide_eq_true_eq, decide_eq_true_eq] at h4
          have h5 : ¬ at0 (P.map Int.toNat) 0 = 0 := by
            simp only [at0, List.getElem?_map, List.getElem?_eq_getElem h0, Option.map_some, Option.getD_some] at h2 ⊢
            omega
          unfold jq
          rw [decide_eq_false h5]; rfl
      · rw [decide_eq_false h1]; rfl
    rw [this]; rfl
  · rw [Bool.or_eq_false_iff] at h
    have h1 : P.length = T.length := by simpa using h.1
    have hP0 : P[0]?.getD 0 = 0 := by simpa using h.2
    refine go_for ((List.range P.length).map nt) _ (fun i env => ∃ x3 x4, env = [.val (mach t T E), .val (mach m L F), .val (.tup (zs P)), x3, x4] ∧ (P.take i).all (inr L.length) = true) (ev_range (by omega) (ev_tlen (ev_var rfl) (by simp))) ⟨.un, .un, rfl, rfl⟩ (fun i x env hx ⟨x3, x4, he, ha⟩ => ?_) fun env ⟨x3, x4, he, ha⟩ => ?_
    · obtain ⟨hi, rfl⟩ := xs_at hx
      subst he
      refine ⟨_, rfl, ?_⟩
      show Goes _ _ _ [.val (mach t T E), .val (mach m L F), .val (.tup (zs P)), .val (nt i), x4] _
      refine go_ite (!inr L.length P[i]) _ (by
        rw [← inr_or]
        exact or_fb (ev_cmpT (ev_idx (ev_var rfl) (ev_var rfl) (at_zsT hi)) ev_ci (lt_int _ _)) fun _ => ev_cmpT (ev_idx (ev_var rfl) (ev_var rfl) (at_zsT hi)) (ev_tlen (n := L.length) (ev_m1 (ev_var rfl)) (by simp)) (ge_int _ _)) (fun h => ?_) (fun h => ?_)
      · have hf : inr L.length P[i] = false := by simpa using h
        refine go_ret ev_cb ?_
        have : jz T E L F P = false := by
          unfold jz
          rw [all_false_of (List.getElem_mem hi) hf]; simp
        rw [this]; rfl
      · have hf : inr L.length P[i] = true := by simpa using h
        refine go_nil ⟨.val (nt i), x4, rfl, ?_⟩
        rw [tk_one hi, List.all_append, ha, List.all_cons, hf]; rfl
    · subst he
      rw [List.length_map, List.length_range, List.take_length] at ha
      obtain ⟨e, hlt⟩ := zs_bits ha
      have hQ : (P.map Int.toNat).length = T.length := by rw [List.length_map]; exact h1
      have hq0 : at0 (P.map Int.toNat) 0 = 0 := by
        have h0 : 0 < P.length := by omega
        simp only [at0, List.getElem?_map, List.getElem?_eq_getElem h0, Option.map_some, Option.getD_some] at hP0 ⊢
        omega
      have ej : jz T E L F P = (List.range T.length).all (jk T E L F (P.map Int.toNat)) := by unfold jz jq; rw [decide_eq_true h1, ha, decide_eq_true hq0]; rfl
      rw [ej, e]
      generalize P.map Int.toNat = Q at *
      refine go_for ((List.range T.length).map nt) _ (fun i env => ∃ x3 x4, env = [.val (mach t T E), .val (mach m L F), .val (.tup (bits Q)), x3, x4] ∧ (List.range i).all (jk T E L F Q) = true) (ev_range (by omega) (ev_tlen (ev_var rfl) (by simp [hQ]))) ⟨x3, x4, rfl, rfl⟩ (fun i x env hx ⟨x3, x4, he, ha⟩ => ?_) fun env ⟨x3, x4, he, ha⟩ => ?_
      · obtain ⟨hi, rfl⟩ := xs_at hx
        subst he
        refine ⟨_, rfl, ?_⟩
        show Goes _ _ _ [.val (mach t T E), .val (mach m L F), .val (.tup (bits Q)), .val (nt i), x4] _
        have hqi : at0 Q i < L.length := hlt _ (by simp [at0, hQ ▸ hi])
        have hrl : (row T i).length ≤ 100 := by
          unfold row; rw [List.getElem?_eq_getElem hi]; exact hR _ (List.getElem_mem hi)
        have q := ev_lcm (c := callL prog W k) (i := 4) (src := .idx (.idx (.var 0) (.int 1)) (.var 3)) (elt := .idx (.var 2) (.var 4)) (row T i) nt (fun x => nt (at0 Q x))
          [.val (mach t T E), .val (mach m L F), .val (.tup (bits Q)), .val (nt i), x4] (ev_idx_i (ev_idx (ev_m1 (ev_var rfl)) (ev_var rfl) (at_tb hi))) (ln_of (by omega)) fun x hx => lcT1 (ev_idx (ev_var rfl) (ev_var rfl) (at_bits (by rw [hQ]; exact row_lt wf hx)))
        rw [mapB] at q
        refine go_ite (!decide (atB E i = atB F (at0 Q i)) || !decide ((row T i).map (at0 Q) = row L (at0 Q i))) _ (or_fb (ev_cmpT (ev_idx (ev_m2 (ev_var rfl)) (ev_var rfl) (at_bl (by omega))) (ev_idx (ev_m2 (ev_var rfl)) (ev_idx (ev_var rfl) (ev_var rfl) (at_bits (by omega))) (at_bl (show at0 Q i < F.length by omega))) (ne_bl _ _)) fun _ =>
          ev_cmpOO q (ev_list (ev_idx (ev_m1 (ev_var rfl)) (ev_idx (ev_var rfl) (ev_var rfl) (at_bits (by omega))) (at_tb hqi))) (ne_lnt _ _)) (fun h => ?_) (fun h => ?_)
        · have hf : jk T E L F Q i = false := by
            unfold jk
            cases h1 : decide (atB E i = atB F (at0 Q i)) <;> cases h2 : decide ((row T i).map (at0 Q) = row L (at0 Q i)) <;> simp [h1, h2] at h ⊢
          refine go_ret ev_cb ?_
          rw [all_false_of (List.mem_range.mpr hi) hf]; rfl
        · have hf : jk T E L F Q i = true := by
            unfold jk
            cases h1 : decide (atB E i = atB F (at0 Q i)) <;> cases h2 : decide ((row T i).map (at0 Q) = row L (at0 Q i)) <;> simp [h1, h2] at h ⊢
          refine go_nil ⟨.val (nt i), x4, rfl, ?_⟩
          rw [List.range_succ, List.all_append, ha, List.all_cons, hf]; rfl
      · subst he
        rw [List.length_map, List.length_range] at ha
        rw [ha]
        exact go_ret ev_cb rfl
end K06
namespace K06
open PySem PF K03 K02
variable {W : Nat}
/-! ### the map to the least machine -/
abbrev dN (ν : Nat → Nat) (f : List Nat) : D := .dct (bits f) (bits (f.map ν))
theorem getI_f (ν : Nat → Nat) {x : Nat} : ∀ {f : List Nat}, x ∈ f → getI (bits f) (bits (f.map ν)) (x : Int) = some (nt (ν x))
  | [], h => by cases h
  | y :: f, h => by
    simp only [bits, List.map_cons, getI, nt]
    by_cases e : y = x
    · subst e; simp
    · rw [if_neg (by omega)]
      have hx : x ∈ f := by
        rcases List.mem_cons.mp h with rfl | h
        · exact absurd rfl e
        · exact h
      exact getI_f ν hx
theorem repI_f (ν : Nat → Nat) (x : Nat) : ∀ f : List Nat, repI (bits f) (bits (f.map ν)) (x : Int) (nt (ν x)) = bits (f.map ν)
  | [] => rfl
  | y :: f => by
    have ih := repI_f ν x f
    simp only [bits, List.map_cons, repI, nt] at ih ⊢
    rw [ih]
    by_cases e : y = x
    · subst e; simp
    · rw [if_neg (by omega)]
theorem put_f (ν : Nat → Nat) (x : Nat) {f : List Nat} (hl : f.length < 1000) : setL (dN ν f) (nt x) (nt (ν x)) = some (dN ν (addS f x)) := by
  have h1 : (bits f).length < line := by rw [bits, List.length_map]; unfold line; omega
  simp only [setL, h1, if_true, addI, putI, memI_bits]
  unfold addS
  by_cases hx : x ∈ f
  · rw [decide_eq_true hx, if_pos hx, if_pos rfl, if_pos rfl, repI_f]
  · rw [decide_eq_false hx, if_neg hx, if_neg (by simp), if_neg (by simp)]
    simp [bits]
theorem at_dN {ν : Nat → Nat} {x : Nat} {f : List Nat} (h : x ∈ f) : idxD (dN ν f) (nt x) = some (nt (ν x)) := getI_f ν h
theorem fnd_mem {T : List (List Nat)} {i l : Nat} (h : i ∈ go T i 0 [0]) : i ∈ fnd T i l := mem_addRow.mpr (.inl h)
theorem fnd_succ {T : List (List Nat)} {i l : Nat} (h : l < (row T i).length) : fnd T i (l + 1) = addS (fnd T i l) ((row T i)[l]?.getD 0) := by
  unfold fnd
  rw [take_succ' h, addRow_snoc]
theorem mtl_ok (k t m b : Nat) (T L : List (List Nat)) (E F : List Bool) (M : MO t b T E) (hb2 : 2 ≤ b) (ho : ord T = List.range T.length) (H : Lea b L F) (S : Same b T E L F)
    (e : callL prog W k (Str.ofString "least_machine") [.val (mach t T E)] = some (.dat (mach m L F), [.val (mach t T E)])) :
    callL prog W (k + 1) (Str.ofString "map_to_least") [.val (mach t T E)] = some (.dat (.tup (bits (nuL b T L))), [.val (mach t T E)]) := by
  have MA := mo_ma M hb2
  have I := inord MA ho
  have hT := M.n
  have hb1 := M.b1
  refine c_map_to_least ?_
  refine go_setD (ev_call1 (ev_var rfl) e) ?_
  have z := nu_zero I MA H S
  refine go_setO (d := dN (nu b T L) (go T 0 0 [0])) (env1 := [.val (mach t T E), .val (mach m L F), .un, .un, .un]) (by
    simp only [go, dN, List.map_cons, List.map_nil, z, bits]
    simp [exs, ex, ev, evds, evs, evAnd, evOr, look, fin, view, views, cm, D.plain, wantsM, isSeq, sameQ, truth, mutD, toD, op2, store, aug2, giveOut, finals, lend, PF.giveBack, bltD, isiD, kd, isK, idxD, mthD, b2i, itemsOf, bindT, Md.tv, setAll, revD, part, slcD, shp_int, shp_bl, deq_int, deq_bl, shp_non, rg1, rg2, rg3, rg4, ln1, ln2, ln3, ln4, nt]) ?_
  show Goes _ _ _ [.val (mach t T E), .val (mach m L F), .own (dN (nu b T L) (go T 0 0 [0])), .un, .un] _
  refine go_for ((List.range T.length).map nt) _ (fun i env => ∃ x3 x4, env = [.val (mach t T E), .val (mach m L F), .own (dN (nu b T L) (go T i 0 [0])), x3, x4]) (ev_range (by omega) (ev_tlen (ev_m1 (ev_var rfl)) (by simp))) ⟨.un, .un, rfl⟩ (fun i x env hx ⟨x3, x4, he⟩ => ?_) fun env ⟨x3, x4, he⟩ => ?_
  · obtain ⟨hi, rfl⟩ := xs_at hx
    subst he
    refine ⟨_, rfl, ?_⟩
    obtain ⟨s1, s2⟩ := I.stage hi
    have hrow := full_row M.fu hi
    have him : i ∈ go T i 0 [0] := by rw [s2]; exact List.mem_range.mpr s1
    show Goes _ _ _ [.val (mach t T E), .val (mach m L F), .own (dN (nu b T L) (fnd T i 0)), .val (nt i), x4] _
    refine go_for ((List.range (row T i).length).map nt) _ (fun l env => ∃ x4, env = [.val (mach t T E), .val (mach m L F), .own (dN (nu b T L) (fnd T i l)), .val (nt i), x4]) (ev_range (by omega) (ev_tlen (ev_idx (ev_m1 (ev_var rfl)) (ev_var rfl) (at_tb hi)) (by simp))) ⟨x4, rfl⟩ (fun l x env hx ⟨x4, he⟩ => ?_) fun env ⟨x4, he⟩ => ?_
    · obtain ⟨hl, rfl⟩ := xs_at hx
      subst he
      refine ⟨_, rfl, ?_⟩
      show Goes _ _ _ [.val (mach t T E), .val (mach m L F), .own (dN (nu b T L) (fnd T i l)), .val (nt i), .val (nt l)] _
      obtain ⟨n, hn⟩ := I.pre hi l
      have hfl : (fnd T i l).length < 1000 := by
        have nd : (fnd T i l).Nodup := by unfold fnd; exact nd_addRow (nd_go T (by simp))
        have := len_le (n := T.length) nd fun s hs => by
          unfold fnd at hs
          rcases mem_addRow.mp hs with h | h
          · exact go_lt M.wf i s h
          · exact row_lt M.wf (List.mem_of_mem_take h)
        omega
      have hnu := nu_lt I H hi
      have st := nu_step I MA H S hi (l := l) (by omega)
      refine go_step _ (ex_sub (l := dN (nu b T L) (fnd T i l)) (d := nt (nu b T L ((row T i)[l]?.getD 0))) (k := nt ((row T i)[l]?.getD 0)) (by
        rw [← st]
        exact ev_idx (ev_idx (ev_m1 (ev_var rfl)) (ev_idxS rfl (ev_var rfl) (at_dN (fnd_mem him))) (at_tb hnu)) (ev_var rfl) (at_bits (by rw [full_row H.fu hnu]; omega))) rfl (ev_idx (ev_idx (ev_m1 (ev_var rfl)) (ev_var rfl) (at_tb hi)) (ev_var rfl) (at_bits hl)) (put_f _ _ hfl)) (go_nil ⟨.val (nt l), ?_⟩)
      rw [fnd_succ hl]; rfl
    · subst he
      rw [List.length_map, List.length_range]
      refine go_nil ⟨.val (nt i), x4, ?_⟩
      rw [I.step hi]
      unfold fnd
      rw [List.take_length]
  · subst he
    rw [List.length_map, List.length_range]
    have eo : go T T.length 0 [0] = List.range T.length := ho
    rw [eo]
    have q := ev_lcm (c := callL prog W k) (i := 3) (src := .rng [(.blt .len [(.idx (.var 0) (.int 1))])]) (elt := .idx (.var 2) (.var 3)) (List.range T.length) nt (fun s => nt (nu b T L s))
      [.val (mach t T E), .val (mach m L F), .own (dN (nu b T L) (List.range T.length)), x3, x4] (ev_range (by omega) (ev_tlen (ev_m1 (ev_var rfl)) (by simp))) (ln_of (by simp; omega)) fun s hs => lcT1 (ev_idxS rfl (ev_var rfl) (at_dN hs))
    rw [mapB] at q
    exact go_ret (ev_tuple q) rfl
/-! ### doubled -/
theorem ev_lcTm {α β : Type} {c : Cl} {i : Nat} {src elt : E} {env : PF.Env} (encA : α → D) (encB : β → D) (g : β → α) (Q : β → Prop) (as : List α) (E : List Int → Slot → PF.Env) (l0 : List Int) (x0 : Slot) (hsrc : ev c src .i env = some (.dat (.tup (as.map encA)), E l0 x0)) (hl : as.length ≤ 1000)
    (h : ∀ a ∈ as, ∀ l w, ∃ y l' w', lcT c [i] (.nm i) [] elt (encA a) (E l w) = some (some (encB y), E l' w') ∧ g y = a ∧ Q y) (hb : ∀ l w, backE (E l0 x0) (E l w) [i] = E l x0) :
    ∃ (ys : List β) (l' : List Int), ys.map g = as ∧ (∀ y ∈ ys, Q y) ∧ ev c (.lc [i] (.nm i) src [] elt) .v env = some (.own (.lst (ys.map encB)), E l' x0) := by
  have key : ∀ (zs : List α), (∀ x ∈ zs, x ∈ as) → ∀ l w, ∃ (ys : List β) (l' : List Int) (w' : Slot), ys.map g = zs ∧ (∀ y ∈ ys, Q y) ∧ lcLoop (lcT c [i] (.nm i) [] elt) (zs.map encA) (E l w) = some (ys.map encB, E l' w') := by
    intro zs
    induction zs with
    | nil => intro _ l w; exact ⟨[], l, w, rfl, (fun _ h => nomatch h), rfl⟩
    | cons z zs ih =>
      intro hm l w
      obtain ⟨y, l1, w1, e1, q1, q2⟩ := h z (hm z List.mem_cons_self) l w
      obtain ⟨ys, l2, w2, h1, h2, h3⟩ := ih (fun x hx => hm x (List.mem_cons_of_mem _ hx)) l1 w1
      refine ⟨y :: ys, l2, w2, by rw [List.map_cons, h1, q1], fun x hx => ?_, by simp only [List.map_cons, lcLoop, e1, h3]⟩
      rcases List.mem_cons.mp hx with rfl | hx
      · exact q2
      · exact h2 x hx
  obtain ⟨ys, l', w', h1, h2, h3⟩ := key as (fun _ h => h) l0 x0
  refine ⟨ys, l', h1, h2, ?_⟩
  rw [ev_lc0]
  have hyl : ys.length = as.length := by rw [← h1, List.length_map]
  have : (ys.map encB).length ≤ line := by rw [List.length_map]; unfold line; omega
  simp only [hsrc, h3, if_pos this, hb]
theorem mul_nt {n m : Nat} (h : n < 1000000) : op2 .mul (nt n) (nt m) = some (.dat (nt (n * m))) := by
  have : small64 (n : Int) = true := by
    simp only [small64, Bool.and_eq_true, decide_eq_true_eq]; omega
  simp [op2, nt, this]
theorem addBl (a b : List Bool) (h : a.length + b.length < 100000) : op2 .add (.tup (bl a)) (.tup (bl b)) = some (.dat (.tup (bl (a ++ b)))) := by
  have : (bl a).length + (bl b).length ≤ line := by simp; unfold line; omega
  simp only [op2]
  rw [if_pos this]
  simp [bl]
theorem dbl_ok (k t b : Nat) (T : List (List Nat)) (E : List Bool) (M : MO t b T E) (l : List Int) (h50 : T.length ≤ 50) :
    ∃ (U : List (List Nat)) (l' : List Int), Dbl b T E U (E ++ E) ∧ MO t b U (E ++ E) ∧ callL prog W (k + 2) (Str.ofString "_law_doubled") [.own (.lst (zs l)), .val (mach t T E)] = some (.dat (mach t U (E ++ E)), [.own (.lst (zs l')), .val (mach t T E)]) := by
  suffices H : ∃ o fs, callL prog W (k + 2) (Str.ofString "_law_doubled") [.own (.lst (zs l)), .val (mach t T E)] = some (o, fs) ∧ ∃ (U : List (List Nat)) (l' : List Int), (U.length = 2 * T.length ∧ ∀ j, j < U.length → (row U j).map (· % T.length) = row T (j % T.length) ∧ ∀ x ∈ row U j, x < 2 * T.length) ∧ o = .dat (mach t U (E ++ E)) ∧ fs = [.own (.lst (zs l')), .val (mach t T E)] by
    obtain ⟨o, fs, e, U, l', ⟨h1, h2⟩, rfl, rfl⟩ := H
    have hn := M.wf.1
    have fu : Full U b := fun r hr => by
      obtain ⟨j, hj, rfl⟩ := List.mem_iff_getElem.mp hr
      have := congrArg List.length (h2 j hj).1
      rw [List.length_map, full_row M.fu (Nat.mod_lt _ hn)] at this
      simpa [row, hj] using this
    have lt : ∀ r ∈ U, ∀ x ∈ r, x < U.length := fun r hr x hx => by
      obtain ⟨j, hj, rfl⟩ := List.mem_iff_getElem.mp hr
      rw [h1]
      exact (h2 j hj).2 x (by simpa [row, hj] using hx)
    refine ⟨U, l', ⟨h1, rfl, fu, lt, fun j m hj hm => ?_⟩, ⟨⟨by omega, lt⟩, fu, by rw [List.length_append, M.he]; omega, by omega, M.b1⟩, e⟩
    have := congrArg (fun z : List Nat => z[m]?.getD 0) (h2 j hj).1
    have hl := full_row fu hj
    simpa [hl, hm] using this
  have hn := M.wf.1
  have hT := M.n
  have hb1 := M.b1
  refine e__law_doubled ?_
  refine go_setD (ev_tlen (n := T.length) (ev_m1 (ev_var rfl)) (by simp)) ?_
  show Goes _ _ _ [.own (.lst (zs l)), .val (mach t T E), .val (nt T.length), .un, .un, .un] _
  refine go_setO (d := .lst (tb [])) (env1 := [.own (.lst (zs l)), .val (mach t T E), .val (nt T.length), .un, .un, .un]) (by simp [exs, ex, ev, evds, evs, evAnd, evOr, look, fin, view, views, cm, D.plain, wantsM, isSeq, sameQ, truth, mutD, toD, op2, store, aug2, giveOut, finals, lend, PF.giveBack, bltD, isiD, kd, isK, idxD, mthD, b2i, itemsOf, bindT, Md.tv, setAll, revD, part, slcD, shp_int, shp_bl, deq_int, deq_bl, shp_non, rg1, rg2, rg3, rg4, ln1, ln2, ln3, ln4]) ?_
  show Goes _ _ _ [.own (.lst (zs l)), .val (mach t T E), .val (nt T.length), .own (.lst (tb [])), .un, .un] _
  refine go_for ((List.range (2 * T.length)).map nt) _ (fun i env => ∃ (A : List (List Nat)) (l : List Int) (x4 x5 : Slot), env = [.own (.lst (zs l)), .val (mach t T E), .val (nt T.length), .own (.lst (tb A)), x4, x5] ∧ A.length = i ∧ ∀ j, j < A.length → (row A j).map (· % T.length) = row T (j % T.length) ∧ ∀ x ∈ row A j, x < 2 * T.length)
    (ev_range (by omega) (ev_bin ev_two (ev_var rfl) (mul_nt (by decide)))) ⟨[], l, .un, .un, rfl, rfl, fun j h => by cases h⟩ (fun i x env hx ⟨A, l, x4, x5, he, hA, hj⟩ => ?_) fun env ⟨A, l, x4, x5, he, hA, hj⟩ => ?_
  · obtain ⟨hi, rfl⟩ := xs_at hx
    subst he
    refine ⟨_, rfl, ?_⟩
    show Goes _ _ _ [.own (.lst (zs l)), .val (mach t T E), .val (nt T.length), .own (.lst (tb A)), .val (nt i), x5] _
    have him : i % T.length < T.length := Nat.mod_lt _ hn
    obtain ⟨vs, l', e1, e2, e3⟩ := ev_lcTm (c := callL prog W (k + 1)) (i := 5) (src := .idx (.idx (.var 1) (.int 1)) (.bin .mod (.var 4) (.var 2))) (elt := .bin .add (.var 5) (.bin .mul (.var 2) (.call (Str.ofString "_law_take") [(.var 0), (.int 2)])))
      (env := [.own (.lst (zs l)), .val (mach t T E), .val (nt T.length), .own (.lst (tb A)), .val (nt i), x5]) nt nt (· % T.length) (· < 2 * T.length) (row T (i % T.length)) (fun l w => [.own (.lst (zs l)), .val (mach t T E), .val (nt T.length), .own (.lst (tb A)), .val (nt i), w]) l x5
      (ev_idx_i (ev_idx (ev_m1 (ev_var rfl)) (ev_bin (ev_var rfl) (ev_var rfl) (mod_nt _ _ hn)) (at_tb him))) (by rw [full_row M.fu him]; omega) (fun a ha l w => by
        obtain ⟨v, l', hv, e⟩ := ev_take (W := W) (k := k) (env := [.own (.lst (zs l)), .val (mach t T E), .val (nt T.length), .own (.lst (tb A)), .val (nt i), .val (nt a)]) (i := 0) (m := 2) (a := .int 2) (by decide) rfl ev_two
        have ha' : a < T.length := row_lt M.wf ha
        refine ⟨a + T.length * v, l', .val (nt a), lcT2 (ev_bin (ev_var rfl) (ev_bin (ev_var rfl) e (mul_nt (by omega))) (add_nt _ _)), ?_, ?_⟩
        · show (a + T.length * v) % T.length = a
          rw [Nat.add_mul_mod_self_left, Nat.mod_eq_of_lt ha']
        · have hv' : v ≤ 1 := by omega
          have := Nat.mul_le_mul_left T.length hv'
          omega) (fun l w => rfl)
    refine go_expr (ev_mut1 (l := .lst (tb A)) rfl rfl (ev_tuple e3) rfl (app_tb (by omega))) (go_nil ⟨A ++ [vs], l', .val (nt i), x5, rfl, by simp [hA], fun j hj' => ?_⟩)
    rw [List.length_append, List.length_cons, List.length_nil] at hj'
    by_cases hji : j < A.length
    · have : row (A ++ [vs]) j = row A j := by unfold row; rw [List.getElem?_append_left hji]
      rw [this]; exact hj j hji
    · have hje : j = A.length := by omega
      have : row (A ++ [vs]) j = vs := by subst hje; simp [row]
      rw [this, hje, hA]
      exact ⟨e1, e2⟩
  · subst he
    rw [List.length_map, List.length_range] at hA
    have hE := M.he
    exact go_ret (tup3 (ev_m0 (ev_var rfl)) (ev_tupS rfl) (ev_bin (ev_m2 (ev_var rfl)) (ev_m2 (ev_var rfl)) (addBl E E (by omega)))) ⟨A, l, ⟨hA, hj⟩, rfl, rfl⟩
end K06
namespace K06
open PySem PF K03 K02
variable {W : Nat}
theorem lm_eq (k t b : Nat) (T U L : List (List Nat)) (E G F : List Bool) (hb : 2 ≤ b) (H : Lst t b T E L F) (MU : MO t b U G) (S : Same b T E U G) (hW : 1000 < W) :
    callL prog W (k + 4) (Str.ofString "least_machine") [.val (mach t U G)] = some (.dat (mach t L F), [.val (mach t U G)]) := by
  obtain ⟨K, J, H2, e⟩ := lm_ok (W := W) k t b U G MU hW
  obtain ⟨rfl, rfl⟩ := lst_of hb H H2 S
  exact e
theorem same_refl {b : Nat} {T : List (List Nat)} {E : List Bool} : Same b T E T E := fun _ _ => rfl
theorem ridx {r : List Bool} {R : List (List Bool)} (hl : R.length ≤ 10000) (hr : r ∈ R) : mthD .index (.lst (lbs R)) [.lst (bl r)] = some (nt (fx R r)) :=
  index_any (enc := fun r => D.lst (bl r)) deq_row (fun _ _ => rfl) (m := 1) (by decide) hl (fun q _ => ⟨rfl, lay_row q⟩) hr
theorem mem_lbs (r : List Bool) : ∀ R : List (List Bool), memD (.lst (bl r)) (lbs R) = decide (r ∈ R)
  | [] => by simp [memD]
  | x :: R => by
    have ih := mem_lbs r R
    unfold memD at ih ⊢
    rw [lbs, List.map_cons, List.any_cons, deq_row, ih]
    by_cases h : r = x
    · subst h; simp
    · have h2 : ¬ x = r := fun z => h z.symm
      simp [h, h2]
theorem notin_lbs (r : List Bool) (R : List (List Bool)) : cm .notin (.lst (bl r)) (.lst (lbs R)) = some (!decide (r ∈ R)) := by
  obtain ⟨h1, h2⟩ := lay_row r
  obtain ⟨g1, g2⟩ := lay_lst (enc := fun r => D.lst (bl r)) (as := R) fun r _ => lay_row r
  have a := shp_of (d := .lst (bl r)) rfl h1 (by omega)
  have b := shp_of (d := .lst (lbs R)) rfl g1 (Nat.le_trans (show (D.lst (lbs R)).py.depth ≤ 1 + 1 from g2) (by decide))
  simp only [cm, a, b, Bool.and_self, if_true, mem_lbs]
theorem at_lbs {R : List (List Bool)} {i : Nat} (h : i < R.length) : idxD (.lst (lbs R)) (nt i) = some (.lst (bl R[i])) := by
  simp [idxD, atD, L2.atI, L2.ixN, h]
theorem ev_lst4I {c : Cl} {env env1 env2 env3 env4 : PF.Env} {e1 e2 e3 e4 : E} {d1 d2 d3 d4 : D} (h1 : ev c e1 .v env = some (.dat d1, env1)) (h2 : ev c e2 .v env1 = some (.dat d2, env2)) (h3 : ev c e3 .v env2 = some (.dat d3, env3)) (h4 : ev c e4 .v env3 = some (.dat d4, env4)) : ev c (.lst [e1, e2, e3, e4]) .i env = some (.dat (.tup [d1, d2, d3, d4]), env4) := by
  have l4 : 4 ≤ line := by unfold line; omega
  simp [ev, evds, fin, h1, h2, h3, h4, toD, l4, itemsOf]
theorem ev_callDS {c : Cl} {env : PF.Env} {f : Str} {i : Nat} {a : E} {d d0 : D} {o : Opd} {s1 s2 : Slot} (ha : ev c a .v env = some (.dat d, env)) (hi : look env i = .own d0) (hc : c f [.val d, .own d0] = some (o, [s1, s2])) : ev c (.call f [a, .var i]) .v env = some (o, (env.set i .un).set i s2) := by
  simp only [ev, evs, ha, hi, lend, hc, fin, PF.giveBack]
theorem cut_toZ (P : List Int) (j : Nat) (h : j ≤ P.length) : cut (zs P) none (some (j : Int)) = zs (P.take j) := by
  unfold cut
  simp only [sIx, HT.sIx, List.drop_zero, Nat.sub_zero]
  rw [if_neg (by omega)]
  simp [Nat.min_eq_left h, List.map_take]
theorem cut_fromZ (P : List Int) (j : Nat) (h : j ≤ P.length) : cut (zs P) (some (j : Int)) none = zs (P.drop j) := by
  unfold cut
  simp only [sIx, HT.sIx]
  rw [if_neg (by omega)]
  simp only [Int.toNat_natCast, List.length_map, Nat.min_eq_left h]
  rw [← List.map_drop]
  exact List.take_of_length_le (by simp)
theorem ev_cut {c : Cl} {env : PF.Env} {a lo hi : E} {xs : List D} {l h : Option Int} {dl dh : D} (ha : ev c a .v env = some (.dat (.tup xs), env)) (h1 : ev c lo .v env = some (.dat dl, env)) (h2 : ev c hi .v env = some (.dat dh, env)) (p1 : part lo dl = some l) (p2 : part hi dh = some h) : ev c (.slc a lo hi) .v env = some (.dat (.tup (cut xs l h)), env) := by
  simp only [ev, fin, ha, h1, h2, view, p1, p2, slcD]
theorem addZ (a b : List Int) (h : a.length + b.length < 100000) : op2 .add (.tup (zs a)) (.tup (zs b)) = some (.dat (.tup (zs (a ++ b)))) := by
  have : (zs a).length + (zs b).length ≤ line := by simp; unfold line; omega
  simp only [op2]
  rw [if_pos this]
  simp
theorem bits_zs (Q : List Nat) : bits Q = zs (Q.map Int.ofNat) := by simp
theorem nu_jz {b : Nat} {T L : List (List Nat)} {E F : List Bool} (I : InOrd T b) (M : Ma b T E) (H : Lea b L F) (S : Same b T E L F) : jz T E L F ((nuL b T L).map Int.ofNat) = true := by
  have h1 : ((nuL b T L).map Int.ofNat).length = T.length := by simp [nuL]
  have h2 : ((nuL b T L).map Int.ofNat).all (inr L.length) = true := List.all_eq_true.mpr fun x hx => by
    obtain ⟨y, hy, rfl⟩ := List.mem_map.mp hx
    obtain ⟨s, hs, rfl⟩ := List.mem_map.mp hy
    have := nu_lt I H (List.mem_range.mp hs)
    unfold inr
    rw [Bool.and_eq_true, decide_eq_true_eq, decide_eq_true_eq]
    exact ⟨Int.natCast_nonneg _, Int.ofNat_lt.mpr this⟩
  have h3 : ((nuL b T L).map Int.ofNat).map Int.toNat = nuL b T L := by
    rw [List.map_map]
    have : (Int.toNat ∘ Int.ofNat) = id := by funext n; rfl
    rw [this, List.map_id]
  unfold jz
  rw [decide_eq_true h1, h2, h3, nuL_jq I M H S]; rfl
theorem lbs_len {f : List (List Bool)} (h : f.length < 1000) : (lbs f).length < 100000 := by rw [List.length_map]; omega
theorem z_1 {Z : List Int} {a : Nat} {z : Int} (h : Z.length ≤ 100) : (Z.take a).length + [z].length < 100000 := by
  rw [List.length_take, List.length_singleton]; omega
theorem z_2 {Z : List Int} {a : Nat} {z : Int} (h : Z.length ≤ 100) : (Z.take a ++ [z]).length + (Z.drop (a + 1)).length < 100000 := by
  rw [List.length_append, List.length_take, List.length_singleton, List.length_drop]; omega
theorem z_3 {Z : List Int} {a : Nat} {z : Int} (h : Z.length ≤ 100) : (Z.take a ++ [z] ++ Z.drop (a + 1)).length ≤ 1000 := by
  rw [List.length_append, List.length_append, List.length_take, List.length_singleton, List.length_drop]; omega
theorem z_4 {Z : List Int} (h : Z.length ≤ 100) : (Z.drop 1).length ≤ 1000 := by rw [List.length_drop]; omega
theorem rf_ok (k t b m : Nat) (T : List (List Nat)) (E : List Bool) (M : MO t b T E) (hb : 2 ≤ b) (h50 : T.length ≤ 50) (hm : T.length ≤ m) (hwl : (alls b m).length ≤ 20000) (cell : Int) (l : List Int) (s2 : Slot) (hs2 : Hld s2 (tb (alls b m))) (hW : 1000 < W) :
    ∃ l' : List Int, callL prog W (k + 6) (Str.ofString "_law_is_right_for") [.own (.lst (zs l)), .val (mach t T E), s2, .val (.int cell)] = some (.dat (.bl true), [.own (.lst (zs l')), .val (mach t T E), .val (.lst (tb (alls b m))), .val (.int cell)]) := by
  suffices H : ∃ o fs, callL prog W (k + 6) (Str.ofString "_law_is_right_for") [.own (.lst (zs l)), .val (mach t T E), s2, .val (.int cell)] = some (o, fs) ∧ ∃ l' : List Int, o = .dat (.bl true) ∧ fs = [.own (.lst (zs l')), .val (mach t T E), .val (.lst (tb (alls b m))), .val (.int cell)] by
    obtain ⟨o, fs, e, l', rfl, rfl⟩ := H
    exact ⟨l', e⟩
  have MA := mo_ma M hb
  have hn := M.wf.1
  have hT := M.n
  have hb1 := M.b1
  obtain ⟨ws, hws⟩ : ∃ ws, ws = alls b m := ⟨_, rfl⟩
  have hwb : ∀ w ∈ ws, ∀ l ∈ w, l < b := fun w hw => by rw [hws] at hw; exact (alls_mem.mp hw).2
  obtain ⟨L, F, H, _⟩ := lm_ok (W := W) k t b T E M hW
  have HL := lst_lea hb H
  have MO1 := mo_in M
  have MAO := mo_ma MO1 hb
  have SO : Same b T E (inRows T) (inEnds T E) := fun w hw => in_takes M.wf M.fu w hw
  have SOL : Same b (inRows T) (inEnds T E) L F := fun w hw => (H.tk w hw).trans (SO w hw).symm
  have hoo : ord (inRows T) = List.range (inRows T).length := by rw [ord_in M.wf, in_len]
  have I := inord MAO hoo
  have hOl : (inRows T).length ≤ T.length := by rw [in_len]; exact ord_len M.wf
  have hO0 := MAO.wf.1
  have hLl : L.length ≤ 100 := H.mo.n
  have hrow4 := lr_ok (W := W) (k + 4) t b T E M ws (by rw [hws]; exact hwl) hwb s2 (by rw [hws]; exact hs2)
  have hs2' : Hld s2 (tb ws) := by rw [hws]; exact hs2
  rw [← hws] at hwl ⊢
  refine e__law_is_right_for ?_
  have q4 : ev (callL prog W (k + 5)) (.call (Str.ofString "_law_rows") [.var 1, .var 2]) .v [.own (.lst (zs l)), .val (mach t T E), s2, .val (.int cell), .un, .un, .un, .un, .un, .un, .un, .un, .un, .un, .un, .un] = some (.own (.lst (lbs (rws T E ws))), [.own (.lst (zs l)), .val (mach t T E), .val (.lst (tb ws)), .val (.int cell), .un, .un, .un, .un, .un, .un, .un, .un, .un, .un, .un, .un]) := by
    rcases hs2' with rfl | rfl
    · exact ev_callDS (ev_var rfl) rfl hrow4
    · exact ev_call2 (ev_var rfl) (ev_var rfl) hrow4
  refine go_setO q4 ?_
  show Goes _ _ _ [.own (.lst (zs l)), .val (mach t T E), .val (.lst (tb ws)), .val (.int cell), .own (.lst (lbs (rws T E ws))), .un, .un, .un, .un, .un, .un, .un, .un, .un, .un, .un] _
  obtain ⟨C, Dn, esc⟩ := sc_ok (W := W) (k + 2) t b T E M hW
  have efi : fi (rws T E ws) = rep C := by rw [hws]; exact rws_fi MA Dn hm
  have q5 := ev_lcm (c := callL prog W (k + 5)) (i := 6) (src := .var 4) (elt := .mth .index (.var 4) [(.var 6)]) (env := [.own (.lst (zs l)), .val (mach t T E), .val (.lst (tb ws)), .val (.int cell), .own (.lst (lbs (rws T E ws))), .un, .un, .un, .un, .un, .un, .un, .un, .un, .un, .un]) (rws T E ws) (fun r => D.lst (bl r)) (fun r => nt (fx (rws T E ws) r))
    [.own (.lst (zs l)), .val (mach t T E), .val (.lst (tb ws)), .val (.int cell), .val (.lst (lbs (rws T E ws))), .un, .un, .un, .un, .un, .un, .un, .un, .un, .un, .un] (ev_walkO rfl) (ln_of (by rw [rws_len]; omega)) fun r hr => lcT1 (ev_indexG (ev_var rfl) (ev_var rfl) (ridx (by rw [rws_len]; omega) hr))
  rw [mapB, show (rws T E ws).map (fx (rws T E ws)) = rep C from efi] at q5
  refine go_setD (ev_tuple q5) ?_
  show Goes _ _ _ [.own (.lst (zs l)), .val (mach t T E), .val (.lst (tb ws)), .val (.int cell), .val (.lst (lbs (rws T E ws))), .val (.tup (bits (rep C))), .un, .un, .un, .un, .un, .un, .un, .un, .un, .un] _
  have lmT := lm_eq (W := W) (k + 1) t b T T L E E F hb H M same_refl hW
  refine go_setD (ev_call1 (ev_var rfl) lmT) ?_
  show Goes _ _ _ [.own (.lst (zs l)), .val (mach t T E), .val (.lst (tb ws)), .val (.int cell), .val (.lst (lbs (rws T E ws))), .val (.tup (bits (rep C))), .un, .val (mach t L F), .un, .un, .un, .un, .un, .un, .un, .un] _
  obtain ⟨R, hR, erp⟩ := rp_ok (W := W) (k + 3) t b T E M hb hW
  have elr := lro_ok (W := W) (k + 4) t b T E M hb R hR
  refine go_pass (or_two (chk (k := k + 3) (m := 1) (dp_bits 0 _ (by rw [rep_len, Dn.len]; omega)) (ev_call1 (ev_var rfl) esc) (ev_var rfl)) (chk (k := k + 4) (m := 0) (.int _ _) (ev_call1 (ev_var rfl) erp) (ev_call1 (ev_var rfl) elr))) ?_
  refine go_setD (ev_call1 (ev_var rfl) (mi_ok (k + 3) t b T E M hW)) ?_
  show Goes _ _ _ [.own (.lst (zs l)), .val (mach t T E), .val (.lst (tb ws)), .val (.int cell), .val (.lst (lbs (rws T E ws))), .val (.tup (bits (rep C))), .un, .val (mach t L F), .val (mach t (inRows T) (inEnds T E)), .un, .un, .un, .un, .un, .un, .un] _
  refine go_setO (d := .lst (lbs [])) (env1 := [.own (.lst (zs l)), .val (mach t T E), .val (.lst (tb ws)), .val (.int cell), .val (.lst (lbs (rws T E ws))), .val (.tup (bits (rep C))), .un, .val (mach t L F), .val (mach t (inRows T) (inEnds T E)), .un, .un, .un, .un, .un, .un, .un]) (by simp [exs, ex, ev, evds, evs, evAnd, evOr, look, fin, view, views, cm, D.plain, wantsM, isSeq, sameQ, truth, mutD, toD, op2, store, aug2, giveOut, finals, lend, PF.giveBack, bltD, isiD, kd, isK, idxD, mthD, b2i, itemsOf, bindT, Md.tv, setAll, revD, part, slcD, shp_int, shp_bl, deq_int, deq_bl, shp_non, rg1, rg2, rg3, rg4, ln1, ln2, ln3, ln4]) ?_
  show Goes _ _ _ [.own (.lst (zs l)), .val (mach t T E), .val (.lst (tb ws)), .val (.int cell), .val (.lst (lbs (rws T E ws))), .val (.tup (bits (rep C))), .un, .val (mach t L F), .val (mach t (inRows T) (inEnds T E)), .own (.lst (lbs [])), .un, .un, .un, .un, .un, .un] _
  have rO := lr_ok (W := W) (k + 4) t b (inRows T) (inEnds T E) MO1 ws hwl hwb (.val (.lst (tb ws))) (.inr rfl)
  obtain ⟨RO, hRO⟩ : ∃ RO, RO = rws (inRows T) (inEnds T E) ws := ⟨_, rfl⟩
  have hROl : RO.length = (inRows T).length := by rw [hRO]; exact rws_len
  have hcnt : (firsts RO).length = L.length := by rw [hRO, hws]; exact rws_count I MAO HL SOL (by omega)
  rw [← hRO] at rO
  refine go_for ((List.range (inRows T).length).map nt) _ (fun i env => ∃ x6 x10, env = [.own (.lst (zs l)), .val (mach t T E), .val (.lst (tb ws)), .val (.int cell), .val (.lst (lbs (rws T E ws))), .val (.tup (bits (rep C))), x6, .val (mach t L F), .val (mach t (inRows T) (inEnds T E)), .own (.lst (lbs (firsts ((RO).take i)))), x10, .un, .un, .un, .un, .un]) (ev_range (by omega) (ev_tlen (ev_m1 (ev_var rfl)) (by simp))) ⟨.un, .un, rfl⟩ (fun i x env hx ⟨x6, x10, he⟩ => ?_) fun env ⟨x6, x10, he⟩ => ?_
  · obtain ⟨hi, rfl⟩ := xs_at hx
    subst he
    refine ⟨_, rfl, ?_⟩
    have hi' : i < RO.length := by omega
    have ht : RO.take (i + 1) = RO.take i ++ [RO[i]] := by rw [List.take_succ]; simp [hi']
    rw [ht, firsts_snoc]
    have hfl : (firsts (RO.take i)).length < 1000 := by have := firsts_len (RO.take i); rw [List.length_take] at this; omega
    obtain ⟨f, hf⟩ : ∃ f, f = firsts (RO.take i) := ⟨_, rfl⟩
    rw [← hf] at hfl ⊢
    refine go_setD (ev_idxL (ev_call2 (ev_var rfl) (ev_var rfl) rO) (ev_var rfl) (at_lbs hi')) ?_
    show Goes _ _ _ [.own (.lst (zs l)), .val (mach t T E), .val (.lst (tb ws)), .val (.int cell), .val (.lst (lbs (rws T E ws))), .val (.tup (bits (rep C))), .val (.lst (bl RO[i])), .val (mach t L F), .val (mach t (inRows T) (inEnds T E)), .own (.lst (lbs f)), .val (nt i), .un, .un, .un, .un, .un] _
    refine go_ite (!decide (RO[i] ∈ f)) _ (ev_cmpS (ev_var rfl) rfl (notin_lbs _ _)) (fun h => ?_) (fun h => ?_)
    · have hm : RO[i] ∉ f := by simpa using h
      refine go_expr (ev_mut1 (l := .lst (lbs f)) rfl rfl (ev_var rfl) rfl (app_any (lbs_len hfl))) (go_nil ⟨.val (.lst (bl RO[i])), .val (nt i), ?_⟩)
      have e : lbs f ++ [D.lst (bl RO[i])] = lbs (addA f RO[i]) := by simp [addA, hm, lbs]
      rw [← e]; rfl
    · have hm : RO[i] ∈ f := by simpa using h
      refine go_nil ⟨.val (.lst (bl RO[i])), .val (nt i), ?_⟩
      rw [show addA f RO[i] = f from if_pos hm]
  subst he
  rw [List.length_map, List.length_range, ← hROl, List.take_length]
  have elen : ∀ {c : Cl}, ev c (.blt .len [.var 9]) .v [.own (.lst (zs l)), .val (mach t T E), .val (.lst (tb ws)), .val (.int cell), .val (.lst (lbs (rws T E ws))), .val (.tup (bits (rep C))), x6, .val (mach t L F), .val (mach t (inRows T) (inEnds T E)), .own (.lst (lbs (firsts RO))), x10, .un, .un, .un, .un, .un] = some (.dat (nt L.length), [.own (.lst (zs l)), .val (mach t T E), .val (.lst (tb ws)), .val (.int cell), .val (.lst (lbs (rws T E ws))), .val (.tup (bits (rep C))), x6, .val (mach t L F), .val (mach t (inRows T) (inEnds T E)), .own (.lst (lbs (firsts RO))), x10, .un, .un, .un, .un, .un]) := fun {c} => by
    have := ev_lenS (c := c) (env := [.own (.lst (zs l)), .val (mach t T E), .val (.lst (tb ws)), .val (.int cell), .val (.lst (lbs (rws T E ws))), .val (.tup (bits (rep C))), x6, .val (mach t L F), .val (mach t (inRows T) (inEnds T E)), .own (.lst (lbs (firsts RO))), x10, .un, .un, .un, .un, .un]) (i := 9) (xs := lbs (firsts RO)) rfl
    rwa [List.length_map, hcnt] at this
  have dpL : dp 3 (mach t L F) := dp_mach (by omega) (fun r hr => by have := mo_rows H.mo r hr; omega) (by have := H.mo.he; omega)
  have miL := mi_ok (W := W) (k + 3) t b L F H.mo hW
  rw [in_same H.mo.wf H.ord, inE_same H.mo.he H.ord] at miL
  refine go_pass (or_three (ev_cmpT (ev_tlen (n := L.length) (ev_m1 (ev_var rfl)) (by simp)) elen (by rw [ne_nt, decide_eq_true rfl]; rfl)) (chk (k := k + 1) (m := 3) dpL (ev_call1 (ev_var rfl) miL) (ev_var rfl)) (chk (k := k + 4) (m := 0) (.int _ _) (ev_call1 (ev_var rfl) (ls_ok (k + 4) t b T E L F (lm_eq (W := W) k t b T T L E E F hb H M same_refl hW))) elen)) ?_
  have ilL := il_ok (W := W) (k + 1) t b T L E F H hW
  have ilT := il_any (W := W) (k + 1) t b T L E F M hb H hW
  have lmL := lm_eq (W := W) (k + 1) t b T L L E F F hb H H.mo H.tk hW
  refine go_pass (or_three (chk (k := k + 4) (m := 0) (.bl _ _) (ev_call1 (ev_var rfl) ilL) ev_cb) (chk (k := k + 4) (m := 0) (.bl _ _) (ev_call1 (ev_var rfl) ilT) (ev_cmp (ev_var rfl) (ev_var rfl) (by simp only [cm, shp_mach, Bool.and_self, if_true, deq_mach]))) (chk (k := k + 1) (m := 3) dpL (ev_call1 (ev_var rfl) lmL) (ev_var rfl))) ?_
  refine go_for (tb ws) _ (fun i env => ∃ x11, env = [.own (.lst (zs l)), .val (mach t T E), .val (.lst (tb ws)), .val (.int cell), .val (.lst (lbs (rws T E ws))), .val (.tup (bits (rep C))), x6, .val (mach t L F), .val (mach t (inRows T) (inEnds T E)), .own (.lst (lbs (firsts RO))), x10, x11, .un, .un, .un, .un]) (ev_walk rfl) ⟨.un, rfl⟩ (fun i x env hx ⟨x11, he⟩ => ?_) fun env ⟨x11, he⟩ => ?_
  · obtain ⟨hi, rfl⟩ := nth_tb hx
    subst he
    refine ⟨_, rfl, ?_⟩
    have hwi : ∀ l ∈ ws[i]?.getD [], l < b := hwb _ (by simp [hi])
    generalize ws[i]?.getD [] = w at *
    have e1 := tw_ok (W := W) (k + 2) t b L F w H.mo.wf H.mo.fu H.mo.he hwi
    rw [H.tk w hwi] at e1
    exact go_pass (chk (k := k + 4) (m := 0) (.bl _ _) (ev_call2 (ev_var rfl) (ev_var rfl) e1) (ev_call2 (ev_var rfl) (ev_var rfl) (ta_ok (k + 3) t b T E w M.wf M.fu M.he hwi))) (go_nil ⟨.val (.tup (bits w)), rfl⟩)
  subst he
  have lmO := lm_eq (W := W) k t b T (inRows T) L E (inEnds T E) F hb H MO1 SO hW
  refine go_setD (ev_call1 (ev_var rfl) (mtl_ok (k + 4) t t b (inRows T) L (inEnds T E) F MO1 hb hoo HL SOL lmO)) ?_
  have eZ := bits_zs (nuL b (inRows T) L)
  have jN := nu_jz I MAO HL SOL
  have hZl : ((nuL b (inRows T) L).map Int.ofNat).length = (inRows T).length := by simp [nuL]
  rw [eZ]
  obtain ⟨Z, hZ⟩ : ∃ Z, Z = (nuL b (inRows T) L).map Int.ofNat := ⟨_, rfl⟩
  rw [← hZ] at jN hZl ⊢
  show Goes _ _ _ [.own (.lst (zs l)), .val (mach t T E), .val (.lst (tb ws)), .val (.int cell), .val (.lst (lbs (rws T E ws))), .val (.tup (bits (rep C))), x6, .val (mach t L F), .val (mach t (inRows T) (inEnds T E)), .own (.lst (lbs (firsts RO))), x10, x11, .val (.tup (zs Z)), .un, .un, .un] _
  have jm : ∀ P : List Int, P.length ≤ 1000 → callL prog W (k + 5) (Str.ofString "judge_map") [.val (mach t (inRows T) (inEnds T E)), .val (mach t L F), .val (.tup (zs P))] = some (.dat (.bl (jz (inRows T) (inEnds T E) L F P)), [.val (mach t (inRows T) (inEnds T E)), .val (mach t L F), .val (.tup (zs P))]) :=
    fun P hP => jm_ok (k + 3) t t (inRows T) L (inEnds T E) F P MO1.wf MO1.he H.mo.he MO1.n (mo_rows MO1) hP
  have lim : ∀ P : List Int, P.length ≤ 1000 → callL prog W (k + 5) (Str.ofString "_law_is_map") [.val (mach t (inRows T) (inEnds T E)), .val (mach t L F), .val (.tup (zs P))] = some (.dat (.bl (jz (inRows T) (inEnds T E) L F P)), [.val (mach t (inRows T) (inEnds T E)), .val (mach t L F), .val (.tup (zs P))]) :=
    fun P hP => lim_ok (k + 4) t t (inRows T) L (inEnds T E) F P MO1.wf MO1.he H.mo.he MO1.n (mo_rows MO1) hP
  have jmZ := jm Z (by omega)
  have limZ := lim Z (by omega)
  rw [jN] at jmZ limZ
  refine go_pass (or_two (call_n (ev_call3 (ev_var rfl) (ev_var rfl) (ev_var rfl) limZ)) (chk (k := k + 4) (m := 0) (.bl _ _) (ev_call3 (ev_var rfl) (ev_var rfl) (ev_var rfl) jmZ) ev_cb)) ?_
  obtain ⟨a, l1, ha, et⟩ := ev_take (W := W) (k := k + 4) (env := [.own (.lst (zs l)), .val (mach t T E), .val (.lst (tb ws)), .val (.int cell), .val (.lst (lbs (rws T E ws))), .val (.tup (bits (rep C))), x6, .val (mach t L F), .val (mach t (inRows T) (inEnds T E)), .own (.lst (lbs (firsts RO))), x10, x11, .val (.tup (zs Z)), .un, .un, .un]) (i := 0) (l := l) (m := (inRows T).length) (a := .blt .len [(.var 12)]) hO0 rfl (ev_tlen (n := (inRows T).length) (ev_var rfl) (by simp [hZl]))
  refine go_setD et ?_
  show Goes _ _ _ [.own (.lst (zs l1)), .val (mach t T E), .val (.lst (tb ws)), .val (.int cell), .val (.lst (lbs (rws T E ws))), .val (.tup (bits (rep C))), x6, .val (mach t L F), .val (mach t (inRows T) (inEnds T E)), .own (.lst (lbs (firsts RO))), x10, x11, .val (.tup (zs Z)), .val (nt a), .un, .un] _
  obtain ⟨v, l2, hv, et2⟩ := ev_take (W := W) (k := k + 4) (env := [.own (.lst (zs l1)), .val (mach t T E), .val (.lst (tb ws)), .val (.int cell), .val (.lst (lbs (rws T E ws))), .val (.tup (bits (rep C))), x6, .val (mach t L F), .val (mach t (inRows T) (inEnds T E)), .own (.lst (lbs (firsts RO))), x10, x11, .val (.tup (zs Z)), .val (nt a), .un, .un]) (i := 0) (l := l1) (m := L.length) (a := .blt .len [(.idx (.var 7) (.int 1))]) HL.wf.1 rfl (ev_tlen (n := L.length) (ev_m1 (ev_var rfl)) (by simp))
  have src : ev (callL prog W (k + 5)) (.lst [(.call (Str.ofString "_law_take") [(.var 0), (.blt .len [(.idx (.var 7) (.int 1))])]), (.blt .len [(.idx (.var 7) (.int 1))]), (.neg (.int 1)), (.var 3)]) .i [.own (.lst (zs l1)), .val (mach t T E), .val (.lst (tb ws)), .val (.int cell), .val (.lst (lbs (rws T E ws))), .val (.tup (bits (rep C))), x6, .val (mach t L F), .val (mach t (inRows T) (inEnds T E)), .own (.lst (lbs (firsts RO))), x10, x11, .val (.tup (zs Z)), .val (nt a), .un, .un] = some (.dat (.tup (zs [(v : Int), (L.length : Int), -1, cell])), [.own (.lst (zs l2)), .val (mach t T E), .val (.lst (tb ws)), .val (.int cell), .val (.lst (lbs (rws T E ws))), .val (.tup (bits (rep C))), x6, .val (mach t L F), .val (mach t (inRows T) (inEnds T E)), .own (.lst (lbs (firsts RO))), x10, x11, .val (.tup (zs Z)), .val (nt a), .un, .un]) :=
    ev_lst4I (env1 := [.own (.lst (zs l2)), .val (mach t T E), .val (.lst (tb ws)), .val (.int cell), .val (.lst (lbs (rws T E ws))), .val (.tup (bits (rep C))), x6, .val (mach t L F), .val (mach t (inRows T) (inEnds T E)), .own (.lst (lbs (firsts RO))), x10, x11, .val (.tup (zs Z)), .val (nt a), .un, .un]) (env2 := [.own (.lst (zs l2)), .val (mach t T E), .val (.lst (tb ws)), .val (.int cell), .val (.lst (lbs (rws T E ws))), .val (.tup (bits (rep C))), x6, .val (mach t L F), .val (mach t (inRows T) (inEnds T E)), .own (.lst (lbs (firsts RO))), x10, x11, .val (.tup (zs Z)), .val (nt a), .un, .un]) (env3 := [.own (.lst (zs l2)), .val (mach t T E), .val (.lst (tb ws)), .val (.int cell), .val (.lst (lbs (rws T E ws))), .val (.tup (bits (rep C))), x6, .val (mach t L F), .val (mach t (inRows T) (inEnds T E)), .own (.lst (lbs (firsts RO))), x10, x11, .val (.tup (zs Z)), .val (nt a), .un, .un]) et2 (ev_tlen (n := L.length) (ev_m1 (ev_var rfl)) (by simp)) (ev_neg ev_ci) (ev_var rfl)
  refine go_for (zs [(v : Int), (L.length : Int), -1, cell]) _ (fun i env => ∃ x14 x15, env = [.own (.lst (zs l2)), .val (mach t T E), .val (.lst (tb ws)), .val (.int cell), .val (.lst (lbs (rws T E ws))), .val (.tup (bits (rep C))), x6, .val (mach t L F), .val (mach t (inRows T) (inEnds T E)), .own (.lst (lbs (firsts RO))), x10, x11, .val (.tup (zs Z)), .val (nt a), x14, x15]) src ⟨.un, .un, rfl⟩ (fun i x env hx ⟨x14, x15, he⟩ => ?_) fun env ⟨x14, x15, he⟩ => ?_
  · obtain ⟨hi, rfl⟩ := nth_zs hx
    subst he
    refine ⟨_, rfl, ?_⟩
    generalize [(v : Int), (L.length : Int), -1, cell][i] = z
    show Goes _ _ _ [.own (.lst (zs l2)), .val (mach t T E), .val (.lst (tb ws)), .val (.int cell), .val (.lst (lbs (rws T E ws))), .val (.tup (bits (rep C))), x6, .val (mach t L F), .val (mach t (inRows T) (inEnds T E)), .own (.lst (lbs (firsts RO))), x10, x11, .val (.tup (zs Z)), .val (nt a), .val (.int z), x15] _
    have c1 := ev_cut (c := callL prog W (k + 5)) (env := [.own (.lst (zs l2)), .val (mach t T E), .val (.lst (tb ws)), .val (.int cell), .val (.lst (lbs (rws T E ws))), .val (.tup (bits (rep C))), x6, .val (mach t L F), .val (mach t (inRows T) (inEnds T E)), .own (.lst (lbs (firsts RO))), x10, x11, .val (.tup (zs Z)), .val (nt a), .val (.int z), x15]) (a := .var 12) (lo := .non) (hi := .var 13) (l := none) (h := some (a : Int)) (ev_var rfl) ev_non (ev_var rfl) rfl rfl
    rw [cut_toZ _ _ (by omega)] at c1
    have c2 := ev_cut (c := callL prog W (k + 5)) (env := [.own (.lst (zs l2)), .val (mach t T E), .val (.lst (tb ws)), .val (.int cell), .val (.lst (lbs (rws T E ws))), .val (.tup (bits (rep C))), x6, .val (mach t L F), .val (mach t (inRows T) (inEnds T E)), .own (.lst (lbs (firsts RO))), x10, x11, .val (.tup (zs Z)), .val (nt a), .val (.int z), x15]) (a := .var 12) (lo := .bin .add (.var 13) (.int 1)) (hi := .non) (l := some ((a + 1 : Nat) : Int)) (h := none) (ev_var rfl) (ev_bin (ev_var rfl) ev_one (add_nt _ _)) ev_non rfl rfl
    rw [cut_fromZ _ _ (by omega)] at c2
    have c3 := ev_bin (ev_bin c1 (ev_tup1 (ev_var (i := 14) (d := .int z) rfl)) (addZ (Z.take a) [z] (z_1 (by omega)))) c2 (addZ _ _ (z_2 (by omega)))
    refine go_setD c3 ?_
    have hPl : (Z.take a ++ [z] ++ Z.drop (a + 1)).length ≤ 1000 := z_3 (by omega)
    generalize Z.take a ++ [z] ++ Z.drop (a + 1) = P at *
    exact go_pass (chk (k := k + 4) (m := 0) (.bl _ _) (ev_call3 (ev_var rfl) (ev_var rfl) (ev_var rfl) (jm P hPl)) (ev_call3 (ev_var rfl) (ev_var rfl) (ev_var rfl) (lim P hPl))) (go_nil ⟨.val (.int z), .val (.tup (zs P)), rfl⟩)
  subst he
  have c1 := ev_cut (c := callL prog W (k + 5)) (env := [.own (.lst (zs l2)), .val (mach t T E), .val (.lst (tb ws)), .val (.int cell), .val (.lst (lbs (rws T E ws))), .val (.tup (bits (rep C))), x6, .val (mach t L F), .val (mach t (inRows T) (inEnds T E)), .own (.lst (lbs (firsts RO))), x10, x11, .val (.tup (zs Z)), .val (nt a), x14, x15]) (a := .var 12) (lo := .int 1) (hi := .non) (l := some ((1 : Nat) : Int)) (h := none) (ev_var rfl) ev_ci ev_non rfl rfl
  rw [cut_fromZ _ _ (by omega)] at c1
  have jd := jm (Z.drop 1) (z_4 (by omega))
  have jf : jz (inRows T) (inEnds T E) L F (Z.drop 1) = false := by
    unfold jz
    rw [decide_eq_false (by rw [List.length_drop]; omega)]; rfl
  rw [jf] at jd
  obtain ⟨U, l3, hD, MU, eD⟩ := dbl_ok (W := W) (k + 3) t b T E M l2 h50
  have lmU := lm_eq (W := W) (k + 1) t b T U L E (E ++ E) F hb H MU (dbl_same MA hD) hW
  refine go_ret (and_two (chkV (k := k + 4) (m := 0) (.bl _ _) (ev_call3 (ev_var rfl) (ev_var rfl) c1 jd) ev_cb) (chkV (k := k + 1) (m := 3) dpL (ev_call1 (ev_callS2 rfl (ev_var rfl) rfl eD) lmU) (ev_var rfl))) ⟨l3, rfl, rfl⟩
end K06
namespace K06
open PySem PF K03 K02
def midS : List S := [.set 6 (.tup [(.int 1), (.tup [(.tup [(.int 3), (.int 1)]), (.tup [(.int 4), (.int 0)]), (.tup [(.int 2), (.int 2)]), (.tup [(.int 0), (.int 4)]), (.tup [(.int 1), (.int 3)]), (.tup [(.int 0), (.int 1)])]), (.tup [(.bl true), (.bl false), (.bl true), (.bl true), (.bl false), (.bl true)])]), .ite (.or [(.not (.call (Str.ofString "_law_same") [(.call (Str.ofString "state_classes") [(.var 6)]), (.tup [(.int 0), (.int 1), (.int 2), (.int 0), (.int 1), (.int 0)])])), (.not (.call (Str.ofString "_law_same") [(.call (Str.ofString "least_machine") [(.var 6)]), (.tup [(.int 1), (.tup [(.tup [(.int 0), (.int 1)]), (.tup [(.int 1), (.int 0)])]), (.tup [(.bl true), (.bl false)])])]))]) [.ret (.bl false)] [], .ite (.or [(.not (.call (Str.ofString "_law_same") [(.call (Str.ofString "map_to_least") [(.tup [(.int 1), (.tup [(.tup [(.int 1), (.int 2)]), (.tup [(.int 0), (.int 3)]), (.tup [(.int 3), (.int 0)]), (.tup [(.int 2), (.int 1)])]), (.tup [(.bl true), (.bl true), (.bl false), (.bl false)])])]), (.tup [(.int 0), (.int 0), (.int 1), (.int 1)])])), (.not (.call (Str.ofString "_law_same") [(.call (Str.ofString "rounds_to_part") [(.var 6)]), (.int 1)]))]) [.ret (.bl false)] [], .set 7 (.tup [(.int 1), (.tup [(.tup [(.int 1), (.int 0)]), (.tup [(.int 2), (.int 0)]), (.tup [(.int 3), (.int 0)]), (.tup [(.int 3), (.int 0)])]), (.tup [(.bl false), (.bl false), (.bl false), (.bl true)])])]
def sA : E := (.call (Str.ofString "_law_same") [(.call (Str.ofString "rounds_to_part") [(.var 7)]), (.int 2)])
def sB : E := (.call (Str.ofString "_law_same") [(.call (Str.ofString "is_least_machine") [(.var 7)]), (.bl true)])
def someT : List (List Nat) := [[3, 1], [4, 0], [2, 2], [0, 4], [1, 3], [0, 1]]
def someE : List Bool := [true, false, true, true, false, true]
def lineT : List (List Nat) := [[1, 0], [2, 0], [3, 0], [3, 0]]
def lineE : List Bool := [false, false, false, true]
theorem mid_ok (s0 s1 s2 s3 s4 s5 s6 s7 : Slot) : exs (callL prog 100000 39) 100000 midS [s0, s1, s2, s3, s4, s5, s6, s7] = some (.nx [s0, s1, s2, s3, s4, s5, .val (mach 1 someT someE), .val (mach 1 lineT lineE)]) := by kernel_rfl
theorem sA_ok (s0 s1 s2 s3 s4 s5 s6 : Slot) : ev (callL prog 100000 39) sA .v [s0, s1, s2, s3, s4, s5, s6, .val (mach 1 lineT lineE)] = some (.dat (.bl true), [s0, s1, s2, s3, s4, s5, s6, .val (mach 1 lineT lineE)]) := by kernel_rfl
theorem sB_ok (s0 s1 s2 s3 s4 s5 s6 : Slot) : ev (callL prog 100000 39) sB .v [s0, s1, s2, s3, s4, s5, s6, .val (mach 1 lineT lineE)] = some (.dat (.bl true), [s0, s1, s2, s3, s4, s5, s6, .val (mach 1 lineT lineE)]) := by kernel_rfl
theorem and_three' {c : Cl} {env env1 env2 env3 : PF.Env} {a b g : E} (ha : ev c a .v env = some (.dat (.bl true), env1)) (hb : ev c b .v env1 = some (.dat (.bl true), env2)) (hg : ev c g .v env2 = some (.dat (.bl true), env3)) : ev c (.and [a, b, g]) .v env = some (.dat (.bl true), env3) := by
  simp [ev, evAnd, ha, hb, hg, fin, Md.tv]
theorem ev_callSVOV {c : Cl} {env : PF.Env} {a b e : E} {f : Str} {i : Nat} {d0 d1 d2 d3 : D} {o : Opd} {s s1 s2 s3 : Slot} (hi : look env i = .own d0) (ha : ev c a .v env = some (.dat d1, env)) (hb : ev c b .v env = some (.own d2, env)) (he : ev c e .v env = some (.dat d3, env)) (hc : c f [.own d0, .val d1, .own d2, .val d3] = some (o, [s, s1, s2, s3])) : ev c (.call f [.var i, a, b, e]) .v env = some (o, (env.set i .un).set i s) := by
  simp only [ev, evs, hi, ha, hb, he, lend, hc, fin, PF.giveBack]
theorem ev_pick {c : Cl} {env : PF.Env} {b : E} {t x y : Nat} (ht : t = 1 ∨ t = 2) (hb : ev c b .v env = some (.dat (nt t), env)) : ev c (.idx (.lst [.int (x : Int), .int (y : Int)]) (.bin .sub b (.int 1))) .v env = some (.dat (nt (if t = 1 then x else y)), env) := by
  have e : ev c (.lst [.int (x : Int), .int (y : Int)]) .v env = some (.own (.lst [nt x, nt y]), env) := by
    have l2 : 2 ≤ line := by unfold line; omega
    simp [ev, evds, fin, toD, l2]
  rcases ht with rfl | rfl
  · exact ev_idxL (d := nt 0) e (ev_bin hb ev_ci rfl) rfl
  · exact ev_idxL (d := nt 1) e (ev_bin hb ev_ci rfl) rfl
theorem wl1 : (alls (2 ^ 1) (5 + 1)).length ≤ 20000 := by
  have h := alls_len (b := 2) (B := 32) 6 fun j hj => by
    have : j = 0 ∨ j = 1 ∨ j = 2 ∨ j = 3 ∨ j = 4 ∨ j = 5 := by omega
    rcases this with rfl | rfl | rfl | rfl | rfl | rfl <;> decide
  exact Nat.le_trans h (by decide)
theorem wl2 : (alls (2 ^ 2) (3 + 1)).length ≤ 20000 := by
  have h := alls_len (b := 4) (B := 64) 4 fun j hj => by
    have : j = 0 ∨ j = 1 ∨ j = 2 ∨ j = 3 := by omega
    rcases this with rfl | rfl | rfl | rfl <;> decide
  exact Nat.le_trans h (by decide)
theorem some_mo : MO 1 (2 ^ 1) someT someE := ⟨⟨by decide, by decide⟩, by unfold Full; decide, by decide, by decide, by decide⟩
theorem main (ns : List Int) (hl : ns.length ≤ 63) : ∃ fs, callL prog 100000 40 (Str.ofString "law") [.val (.lst (ns.map .int))] = some (.dat (.bl true), fs) := by
  suffices H : ∃ o fs, callL prog 100000 40 (Str.ofString "law") [.val (.lst (zs ns))] = some (o, fs) ∧ o = .dat (.bl true) by
    obtain ⟨o, fs, e, rfl⟩ := H
    exact ⟨fs, e⟩
  refine e_law ?_
  have hW : 1000 < 100000 := by decide
  obtain ⟨l0, e1⟩ := draws_ok (W := 100000) 38 ns hl
  obtain ⟨cell, _, e2⟩ := cell_ok (W := 100000) 38 ns
  refine go_setO (ev_call2 (ev_var rfl) ev_ci e1) ?_
  refine go_setD (ev_call1 (ev_var rfl) e2) ?_
  show Goes _ _ _ [.val (.lst (zs ns)), .own (.lst (zs l0)), .val (.int cell), .un, .un, .un, .un, .un] _
  refine go_for ((List.range 2).map nt) _ (fun i env => ∃ l s3 s4 s5, env = [.val (.lst (zs ns)), .own (.lst (zs l)), .val (.int cell), s3, s4, s5, .un, .un])
    (ev_range (n := 2) (by decide) ev_ci) ⟨l0, .un, .un, .un, rfl⟩ (fun i x env hx ⟨l, s3, s4, s5, he⟩ => ?_) fun env ⟨l, s3, s4, s5, he⟩ => ?_
  · subst he
    refine ⟨_, rfl, ?_⟩
    show Goes _ _ _ [.val (.lst (zs ns)), .own (.lst (zs l)), .val (.int cell), .val x, s4, s5, .un, .un] _
    obtain ⟨u0, l1, hu0, e3⟩ := ev_take (W := 100000) (k := 38) (i := 1) (l := l) (m := 2) (a := .int 2) (env := [.val (.lst (zs ns)), .own (.lst (zs l)), .val (.int cell), .val x, s4, s5, .un, .un]) (by decide) rfl ev_ci
    obtain ⟨t, ht⟩ : ∃ t, t = 1 + u0 := ⟨_, rfl⟩
    have ht12 : t = 1 ∨ t = 2 := by omega
    refine go_setD (d := nt t) (by rw [ht]; exact ev_bin ev_one e3 (add_nt _ _)) ?_
    show Goes _ _ _ [.val (.lst (zs ns)), .own (.lst (zs l1)), .val (.int cell), .val x, .val (nt t), s5, .un, .un] _
    have pk := ev_pick (c := callL prog 100000 39) (env := [.val (.lst (zs ns)), .own (.lst (zs l1)), .val (.int cell), .val x, .val (nt t), s5, .un, .un]) (b := .var 4) (x := 6) (y := 4) ht12 (ev_var rfl)
    obtain ⟨u, l2, hu, e4⟩ := ev_take (W := 100000) (k := 38) (i := 1) (l := l1) (m := if t = 1 then 6 else 4) (env := [.val (.lst (zs ns)), .own (.lst (zs l1)), .val (.int cell), .val x, .val (nt t), s5, .un, .un]) (by split <;> decide) rfl pk
    obtain ⟨T, E, l3, ⟨w1, w2, w3, w4⟩, e5⟩ := ma_ok (W := 100000) 37 t (1 + u) l2 (by omega) (by omega) (by split at hu <;> omega)
    have hb4 : 2 ^ t ≤ 4 := show 2 ^ t ≤ 2 ^ 2 from Nat.pow_le_pow_right (by decide) (by omega)
    have hb2 : 2 ≤ 2 ^ t := show 2 ^ 1 ≤ 2 ^ t from Nat.pow_le_pow_right (by decide) (by omega)
    have M : MO t (2 ^ t) T E := ⟨w1, w2, w3, by split at hu <;> omega, by omega⟩
    refine go_setD (ev_callS3g (d := .lst (zs l2)) rfl (ev_var rfl) (ev_bin ev_one e4 (add_nt _ _)) rfl e5) ?_
    show Goes _ _ _ [.val (.lst (zs ns)), .own (.lst (zs l3)), .val (.int cell), .val x, .val (nt t), .val (mach t T E), .un, .un] _
    have e6 := ev_pick (c := callL prog 100000 39) (env := [.val (.lst (zs ns)), .own (.lst (zs l3)), .val (.int cell), .val x, .val (nt t), .val (mach t T E), .un, .un]) (b := .var 4) (x := 5) (y := 3) ht12 (ev_var rfl)
    obtain ⟨Mx, hMx⟩ : ∃ Mx, Mx = if t = 1 then 5 else 3 := ⟨_, rfl⟩
    rw [← hMx] at e6
    have e7 := wo_ok (W := 100000) 38 t Mx (by omega) (by split at hMx <;> omega)
    have hwl : (alls (2 ^ t) (Mx + 1)).length ≤ 20000 := by
      rcases ht12 with h | h
      · rw [h] at hMx ⊢
        rw [hMx]; exact wl1
      · rw [h] at hMx ⊢
        rw [hMx]; exact wl2
    have hTm : T.length ≤ Mx + 1 := by split at hu <;> split at hMx <;> omega
    obtain ⟨l4, e8⟩ := rf_ok (W := 100000) 33 t (2 ^ t) (Mx + 1) T E M hb2 (by split at hu <;> omega) hTm hwl cell l3 (.own (.lst (tb (alls (2 ^ t) (Mx + 1))))) (.inl rfl) hW
    refine go_pass (call_n (ev_callSVOV (d0 := .lst (zs l3)) rfl (ev_var rfl) (ev_call2 (ev_var rfl) e6 e7) (ev_var rfl) e8)) ?_
    exact go_nil ⟨l4, _, _, _, rfl⟩
  · subst he
    refine go_mid (a := midS) (mid_ok _ _ _ _ _ _ _ _) ?_
    have e7 := wo_ok (W := 100000) 38 1 5 (by decide) (by decide)
    obtain ⟨l4, e8⟩ := rf_ok (W := 100000) 33 1 (2 ^ 1) (5 + 1) someT someE some_mo (by decide) (by decide) (by decide) wl1 cell l (.own (.lst (tb (alls (2 ^ 1) (5 + 1))))) (.inl rfl) hW
    exact go_ret (and_three' (sA_ok _ _ _ _ _ _ _) (sB_ok _ _ _ _ _ _ _) (ev_callSVOV (d0 := .lst (zs l)) rfl (ev_var rfl) (ev_call2 (d := nt 1) (d' := nt 5) ev_ci ev_ci e7) (ev_var rfl) e8)) rfl
end K06
namespace K06
open PySem PySem.Spec PyProof.Rows L2 PF
-- the defs stand in the row
def top (i : Nat) : Stmt := PySem.Challenge.pw_everynumber_k06_whole_least_machines.main.body.getD i (.Pass ⟨0, 0, 0, 0⟩)
def g_order_of_states : Sg := ⟨d_order_of_states, [Str.ofString "machine", Str.ofString "found", Str.ofString "seen", Str.ofString "at", Str.ofString "state"], [Str.ofString "machine"], top 1⟩
def g_numbers_by : Sg := ⟨d_numbers_by, [Str.ofString "order", Str.ofString "size", Str.ofString "numbers", Str.ofString "k"], [Str.ofString "order", Str.ofString "size"], top 2⟩
def g_machine_in_order : Sg := ⟨d_machine_in_order, [Str.ofString "machine", Str.ofString "tracks", Str.ofString "table", Str.ofString "ends", Str.ofString "order", Str.ofString "numbers", Str.ofString "rows", Str.ofString "state", Str.ofString "way"], [Str.ofString "machine"], top 3⟩
def g_is_in_order : Sg := ⟨d_is_in_order, [Str.ofString "machine"], [Str.ofString "machine"], top 4⟩
def g_classes_by : Sg := ⟨d_classes_by, [Str.ofString "keys", Str.ofString "numbers", Str.ofString "found", Str.ofString "key"], [Str.ofString "keys"], top 6⟩
def g_parted_classes : Sg := ⟨d_parted_classes, [Str.ofString "table", Str.ofString "marks", Str.ofString "classes", Str.ofString "many", Str.ofString "keys", Str.ofString "k", Str.ofString "way"], [Str.ofString "table", Str.ofString "marks"], top 7⟩
def g_state_classes : Sg := ⟨d_state_classes, [Str.ofString "machine", Str.ofString "classes", Str.ofString "own"], [Str.ofString "machine"], top 8⟩
def g_with_states_joined : Sg := ⟨d_with_states_joined, [Str.ofString "machine", Str.ofString "classes", Str.ofString "tracks", Str.ofString "table", Str.ofString "ends", Str.ofString "rows", Str.ofString "row", Str.ofString "way"], [Str.ofString "machine", Str.ofString "classes"], top 9⟩
def g_least_machine : Sg := ⟨d_least_machine, [Str.ofString "machine", Str.ofString "own"], [Str.ofString "machine"], top 10⟩
def g_is_least_machine : Sg := ⟨d_is_least_machine, [Str.ofString "machine"], [Str.ofString "machine"], top 11⟩
def g_least_size : Sg := ⟨d_least_size, [Str.ofString "machine"], [Str.ofString "machine"], top 12⟩
def g_map_to_least : Sg := ⟨d_map_to_least, [Str.ofString "machine", Str.ofString "least", Str.ofString "found", Str.ofString "state", Str.ofString "letter"], [Str.ofString "machine"], top 13⟩
def g_is_map_at : Sg := ⟨d_is_map_at, [Str.ofString "machine", Str.ofString "other", Str.ofString "places", Str.ofString "state", Str.ofString "place", Str.ofString "way"], [Str.ofString "machine", Str.ofString "other", Str.ofString "places", Str.ofString "state"], top 14⟩
def g_judge_map : Sg := ⟨d_judge_map, [Str.ofString "machine", Str.ofString "other", Str.ofString "places", Str.ofString "place", Str.ofString "k"], [Str.ofString "machine", Str.ofString "other", Str.ofString "places"], top 15⟩
def g_rounds_to_part : Sg := ⟨d_rounds_to_part, [Str.ofString "machine", Str.ofString "table", Str.ofString "ends", Str.ofString "classes", Str.ofString "rounds", Str.ofString "many", Str.ofString "k", Str.ofString "way"], [Str.ofString "machine"], top 16⟩
def g_state_from : Sg := ⟨d_state_from, [Str.ofString "machine", Str.ofString "state", Str.ofString "word", Str.ofString "letter"], [Str.ofString "machine", Str.ofString "state", Str.ofString "word"], top 18⟩
def g_state_behind : Sg := ⟨d_state_behind, [Str.ofString "machine", Str.ofString "word"], [Str.ofString "machine", Str.ofString "word"], top 19⟩
def g_takes_word : Sg := ⟨d_takes_word, [Str.ofString "machine", Str.ofString "word"], [Str.ofString "machine", Str.ofString "word"], top 20⟩
def g__law_draws : Sg := ⟨d__law_draws, [Str.ofString "script", Str.ofString "many", Str.ofString "cells", Str.ofString "cell", Str.ofString "rest", Str.ofString "draws", Str.ofString "k", Str.ofString "at", Str.ofString "once"], [Str.ofString "script", Str.ofString "many"], top 22⟩
def g__law_take : Sg := ⟨d__law_take, [Str.ofString "draws", Str.ofString "many"], [Str.ofString "draws", Str.ofString "many"], top 23⟩
def g__law_cell : Sg := ⟨d__law_cell, [Str.ofString "script", Str.ofString "cell"], [Str.ofString "script"], top 24⟩
def g__law_same : Sg := ⟨d__law_same, [Str.ofString "actual", Str.ofString "due", Str.ofString "k"], [Str.ofString "actual", Str.ofString "due"], top 25⟩
def g__law_behind : Sg := ⟨d__law_behind, [Str.ofString "machine", Str.ofString "word", Str.ofString "state", Str.ofString "letter"], [Str.ofString "machine", Str.ofString "word"], top 26⟩
def g__law_takes : Sg := ⟨d__law_takes, [Str.ofString "machine", Str.ofString "word"], [Str.ofString "machine", Str.ofString "word"], top 27⟩
def g__law_machine : Sg := ⟨d__law_machine, [Str.ofString "draws", Str.ofString "tracks", Str.ofString "size", Str.ofString "table", Str.ofString "k", Str.ofString "letter"], [Str.ofString "draws", Str.ofString "tracks", Str.ofString "size"], top 28⟩
def g__law_words : Sg := ⟨d__law_words, [Str.ofString "tracks", Str.ofString "length", Str.ofString "found", Str.ofString "rows", Str.ofString "k", Str.ofString "longer", Str.ofString "word", Str.ofString "letter"], [Str.ofString "tracks", Str.ofString "length"], top 29⟩
def g__law_doubled : Sg := ⟨d__law_doubled, [Str.ofString "draws", Str.ofString "machine", Str.ofString "size", Str.ofString "table", Str.ofString "k", Str.ofString "state"], [Str.ofString "draws", Str.ofString "machine"], top 30⟩
def g__law_rows : Sg := ⟨d__law_rows, [Str.ofString "machine", Str.ofString "words", Str.ofString "rows", Str.ofString "state", Str.ofString "row", Str.ofString "word", Str.ofString "at", Str.ofString "letter"], [Str.ofString "machine", Str.ofString "words"], top 31⟩
def g__law_rounds : Sg := ⟨d__law_rounds, [Str.ofString "machine", Str.ofString "classes", Str.ofString "end", Str.ofString "rounds", Str.ofString "turn", Str.ofString "keys", Str.ofString "later", Str.ofString "k", Str.ofString "key", Str.ofString "state"], [Str.ofString "machine"], top 32⟩
def g__law_is_map : Sg := ⟨d__law_is_map, [Str.ofString "machine", Str.ofString "other", Str.ofString "places", Str.ofString "k", Str.ofString "state"], [Str.ofString "machine", Str.ofString "other", Str.ofString "places"], top 33⟩
def g__law_is_right_for : Sg := ⟨d__law_is_right_for, [Str.ofString "draws", Str.ofString "machine", Str.ofString "words", Str.ofString "cell", Str.ofString "rows", Str.ofString "classes", Str.ofString "row", Str.ofString "least", Str.ofString "own", Str.ofString "found", Str.ofString "state", Str.ofString "word", Str.ofString "places", Str.ofString "at", Str.ofString "number", Str.ofString "bent"], [Str.ofString "draws", Str.ofString "machine", Str.ofString "words", Str.ofString "cell"], top 34⟩
def g_law : Sg := ⟨d_law, [Str.ofString "script", Str.ofString "draws", Str.ofString "cell", Str.ofString "turn", Str.ofString "tracks", Str.ofString "machine", Str.ofString "some", Str.ofString "line"], [Str.ofString "script"], top 35⟩
def sgl : List Sg := [g_order_of_states, g_numbers_by, g_machine_in_order, g_is_in_order, g_classes_by, g_parted_classes, g_state_classes, g_with_states_joined, g_least_machine, g_is_least_machine, g_least_size, g_map_to_least, g_is_map_at, g_judge_map, g_rounds_to_part, g_state_from, g_state_behind, g_takes_word, g__law_draws, g__law_take, g__law_cell, g__law_same, g__law_behind, g__law_takes, g__law_machine, g__law_words, g__law_doubled, g__law_rows, g__law_rounds, g__law_is_map, g__law_is_right_for, g_law]
def bns : List Str := [Str.ofString "all", Str.ofString "bool", Str.ofString "int", Str.ofString "isinstance", Str.ofString "len", Str.ofString "list", Str.ofString "range", Str.ofString "set", Str.ofString "str", Str.ofString "tuple"]
def xns : List Str := []
def xss : List XF := []
theorem ok_order_of_states : GOk bns xns xss sgl g_order_of_states := ⟨⟨rfl, rfl, rfl, by decide +kernel, rfl, by decide +kernel, by decide +kernel⟩, by decide +kernel, by rfl, fun _ _ _ _ _ _ us hl => match us, hl with | [_], _ => rfl⟩
theorem ok_numbers_by : GOk bns xns xss sgl g_numbers_by := ⟨⟨rfl, rfl, rfl, by decide +kernel, rfl, by decide +kernel, by decide +kernel⟩, by decide +kernel, by rfl, fun _ _ _ _ _ _ us hl => match us, hl with | [_, _], _ => rfl⟩
theorem ok_machine_in_order : GOk bns xns xss sgl g_machine_in_order := ⟨⟨rfl, rfl, rfl, by decide +kernel, rfl, by decide +kernel, by decide +kernel⟩, by decide +kernel, by rfl, fun _ _ _ _ _ _ us hl => match us, hl with | [_], _ => rfl⟩
theorem ok_is_in_order : GOk bns xns xss sgl g_is_in_order := ⟨⟨rfl, rfl, rfl, by decide +kernel, rfl, by decide +kernel, by decide +kernel⟩, by decide +kernel, by rfl, fun _ _ _ _ _ _ us hl => match us, hl with | [_], _ => rfl⟩
theorem ok_classes_by : GOk bns xns xss sgl g_classes_by := ⟨⟨rfl, rfl, rfl, by decide +kernel, rfl, by decide +kernel, by decide +kernel⟩, by decide +kernel, by rfl, fun _ _ _ _ _ _ us hl => match us, hl with | [_], _ => rfl⟩
theorem ok_parted_classes : GOk bns xns xss sgl g_parted_classes := ⟨⟨rfl, rfl, rfl, by decide +kernel, rfl, by decide +kernel, by decide +kernel⟩, by decide +kernel, by rfl, fun _ _ _ _ _ _ us hl => match us, hl with | [_, _], _ => rfl⟩
theorem ok_state_classes : GOk bns xns xss sgl g_state_classes := ⟨⟨rfl, rfl, rfl, by decide +kernel, rfl, by decide +kernel, by decide +kernel⟩, by decide +kernel, by rfl, fun _ _ _ _ _ _ us hl => match us, hl with | [_], _ => rfl⟩
theorem ok_with_states_joined : GOk bns xns xss sgl g_with_states_joined := ⟨⟨rfl, rfl, rfl, by decide +kernel, rfl, by decide +kernel, by decide +kernel⟩, by decide +kernel, by rfl, fun _ _ _ _ _ _ us hl => match us, hl with | [_, _], _ => rfl⟩
theorem ok_least_machine : GOk bns xns xss sgl g_least_machine := ⟨⟨rfl, rfl, rfl, by decide +kernel, rfl, by decide +kernel, by decide +kernel⟩, by decide +kernel, by rfl, fun _ _ _ _ _ _ us hl => match us, hl with | [_], _ => rfl⟩
theorem ok_is_least_machine : GOk bns xns xss sgl g_is_least_machine := ⟨⟨rfl, rfl, rfl, by decide +kernel, rfl, by decide +kernel, by decide +kernel⟩, by decide +kernel, by rfl, fun _ _ _ _ _ _ us hl => match us, hl with | [_], _ => rfl⟩
theorem ok_least_size : GOk bns xns xss sgl g_least_size := ⟨⟨rfl, rfl, rfl, by decide +kernel, rfl, by decide +kernel, by decide +kernel⟩, by decide +kernel, by rfl, fun _ _ _ _ _ _ us hl => match us, hl with | [_], _ => rfl⟩
theorem ok_map_to_least : GOk bns xns xss sgl g_map_to_least := ⟨⟨rfl, rfl, rfl, by decide +kernel, rfl, by decide +kernel, by decide +kernel⟩, by decide +kernel, by rfl, fun _ _ _ _ _ _ us hl => match us, hl with | [_], _ => rfl⟩
theorem ok_is_map_at : GOk bns xns xss sgl g_is_map_at := ⟨⟨rfl, rfl, rfl, by decide +kernel, rfl, by decide +kernel, by decide +kernel⟩, by decide +kernel, by rfl, fun _ _ _ _ _ _ us hl => match us, hl with | [_, _, _, _], _ => rfl⟩
theorem ok_judge_map : GOk bns xns xss sgl g_judge_map := ⟨⟨rfl, rfl, rfl, by decide +kernel, rfl, by decide +kernel, by decide +kernel⟩, by decide +kernel, by rfl, fun _ _ _ _ _ _ us hl => match us, hl with | [_, _, _], _ => rfl⟩
theorem ok_rounds_to_part : GOk bns xns xss sgl g_rounds_to_part := ⟨⟨rfl, rfl, rfl, by decide +kernel, rfl, by decide +kernel, by decide +kernel⟩, by decide +kernel, by rfl, fun _ _ _ _ _ _ us hl => match us, hl with | [_], _ => rfl⟩
theorem ok_state_from : GOk bns xns xss sgl g_state_from := ⟨⟨rfl, rfl, rfl, by decide +kernel, rfl, by decide +kernel, by decide +kernel⟩, by decide +kernel, by rfl, fun _ _ _ _ _ _ us hl => match us, hl with | [_, _, _], _ => rfl⟩
theorem ok_state_behind : GOk bns xns xss sgl g_state_behind := ⟨⟨rfl, rfl, rfl, by decide +kernel, rfl, by decide +kernel, by decide +kernel⟩, by decide +kernel, by rfl, fun _ _ _ _ _ _ us hl => match us, hl with | [_, _], _ => rfl⟩
theorem ok_takes_word : GOk bns xns xss sgl g_takes_word := ⟨⟨rfl, rfl, rfl, by decide +kernel, rfl, by decide +kernel, by decide +kernel⟩, by decide +kernel, by rfl, fun _ _ _ _ _ _ us hl => match us, hl with | [_, _], _ => rfl⟩
theorem ok__law_draws : GOk bns xns xss sgl g__law_draws := ⟨⟨rfl, rfl, rfl, by decide +kernel, rfl, by decide +kernel, by decide +kernel⟩, by decide +kernel, by rfl, fun _ _ _ _ _ _ us hl => match us, hl with | [_, _], _ => rfl⟩
theorem ok__law_take : GOk bns xns xss sgl g__law_take := ⟨⟨rfl, rfl, rfl, by decide +kernel, rfl, by decide +kernel, by decide +kernel⟩, by decide +kernel, by rfl, fun _ _ _ _ _ _ us hl => match us, hl with | [_, _], _ => rfl⟩
theorem ok__law_cell : GOk bns xns xss sgl g__law_cell := ⟨⟨rfl, rfl, rfl, by decide +kernel, rfl, by decide +kernel, by decide +kernel⟩, by decide +kernel, by rfl, fun _ _ _ _ _ _ us hl => match us, hl with | [_], _ => rfl⟩
theorem ok__law_same : GOk bns xns xss sgl g__law_same := ⟨⟨rfl, rfl, rfl, by decide +kernel, rfl, by decide +kernel, by decide +kernel⟩, by decide +kernel, by rfl, fun _ _ _ _ _ _ us hl => match us, hl with | [_, _], _ => rfl⟩
theorem ok__law_behind : GOk bns xns xss sgl g__law_behind := ⟨⟨rfl, rfl, rfl, by decide +kernel, rfl, by decide +kernel, by decide +kernel⟩, by decide +kernel, by rfl, fun _ _ _ _ _ _ us hl => match us, hl with | [_, _], _ => rfl⟩
theorem ok__law_takes : GOk bns xns xss sgl g__law_takes := ⟨⟨rfl, rfl, rfl, by decide +kernel, rfl, by decide +kernel, by decide +kernel⟩, by decide +kernel, by rfl, fun _ _ _ _ _ _ us hl => match us, hl with | [_, _], _ => rfl⟩
theorem ok__law_machine : GOk bns xns xss sgl g__law_machine := ⟨⟨rfl, rfl, rfl, by decide +kernel, rfl, by decide +kernel, by decide +kernel⟩, by decide +kernel, by rfl, fun _ _ _ _ _ _ us hl => match us, hl with | [_, _, _], _ => rfl⟩
theorem ok__law_words : GOk bns xns xss sgl g__law_words := ⟨⟨rfl, rfl, rfl, by decide +kernel, rfl, by decide +kernel, by decide +kernel⟩, by decide +kernel, by rfl, fun _ _ _ _ _ _ us hl => match us, hl with | [_, _], _ => rfl⟩
theorem ok__law_doubled : GOk bns xns xss sgl g__law_doubled := ⟨⟨rfl, rfl, rfl, by decide +kernel, rfl, by decide +kernel, by decide +kernel⟩, by decide +kernel, by rfl, fun _ _ _ _ _ _ us hl => match us, hl with | [_, _], _ => rfl⟩
theorem ok__law_rows : GOk bns xns xss sgl g__law_rows := ⟨⟨rfl, rfl, rfl, by decide +kernel, rfl, by decide +kernel, by decide +kernel⟩, by decide +kernel, by rfl, fun _ _ _ _ _ _ us hl => match us, hl with | [_, _], _ => rfl⟩
theorem ok__law_rounds : GOk bns xns xss sgl g__law_rounds := ⟨⟨rfl, rfl, rfl, by decide +kernel, rfl, by decide +kernel, by decide +kernel⟩, by decide +kernel, by rfl, fun _ _ _ _ _ _ us hl => match us, hl with | [_], _ => rfl⟩
theorem ok__law_is_map : GOk bns xns xss sgl g__law_is_map := ⟨⟨rfl, rfl, rfl, by decide +kernel, rfl, by decide +kernel, by decide +kernel⟩, by decide +kernel, by rfl, fun _ _ _ _ _ _ us hl => match us, hl with | [_, _, _], _ => rfl⟩
theorem ok__law_is_right_for : GOk bns xns xss sgl g__law_is_right_for := ⟨⟨rfl, rfl, rfl, by decide +kernel, rfl, by decide +kernel, by decide +kernel⟩, by decide +kernel, by rfl, fun _ _ _ _ _ _ us hl => match us, hl with | [_, _, _, _], _ => rfl⟩
theorem ok_law : GOk bns xns xss sgl g_law := ⟨⟨rfl, rfl, rfl, by decide +kernel, rfl, by decide +kernel, by decide +kernel⟩, by decide +kernel, by rfl, fun _ _ _ _ _ _ us hl => match us, hl with | [_], _ => rfl⟩
theorem oks : ∀ g ∈ sgl, GOk bns xns xss sgl g := by
  intro g hg
  simp only [sgl, List.mem_cons, List.not_mem_nil, or_false] at hg
  rcases hg with rfl | rfl | rfl | rfl | rfl | rfl | rfl | rfl | rfl | rfl | rfl | rfl | rfl | rfl | rfl | rfl | rfl | rfl | rfl | rfl | rfl | rfl | rfl | rfl | rfl | rfl | rfl | rfl | rfl | rfl | rfl | rfl
  · exact ok_order_of_states
  · exact ok_numbers_by
  · exact ok_machine_in_order
  · exact ok_is_in_order
  · exact ok_classes_by
  · exact ok_parted_classes
  · exact ok_state_classes
  · exact ok_with_states_joined
  · exact ok_least_machine
  · exact ok_is_least_machine
  · exact ok_least_size
  · exact ok_map_to_least
  · exact ok_is_map_at
  · exact ok_judge_map
  · exact ok_rounds_to_part
  · exact ok_state_from
  · exact ok_state_behind
  · exact ok_takes_word
  · exact ok__law_draws
  · exact ok__law_take
  · exact ok__law_cell
  · exact ok__law_same
  · exact ok__law_behind
  · exact ok__law_takes
  · exact ok__law_machine
  · exact ok__law_words
  · exact ok__law_doubled
  · exact ok__law_rows
  · exact ok__law_rounds
  · exact ok__law_is_map
  · exact ok__law_is_right_for
  · exact ok_law
end K06
namespace K06
open PySem PySem.Spec PyProof.Rows L2 PF
abbrev R : PySem.W.OpenRow := PySem.W.OpenLaw.row PySem.Challenge.rw_everynumber_k06_whole_least_machines
abbrev fas : List He.Fa := faL bns sgl
abbrev fns : List He.DefD := fnL sgl
abbrev hk : PySem.W.Hook := hookN 4 xns xss fas fns
def loose : List PySem.Str := [(PySem.Str.ofString "order_of_states"), (PySem.Str.ofString "numbers_by"), (PySem.Str.ofString "machine_in_order"), (PySem.Str.ofString "is_in_order"), (PySem.Str.ofString "classes_by"), (PySem.Str.ofString "parted_classes"), (PySem.Str.ofString "state_classes"), (PySem.Str.ofString "with_states_joined"), (PySem.Str.ofString "least_machine"), (PySem.Str.ofString "is_least_machine"), (PySem.Str.ofString "least_size"), (PySem.Str.ofString "map_to_least"), (PySem.Str.ofString "is_map_at"), (PySem.Str.ofString "judge_map"), (PySem.Str.ofString "rounds_to_part"), (PySem.Str.ofString "state_from"), (PySem.Str.ofString "state_behind"), (PySem.Str.ofString "takes_word"), (PySem.Str.ofString "_law_draws"), (PySem.Str.ofString "_law_take"), (PySem.Str.ofString "_law_cell"), (PySem.Str.ofString "_law_same"), (PySem.Str.ofString "_law_behind"), (PySem.Str.ofString "_law_takes"), (PySem.Str.ofString "_law_machine"), (PySem.Str.ofString "_law_words"), (PySem.Str.ofString "_law_doubled"), (PySem.Str.ofString "_law_rows"), (PySem.Str.ofString "_law_rounds"), (PySem.Str.ofString "_law_is_map"), (PySem.Str.ofString "_law_is_right_for")]
theorem run (w : World) : HandSHeadRun.RunEq R (PySem.W.view R.prog [35]) hk (obN 4 xns xss fas fns) 2000 loose w := by
  intro os
  kernel_rfl
theorem holds_of (main : ∀ ns : List Int, ns.length ≤ 63 → ∃ fs, callL prog W 40 "law" [.val (.lst (ns.map .int))] = some (.dat (.bl true), fs)) : PySem.Challenge.rw_everynumber_k06_whole_least_machines.Holds := by
  w_on; o_law
  refine HandSHeadRun.head_any (r := PySem.W.OpenLaw.row PySem.Challenge.rw_everynumber_k06_whole_least_machines) (q := PySem.W.view (PySem.W.OpenLaw.row PySem.Challenge.rw_everynumber_k06_whole_least_machines).prog [35]) (H := hk) (ob := obN 4 xns xss fas fns) (M := 2000) (loose := loose) (d := HandSHeadRun.topDef (PySem.W.OpenLaw.row PySem.Challenge.rw_everynumber_k06_whole_least_machines).prog 35) (kwd := []) (obN_eq 4 xns xss fas fns)
    (by kernel_rfl) (fun s => by kernel_rfl) run (by kernel_rfl) (by kernel_rfl) (by kernel_rfl) (by rfl) (by first | assumption | decide +kernel) (by decide +kernel) ⟨rfl, rfl, rfl, rfl, rfl, by decide +kernel⟩ ?hw ?hc
  case hw => w_witness2
  case hc => exact pf_walk (rl := PySem.Challenge.rw_everynumber_k06_whole_least_machines) (n := 63) (k := 40) (W := W) (bn := bns) (l := sgl) (law := g_law) (x := "script") rfl (by decide) (by kernel_rfl) ⟨rfl, by decide, by decide⟩ oks (by simp [sgl]) rfl (by kernel_rfl) main
end K06
theorem PySem.Challenge.cw_everynumber_k06_whole_least_machines_holds : PySem.Challenge.rw_everynumber_k06_whole_least_machines.Holds := by
  exact K06.holds_of (W := 100000) fun ns hl => K06.main ns hl
