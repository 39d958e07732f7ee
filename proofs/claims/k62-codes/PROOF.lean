import PyProof.Rows.All
import Wide.All
import OpenK.AllK
import Wide.FinOn
import HandS.ForMost
import HandS.Deep
import HandS.TupSets
import KE.DataCmp
import KE.KeyNested
import KE.KDictKeyed
import KE.KDictCopyH
import HandS.Dict
import PyProof.Rows.TupTab
import HandS.TupLe
import HandS.Wide
import HandS.WideBits
import HandS.TupMul
import HandS.TupAny
import HandS.Style
import HandS.IsInst
import KE.KIndexOf
import HandS.SortInts
import HandS.More
import HandS.WordsDict
import KE.KDictPairs
import HandS.Iter
import HandS.Comp
import HandS.Flow
import HandS.SetIn
import HandS.ExcIs
import HandS.ExcOwn
import HandS.WordsExc
import HandS.TryOnly
import HandS.HeadHook1
import HandS.Strs
import HandS.SetFor
import HandS.Conv
import KE.KDictDisplayH
import PyProof.ExcBaseAll.ValueError
import KE.KStateDown
import HandS.Head0
import HandS.Head1
import HandS.Head2
import HandS.HeadEnd
import HandS.HeadHook2
import PySem.Challenge.RW_everynumber_k62_codes_told
set_option Elab.async false
set_option linter.all false
set_option maxRecDepth 100000
set_option maxHeartbeats 0
/-! PF1: the small language and its evaluator over plain data. -/
namespace PF
open PySem

inductive D where
  | non | bl (b : Bool) | int (i : Int) | str (s : Str)
  | tup (xs : List D) | lst (xs : List D) | set (xs : List D) | dct (ks : List D) (vs : List D) | dkt (ks : List D) (vs : List D) | fn (f : Str)
deriving Inhabited

/-- what a name holds: nothing, data (never written again), or an object that this name alone owns -/
inductive Slot where
  | un | val (d : D) | own (d : D)
deriving Inhabited
/-- what an expression gives: data, a new object, or the object that a name owns -/
inductive Opd where
  | dat (d : D) | own (d : D) | slot (i : Nat)
deriving Inhabited
abbrev Env := List Slot
abbrev Cl := Str → List Slot → Option (Opd × List Slot)

inductive Op2 where
  | add | sub | mul | fdiv | mod | pow | shl | shr | band | bor | bxor
deriving DecidableEq
inductive Cm where
  | eq | ne | lt | le | gt | ge | isin | notin | is | isnot
deriving DecidableEq
inductive Blt where
  | len | sum | max | min | abs | int | tuple | list | set | sorted | any | all | dict
deriving DecidableEq
inductive Ty where
  | bool | int | str | tuple | list
deriving DecidableEq
inductive Mt where
  | append | pop | reverse | extend | add | insert | index | count | get
deriving DecidableEq
inductive Tg where
  | nm (i : Nat) | tp (is : List Nat)
deriving DecidableEq

inductive E where
  | var (i : Nat)
  | int (i : Int) | bl (b : Bool) | non | str (s : Str)
  | tup (es : List E) | lst (es : List E)
  | bin (op : Op2) (a b : E) | neg (a : E) | not (a : E)
  | cmp (op : Cm) (a b : E) | chain (op op2 : Cm) (a b c : E)
  | and (es : List E) | or (es : List E)
  | ite (c a b : E)
  | idx (a i : E) | slc (a lo hi : E) | rev (a : E)
  | call (f : Str) (es : List E)
  | blt (b : Blt) (es : List E)
  | isi (a : E) (t : Ty)
  | mut (m : Mt) (i : Nat) (es : List E)
  | mth (m : Mt) (a : E) (es : List E)
  | rng (es : List E)
  | lc (own : List Nat) (tg : Tg) (src : E) (cond : List E) (elt : E)
  | lc2 (own : List Nat) (tg : Tg) (src : E) (cond : List E) (vs1 : List Nat) (tg1 : Tg) (src1 : E) (cond1 : List E) (elt : E)
  | sset (a : E)
  | dget (a k x : E) | dpop (i : Nat) (k x : E)
  | sdsp (a : E) | dnew | dsp1 (k v : E) | lrng (t : Bool) (es : List E)
deriving Inhabited

/-- what the suite of an except clause does: it returns a truth; it returns (or: if .. it returns True, else None) whether the caught error is of some classes -/
inductive Hd where
  | ret (b : Bool)
  | tests (nn : Bool) (ts : List (Bool × List Str × List Str))
deriving Inhabited

inductive S where
  | set (i : Nat) (e : E)
  | unp (is : List Nat) (e : E)
  | par (i j : Nat) (a b : E)
  | sub (i : Nat) (ix e : E)
  | sub2 (i : Nat) (ix jx e : E)
  | aug (op : Op2) (i : Nat) (e : E)
  | expr (e : E)
  | ret (e : E)
  | ite (c : E) (a b : List S)
  | whl (c : E) (b : List S)
  | for (tg : Tg) (src : E) (b : List S)
  | brk | pass | stop
  | raise (f : Str)
  | tryc (f : Str) (es : List E) (x : Str) (all yes : List Str) (a : Option Nat) (h : Hd)
deriving Inhabited

/-! ### data -/
def D.isNon : D → Bool
  | .non => true
  | _ => false
mutual
def D.py : D → PyData
  | .non => .none | .bl b => .bool b | .int i => .int i | .str s => .str s
  | .tup xs => .tuple (D.pys xs) | .lst xs => .list (D.pys xs)
  | .set _ => .dict [] | .dct _ _ => .dict [] | .dkt _ _ => .dict [] | .fn _ => .dict []
def D.pys : List D → List PyData
  | [] => [] | x :: xs => x.py :: D.pys xs
end
/-- == of data -/
def deq (a b : D) : Bool := PyData.eqv a.py b.py
/-- not a set, not a dict -/
def D.plain : D → Bool
  | .set _ => false | .dct _ _ => false | .dkt _ _ => false | .fn _ => false | _ => true
def shp (a : D) : Bool := a.plain && SeqAt.shaped a.py

def look (env : Env) (i : Nat) : Slot := (env[i]?).getD .un
/-- an operand as it is read -/
def view (env : Env) : Opd → Option D
  | .dat d => some d
  | .own d => some d
  | .slot i => match look env i with | .own d => some d | _ => none
def views (env : Env) : List Opd → Option (List D)
  | [] => some []
  | o :: os => match view env o, views env os with | some d, some ds => some (d :: ds) | _, _ => none
/-- an operand as data: a list is kept as it is from here on -/
def toD (env : Env) : Opd → Option (D × Env)
  | .dat d => some (d, env)
  | .own (.lst xs) => some (.lst xs, env)
  | .own (.dct ks vs) => some (.dct ks vs, env)
  | .own _ => none
  | .slot i => match look env i with | .own (.lst xs) => some (.lst xs, env.set i (.val (.lst xs))) | .own (.dct ks vs) => some (.dct ks vs, env.set i (.val (.dct ks vs))) | _ => none

def intsD : List D → Option (List Int)
  | [] => some []
  | .int i :: r => (intsD r).map (i :: ·)
  | _ :: _ => none
def blsD : List D → Option (List Bool)
  | [] => some []
  | .bl b :: r => (blsD r).map (b :: ·)
  | _ :: _ => none

def b2i (b : Bool) : Int := if b then 1 else 0
def small64 (i : Int) : Bool := decide (-(2 ^ 64) < i) && decide (i < 2 ^ 64)
def line : Nat := 16777216

/-- two-place operations -/
def op2 : Op2 → D → D → Option Opd
  | .add, .int i, .int j => some (.dat (.int (i + j)))
  | .add, .int i, .bl b => some (.dat (.int (i + b2i b)))
  | .add, .str x, .str y => if x.length + y.length ≤ line then some (.dat (.str (x ++ y))) else none
  | .add, .tup xs, .tup ys => if xs.length + ys.length ≤ line then some (.dat (.tup (xs ++ ys))) else none
  | .add, .lst xs, .lst ys => if xs.length + ys.length ≤ line then some (.own (.lst (xs ++ ys))) else none
  | .sub, .int i, .int j => some (.dat (.int (i - j)))
  | .mul, .int i, .int j => if small64 i || small64 j || decide (i.natAbs.log2 + j.natAbs.log2 < 1000000) then some (.dat (.int (i * j))) else none
  | .mul, .tup xs, .int k => if xs.length * k.toNat ≤ line ∧ -(2 ^ 63) ≤ k ∧ k < 2 ^ 63 then some (.dat (.tup (List.replicate k.toNat xs).flatten)) else none
  | .mul, .lst xs, .int k => if xs.length * k.toNat ≤ line ∧ -(2 ^ 63) ≤ k ∧ k < 2 ^ 63 then some (.own (.lst (List.replicate k.toNat xs).flatten)) else none
  | .fdiv, .int i, .int j => if 0 < j ∧ (j < 1073741824 ∨ j.natAbs.log2 < 9000) then some (.dat (.int (i / j))) else none
  | .mod, .int i, .int j => if 0 < j then some (.dat (.int (i % j))) else none
  | .pow, .int i, .int j => if 0 ≤ j ∧ j ≤ 1000000 ∧ i.natAbs < 2 ^ 64 then some (.dat (.int (i ^ j.toNat))) else none
  | .shl, .int i, .int j => if 0 ≤ j ∧ (Builtin.Int.intBits i : Int) + j ≤ 2 ^ 27 then some (.dat (.int (i * 2 ^ j.toNat))) else none
  | .shr, .int i, .int j => if 0 ≤ j then some (.dat (.int (i / 2 ^ j.toNat))) else none
  | .band, .int i, .int j => some (.dat (.int (Builtin.bitAnd i j)))
  | .bor, .int i, .int j => some (.dat (.int (Builtin.bitOr i j)))
  | .bxor, .int i, .int j => some (.dat (.int (Builtin.bitXor i j)))
  | _, _, _ => none

/-- order of tuples of numbers (lexicographic) -/
abbrev lexI : List Int → List Int → Bool := HT.lexLt

/-- data of one kind, place by place; their order -/
def alk (a b : D) : Bool := PySem.W.alike a.py b.py && shp a && shp b
def ltD (a b : D) : Bool := PySem.W.dataLt a.py b.py
def memD (x : D) (ys : List D) : Bool := ys.any fun y => deq y x
/-- a number among some -/
def memI (k : Int) (xs : List D) : Bool := xs.any fun d => match d with | .int j => decide (j = k) | _ => false
/-- what a dict of numbers holds; with a value put in -/
def getI : List D → List D → Int → Option D
  | .int j :: ks, v :: vs, k => if j = k then some v else getI ks vs k
  | _, _, _ => none
def repI : List D → List D → Int → D → List D
  | .int j :: ks, v :: vs, k, d => (if j = k then d else v) :: repI ks vs k d
  | _, _, _, _ => []
def putI (ks vs : List D) (k : Int) (d : D) : List D := if memI k ks then repI ks vs k d else vs ++ [d]
def addI (k : Int) (ks : List D) : List D := if memI k ks then ks else ks ++ [.int k]
/-- what is left without a number -/
def dropKs : List D → Int → List D
  | .int j :: ks, k => if j = k then dropKs ks k else .int j :: dropKs ks k
  | _, _ => []
def dropVs : List D → List D → Int → List D
  | .int j :: ks, v :: vs, k => if j = k then dropVs ks vs k else v :: dropVs ks vs k
  | _, _, _ => []
/-- a dict of pairs -/
def mkD : List D → List D → List D → Option (List D × List D)
  | ks, vs, [] => some (ks, vs)
  | ks, vs, .tup [.int k, d] :: r => mkD (addI k ks) (putI ks vs k d) r
  | _, _, _ => none
mutual
/-- a key that is no text -/
def nk : D → Option NestedKey
  | .non => some .none | .int i => some (.num i) | .bl b => some (.num (if b = true then 1 else 0))
  | .tup xs => (nks xs).map .tup
  | _ => none
def nks : List D → Option (List NestedKey)
  | [] => some []
  | x :: xs => match nk x, nks xs with | some k, some r => some (k :: r) | _, _ => none
end
def isTupD : D → Bool
  | .tup _ => true | _ => false
def isBlD : D → Bool
  | .bl _ => true | _ => false
/-- what may be asked of a dict with these keys -/
def ckey (ks : List D) : D → Option NestedKey
  | .tup xs => if ks.all isTupD then match nk (.tup xs) with | some q => if q.depth ≤ 8 then some q else none | none => none else none
  | .bl b => if ks.all isBlD then some (.num (if b = true then 1 else 0)) else none
  | _ => none
def getT : List D → List D → NestedKey → Option D
  | k :: ks, v :: vs, q => if nk k = some q then some v else getT ks vs q
  | _, _, _ => none
def memT (q : NestedKey) (ks : List D) : Bool := ks.any fun k => decide (nk k = some q)
def repT : List D → List D → NestedKey → D → List D
  | k :: ks, v :: vs, q, d => (if nk k = some q then d else v) :: repT ks vs q d
  | _, _, _, _ => []
def putT (ks vs : List D) (q : NestedKey) (d : D) : List D := if memT q ks then repT ks vs q d else vs ++ [d]
def addT (k : D) (q : NestedKey) (ks : List D) : List D := if memT q ks then ks else ks ++ [k]
/-- a dict of such keys, or an empty one -/
def dkv : D → Option (List D × List D)
  | .dkt ks vs => some (ks, vs)
  | .dct [] [] => some ([], [])
  | _ => none
def inT (x y : D) : Option Bool := match dkv y with | some (ks, _) => (ckey ks x).map fun q => memT q ks | none => none
def cm : Cm → D → D → Option Bool
  | .eq, a, b => if shp a && shp b then some (deq a b) else none
  | .ne, a, b => if shp a && shp b then some (!deq a b) else none
  | .lt, .int i, .int j => some (decide (i < j))
  | .le, .int i, .int j => some (decide (i ≤ j))
  | .gt, .int i, .int j => some (decide (j < i))
  | .ge, .int i, .int j => some (decide (j ≤ i))
  | .lt, .tup xs, .tup ys => match intsD xs, intsD ys with | some a, some b => some (lexI a b) | _, _ => if alk (.tup xs) (.tup ys) then some (ltD (.tup xs) (.tup ys)) else none
  | .gt, .tup xs, .tup ys => if alk (.tup xs) (.tup ys) then some (ltD (.tup ys) (.tup xs)) else none
  | .le, .tup xs, .tup ys => if alk (.tup xs) (.tup ys) then some (!ltD (.tup ys) (.tup xs)) else none
  | .ge, .tup xs, .tup ys => if alk (.tup xs) (.tup ys) then some (!ltD (.tup xs) (.tup ys)) else none
  | .isin, x, .tup ys => if shp x && shp (.tup ys) then some (memD x ys) else none
  | .isin, x, .lst ys => if shp x && shp (.lst ys) then some (memD x ys) else none
  | .notin, x, .tup ys => if shp x && shp (.tup ys) then some (!memD x ys) else none
  | .notin, x, .lst ys => if shp x && shp (.lst ys) then some (!memD x ys) else none
  | .isin, .int k, .set xs => some (memI k xs)
  | .notin, .int k, .set xs => some (!memI k xs)
  | .isin, .int k, .dct ks _ => some (memI k ks)
  | .notin, .int k, .dct ks _ => some (!memI k ks)
  | .isin, x, y => inT x y
  | .notin, x, y => (inT x y).map (!·)
  | .is, x, .non => some x.isNon
  | .isnot, x, .non => some (!x.isNon)
  | .is, .bl a, .bl b => some (decide (a = b))
  | .isnot, .bl a, .bl b => some (!decide (a = b))
  | _, _, _ => none

def truth : D → Option Bool
  | .bl b => some b
  | .non => some false
  | .int i => some (i != 0)
  | .tup xs => some (!xs.isEmpty)
  | .lst xs => some (!xs.isEmpty)
  | _ => none

/-- Python's index: from behind where it is less than 0 -/
abbrev ixn : Nat → Int → Option Nat := L2.ixN
abbrev atD (xs : List D) (i : Int) : Option D := L2.atI xs i
def idxD : D → D → Option D
  | .tup xs, .int i => atD xs i
  | .lst xs, .int i => atD xs i
  | .dct ks vs, .int k => getI ks vs k
  | .dkt ks vs, x => match ckey ks x with | some q => getT ks vs q | none => none
  | _, _ => none
/-- a place of a slice -/
abbrev sIx : Nat → Nat → Option Int → Nat := HT.sIx
def cut (xs : List D) (lo hi : Option Int) : List D := (xs.drop (sIx xs.length 0 lo)).take (sIx xs.length xs.length hi - sIx xs.length 0 lo)
def part : E → D → Option (Option Int)
  | .non, _ => some none
  | _, .int i => some (some i)
  | _, _ => none
def slcD : D → Option Int → Option Int → Option Opd
  | .tup xs, lo, hi => some (.dat (.tup (cut xs lo hi)))
  | .lst xs, lo, hi => some (.own (.lst (cut xs lo hi)))
  | _, _, _ => none
def revD : D → Option Opd
  | .tup xs => some (.dat (.tup xs.reverse))
  | .lst xs => some (.own (.lst xs.reverse))
  | _ => none

def maxI : Int → List Int → Int
  | m, [] => m
  | m, x :: xs => maxI (if x > m then x else m) xs
def minI : Int → List Int → Int
  | m, [] => m
  | m, x :: xs => minI (if x < m then x else m) xs
def insI (x : Int) : List Int → List Int
  | [] => [x]
  | y :: ys => if x ≤ y then x :: y :: ys else y :: insI x ys
def sortI : List Int → List Int
  | [] => []
  | x :: xs => insI x (sortI xs)
def seqOf : D → Option (List D)
  | .tup xs => some xs
  | .lst xs => some xs
  | _ => none
def dedI : List Int → List Int
  | [] => []
  | x :: xs => x :: (dedI xs).filter (· != x)
def setI (xs : List Int) : D := .set ((dedI xs).map .int)

def bltD : Blt → List D → Option Opd
  | .len, [.tup xs] => some (.dat (.int xs.length))
  | .len, [.lst xs] => some (.dat (.int xs.length))
  | .len, [.dct ks _] => some (.dat (.int ks.length))
  | .len, [.dkt ks _] => some (.dat (.int ks.length))
  | .len, [.set xs] => some (.dat (.int xs.length))
  | .set, [.lst xs] => match intsD xs with | some ns => if ns.length < 3000 then some (.own (setI ns)) else none | none => none
  | .len, [.str s] => if s.length ≤ line then some (.dat (.int s.length)) else none
  | .sum, [.tup xs] => (intsD xs).map fun ns => .dat (.int ns.sum)
  | .sum, [.lst xs] => (intsD xs).map fun ns => .dat (.int ns.sum)
  | .max, [.lst xs] => match intsD xs with | some (n :: ns) => some (.dat (.int (maxI n ns))) | _ => none
  | .min, [.lst xs] => match intsD xs with | some (n :: ns) => some (.dat (.int (minI n ns))) | _ => none
  | .max, [.int i, .int j] => some (.dat (.int (if j > i then j else i)))
  | .min, [.int i, .int j] => some (.dat (.int (if j < i then j else i)))
  | .abs, [.int i] => some (.dat (.int (if i < 0 then -i else i)))
  | .int, [.int i] => some (.dat (.int i))
  | .int, [.bl b] => some (.dat (.int (b2i b)))
  | .tuple, [.tup xs] => some (.dat (.tup xs))
  | .tuple, [.lst xs] => some (.dat (.tup xs))
  | .list, [.tup xs] => some (.own (.lst xs))
  | .list, [.lst xs] => some (.own (.lst xs))
  | .sorted, [.lst xs] => (intsD xs).map fun ns => .own (.lst ((sortI ns).map .int))
  | .sorted, [.dct ks _] => match intsD ks with | some ns => if ns.length < 64 then some (.own (.lst ((sortI ns).map .int))) else none | none => none
  | .any, [.lst xs] => (blsD xs).map fun bs => .dat (.bl (bs.any id))
  | .all, [.lst xs] => (blsD xs).map fun bs => .dat (.bl (bs.all id))
  | .dict, [.lst xs] => if xs.length ≤ line then (mkD [] [] xs).map fun q => .own (.dct q.1 q.2) else none
  | .dict, [.tup xs] => if xs.length ≤ line then (mkD [] [] xs).map fun q => .own (.dct q.1 q.2) else none
  | _, _ => none

/-- tuples of numbers -/
def rowsD : List D → Option (List (List Int))
  | [] => some []
  | .tup ys :: r => match intsD ys, rowsD r with | some a, some b => some (a :: b) | _, _ => none
  | _ :: _ => none
def insR (B : Int) (x : List Int) : List (List Int) → List (List Int)
  | [] => [x]
  | y :: ys => if x = y then y :: ys else if TS.code B x ≤ TS.code B y then x :: y :: ys else y :: insR B x ys
def sortR (B : Int) : List (List Int) → List (List Int)
  | [] => []
  | x :: xs => insR B x (sortR B xs)
/-- numbers below 64 (sorted sets of rows) -/
def rowsOk (d : Nat) (rs : List (List Int)) : Bool := rs.all fun r => decide (r.length = d) && r.all fun i => decide (0 ≤ i) && decide (i < 64)
/-- sorted(set(x)) -/
def isLst : D → Bool
  | .lst _ => true | _ => false
def ssetR (x : D) : Option (List D) := match seqOf x with
  | some xs => match rowsD xs with
    | some (r :: rs) => if (decide (1 ≤ r.length) || rs.isEmpty) && rowsOk r.length (r :: rs) && decide (xs.length < 64) then some ((sortR 64 (r :: rs)).map fun z => .tup (z.map .int)) else none
    | _ => none
  | none => none

def ssetD (x : D) : Option (List D) := match x with
  | .lst xs => match intsD xs with
    | some ns => if ns.length < 64 then some ((sortI (dedI ns)).map .int) else none
    | none => ssetR (.lst xs)
  | .tup xs => match intsD xs with
    | some ns => if ns.length < 64 then some ((sortI (dedI ns)).map .int) else none
    | none => ssetR (.tup xs)
  | x => ssetR x

/-- a datum's type -/
inductive Kd where
  | non | bl | int | str | tup | lst
deriving DecidableEq
def kd : D → Option Kd
  | .non => some .non | .bl _ => some .bl | .int _ => some .int | .str _ => some .str | .tup _ => some .tup | .lst _ => some .lst
  | _ => none
def isK : Ty → Kd → Bool
  | .bool, .bl => true
  | .int, .bl => true
  | .int, .int => true
  | .str, .str => true
  | .tuple, .tup => true
  | .list, .lst => true
  | _, _ => false
def isiD (t : Ty) (d : D) : Option Bool := match kd d with | some k => some (isK t k) | none => none

/-- methods that change the list (or set) that a name owns: the result, and what is left -/
def mutD : Mt → D → List D → Option (D × D)
  | .append, .lst xs, [y] => if xs.length < line then some (.non, .lst (xs ++ [y])) else none
  | .pop, .lst xs, [] => match xs.getLast? with | some y => some (y, .lst xs.dropLast) | none => none
  | .reverse, .lst xs, [] => some (.non, .lst xs.reverse)
  | .pop, .lst xs, [.int i] => if 0 ≤ i then match xs[i.toNat]? with | some y => some (y, .lst (xs.eraseIdx i.toNat)) | none => none else none
  | .add, .set xs, [.int k] => if xs.length + 1 < 4000 then some (.non, .set (addI k xs)) else none
  | _, _, _ => none
/-- the kind of object that a method wantsM -/
def wantsM : Mt → D → Bool
  | .add, .set _ => true
  | .add, _ => false
  | _, .lst _ => true
  | _, _ => false
/-- the first place of a number -/
def indexD (ys : List D) : D → Option D
  | .int k => match intsD ys with
    | some ns => if k ∈ ns then some (.int (ns.idxOf k : Nat)) else none
    | none => none
  | _ => none
def isSeq : D → Bool
  | .tup _ => true | .lst _ => true | _ => false
def sameQ : D → D → Bool
  | .tup _, .tup _ => true | .lst _, .lst _ => true | _, _ => false
/-- the first place of what is the same -/
def fstD (x : D) (ys : List D) : Option Nat := ys.findIdx? fun y => deq y x
def mthD : Mt → D → List D → Option D
  | .index, .tup ys, [x] => indexD ys x
  | .index, .lst ys, [x] => match indexD ys x with
    | some r => some r
    | none => if shp x && shp (.lst ys) && decide (ys.length ≤ line) then (fstD x ys).map fun (j : Nat) => .int j else none
  | .count, .lst ys, [.bl b] => (blsD ys).map fun bs => .int (bs.count b : Nat)
  | _, _, _ => none

/-- the turns of range -/
def rngL (a b s : Int) : List D :=
  if 0 < s then (List.range ((b - a + s - 1) / s).toNat).map fun (k : Nat) => .int (a + s * (k : Int))
  else if s < 0 then (List.range ((a - b - s - 1) / (-s)).toNat).map fun (k : Nat) => .int (a + s * (k : Int))
  else []
def okR (i : Int) : Bool := decide (-(2 ^ 62) ≤ i) && decide (i < 2 ^ 62)
def rngD : List D → Option (List D)
  | [.int b] => if okR b then some (rngL 0 b 1) else none
  | [.int a, .int b] => if okR a && okR b then some (rngL a b 1) else none
  | [.int a, .int b, .int s] => if okR a && okR b && okR s && s != 0 then some (rngL a b s) else none
  | _ => none

def setAll : Env → List Nat → List D → Option Env
  | env, [], [] => some env
  | env, i :: is, d :: ds => setAll (env.set i (.val d)) is ds
  | _, _, _ => none
def bindT (env : Env) : Tg → D → Option Env
  | .nm i, d => some (env.set i (.val d))
  | .tp is, .tup ds => setAll env is ds
  | .tp _, _ => none
def wipeE (env : Env) : List Nat → Env
  | [] => env
  | i :: is => (wipeE env is).set i .un
/-- the slots at some places as they stood -/
def backE (old : Env) (env : Env) : List Nat → Env
  | [] => env
  | i :: is => (backE old env is).set i (look old i)

/-- the names that are lent to a call -/
def lend : List Opd → Env → Option (List Slot × Env)
  | [], env => some ([], env)
  | .dat d :: r, env => match lend r env with | some (ss, env) => some (.val d :: ss, env) | none => none
  | .own d :: r, env => match lend r env with | some (ss, env) => some (.own d :: ss, env) | none => none
  | .slot i :: r, env => match look env i with
    | .own d => match lend r (env.set i .un) with | some (ss, env) => some (.own d :: ss, env) | none => none
    | _ => none
def giveBack : List Opd → List Slot → Env → Env
  | .slot i :: r, s :: ss, env => giveBack r ss (env.set i s)
  | _ :: r, _ :: ss, env => giveBack r ss env
  | _, _, env => env

def lcLoop (f : D → Env → Option (Option D × Env)) : List D → Env → Option (List D × Env)
  | [], env => some ([], env)
  | x :: xs, env => match f x env with
    | none => none
    | some (none, env) => lcLoop f xs env
    | some (some d, env) => match lcLoop f xs env with
      | some (ds, env) => some (d :: ds, env)
      | none => none

def lcLoop2 (f : D → Env → Option (List D × Env)) : List D → Env → Option (List D × Env)
  | [], env => some ([], env)
  | x :: xs, env => match f x env with
    | none => none
    | some (ds, env) => match lcLoop2 f xs env with
      | some (es, env) => some (ds ++ es, env)
      | none => none

/-- what a loop walks: its items, once for all -/
def itemsOf (env : Env) (o : Opd) : Option (List D × Env) :=
  match toD env o with
  | some (.tup xs, env) => some (xs, env)
  | some (.lst xs, env) => some (xs, env)
  | some (.dct ks _, env) => some (ks, env)
  | _ => none

/-- as a value, as a test, as what is walked -/
inductive Md where
  | v | t | i
/-- a value in its use -/
def fin : Md → Option (Opd × Env) → Option (Opd × Env)
  | .v, x => x
  | .t, some (o, env) => match view env o with
    | some d => match truth d with | some b => some (.dat (.bl b), env) | none => none
    | none => none
  | .i, some (o, env) => match itemsOf env o with | some (xs, env) => some (.dat (.tup xs), env) | none => none
  | _, none => none
def Md.tv : Md → Md
  | .t => .t
  | _ => .v

section
variable (c : Cl)
mutual
def ev : E → Md → Env → Option (Opd × Env)
  | .var i, md, env => fin md (match look env i with
    | .un => none
    | .val d => some (.dat d, env)
    | .own _ => some (.slot i, env))
  | .int i, md, env => fin md (some (.dat (.int i), env))
  | .bl b, md, env => fin md (some (.dat (.bl b), env))
  | .non, md, env => fin md (some (.dat .non, env))
  | .str s, md, env => fin md (some (.dat (.str s), env))
  | .tup es, md, env => fin md (match evds es env with
    | some (ds, env) => if ds.length ≤ line then some (.dat (.tup ds), env) else none
    | none => none)
  | .lst es, md, env => fin md (match evds es env with
    | some (ds, env) => if ds.length ≤ line then some (.own (.lst ds), env) else none
    | none => none)
  | .bin op a b, md, env => fin md (match ev a .v env with
    | none => none
    | some (x, env) => match ev b .v env with
      | none => none
      | some (y, env) => match view env x, view env y with
        | some d, some e => match op2 op d e with | some r => some (r, env) | none => none
        | _, _ => none)
  | .neg a, md, env => fin md (match ev a .v env with
    | some (.dat (.int i), env) => some (.dat (.int (-i)), env)
    | _ => none)
  | .not a, md, env => fin md (match (match md with | .t => ev a .t env | _ => fin .t (ev a .v env)) with
    | some (.dat (.bl b), env) => some (.dat (.bl (!b)), env)
    | _ => none)
  | .cmp op a b, md, env => fin md (match ev a .v env with
    | none => none
    | some (x, env) => match ev b .v env with
      | none => none
      | some (y, env) => match view env x, view env y with
        | some d, some e => match cm op d e with | some r => some (.dat (.bl r), env) | none => none
        | _, _ => none)
  | .chain op op2 a b c, md, env => fin md (match ev a .v env with
    | none => none
    | some (x, env) => match ev b .v env with
      | none => none
      | some (y, env) => match view env x, view env y with
        | some d, some e => match cm op d e with
          | none => none
          | some false => some (.dat (.bl false), env)
          | some true => match ev c .v env with
            | none => none
            | some (z, env) => match view env y, view env z with
              | some e, some g => match cm op2 e g with | some r => some (.dat (.bl r), env) | none => none
              | _, _ => none
        | _, _ => none)
  | .and es, md, env => fin md (evAnd es md.tv env)
  | .or es, md, env => fin md (evOr es md.tv env)
  | .ite t a b, md, env => match ev t .t env with
    | some (.dat (.bl true), env) => ev a md env
    | some (.dat (.bl false), env) => ev b md env
    | _ => none
  | .idx a i, md, env => fin md (match ev a .v env with
    | none => none
    | some (x, env) => match ev i .v env with
      | none => none
      | some (y, env) => match view env x, view env y with
        | some d, some e => match idxD d e with | some r => some (.dat r, env) | none => none
        | _, _ => none)
  | .slc a lo hi, md, env => fin md (match ev a .v env with
    | none => none
    | some (x, env) => match ev lo .v env with
      | some (.dat l, env) => match ev hi .v env with
        | some (.dat h, env) => match view env x, part lo l, part hi h with
          | some d, some l, some h => match slcD d l h with | some r => some (r, env) | none => none
          | _, _, _ => none
        | _ => none
      | _ => none)
  | .rev a, md, env => fin md (match ev a .v env with
    | none => none
    | some (x, env) => match view env x with
      | some d => match revD d with | some r => some (r, env) | none => none
      | none => none)
  | .call f es, md, env => fin md (match evs es env with
    | none => none
    | some (os, env) => match lend os env with
      | none => none
      | some (ss, env) => match c f ss with
        | none => none
        | some (r, fs) => some (r, giveBack os fs env))
  | .blt b es, md, env => fin md (match evs es env with
    | none => none
    | some (os, env) => match views env os with
      | none => none
      | some ds => match bltD b ds with | some r => some (r, env) | none => none)
  | .isi a t, md, env => fin md (match ev a .v env with
    | none => none
    | some (x, env) => match view env x with
      | some d => match isiD t d with | some b => some (.dat (.bl b), env) | none => none
      | none => none)
  | .mut m i es, md, env => fin md (match look env i with
    | .own d0 => if wantsM m d0 then match evds es env with
      | none => none
      | some (ds, env) => match look env i with
        | .own d => match mutD m d ds with
          | some (r, d) => some (.dat r, env.set i (.own d))
          | none => none
        | _ => none
      else none
    | _ => none)
  | .mth m a es, md, env => fin md (match ev a .v env with
    | none => none
    | some (x, env) => match view env x with
      | none => none
      | some d0 => if isSeq d0 then match evds es env with
        | none => none
        | some (ds, env) => match view env x with
          | none => none
          | some d => if sameQ d0 d then match mthD m d ds with | some r => some (.dat r, env) | none => none else none
        else none)
  | .rng es, md, env => match md with
    | .i => match evds es env with
      | some (ds, env) => match rngD ds with | some xs => some (.dat (.tup xs), env) | none => none
      | none => none
    | _ => none
  | .lc own tg src cond elt, md, env => fin md (match ev src .i env with
    | some (.dat (.tup xs), env) => match lcLoop (fun x env => match bindT (wipeE env own) tg x with
        | none => none
        | some env => match evAnd cond .t env with
          | some (.dat (.bl true), env) => match ev elt .v env with
            | none => none
            | some (o, env) => match toD env o with
              | some (d, env) => some (some d, env)
              | none => none
          | some (.dat (.bl false), env) => some (none, env)
          | _ => none) xs env with
      | some (ds, env') => if ds.length ≤ line then some (.own (.lst ds), backE env env' own) else none
      | none => none
    | _ => none)
  | .lc2 own tg src cond vs1 tg1 src1 cond1 elt, md, env => fin md (match ev src .i env with
    | some (.dat (.tup xs), env) => match lcLoop2 (fun x env => match bindT (wipeE env own) tg x with
        | none => none
        | some env => match evAnd cond .t env with
          | some (.dat (.bl true), env) => match ev src1 .i env with
            | some (.dat (.tup ys), env) => lcLoop (fun x env => match bindT (wipeE env vs1) tg1 x with
              | none => none
              | some env => match evAnd cond1 .t env with
                | some (.dat (.bl true), env) => match ev elt .v env with
                  | none => none
                  | some (o, env) => match toD env o with
                    | some (d, env) => some (some d, env)
                    | none => none
                | some (.dat (.bl false), env) => some (none, env)
                | _ => none) ys env
            | _ => none
          | some (.dat (.bl false), env) => some ([], env)
          | _ => none) xs env with
      | some (ds, env') => if ds.length ≤ line then some (.own (.lst ds), backE env env' own) else none
      | none => none
    | _ => none)
  | .sset a, md, env => fin md (match ev a .v env with
    | none => none
    | some (x, env) => match view env x with
      | some d => match ssetD d with | some xs => some (.own (.lst xs), env) | none => none
      | none => none)
  | .dget a k x, md, env => fin md (match ev a .v env with
    | none => none
    | some (o, env) => match view env o with
      | some (.dct _ _) => match ev k .v env with
        | some (.dat (.int kk), env) => match ev x .v env with
          | some (.dat d, env) => match view env o with
            | some (.dct ks vs) => some (.dat ((getI ks vs kk).getD d), env)
            | _ => none
          | _ => none
        | _ => none
      | _ => none)
  | .dpop i k x, md, env => fin md (match look env i with
    | .own (.dct _ _) => match ev k .v env with
      | some (.dat (.int kk), env) => match ev x .v env with
        | some (.dat d, env) => match look env i with
          | .own (.dct ks vs) => some (.dat ((getI ks vs kk).getD d), env.set i (.own (.dct (dropKs ks kk) (dropVs ks vs kk))))
          | _ => none
        | _ => none
      | _ => none
    | _ => none)
  | .sdsp a, md, env => fin md (match ev a .v env with
    | some (.dat (.int i), env) => some (.own (.set [.int i]), env)
    | _ => none)
  | .dnew, md, env => fin md (some (.own (.dct [] []), env))
  | .dsp1 k v, md, env => fin md (match ev k .v env with
    | some (.dat (.int i), env) => match ev v .v env with
      | none => none
      | some (o, env) => match toD env o with
        | some (d, env) => some (.own (.dct [.int i] [d]), env)
        | none => none
    | some (.dat (.tup xs), env) => match ckey [] (.tup xs) with
      | none => none
      | some _ => match ev v .v env with
        | none => none
        | some (o, env) => match toD env o with
          | some (d, env) => some (.own (.dkt [.tup xs] [d]), env)
          | none => none
    | _ => none)
  | .lrng t es, md, env => fin md (match evds es env with
    | some (ds, env) => match rngD ds with
      | some xs => if xs.length ≤ line then some (if t then .dat (.tup xs) else .own (.lst xs), env) else none
      | none => none
    | none => none)
def evs : List E → Env → Option (List Opd × Env)
  | [], env => some ([], env)
  | e :: es, env => match ev e .v env with
    | none => none
    | some (o, env) => match evs es env with
      | none => none
      | some (os, env) => some (o :: os, env)
/-- .. as data -/
def evds : List E → Env → Option (List D × Env)
  | [], env => some ([], env)
  | e :: es, env => match ev e .v env with
    | none => none
    | some (o, env) => match toD env o with
      | none => none
      | some (d, env) => match evds es env with
        | none => none
        | some (ds, env) => some (d :: ds, env)
def evAnd : List E → Md → Env → Option (Opd × Env)
  | [], _, env => some (.dat (.bl true), env)
  | e :: es, md, env => match ev e md env with
    | some (.dat (.bl false), env) => some (.dat (.bl false), env)
    | some (.dat (.bl true), env) => evAnd es md env
    | _ => none
def evOr : List E → Md → Env → Option (Opd × Env)
  | [], _, env => some (.dat (.bl false), env)
  | e :: es, md, env => match ev e md env with
    | some (.dat (.bl true), env) => some (.dat (.bl true), env)
    | some (.dat (.bl false), env) => evOr es md env
    | _ => none
end
end

/-! ### statements -/
inductive R where
  | nx (env : Env) | ret (o : Opd) (env : Env) | brk (env : Env) | exc (f : Str) (env : Env)
deriving Inhabited
/-- a value that is given out -/
def giveOut (env : Env) : Opd → Option (Opd × Env)
  | .slot i => match look env i with | .own d => some (.own d, env.set i .un) | _ => none
  | .dat d => some (.dat d, env)
  | .own d => some (.own d, env)
/-- a value that a name takes -/
def store (env : Env) (i : Nat) : Opd → Option Env
  | .dat d => some (env.set i (.val d))
  | .own d => some (env.set i (.own d))
  | .slot j => match look env j with | .own (.lst xs) => some ((env.set j (.val (.lst xs))).set i (.val (.lst xs))) | .own (.dct ks vs) => some ((env.set j (.val (.dct ks vs))).set i (.val (.dct ks vs))) | _ => none
def whlLoop (f : Env → Option (Option R × Env)) : Nat → Env → Option R
  | 0, _ => none
  | n + 1, env => match f env with
    | none => none
    | some (some r, _) => some r
    | some (none, env) => whlLoop f n env
def forLoop (f : D → Env → Option R) : List D → Env → Option R
  | [], env => some (.nx env)
  | x :: xs, env => match f x env with
    | some (.nx env) => forLoop f xs env
    | some (.brk env) => some (.nx env)
    | r => r
def setL : D → D → D → Option D
  | .lst xs, .int k, d => (ixn xs.length k).map fun j => .lst (xs.set j d)
  | .dct ks vs, .int k, d => if ks.length < line then some (.dct (addI k ks) (putI ks vs k d)) else none
  | l, k, d => match dkv l with
    | some (ks, vs) => match ckey ks k with
      | some q => if ks.length < line then some (.dkt (addT k q ks) (putT ks vs q d)) else none
      | none => none
    | none => none

/-- what a suite of an except clause gives for an error of the class g -/
def hdV : Hd → Str → D
  | .ret b, _ => .bl b
  | .tests nn ts, g => if nn then (if ts.all fun t => decide (t.2.2.contains g = t.1) then .bl true else .non) else .bl (ts.all fun t => decide (t.2.2.contains g = t.1))
/-- all is data -/
def dats : List Opd → Option (List Slot)
  | [] => some []
  | .dat d :: r => (dats r).map (.val d :: ·)
  | _ :: _ => none
/-- asked of a def ahead of its arguments: whether it raises -/
def mark : Slot := .val (.fn (Str.ofString ""))
def okI (env : Env) : Option Nat → Bool
  | none => true
  | some i => decide (i < env.length)
def noOwn (ss : List Slot) : Bool := ss.all fun s => match s with | .own _ => false | _ => true

/-- n op= k, of ints -/
def aug2 : Op2 → D → D → Option D
  | .add, .int i, .int j => some (.int (i + j))
  | .sub, .int i, .int j => some (.int (i - j))
  | _, _, _ => none

section
variable (c : Cl) (W : Nat)
mutual
def ex : S → Env → Option R
  | .set i e, env => match ev c e .v env with
    | none => none
    | some (o, env) => match store env i o with | some env => some (.nx env) | none => none
  | .unp is e, env => match ev c e .v env with
    | none => none
    | some (o, env) => match toD env o with
      | some (.tup ds, env) => match setAll env is ds with | some env => some (.nx env) | none => none
      | _ => none
  | .par i j a b, env => match evds c [a, b] env with
    | some ([d, e], env) => some (.nx ((env.set i (.val d)).set j (.val e)))
    | _ => none
  | .sub i ix e, env => match ev c e .v env with
    | none => none
    | some (o, env) => match toD env o with
      | none => none
      | some (d, env) => match look env i with
        | .own _ => match ev c ix .v env with
          | some (.dat k, env) => match look env i with
            | .own l => match setL l k d with | some l => some (.nx (env.set i (.own l))) | none => none
            | _ => none
          | _ => none
        | _ => none
  | .sub2 i ix jx e, env => match ev c e .v env with
    | some (.dat (.tup [d, d2]), env) => match look env i with
      | .own _ => match ev c ix .v env with
        | some (.dat (.int k), env) => match look env i with
          | .own (.lst xs) => match ixn xs.length k with
            | some j => match ev c jx .v (env.set i (.own (.lst (xs.set j d)))) with
              | some (.dat (.int k2), env) => match look env i with
                | .own (.lst ys) => match ixn ys.length k2 with
                  | some j2 => some (.nx (env.set i (.own (.lst (ys.set j2 d2)))))
                  | none => none
                | _ => none
              | _ => none
            | none => none
          | _ => none
        | _ => none
      | _ => none
    | _ => none
  | .aug op i e, env => match look env i with
    | .val _ => match ev c e .v env with
      | none => none
      | some (o, env) => match view env o, look env i with
        | some y, .val x => match aug2 op x y with
          | some r => some (.nx (env.set i (.val r)))
          | none => none
        | _, _ => none
    | _ => none
  | .expr e, env => match ev c e .v env with
    | some (_, env) => some (.nx env)
    | none => none
  | .ret e, env => match ev c e .v env with
    | none => none
    | some (o, env) => match giveOut env o with | some (o, env) => some (.ret o env) | none => none
  | .ite t a b, env => match ev c t .t env with
    | some (.dat (.bl true), env) => exs a env
    | some (.dat (.bl false), env) => exs b env
    | _ => none
  | .whl t b, env => whlLoop (fun env => match ev c t .t env with
      | some (.dat (.bl false), env) => some (some (.nx env), env)
      | some (.dat (.bl true), env) => match exs b env with
        | none => none
        | some (.nx env) => some (none, env)
        | some (.brk env) => some (some (.nx env), env)
        | some (.ret o env) => some (some (.ret o env), env)
        | some (.exc f env) => some (some (.exc f env), env)
      | _ => none) W env
  | .for tg src b, env => match ev c src .i env with
    | some (.dat (.tup xs), env) => forLoop (fun x env => match bindT env tg x with
      | none => none
      | some env => exs b env) xs env
    | _ => none
  | .brk, env => some (.brk env)
  | .pass, env => some (.nx env)
  | .stop, _ => none
  | .raise f, env => some (.exc f env)
  | .tryc f es _ all yes a h, env => match evs c es env with
    | none => none
    | some (os, env) => match dats os with
      | none => none
      | some ss => match c f ss with
        | some _ => some (.nx env)
        | none => match c f (mark :: ss) with
          | some (.dat (.str g), []) => if all.contains g && okI env a then (if yes.contains g then some (.ret (.dat (hdV h g)) env) else some (.exc g env)) else none
          | _ => none
def exs : List S → Env → Option R
  | [], env => some (.nx env)
  | s :: ss, env => match ex s env with
    | some (.nx env) => exs ss env
    | r => r
end
end

/-- a def: its name, how many parameters, how many names, its body -/
structure Fd where
  name : Str
  ps : Nat
  n : Nat
  /-- the parameters that the body never stores to -/
  keep : List Nat
  body : List S
deriving Inhabited
def finals (fd : Fd) (env : Env) : List Slot := (List.range fd.ps).map fun j => if fd.keep.contains j then look env j else .un
/-- the call of a def, by levels -/
def callL (prog : List Fd) (W : Nat) : Nat → Cl
  | 0, _, _ => none
  | k + 1, f, ss => match prog.find? (fun d => d.name == f) with
    | none => none
    | some fd => if ss.length = fd.ps ∧ fd.ps ≤ fd.n then
        match exs (callL prog W k) W fd.body (ss ++ List.replicate (fd.n - fd.ps) .un) with
        | some (.ret (.dat d) env) => some (.dat d, finals fd env)
        | some (.ret (.own d) env) => some (.own d, finals fd env)
        | some (.nx env) => some (.dat .non, finals fd env)
        | _ => none
      else match ss with
        | .val (.fn _) :: ss => if ss.length = fd.ps ∧ fd.ps ≤ fd.n ∧ noOwn ss = true then
            match exs (callL prog W k) W fd.body (ss ++ List.replicate (fd.n - fd.ps) .un) with
            | some (.exc g _) => some (.dat (.str g), [])
            | _ => none
          else none
        | _ => none
end PF
/-! PF2: how plain data lies in the abstract heap; transitions; the ghost step that keeps a list as it is. -/
namespace PF
open PySem PySem.Spec PyProof.Rows L2
abbrev St := List (Option V)

/-- a tuple that is read -/
def TupAt (K : PySem.W.Frag) (H : Hp) (a : Addr) (xs : List V) : Prop :=
  (∃ o, H a = some (.frz o (.tup xs)) ∧ o.dict = none) ∨
  ∃ (o : Obj) (its : Array Value) (n : Nat), K.lookup a = some o ∧ o.cls = .type "tuple" ∧ o.dict = none ∧ o.data = .seq its n ∧ its.size ≤ sizeLine ∧ Vals xs its.toList
theorem TupAt.sq {K : PySem.W.Frag} {H : Hp} {a : Addr} {xs : List V} (h : TupAt K H a xs) : SqT K H a xs := by
  rcases h with ⟨o, h, _⟩ | ⟨o, its, n, h1, h2, _, h3, h4, h5⟩
  · exact .inl (.inr ⟨o, h⟩)
  · exact .inr ⟨o, its, n, h1, h2, h3, h4, h5⟩

mutual
def Rp (K : PySem.W.Frag) (H : Hp) : D → V → Prop
  | .non, v => v = .non
  | .bl b, v => v = .bl b
  | .int i, v => v = .int i
  | .str s, v => v = .str s
  | .tup ds, v => ∃ a xs, v = .ref a ∧ TupAt K H a xs ∧ Rps K H ds xs
  | .lst ds, v => ∃ a o xs, v = .ref a ∧ H a = some (.frz o (.lst xs)) ∧ Rps K H ds xs
  | .set _, _ => False
  | .dkt _ _, _ => False
  | .dct ks vs, v => ∃ a o, ∃ kvs : List (Int × V), v = .ref a ∧ ks = kvs.map (fun q => D.int q.1) ∧ H a = some (.frz o (.dK (kvs.map fun q => (Sum.inl q.1, q.2)))) ∧ Rps K H vs (kvs.map (·.2))
  | .fn _, _ => False
def Rps (K : PySem.W.Frag) (H : Hp) : List D → List V → Prop
  | [], vs => vs = []
  | d :: ds, vs => ∃ v r, vs = v :: r ∧ Rp K H d v ∧ Rps K H ds r
end

/-- what is kept as it is stays -/
def Kp (H H' : Hp) : Prop := ∀ a o u, H a = some (.frz o u) → H' a = some (.frz o u)
theorem Kp.refl (H : Hp) : Kp H H := fun _ _ _ h => h
theorem Kp.trans {H H1 H2 : Hp} (a : Kp H H1) (b : Kp H1 H2) : Kp H H2 := fun x o u h => b x o u (a x o u h)
theorem kp_same {H H' : Hp} (h : Same H H') : Kp H H' := fun a o u e => h _ _ e
theorem TupAt.mono {K : PySem.W.Frag} {H H' : Hp} (k : Kp H H') {a : Addr} {xs : List V} (h : TupAt K H a xs) : TupAt K H' a xs := by
  rcases h with ⟨o, h, d⟩ | h
  · exact .inl ⟨o, k _ _ _ h, d⟩
  · exact .inr h
mutual
theorem Rp.mono {K : PySem.W.Frag} {H H' : Hp} (k : Kp H H') : ∀ {d : D} {v : V}, Rp K H d v → Rp K H' d v
  | .non, _, h => h | .bl _, _, h => h | .int _, _, h => h | .str _, _, h => h
  | .tup ds, _, h => by
    obtain ⟨a, xs, e, t, r⟩ := h
    exact ⟨a, xs, e, t.mono k, Rps.mono k r⟩
  | .lst ds, _, h => by
    obtain ⟨a, o, xs, e, t, r⟩ := h
    exact ⟨a, o, xs, e, k _ _ _ t, Rps.mono k r⟩
  | .dct ks vs, _, h => by
    obtain ⟨a, o, kvs, e, e2, t, r⟩ := h
    exact ⟨a, o, kvs, e, e2, k _ _ _ t, Rps.mono k r⟩
  | .set _, _, h => h.elim | .dkt _ _, _, h => h.elim | .fn _, _, h => h.elim
theorem Rps.mono {K : PySem.W.Frag} {H H' : Hp} (k : Kp H H') : ∀ {ds : List D} {vs : List V}, Rps K H ds vs → Rps K H' ds vs
  | [], _, h => h
  | d :: ds, _, h => by
    obtain ⟨v, r, e, h1, h2⟩ := h
    exact ⟨v, r, e, Rp.mono k h1, Rps.mono k h2⟩
end
section
variable {K : PySem.W.Frag} {H H' : Hp}
theorem Rps.nil : Rps K H [] [] := rfl
theorem Rps.cons {d : D} {ds : List D} {v : V} {vs : List V} (h : Rp K H d v) (t : Rps K H ds vs) : Rps K H (d :: ds) (v :: vs) := ⟨v, vs, rfl, h, t⟩
theorem Rps.length : ∀ {ds : List D} {vs : List V}, Rps K H ds vs → vs.length = ds.length
  | [], _, h => by rw [show _ = [] from h]; rfl
  | d :: ds, _, h => by
    obtain ⟨v, r, e, _, h2⟩ := h
    rw [e, List.length_cons, List.length_cons, Rps.length h2]
theorem Rps.get : ∀ {ds : List D} {vs : List V} {i : Nat} {d : D}, Rps K H ds vs → ds[i]? = some d → ∃ v, vs[i]? = some v ∧ Rp K H d v
  | [], _, _, _, _, e => by simp at e
  | d :: ds, _, 0, _, h, e => by
    obtain ⟨v, r, rfl, h1, _⟩ := h
    simp at e; subst e
    exact ⟨v, rfl, h1⟩
  | d :: ds, _, i + 1, _, h, e => by
    obtain ⟨v, r, rfl, _, h2⟩ := h
    obtain ⟨w, e2, q⟩ := Rps.get (i := i) h2 (by simpa using e)
    exact ⟨w, by simpa using e2, q⟩
theorem Rps.of_get : ∀ {ds : List D} {vs : List V}, vs.length = ds.length → (∀ (i : Nat) d v, ds[i]? = some d → vs[i]? = some v → Rp K H d v) → Rps K H ds vs
  | [], vs, hl, _ => List.eq_nil_of_length_eq_zero hl
  | d :: ds, [], hl, _ => by simp at hl
  | d :: ds, v :: vs, hl, h => ⟨v, vs, rfl, h 0 d v rfl rfl, Rps.of_get (by simpa using hl) fun i d' v' e1 e2 => h (i + 1) d' v' (by simpa using e1) (by simpa using e2)⟩
theorem Rps.at {ds : List D} {vs : List V} {i : Nat} {d : D} {v : V} (h : Rps K H ds vs) (e : ds[i]? = some d) (e2 : vs[i]? = some v) : Rp K H d v := by
  obtain ⟨w, e3, q⟩ := h.get e
  rw [e2] at e3; cases e3; exact q
theorem Rps.append {ds es : List D} {vs ws : List V} (h : Rps K H ds vs) (t : Rps K H es ws) : Rps K H (ds ++ es) (vs ++ ws) := by
  refine .of_get (by rw [List.length_append, List.length_append, h.length, t.length]) fun i d v e1 e2 => ?_
  by_cases hi : i < ds.length
  · rw [List.getElem?_append_left hi] at e1
    rw [List.getElem?_append_left (by rw [h.length]; exact hi)] at e2
    exact h.at e1 e2
  · rw [List.getElem?_append_right (by omega)] at e1
    rw [List.getElem?_append_right (by rw [h.length]; omega), h.length] at e2
    exact t.at e1 e2
theorem Rps.take {ds : List D} {vs : List V} (n : Nat) (h : Rps K H ds vs) : Rps K H (ds.take n) (vs.take n) := by
  refine .of_get (by rw [List.length_take, List.length_take, h.length]) fun i d v e1 e2 => ?_
  rw [List.getElem?_take] at e1 e2
  split at e1
  · rename_i hi; rw [if_pos hi] at e2; exact h.at e1 e2
  · cases e1
theorem Rps.drop {ds : List D} {vs : List V} (n : Nat) (h : Rps K H ds vs) : Rps K H (ds.drop n) (vs.drop n) := by
  refine .of_get (by rw [List.length_drop, List.length_drop, h.length]) fun i d v e1 e2 => ?_
  rw [List.getElem?_drop] at e1 e2
  exact h.at e1 e2
theorem Rps.reverse {ds : List D} {vs : List V} (h : Rps K H ds vs) : Rps K H ds.reverse vs.reverse := by
  have hl := h.length
  refine .of_get (by rw [List.length_reverse, List.length_reverse, hl]) fun i d v e1 e2 => ?_
  have hi : i < ds.length := by
    obtain ⟨q, _⟩ := List.getElem?_eq_some_iff.mp e1
    simpa using q
  rw [List.getElem?_reverse hi] at e1
  rw [List.getElem?_reverse (by omega), hl] at e2
  exact h.at e1 e2
theorem Rps.rep {ds : List D} {vs : List V} (h : Rps K H ds vs) : ∀ n : Nat, Rps K H (List.replicate n ds).flatten (List.replicate n vs).flatten
  | 0 => .nil
  | n + 1 => by
    rw [List.replicate_succ, List.replicate_succ, List.flatten_cons, List.flatten_cons]
    exact h.append (Rps.rep h n)
theorem Rps.set {ds : List D} {vs : List V} {d : D} {v : V} (h : Rps K H ds vs) (r : Rp K H d v) (j : Nat) : Rps K H (ds.set j d) (vs.set j v) := by
  refine .of_get (by rw [List.length_set, List.length_set, h.length]) fun i d' v' e1 e2 => ?_
  rw [List.getElem?_set] at e1 e2
  by_cases hj : j = i
  · rw [if_pos hj] at e1 e2
    split at e1
    · cases e1
      split at e2
      · cases e2; exact r
      · cases e2
    · cases e1
  · rw [if_neg hj] at e1 e2; exact h.at e1 e2
theorem Rps.dropLast {ds : List D} {vs : List V} (h : Rps K H ds vs) : Rps K H ds.dropLast vs.dropLast := by
  rw [List.dropLast_eq_take, List.dropLast_eq_take, h.length]
  exact h.take _
theorem Rps.intsD : ∀ {ds : List D} {vs : List V} {ns : List Int}, Rps K H ds vs → intsD ds = some ns → vs = ns.map V.int
  | [], _, ns, h, e => by
    rw [show _ = [] from h]
    have : ns = [] := by simpa [PF.intsD] using e.symm
    rw [this]; rfl
  | d :: ds, _, ns, h, e => by
    obtain ⟨v, r, rfl, h1, h2⟩ := h
    cases d with
    | int i =>
      unfold PF.intsD at e
      obtain ⟨ms, e1, rfl⟩ := Option.map_eq_some_iff.mp e
      rw [Rps.intsD h2 e1, show v = .int i from h1]
      rfl
    | _ => simp [PF.intsD] at e
theorem Rps.of_ints : ∀ (ns : List Int), Rps K H (ns.map D.int) (ns.map V.int)
  | [] => .nil
  | n :: ns => .cons rfl (Rps.of_ints ns)
theorem Rps.blsD : ∀ {ds : List D} {vs : List V} {ns : List Bool}, Rps K H ds vs → blsD ds = some ns → vs = ns.map V.bl
  | [], _, ns, h, e => by
    rw [show _ = [] from h]
    have : ns = [] := by simpa [PF.blsD] using e.symm
    rw [this]; rfl
  | d :: ds, _, ns, h, e => by
    obtain ⟨v, r, rfl, h1, h2⟩ := h
    cases d with
    | bl i =>
      unfold PF.blsD at e
      obtain ⟨ms, e1, rfl⟩ := Option.map_eq_some_iff.mp e
      rw [Rps.blsD h2 e1, show v = .bl i from h1]
      rfl
    | _ => simp [PF.blsD] at e

mutual
theorem Rp.dp : ∀ {d : D} {v : V}, Rp K H d v → d.py.canLay0 = true → Dp K H v d.py
  | .non, v, h, _ => by rw [show v = _ from h]; exact .non
  | .bl b, v, h, _ => by rw [show v = _ from h]; exact .bl b
  | .int b, v, h, _ => by rw [show v = _ from h]; exact .int b
  | .str b, v, h, _ => by rw [show v = _ from h]; exact .str b
  | .tup ds, _, h, c => by
    obtain ⟨a, xs, rfl, t, r⟩ := h
    exact .tup t.sq (Rps.dp r c)
  | .lst ds, _, h, c => by
    obtain ⟨a, o, xs, rfl, t, r⟩ := h
    exact .lst (.inl (.inr ⟨o, t⟩)) (Rps.dp r c)
  | .dct _ _, _, _, c => by cases c
  | .set _, _, h, _ => h.elim | .dkt _ _, _, h, _ => h.elim | .fn _, _, h, _ => h.elim
theorem Rps.dp : ∀ {ds : List D} {vs : List V}, Rps K H ds vs → PyData.canLayAll0 (D.pys ds) = true → DpAll K H vs (D.pys ds)
  | [], _, h, _ => by rw [show _ = [] from h]; exact .nil
  | d :: ds, _, h, c => by
    obtain ⟨v, r, rfl, h1, h2⟩ := h
    have c' : (d.py.canLay0 && PyData.canLayAll0 (D.pys ds)) = true := c
    rw [Bool.and_eq_true] at c'
    exact .cons (Rp.dp h1 c'.1) (Rps.dp h2 c'.2)
end

/-- a set of numbers -/
def ISet (p : Addr) (ns : List Int) : HO := .ext fun h => ∃ o, h.get? p = some o ∧ PySem.Obj.IntSetOf o (fun k => decide (k ∈ ns)) ns.length ∧ ns.length < 4000
/-- a dict's pairs -/
abbrev dK (kvs : List (Int × V)) : List (Key × V) := kvs.map fun q => (Sum.inl q.1, q.2)
/-- a dict whose keys are tuples without texts, but for the tuples themselves -/
def DT0 (h : Heap) (p : Addr) (xs : List (NestedKey × Addr × V)) : Prop := ∃ vs : List (NestedKey × Addr × Value), Paired (fun (a : NestedKey × Addr × V) (b : NestedKey × Addr × Value) => a.1 = b.1 ∧ a.2.1 = b.2.1 ∧ RelV a.2.2 b.2.2) xs vs ∧
  (∃ o es ep, h.get? p = some o ∧ o.ExactDict ∧ o.data = .dict es ep ∧ ∀ w : World, es.toList = vs.map fun x => ⟨x.1.hash w, .ref x.2.1, x.2.2⟩) ∧ (vs.map (·.1)).Nodup ∧ xs.length ≤ sizeLine ∧ (p == sysModules) = false
def DTO (p : Addr) (xs : List (NestedKey × Addr × V)) : HO := .ext fun h => DT0 h p xs
/-- .. are truths -/
def DB0 (h : Heap) (p : Addr) (xs : List (Bool × V)) : Prop := ∃ vs : List (Leaf × Value), Paired (fun (a : Bool × V) (b : Leaf × Value) => b.1 = .num (if a.1 = true then 1 else 0) ∧ RelV a.2 b.2) xs vs ∧ (∀ (P : Program) (w : World), h.DictOf (leafKind P w) p vs) ∧ xs.length ≤ sizeLine ∧ (p == sysModules) = false
def DBO (p : Addr) (xs : List (Bool × V)) : HO := .ext fun h => DB0 h p xs
/-- keys that are tuples, and where they stand -/
def KeysR (K : PySem.W.Frag) (H : Hp) : List D → List (NestedKey × Addr × V) → Prop
  | [], xs => xs = []
  | d :: ds, xs => ∃ x r, xs = x :: r ∧ nk d = some x.1 ∧ x.1.depth ≤ 8 ∧ isTupD d = true ∧ Rp K H d (.ref x.2.1) ∧ KeysR K H ds r
theorem KeysR.mono {K : PySem.W.Frag} {H H' : Hp} (k : Kp H H') : ∀ {ds : List D} {xs : List (NestedKey × Addr × V)}, KeysR K H ds xs → KeysR K H' ds xs
  | [], _, h => h
  | d :: ds, _, h => by
    obtain ⟨x, r, e, h1, h2, h3, h4, h5⟩ := h
    exact ⟨x, r, e, h1, h2, h3, h4.mono k, KeysR.mono k h5⟩
/-- an object that one name owns -/
def OwnAt (K : PySem.W.Frag) (H : Hp) : D → Addr → Prop
  | .lst ds, p => ∃ vs, H p = some (.lst vs) ∧ Rps K H ds vs
  | .set ds, p => ∃ ns : List Int, ds = ns.map D.int ∧ H p = some (ISet p ns)
  | .dct ks vs, p => ∃ kvs : List (Int × V), ks = kvs.map (fun q => D.int q.1) ∧ H p = some (.dK (dK kvs)) ∧ Rps K H vs (kvs.map (·.2))
  | .dkt ks vs, p => (∃ xs : List (NestedKey × Addr × V), H p = some (DTO p xs) ∧ KeysR K H ks xs ∧ Rps K H vs (xs.map (·.2.2))) ∨ ∃ kvs : List (Bool × V), ks = kvs.map (fun q => D.bl q.1) ∧ H p = some (DBO p kvs) ∧ Rps K H vs (kvs.map (·.2))
  | _, _ => False
theorem OwnAt.keep {d : D} {p : Addr} (h : OwnAt K H d p) (k : Kp H H') (e : ∀ u, H p = some u → H' p = some u) : OwnAt K H' d p := by
  cases d with
  | lst ds =>
    obtain ⟨vs, h1, h2⟩ := h
    exact ⟨vs, e _ h1, h2.mono k⟩
  | set ds =>
    obtain ⟨ns, h1, h2⟩ := h
    exact ⟨ns, h1, e _ h2⟩
  | dct ks vs =>
    obtain ⟨kvs, h1, h2, h3⟩ := h
    exact ⟨kvs, h1, e _ h2, h3.mono k⟩
  | dkt ks vs =>
    rcases h with ⟨xs, h1, h2, h3⟩ | ⟨kvs, h1, h2, h3⟩
    · exact .inl ⟨xs, e _ h1, h2.mono k, h3.mono k⟩
    · exact .inr ⟨kvs, h1, e _ h2, h3.mono k⟩
  | _ => exact h.elim
theorem OwnAt.nfrz {d : D} {p : Addr} (h : OwnAt K H d p) : ∃ u, H p = some u ∧ ∀ o w, u ≠ .frz o w := by
  cases d with
  | lst ds =>
    obtain ⟨vs, h1, _⟩ := h
    exact ⟨_, h1, fun _ _ z => nomatch z⟩
  | set ds =>
    obtain ⟨ns, _, h2⟩ := h
    exact ⟨_, h2, fun _ _ z => nomatch z⟩
  | dct ks vs =>
    obtain ⟨kvs, _, h2, _⟩ := h
    exact ⟨_, h2, fun _ _ z => nomatch z⟩
  | dkt ks vs =>
    rcases h with ⟨xs, h1, _⟩ | ⟨kvs, _, h2, _⟩
    · exact ⟨_, h1, fun _ _ z => nomatch z⟩
    · exact ⟨_, h2, fun _ _ z => nomatch z⟩
  | _ => exact h.elim
/-- as it is read -/
def VwR (K : PySem.W.Frag) (H : Hp) (d : D) (v : V) : Prop := Rp K H d v ∨ ∃ p, v = .ref p ∧ OwnAt K H d p
theorem VwR.lst {ds : List D} {v : V} (h : VwR K H (.lst ds) v) : ∃ p vs, v = .ref p ∧ Rd H p (.lst vs) ∧ Rps K H ds vs := by
  rcases h with ⟨a, o, xs, rfl, t, r⟩ | ⟨p, rfl, vs, h1, h2⟩
  · exact ⟨a, xs, rfl, .inr ⟨o, t⟩, r⟩
  · exact ⟨p, vs, rfl, .inl h1, h2⟩
theorem VwR.tup {ds : List D} {v : V} (h : VwR K H (.tup ds) v) : ∃ p vs, v = .ref p ∧ TupAt K H p vs ∧ Rps K H ds vs := by
  rcases h with ⟨a, xs, rfl, t, r⟩ | ⟨p, rfl, h⟩
  · exact ⟨a, xs, rfl, t, r⟩
  · exact h.elim
theorem VwR.int {i : Int} {v : V} (h : VwR K H (.int i) v) : v = .int i := by
  rcases h with h | ⟨p, _, h⟩
  · exact h
  · exact h.elim
theorem VwR.bl {i : Bool} {v : V} (h : VwR K H (.bl i) v) : v = .bl i := by
  rcases h with h | ⟨p, _, h⟩
  · exact h
  · exact h.elim
theorem VwR.str {i : Str} {v : V} (h : VwR K H (.str i) v) : v = .str i := by
  rcases h with h | ⟨p, _, h⟩
  · exact h
  · exact h.elim
theorem VwR.non {v : V} (h : VwR K H .non v) : v = .non := by
  rcases h with h | ⟨p, _, h⟩
  · exact h
  · exact h.elim
theorem shp_lay {d : D} (h : shp d = true) : d.py.canLay0 = true := by
  unfold shp at h
  rw [Bool.and_eq_true] at h
  exact SeqAt.canLay_of_shaped h.2
theorem VwR.dp {d : D} {v : V} (h : VwR K H d v) (hs : shp d = true) : Dp K H v d.py := by
  rcases h with h | ⟨p, rfl, h⟩
  · exact h.dp (shp_lay hs)
  · cases d with
    | lst ds =>
      obtain ⟨vs, h1, h2⟩ := h
      exact .lst (.inl (.inl h1)) (h2.dp (shp_lay hs))
    | set ds => cases hs
    | dct ks vs => cases hs
    | dkt ks vs => cases hs
    | _ => exact h.elim
theorem VwR.set {ds : List D} {v : V} (h : VwR K H (.set ds) v) : ∃ p ns, v = .ref p ∧ ds = ns.map D.int ∧ H p = some (ISet p ns) := by
  rcases h with h | ⟨p, rfl, ns, h1, h2⟩
  · exact h.elim
  · exact ⟨p, ns, rfl, h1, h2⟩
theorem VwR.dct {ks vs : List D} {v : V} (h : VwR K H (.dct ks vs) v) : ∃ p kvs, v = .ref p ∧ ks = kvs.map (fun q => D.int q.1) ∧ Rd H p (.dK (dK kvs)) ∧ Rps K H vs (kvs.map (·.2)) := by
  rcases h with ⟨p, o, kvs, rfl, h1, h2, h3⟩ | ⟨p, rfl, kvs, h1, h2, h3⟩
  · exact ⟨p, kvs, rfl, h1, .inr ⟨o, h2⟩, h3⟩
  · exact ⟨p, kvs, rfl, h1, .inl h2, h3⟩
theorem VwR.dkt {ks vs : List D} {v : V} (h : VwR K H (.dkt ks vs) v) : ∃ p, v = .ref p ∧ OwnAt K H (.dkt ks vs) p := by
  rcases h with h | ⟨p, rfl, h⟩
  · exact h.elim
  · exact ⟨p, rfl, h⟩
inductive VwRs (K : PySem.W.Frag) (H : Hp) : List D → List V → Prop
  | nil : VwRs K H [] []
  | cons {d : D} {v : V} {ds : List D} {vs : List V} : VwR K H d v → VwRs K H ds vs → VwRs K H (d :: ds) (v :: vs)
end

/-! ### names -/
/-- the objects that names own -/
def OwnA (env : Env) (σ : St) (p : Addr) : Prop := ∃ (i : Nat) (d : D), env[i]? = some (.own d) ∧ σ[i]? = some (some (.ref p))
def SlotR (K : PySem.W.Frag) (H : Hp) : Slot → Option V → Prop
  | .un, _ => True
  | .val d, s => ∃ v, s = some v ∧ Rp K H d v
  | .own d, s => ∃ p, s = some (.ref p) ∧ OwnAt K H d p
structure EnvR (K : PySem.W.Frag) (H : Hp) (σ : St) (env : Env) : Prop where
  len : env.length = σ.length
  sl : ∀ (i : Nat) (s : Slot), env[i]? = some s → ∃ x, σ[i]? = some x ∧ SlotR K H s x
  dj : ∀ (i j : Nat) (d e : D) (p : Addr), env[i]? = some (.own d) → env[j]? = some (.own e) → σ[i]? = some (some (.ref p)) → σ[j]? = some (some (.ref p)) → i = j
/-- from one state to a later one -/
structure Tr (σ : St) (H : Hp) (env : Env) (σ' : St) (H' : Hp) (env' : Env) : Prop where
  f : ∀ b u, H b = some u → ¬ OwnA env σ b → H' b = some u
  s : ∀ p, OwnA env' σ' p → OwnA env σ p ∨ H p = none
theorem Tr.refl {σ : St} {H : Hp} {env : Env} : Tr σ H env σ H env := ⟨fun _ _ h _ => h, fun _ h => .inl h⟩
theorem Tr.trans {σ σ1 σ2 : St} {H H1 H2 : Hp} {env env1 env2 : Env} (a : Tr σ H env σ1 H1 env1) (b : Tr σ1 H1 env1 σ2 H2 env2) : Tr σ H env σ2 H2 env2 := by
  refine ⟨fun c u h n => b.f c u (a.f c u h n) fun z => ?_, fun p z => ?_⟩
  · rcases a.s c z with z | z
    · exact n z
    · rw [h] at z; cases z
  · rcases b.s p z with z | z
    · exact a.s p z
    · by_cases n : OwnA env σ p
      · exact .inl n
      · refine .inr ?_
        cases e : H p with
        | none => rfl
        | some u => rw [a.f p u e n] at z; cases z
section
variable {K : PySem.W.Frag} {H H' : Hp} {σ σ' : St} {env env' : Env}
theorem look_val {i : Nat} {d : D} (h : look env i = .val d) : env[i]? = some (.val d) := by
  unfold look at h
  cases e : env[i]? with
  | none => rw [e] at h; cases h
  | some s => rw [e] at h; rw [show s = .val d from h]
theorem look_own {i : Nat} {d : D} (h : look env i = .own d) : env[i]? = some (.own d) := by
  unfold look at h
  cases e : env[i]? with
  | none => rw [e] at h; cases h
  | some s => rw [e] at h; rw [show s = .own d from h]
theorem EnvR.val {i : Nat} {d : D} (E : EnvR K H σ env) (h : look env i = .val d) : ∃ v, σ[i]? = some (some v) ∧ Rp K H d v := by
  obtain ⟨x, e, v, rfl, r⟩ := E.sl i _ (look_val h)
  exact ⟨v, e, r⟩
theorem EnvR.own {i : Nat} {d : D} (E : EnvR K H σ env) (h : look env i = .own d) : ∃ p, σ[i]? = some (some (.ref p)) ∧ OwnAt K H d p ∧ OwnA env σ p := by
  obtain ⟨x, e, p, rfl, r⟩ := E.sl i _ (look_own h)
  exact ⟨p, e, r, i, d, look_own h, e⟩
theorem EnvR.ownA {p : Addr} (E : EnvR K H σ env) (h : OwnA env σ p) : ∃ d, OwnAt K H d p := by
  obtain ⟨i, d, e1, e2⟩ := h
  obtain ⟨x, e, q, rfl, r⟩ := E.sl i _ e1
  rw [e2] at e; cases e
  exact ⟨d, r⟩
theorem EnvR.nfrz {p : Addr} (E : EnvR K H σ env) (h : OwnA env σ p) : ∃ u, H p = some u ∧ ∀ o w, u ≠ .frz o w := by
  obtain ⟨d, h⟩ := E.ownA h
  exact h.nfrz
theorem Tr.kp (E : EnvR K H σ env) (t : Tr σ H env σ' H' env') : Kp H H' := fun a o u e => t.f a _ e fun z => by
  obtain ⟨w, e2, n⟩ := E.nfrz z
  rw [e] at e2; cases e2
  exact n o u rfl
theorem Tr.fresh (t : Tr σ H env σ' H' env') {p : Addr} (h : H' p = none) : H p = none ∨ OwnA env σ p := by
  by_cases n : OwnA env σ p
  · exact .inr n
  · refine .inl ?_
    cases e : H p with
    | none => rfl
    | some u => rw [t.f p u e n] at h; cases h
/-- the environment over a heap in which all that it speaks of stands -/
theorem EnvR.same (E : EnvR K H σ env) (h : Same H H') : EnvR K H' σ env := by
  refine ⟨E.len, fun i s e => ?_, E.dj⟩
  obtain ⟨x, e2, r⟩ := E.sl i s e
  refine ⟨x, e2, ?_⟩
  cases s with
  | un => trivial
  | val d => obtain ⟨v, e3, r⟩ := r; exact ⟨v, e3, r.mono (kp_same h)⟩
  | own d => obtain ⟨p, e3, r⟩ := r; exact ⟨p, e3, r.keep (kp_same h) fun u q => h _ _ q⟩
theorem tr_same (h : Same H H') : Tr σ H env σ H' env := ⟨fun b u e _ => h b u e, fun p z => .inl z⟩
end

/-- an operand -/
def OpdR (K : PySem.W.Frag) (H : Hp) (σ : St) (env : Env) : Opd → V → Prop
  | .dat d, v => Rp K H d v
  | .own d, v => ∃ p, v = .ref p ∧ OwnAt K H d p ∧ ¬ OwnA env σ p
  | .slot i, v => σ[i]? = some (some v)
structure Po (K : PySem.W.Frag) (σ : St) (H : Hp) (env : Env) (o : Opd) (env' : Env) (v : V) (H' : Hp) : Prop where
  e : EnvR K H' σ env'
  t : Tr σ H env σ H' env'
  r : OpdR K H' σ env' o v
  n : ∀ d p, o = .own d → v = .ref p → H p = none ∨ OwnA env σ p
section
variable {K : PySem.W.Frag} {H H1 H2 : Hp} {σ : St} {env env1 env2 : Env} {o o' : Opd} {v v' : V}
/-- an operand, behind a further step -/
theorem OpdR.later (E : EnvR K H1 σ env1) (r : OpdR K H1 σ env1 o v) (t : Tr σ H1 env1 σ H2 env2) : OpdR K H2 σ env2 o v := by
  cases o with
  | dat d => exact Rp.mono (t.kp E) r
  | own d =>
    obtain ⟨p, e, h, n⟩ := r
    refine ⟨p, e, h.keep (t.kp E) fun u q => t.f p u q n, fun z => ?_⟩
    rcases t.s p z with z | z
    · exact n z
    · obtain ⟨u, q, _⟩ := h.nfrz
      rw [q] at z; cases z
  | slot i => exact r
theorem OpdR.view (E : EnvR K H1 σ env1) (r : OpdR K H1 σ env1 o v) {d : D} (h : view env1 o = some d) : VwR K H1 d v := by
  cases o with
  | dat d' => cases h; exact .inl r
  | own d' =>
    cases h
    obtain ⟨p, e, h, n⟩ := r
    exact .inr ⟨p, e, h⟩
  | slot i =>
    cases e : look env1 i with
    | own d' =>
      simp only [PF.view, e] at h
      cases h
      obtain ⟨p, e2, h, _⟩ := E.own e
      have e3 : σ[i]? = some (some v) := r
      rw [e3] at e2; cases e2
      exact .inr ⟨p, rfl, h⟩
    | un => simp [PF.view, e] at h
    | val _ => simp [PF.view, e] at h
end

/-! ### the ghost step -/
theorem inv_freeze {X : Cx} {pins : List (Addr × Obj)} {σ : St} {H : Hp} {s : Shared} {p : Addr} {vs : List V} (I : Inv X pins σ H s) (h : H p = some (.lst vs)) : ∃ o, Inv X pins σ (upd H p (.frz o (.lst vs))) s := by
  have x := I.hok p _ h
  obtain ⟨z, its, n, r, e⟩ := x
  refine ⟨{ cls := .type "list", data := .seq its.toArray n }, ?_⟩
  have J := I.write (x := p) (e := p) (o := .frz { cls := .type "list", data := .seq its.toArray n } (.lst vs)) (h' := s.heap) (t' := s.toks) (by rw [h]; trivial) (.inl rfl) (fun b u _ q => q) ⟨_, e⟩ ⟨e, z, its, n, r, e⟩
  exact J
theorem inv_freezeD {X : Cx} {pins : List (Addr × Obj)} {σ : St} {H : Hp} {s : Shared} {p : Addr} {kvs : List (Key × V)} (I : Inv X pins σ H s) (h : H p = some (.dK kvs)) : ∃ o, Inv X pins σ (upd H p (.frz o (.dK kvs))) s := by
  have x := I.hok p _ h
  have x' := x
  obtain ⟨z, hd, vs, kv, o, es, ep, e, r⟩ := x'
  exact ⟨o, I.write (x := p) (e := p) (o := .frz o (.dK kvs)) (h' := s.heap) (t' := s.toks) (by rw [h]; trivial) (.inl rfl) (fun b u _ q => q) ⟨_, e⟩ ⟨e, x⟩⟩
theorem upd_kp {H : Hp} {p : Addr} {o : HO} (h : ∀ ob u, H p ≠ some (.frz ob u)) : Kp H (upd H p o) := fun a ob u e => by
  rw [upd_ne]
  · exact e
  · rintro rfl; exact h ob u e
theorem same_new {H : Hp} {p : Addr} {o : HO} (h : H p = none) : Same H (upd H p o) := fun b x e => by
  rw [upd_ne (ne_of_none e h)]
  exact e
end PF
/-! PF2K: dicts whose keys are tuples (without texts), or truths. -/
namespace PF
open PySem PySem.Spec PyProof.Rows L2
theorem line_eqK : line = sizeLine := by rw [sizeLine_eq]; rfl
section
variable {X : Cx} {pins : List (Addr × Obj)} {σ : St} {H : Hp} {s : Shared}
theorem tup_objK (I : L2.Inv X pins σ H s) {a : Addr} {xs : List V} (h : TupAt X.K H a xs) : ∃ (its : List Value) (o : Obj) (n : Nat), Vals xs its ∧ s.heap.get? a = some o ∧ o.cls = .type "tuple" ∧ o.data = .seq its.toArray n := by
  rcases h with ⟨o, e, d⟩ | ⟨o, its, n, e, c, d, dt, hz, r⟩
  · obtain ⟨g, z, its, r, o', g', c, n, dt⟩ := I.hok a _ e
    rw [g] at g'; cases g'
    exact ⟨its, o, n, r, g, c, dt⟩
  · exact ⟨its.toList, o, n, r, I.kIn a o e, c, by simpa using dt⟩
mutual
theorem rp_nk (I : L2.Inv X pins σ H s) : ∀ {d : D} {v : V} {u : Value} {k : NestedKey}, Rp X.K H d v → RelV v u → nk d = some k → NestedIs s.heap k u
  | .non, v, u, k, h, r, e => by
    rw [show v = _ from h] at r
    rw [show u = _ from r]
    rw [← Option.some.inj (show some NestedKey.none = some k from by simpa [nk] using e)]
    exact .none
  | .int i, v, u, k, h, r, e => by
    rw [show v = _ from h] at r
    obtain ⟨t, rfl⟩ := r
    rw [← Option.some.inj (show some (NestedKey.num i) = some k from by simpa [nk] using e)]
    exact .int _ _
  | .bl b, v, u, k, h, r, e => by
    rw [show v = _ from h] at r
    rw [show u = _ from r]
    rw [← Option.some.inj (show some (NestedKey.num (if b = true then 1 else 0)) = some k from by simpa only [nk] using e)]
    exact .bool rfl
  | .str _, _, _, _, _, _, e => by simp [nk] at e
  | .lst _, _, _, _, _, _, e => by simp [nk] at e
  | .set _, _, _, _, _, _, e => by simp [nk] at e
  | .dct _ _, _, _, _, _, _, e => by simp [nk] at e
  | .dkt _ _, _, _, _, _, _, e => by simp [nk] at e
  | .fn _, _, _, _, _, _, e => by simp [nk] at e
  | .tup ds, v, u, k, h, r, e => by
    obtain ⟨a, xs, rfl, t, rd⟩ := h
    rw [show u = _ from r]
    simp only [nk, Option.map_eq_some_iff] at e
    obtain ⟨ks, e1, rfl⟩ := e
    obtain ⟨its, o, n, rv, g, c, dt⟩ := tup_objK I t
    exact .tup g c dt (by simpa using rps_nk I rd rv e1)
theorem rps_nk (I : L2.Inv X pins σ H s) : ∀ {ds : List D} {vs : List V} {us : List Value} {ks : List NestedKey}, Rps X.K H ds vs → Vals vs us → nks ds = some ks → NestedAll s.heap ks us
  | [], vs, us, ks, h, r, e => by
    rw [show vs = [] from h] at r
    cases r
    rw [← Option.some.inj (show some [] = some ks from by simpa [nks] using e)]
    exact .nil
  | d :: ds, _, us, ks, h, r, e => by
    obtain ⟨v, vs, rfl, h1, h2⟩ := h
    cases r with
    | cons r1 r2 =>
      simp only [nks] at e
      cases e1 : nk d with
      | none => rw [e1] at e; simp at e
      | some k =>
        cases e2 : nks ds with
        | none => rw [e1, e2] at e; simp at e
        | some r =>
          rw [e1, e2] at e
          cases e
          exact .cons (rp_nk I h1 r1 e1) (rps_nk I h2 r2 e2)
end
abbrev DR : List (NestedKey × Addr × V) → List (NestedKey × Addr × Value) → Prop := Paired fun a b => a.1 = b.1 ∧ a.2.1 = b.2.1 ∧ RelV a.2.2 b.2.2
abbrev DBR : List (Bool × V) → List (Leaf × Value) → Prop := Paired fun a b => b.1 = .num (if a.1 = true then 1 else 0) ∧ RelV a.2 b.2
theorem keys_is (I : L2.Inv X pins σ H s) : ∀ {ks : List D} {xs : List (NestedKey × Addr × V)} {vs : List (NestedKey × Addr × Value)}, KeysR X.K H ks xs → DR xs vs → ∀ x ∈ vs, NestedIs s.heap x.1 (.ref x.2.1) ∧ x.1.depth ≤ 8
  | [], _, _, h, r, x, hx => by rw [show _ = [] from h] at r; cases r; cases hx
  | d :: ds, _, _, h, r, x, hx => by
    obtain ⟨y, t, rfl, h1, h2, _, h3, h4⟩ := h
    cases r with
    | cons r1 r2 =>
      rename_i b bs
      rcases List.mem_cons.mp hx with rfl | hx
      · rw [← r1.1, ← r1.2.1]
        exact ⟨rp_nk I h3 rfl h1, h2⟩
      · exact keys_is I h4 r2 x hx
end
section
variable {K : PySem.W.Frag} {H : Hp}
theorem memT_cons (q : NestedKey) (k : D) (ks : List D) : memT q (k :: ks) = (decide (nk k = some q) || memT q ks) := rfl
theorem memT_at (q : NestedKey) : ∀ {ks : List D} {xs : List (NestedKey × Addr × V)} {vs : List (NestedKey × Addr × Value)}, KeysR K H ks xs → DR xs vs → memT q ks = (atKey vs q).isSome
  | [], _, _, h, r => by rw [show _ = [] from h] at r; cases r; rfl
  | d :: ds, _, _, h, r => by
    obtain ⟨y, t, rfl, h1, h2, _, h3, h4⟩ := h
    cases r with
    | cons r1 r2 =>
      rename_i b bs
      rw [memT_cons, memT_at q h4 r2, h1, r1.1]
      unfold atKey
      rw [List.find?_cons]
      by_cases e : b.1 = q
      · simp [e]
      · simp [e]
theorem getT_at {q : NestedKey} {r : D} : ∀ {ks : List D} {xs : List (NestedKey × Addr × V)} {vs : List (NestedKey × Addr × Value)} {ds : List D}, KeysR K H ks xs → DR xs vs → Rps K H ds (xs.map (·.2.2)) → getT ks ds q = some r → ∃ p z, atKey vs q = some p ∧ RelV z p.2 ∧ Rp K H r z
  | [], _, _, _, h, _, _, e => by simp [getT] at e
  | d :: ks, _, _, [], h, _, _, e => by simp [getT] at e
  | d :: ks, _, _, g :: ds, h, r, hr, e => by
    obtain ⟨y, t, rfl, h1, h2, _, h3, h4⟩ := h
    cases r with
    | cons r1 r2 =>
      rename_i b bs
      obtain ⟨z, r', e2, rz, rr⟩ := hr
      cases e2
      simp only [getT] at e
      rw [h1, r1.1] at e
      by_cases c : b.1 = q
      · rw [if_pos (by rw [c])] at e
        cases e
        exact ⟨b.2, y.2.2, by simp [atKey, c], r1.2.2, rz⟩
      · rw [if_neg (fun z => c (Option.some.inj z))] at e
        obtain ⟨p, z, e1, e2, e3⟩ := getT_at h4 r2 rr e
        exact ⟨p, z, by simpa [atKey, c] using e1, e2, e3⟩
/-- with a pair put in -/
def putX (xs : List (NestedKey × Addr × V)) (m : Bool) (q : NestedKey) (a : Addr) (w : V) : List (NestedKey × Addr × V) := if m then xs.map (fun x => if x.1 = q then (x.1, x.2.1, w) else x) else xs ++ [(q, a, w)]
theorem paired_snoc {α β : Type} {F : α → β → Prop} {a : α} {b : β} : ∀ {l : List α} {m : List β}, Paired F l m → F a b → Paired F (l ++ [a]) (m ++ [b])
  | _, _, .nil, h => .cons h .nil
  | _, _, .cons r t, h => .cons r (paired_snoc t h)
theorem paired_map {α β : Type} {F : α → β → Prop} {f : α → α} {g : β → β} (hf : ∀ a b, F a b → F (f a) (g b)) : ∀ {l : List α} {m : List β}, Paired F l m → Paired F (l.map f) (m.map g)
  | _, _, .nil => .nil
  | _, _, .cons r t => .cons (hf _ _ r) (paired_map hf t)
theorem putX_DR {xs : List (NestedKey × Addr × V)} {vs : List (NestedKey × Addr × Value)} {q : NestedKey} {a : Addr} {w : V} {u : Value} (r : DR xs vs) (hw : RelV w u) : DR (putX xs (atKey vs q).isSome q a w) (storedH vs q a u) := by
  unfold putX storedH
  cases (atKey vs q).isSome with
  | true =>
    simp only [if_true]
    refine paired_map (fun x y h => ?_) r
    unfold putAt
    rw [h.1]
    by_cases e : y.1 = q
    · rw [if_pos e, if_pos e]; exact ⟨rfl, h.2.1, hw⟩
    · rw [if_neg e, if_neg e]; exact h
  | false =>
    simp only [Bool.false_eq_true, if_false]
    exact paired_snoc r ⟨rfl, rfl, hw⟩
theorem KeysR.snoc {x : NestedKey × Addr × V} {d : D} (h1 : nk d = some x.1) (h2 : x.1.depth ≤ 8) (h3 : isTupD d = true) (h4 : Rp K H d (.ref x.2.1)) : ∀ {ks : List D} {xs : List (NestedKey × Addr × V)}, KeysR K H ks xs → KeysR K H (ks ++ [d]) (xs ++ [x])
  | [], _, h => by rw [show _ = [] from h]; exact ⟨x, [], rfl, h1, h2, h3, h4, rfl⟩
  | k :: ks, _, h => by
    obtain ⟨y, t, rfl, g1, g2, g3, g4, g5⟩ := h
    exact ⟨y, t ++ [x], rfl, g1, g2, g3, g4, KeysR.snoc h1 h2 h3 h4 g5⟩
theorem KeysR.putV {q : NestedKey} {w : V} : ∀ {ks : List D} {xs : List (NestedKey × Addr × V)}, KeysR K H ks xs → KeysR K H ks (xs.map fun x => if x.1 = q then (x.1, x.2.1, w) else x)
  | [], _, h => by rw [show _ = [] from h]; rfl
  | k :: ks, _, h => by
    obtain ⟨y, t, rfl, g1, g2, g3, g4, g5⟩ := h
    refine ⟨_, _, rfl, ?_, ?_, g3, ?_, KeysR.putV g5⟩
    · dsimp only; split <;> exact g1
    · dsimp only; split <;> exact g2
    · dsimp only; split <;> exact g4
theorem KeysR.len : ∀ {ks : List D} {xs : List (NestedKey × Addr × V)}, KeysR K H ks xs → xs.length = ks.length
  | [], _, h => by rw [show _ = [] from h]; rfl
  | k :: ks, _, h => by
    obtain ⟨y, t, rfl, _, _, _, _, g5⟩ := h
    rw [List.length_cons, List.length_cons, KeysR.len g5]
theorem repT_rp {q : NestedKey} {d : D} {w : V} (rw' : Rp K H d w) : ∀ {ks : List D} {xs : List (NestedKey × Addr × V)} {ds : List D}, KeysR K H ks xs → Rps K H ds (xs.map (·.2.2)) → Rps K H (repT ks ds q d) ((xs.map fun x => if x.1 = q then (x.1, x.2.1, w) else x).map (·.2.2))
  | [], _, ds, h, r => by rw [show _ = [] from h]; rfl
  | k :: ks, _, [], h, r => by
    obtain ⟨y, t, rfl, _⟩ := h
    exact nomatch (show (_ :: _ : List V) = [] from r)
  | k :: ks, _, g :: ds, h, r => by
    obtain ⟨y, t, rfl, g1, _, _, _, g5⟩ := h
    obtain ⟨z, r', e2, rz, rr⟩ := r
    cases e2
    refine ⟨_, _, rfl, ?_, repT_rp rw' g5 rr⟩
    rw [g1]
    dsimp only
    by_cases e : y.1 = q
    · rw [if_pos (by rw [e]), if_pos e]; exact rw'
    · rw [if_neg (fun z => e (Option.some.inj z)), if_neg e]; exact rz
theorem put_keys {ks ds : List D} {xs : List (NestedKey × Addr × V)} {q : NestedKey} {x d : D} {a : Addr} {w : V} (h : KeysR K H ks xs) (hr : Rps K H ds (xs.map (·.2.2))) (h1 : nk x = some q) (h2 : q.depth ≤ 8) (h3 : isTupD x = true) (h4 : Rp K H x (.ref a)) (rw' : Rp K H d w) :
    KeysR K H (addT x q ks) (putX xs (memT q ks) q a w) ∧ Rps K H (putT ks ds q d) ((putX xs (memT q ks) q a w).map (·.2.2)) := by
  unfold addT putT putX
  cases memT q ks with
  | true => exact ⟨h.putV, repT_rp rw' h hr⟩
  | false =>
    refine ⟨KeysR.snoc h1 h2 h3 h4 h, ?_⟩
    simp only [Bool.false_eq_true, if_false, List.map_append]
    exact hr.append (.cons rw' .nil)

/-! ### truths -/
abbrev qb (b : Bool) : NestedKey := .num (if b = true then 1 else 0)
abbrev lb (b : Bool) : Leaf := .num (if b = true then 1 else 0)
theorem qb_inj {b c : Bool} : qb b = qb c ↔ b = c := by cases b <;> cases c <;> simp [qb]
theorem lb_inj {b c : Bool} : lb b = lb c ↔ b = c := by cases b <;> cases c <;> simp [lb]
theorem memB_at (b : Bool) : ∀ {xs : List (Bool × V)} {vs : List (Leaf × Value)}, DBR xs vs → memT (qb b) (xs.map fun q => D.bl q.1) = (valueAt vs (lb b)).isSome
  | _, _, .nil => rfl
  | x :: xs, v :: vs, .cons r t => by
    rw [List.map_cons, memT_cons, memB_at b t]
    unfold valueAt
    rw [List.find?_cons, r.1]
    by_cases e : x.1 = b
    · simp [nk, e]
    · have e1 : ¬ qb x.1 = qb b := fun z => e (qb_inj.mp z)
      have e2 : ¬ lb x.1 = lb b := fun z => e (lb_inj.mp z)
      rw [show decide (nk (D.bl x.1) = some (qb b)) = false from decide_eq_false fun z => e1 (Option.some.inj z), show decide ((Leaf.num (if x.1 = true then 1 else 0)) = lb b) = false from decide_eq_false e2]
      rfl
theorem getB_at {b : Bool} {r : D} : ∀ {xs : List (Bool × V)} {vs : List (Leaf × Value)} {ds : List D}, DBR xs vs → Rps K H ds (xs.map (·.2)) → getT (xs.map fun q => D.bl q.1) ds (qb b) = some r → ∃ p z, valueAt vs (lb b) = some p ∧ RelV z p ∧ Rp K H r z
  | [], _, _, _, _, e => by simp [getT] at e
  | x :: xs, _, [], _, _, e => by simp [getT] at e
  | x :: xs, v :: vs, g :: ds, .cons r1 r2, hr, e => by
    obtain ⟨z, r', e2, rz, rr⟩ := hr
    cases e2
    simp only [List.map_cons, getT] at e
    by_cases c : x.1 = b
    · rw [if_pos (by rw [c]; rfl)] at e
      cases e
      exact ⟨v.2, x.2, by unfold valueAt; rw [List.find?_cons, r1.1, show decide ((Leaf.num (if x.1 = true then 1 else 0)) = lb b) = true from decide_eq_true (by rw [c])]; rfl, r1.2, rz⟩
    · have e1 : ¬ qb x.1 = qb b := fun z => c (qb_inj.mp z)
      have e2 : ¬ lb x.1 = lb b := fun z => c (lb_inj.mp z)
      rw [show nk (D.bl x.1) = some (qb x.1) from rfl, if_neg (fun z => e1 (Option.some.inj z))] at e
      obtain ⟨p, z, e3, e4, e5⟩ := getB_at r2 rr e
      exact ⟨p, z, by rw [← e3]; unfold valueAt; rw [List.find?_cons, r1.1, show decide ((Leaf.num (if x.1 = true then 1 else 0)) = lb b) = false from decide_eq_false e2], e4, e5⟩
def putY (xs : List (Bool × V)) (m : Bool) (b : Bool) (w : V) : List (Bool × V) := if m then xs.map (fun x => if x.1 = b then (x.1, w) else x) else xs ++ [(b, w)]
theorem any_valueAt {κ : Type} [DecidableEq κ] (kvs : List (κ × Value)) (k : κ) : (kvs.any fun kv => decide (kv.1 = k)) = (valueAt kvs k).isSome := by
  induction kvs with
  | nil => rfl
  | cons x xs ih =>
    unfold valueAt at ih ⊢
    rw [List.any_cons, List.find?_cons, ih]
    by_cases h : x.1 = k <;> simp [h]
theorem putY_DBR {xs : List (Bool × V)} {vs : List (Leaf × Value)} {b : Bool} {w : V} {u : Value} (r : DBR xs vs) (hw : RelV w u) : DBR (putY xs (valueAt vs (lb b)).isSome b w) (stored vs (lb b) u) := by
  unfold putY stored
  rw [any_valueAt]
  cases (valueAt vs (lb b)).isSome with
  | true =>
    simp only [if_true]
    refine paired_map (fun x y h => ?_) r
    by_cases e : x.1 = b
    · rw [if_pos e, if_pos (by rw [h.1, e])]; exact ⟨h.1, hw⟩
    · rw [if_neg e, if_neg (by rw [h.1]; exact fun z => e (lb_inj.mp z))]; exact h
  | false =>
    simp only [Bool.false_eq_true, if_false]
    exact paired_snoc r ⟨rfl, hw⟩
theorem repB_rp {b : Bool} {d : D} {w : V} (rw' : Rp K H d w) : ∀ {xs : List (Bool × V)} {ds : List D}, Rps K H ds (xs.map (·.2)) → Rps K H (repT (xs.map fun q => D.bl q.1) ds (qb b) d) ((xs.map fun x => if x.1 = b then (x.1, w) else x).map (·.2))
  | [], ds, r => rfl
  | x :: xs, [], r => nomatch (show (_ :: _ : List V) = [] from r)
  | x :: xs, g :: ds, r => by
    obtain ⟨z, r', e2, rz, rr⟩ := r
    cases e2
    refine ⟨_, _, rfl, ?_, repB_rp rw' rr⟩
    dsimp only
    by_cases e : x.1 = b
    · rw [if_pos (by rw [e]; rfl), if_pos e]; exact rw'
    · rw [show nk (D.bl x.1) = some (qb x.1) from rfl, if_neg (fun z => e (qb_inj.mp (Option.some.inj z))), if_neg e]; exact rz
theorem put_bools {ds : List D} {xs : List (Bool × V)} {b : Bool} {d : D} {w : V} (hr : Rps K H ds (xs.map (·.2))) (rw' : Rp K H d w) :
    addT (.bl b) (qb b) (xs.map fun q => D.bl q.1) = (putY xs (memT (qb b) (xs.map fun q => D.bl q.1)) b w).map (fun q => D.bl q.1) ∧ Rps K H (putT (xs.map fun q => D.bl q.1) ds (qb b) d) ((putY xs (memT (qb b) (xs.map fun q => D.bl q.1)) b w).map (·.2)) := by
  unfold addT putT putY
  cases memT (qb b) (xs.map fun q => D.bl q.1) with
  | true =>
    refine ⟨?_, repB_rp rw' hr⟩
    simp only [if_true]
    rw [List.map_map]
    refine List.map_congr_left fun x _ => ?_
    by_cases e : x.1 = b <;> simp [e]
  | false =>
    refine ⟨by simp, ?_⟩
    simp only [Bool.false_eq_true, if_false, List.map_append]
    exact hr.append (.cons rw' .nil)
theorem pairs_num {P : Program} {w : World} : ∀ {es : List DictEntry} {vs : List (Leaf × Value)}, Pairs (leafKind P w) es vs → (∀ x ∈ vs, ∃ i, x.1 = .num i) → ∀ e ∈ es, ∃ i, (Leaf.num i).isOf e.key = true
  | _, _, .nil, _, e, he => by cases he
  | _, _, .cons h1 h2 t, h, e, he => by
    rcases List.mem_cons.mp he with rfl | he
    · obtain ⟨i, hi⟩ := h _ List.mem_cons_self
      exact ⟨i, by rw [← hi]; exact h1⟩
    · exact pairs_num t (fun x hx => h x (List.mem_cons_of_mem _ hx)) e he
theorem pairs_any {P P' : Program} {w w' : World} : ∀ {es : List DictEntry} {vs : List (Leaf × Value)}, Pairs (leafKind P w) es vs → Pairs (leafKind P' w') es vs
  | _, _, .nil => .nil
  | _, _, .cons h1 h2 t => .cons h1 h2 (pairs_any t)
theorem dictOf_any {P P' : Program} {w w' : World} {h : Heap} {p : Addr} {vs : List (Leaf × Value)} (hn : ∀ x ∈ vs, ∃ i, x.1 = .num i) (d : h.DictOf (leafKind P w) p vs) : h.DictOf (leafKind P' w') p vs := by
  obtain ⟨o, es, ep, g, c, dt, ko, pr, nd⟩ := d
  refine ⟨o, es, ep, g, c, dt, fun e he => ?_, pairs_any pr, nd⟩
  obtain ⟨k, h1, h2⟩ := ko e he
  obtain ⟨i, hi⟩ := pairs_num pr hn e (by simpa using he)
  have := (leafKind P w).inj _ _ _ h1 hi
  subst this
  exact ⟨_, hi, h2⟩
theorem dbr_num : ∀ {xs : List (Bool × V)} {vs : List (Leaf × Value)}, DBR xs vs → ∀ x ∈ vs, ∃ i, x.1 = .num i
  | _, _, .nil, x, hx => by cases hx
  | _, _, .cons r t, x, hx => by
    rcases List.mem_cons.mp hx with rfl | hx
    · exact ⟨_, r.1⟩
    · exact dbr_num t x hx
/-! ### nothing in it -/
def Emp (h : Heap) (p : Addr) : Prop := ∃ o es ep, h.get? p = some o ∧ o.ExactDict ∧ o.data = .dict es ep ∧ es.toList = []
theorem Emp.nest {P : Program} {w : World} {h : Heap} {p : Addr} (e : Emp h p) : h.DictOfH (nestedKind P w) p [] := by
  obtain ⟨o, es, ep, g, c, d, n⟩ := e
  exact ⟨o, es, ep, g, c, d, n, (fun _ z => nomatch z), List.nodup_nil⟩
theorem Emp.leaf {P : Program} {w : World} {h : Heap} {p : Addr} (e : Emp h p) : h.DictOf (leafKind P w) p [] := by
  obtain ⟨o, es, ep, g, c, d, n⟩ := e
  refine ⟨o, es, ep, g, c, d, fun x hx => ?_, by rw [n]; exact .nil, List.nodup_nil⟩
  have : x ∈ es.toList := by simpa using hx
  rw [n] at this; cases this
theorem emp_of {P : Program} {w : World} {κ : Type} [DecidableEq κ] {knd : KeyKind P w κ} {h : Heap} {p : Addr} (d : h.DictOf knd p []) : Emp h p := by
  obtain ⟨o, es, ep, g, c, d, _, pr, _⟩ := d
  refine ⟨o, es, ep, g, c, d, ?_⟩
  cases e : es.toList with
  | nil => rfl
  | cons x xs => rw [e] at pr; cases pr
end
section
variable {X : Cx} {pins : List (Addr × Obj)} {σ : St} {H : Hp} {s : Shared}
def RdT (X : Cx) (H : Hp) (s : Shared) (ks ds : List D) (p : Addr) : Prop :=
  ∃ (xs : List (NestedKey × Addr × V)) (vs : List (NestedKey × Addr × Value)), KeysR X.K H ks xs ∧ DR xs vs ∧ s.heap.DictOfH (nestedKind X.prog X.w) p vs ∧ xs.length ≤ sizeLine ∧ Rps X.K H ds (xs.map (·.2.2))
def RdB (X : Cx) (H : Hp) (s : Shared) (ks ds : List D) (p : Addr) : Prop :=
  ∃ (xs : List (Bool × V)) (vs : List (Leaf × Value)), ks = xs.map (fun q => D.bl q.1) ∧ DBR xs vs ∧ s.heap.DictOf (leafKind X.prog X.w) p vs ∧ xs.length ≤ sizeLine ∧ Rps X.K H ds (xs.map (·.2))
theorem dr_len {xs : List (NestedKey × Addr × V)} {vs : List (NestedKey × Addr × Value)} (h : DR xs vs) : vs.length = xs.length := by
  induction h with
  | nil => rfl
  | cons _ _ ih => simp [ih]
theorem dbr_len {xs : List (Bool × V)} {vs : List (Leaf × Value)} (h : DBR xs vs) : vs.length = xs.length := by
  induction h with
  | nil => rfl
  | cons _ _ ih => simp [ih]
theorem rdT_of (I : L2.Inv X pins σ H s) {p : Addr} {ks ds : List D} {xs : List (NestedKey × Addr × V)} (hp : H p = some (DTO p xs)) (kr : KeysR X.K H ks xs) (hr : Rps X.K H ds (xs.map (·.2.2))) : RdT X H s ks ds p ∧ (p == sysModules) = false := by
  obtain ⟨vs, r, ⟨o, es, ep, g, c, d, e⟩, nd, hz, hs⟩ := (I.hok p _ hp).1
  exact ⟨⟨xs, vs, kr, r, ⟨o, es, ep, g, c, d, e X.w, keys_is I kr r, nd⟩, hz, hr⟩, hs⟩
theorem rdB_of (I : L2.Inv X pins σ H s) {p : Addr} {ds : List D} {xs : List (Bool × V)} (hp : H p = some (DBO p xs)) (hr : Rps X.K H ds (xs.map (·.2))) : RdB X H s (xs.map fun q => D.bl q.1) ds p ∧ (p == sysModules) = false := by
  obtain ⟨vs, r, d, hz, hs⟩ := (I.hok p _ hp).1
  exact ⟨⟨xs, vs, rfl, r, d _ _, hz, hr⟩, hs⟩
theorem RdT.emp {ds : List D} {p : Addr} (h : RdT X H s [] ds p) : Emp s.heap p ∧ ds = [] := by
  obtain ⟨xs, vs, kr, r, d, _, hr⟩ := h
  have : xs = [] := kr
  subst this
  cases r
  obtain ⟨o, es, ep, g, c, d, e, _⟩ := d
  refine ⟨⟨o, es, ep, g, c, d, e⟩, ?_⟩
  cases ds with
  | nil => rfl
  | cons x xs => obtain ⟨_, _, e, _⟩ := hr; cases e
theorem RdB.emp {ds : List D} {p : Addr} (h : RdB X H s [] ds p) : Emp s.heap p ∧ ds = [] := by
  obtain ⟨xs, vs, kr, r, d, _, hr⟩ := h
  have : xs = [] := List.map_eq_nil_iff.mp kr.symm
  subst this
  cases r
  refine ⟨emp_of d, ?_⟩
  cases ds with
  | nil => rfl
  | cons x xs => obtain ⟨_, _, e, _⟩ := hr; cases e
theorem Emp.rdT {p : Addr} (e : Emp s.heap p) : RdT X H s [] [] p := ⟨[], [], rfl, .nil, e.nest, Nat.zero_le _, rfl⟩
theorem Emp.rdB {p : Addr} (e : Emp s.heap p) : RdB X H s [] [] p := ⟨[], [], rfl, .nil, e.leaf, Nat.zero_le _, rfl⟩
/-- such a dict, or an empty one -/
theorem dkt_rd (I : L2.Inv X pins σ H s) {y : D} {v : V} {ks ds : List D} (h : VwR X.K H y v) (e : dkv y = some (ks, ds)) :
    ∃ p, v = .ref p ∧ (p == sysModules) = false ∧ (RdT X H s ks ds p ∨ RdB X H s ks ds p) := by
  cases y with
  | dkt ks' vs' =>
    cases e
    obtain ⟨p, rfl, h0⟩ := h.dkt
    rcases h0 with ⟨xs, h1, h2, h3⟩ | ⟨xs, rfl, h2, h3⟩
    · obtain ⟨a, b⟩ := rdT_of I h1 h2 h3
      exact ⟨p, rfl, b, .inl a⟩
    · obtain ⟨a, b⟩ := rdB_of I h2 h3
      exact ⟨p, rfl, b, .inr a⟩
  | dct ks' vs' =>
    unfold dkv at e
    split at e
    · rename_i h0; cases h0
    · rename_i h0; cases h0; cases e
      obtain ⟨p, kvs, rfl, ek, hp, _⟩ := h.dct
      have : kvs = [] := List.map_eq_nil_iff.mp ek.symm
      subst this
      obtain ⟨_, hs, vs, kv, d⟩ := hp.ok I.hok
      cases kv
      exact ⟨p, rfl, hs, .inl (emp_of d).rdT⟩
    · cases e
  | _ => cases e
theorem ckey_cases {ks : List D} {x : D} {q : NestedKey} (e : ckey ks x = some q) : (ks.all isTupD = true ∧ isTupD x = true ∧ nk x = some q ∧ q.depth ≤ 8) ∨ (ks.all isBlD = true ∧ ∃ b, x = .bl b ∧ q = qb b) := by
  unfold ckey at e
  split at e
  · split at e
    · rename_i h
      split at e
      · rename_i q' h2
        split at e
        · rename_i h3; cases e; exact .inl ⟨h, rfl, h2, h3⟩
        · cases e
      · cases e
    · cases e
  · split at e
    · rename_i h; cases e; exact .inr ⟨h, _, rfl, rfl⟩
    · cases e
  · cases e
theorem RdB.tups {ks ds : List D} {p : Addr} (h : RdB X H s ks ds p) (a : ks.all isTupD = true) : RdT X H s ks ds p := by
  have h' := h
  obtain ⟨xs, vs, rfl, _⟩ := h
  cases xs with
  | nil =>
    obtain ⟨e, rfl⟩ := RdB.emp h'
    exact e.rdT
  | cons x xs => simp [isTupD] at a
theorem RdT.bls {ks ds : List D} {p : Addr} (h : RdT X H s ks ds p) (a : ks.all isBlD = true) : RdB X H s ks ds p := by
  have h' := h
  obtain ⟨xs, vs, kr, _⟩ := h
  cases ks with
  | nil =>
    obtain ⟨e, rfl⟩ := RdT.emp h'
    exact e.rdB
  | cons x ks =>
    obtain ⟨_, _, _, _, _, ht, _⟩ := kr
    rw [List.all_cons, Bool.and_eq_true] at a
    cases x <;> first | (cases ht; done) | (cases a.1; done)
/-- by its key -/
theorem dkt_key (I : L2.Inv X pins σ H s) {ks ds : List D} {p : Addr} (h : RdT X H s ks ds p ∨ RdB X H s ks ds p) {x : D} {xv : V} {u : Value} {q : NestedKey} (e : ckey ks x = some q) (hx : VwR X.K H x xv) (ru : RelV xv u) :
    (∃ a, u = .ref a ∧ xv = .ref a ∧ Rp X.K H x xv ∧ nk x = some q ∧ isTupD x = true ∧ (nestedKind X.prog X.w).is s.heap q a ∧ RdT X H s ks ds p) ∨ (∃ b, u = .bool b ∧ x = .bl b ∧ q = qb b ∧ RdB X H s ks ds p) := by
  rcases ckey_cases e with ⟨h1, h2, h3, h4⟩ | ⟨h1, b, rfl, rfl⟩
  · have hr : Rp X.K H x xv := by
      cases x with
      | tup ds =>
        rcases hx with hx | ⟨_, _, hx⟩
        · exact hx
        · exact hx.elim
      | _ => cases h2
    have hn := rp_nk I hr ru h3
    left
    have : ∃ a, xv = .ref a := by
      cases x with
      | tup ds => obtain ⟨a, _, e, _⟩ := hr; exact ⟨a, e⟩
      | _ => cases h2
    obtain ⟨a, rfl⟩ := this
    have eu : u = .ref a := ru
    subst eu
    exact ⟨a, rfl, rfl, hr, h3, h2, ⟨hn, h4⟩, h.elim id fun z => z.tups h1⟩
  · right
    have := hx.bl
    subst this
    exact ⟨b, ru, rfl, rfl, h.elim (fun z => z.bls h1) id⟩
theorem isBl {P : Program} {w : World} (b : Bool) : (leafKind P w).is (lb b) (.bool b) = true := by
  show decide (_ = _) = true
  exact decide_eq_true rfl
/-- in, not in -/
theorem op_inDkt (hu : X.A.units + 65 < cLine) (neg : Bool) : OpR X (compareOp (if neg then .NotIn else .In)) (fun x y H Q => ∃ d e ks vs q, VwR X.K H d x ∧ VwR X.K H e y ∧ dkv e = some (ks, vs) ∧ ckey ks d = some q ∧ Q (.bl (if neg then !memT q ks else memT q ks)) H) := by
  intro pins s σ H x y v u Q I rx ry ⟨d, e, ks, vs, q, vd, ve, h1, h2, hq⟩
  obtain ⟨p, rfl, hs, hr⟩ := dkt_rd I ve h1
  have : u = .ref p := ry
  subst this
  have hroom : (nestedKind X.prog X.w).room X.A.in1 := by show X.A.in1.units + 8 < cLine; show X.A.units + 1 + 8 < cLine; omega
  rcases dkt_key I hr h2 vd rx with ⟨a, rfl, rfl, hx, hn, ht, hi, xs, ys, kr, dr, dk, hz, rr⟩ | ⟨b, rfl, rfl, rfl, xs, ys, rfl, dr, dk, hz, rr⟩
  · cases neg with
    | false => exact wpAny_in_heap hroom hi hs dk ⟨.bl _, H, I.tok _, by rw [← memT_at q kr dr]; rfl, hq⟩
    | true => exact wpAny_notIn_heap hroom hi hs dk ⟨.bl _, H, I.tok _, by rw [← memT_at q kr dr]; rfl, hq⟩
  · cases neg with
    | false => exact wpAny_in_of (knd := leafKind X.prog X.w) (isBl b) hs dk.mapOf ⟨.bl _, H, I.tok _, by rw [← memB_at b dr]; rfl, hq⟩
    | true => exact wpAny_notIn_of (knd := leafKind X.prog X.w) (isBl b) hs dk.mapOf ⟨.bl _, H, I.tok _, by rw [← memB_at b dr]; rfl, hq⟩
theorem dkt_typeIs {ks ds : List D} {p : Addr} (h : RdT X H s ks ds p ∨ RdB X H s ks ds p) : s.TypeIs (.ref p) "dict" := by
  rcases h with ⟨_, _, _, _, d, _⟩ | ⟨_, _, _, _, d, _⟩
  · exact d.typeIs
  · exact d.typeIs
/-- len -/
theorem call_lenDT : CallR X (.builtin "len") (fun xs H Q => ∃ a e ks ds, xs = [V.ref a] ∧ VwR X.K H e (.ref a) ∧ dkv e = some (ks, ds) ∧ Q (.int ks.length) H) := by
  intro pins s σ H xs us Q I r ⟨a, e, ks, ds, h0, ve, h1, q⟩
  subst h0
  rw [Vals.ref1 r]
  obtain ⟨p, ep, hs, hr⟩ := dkt_rd I ve h1
  cases ep
  have hT := dkt_typeIs hr
  rcases hr with ⟨xs, vs, kr, dr, dk, hz, _⟩ | ⟨xs, vs, rfl, dr, dk, hz, _⟩
  · have hl : vs.length = ks.length := by rw [dr_len dr, kr.len]
    have hz' : ks.length ≤ sizeLine := by rw [← kr.len]; exact hz
    rw [sizeLine_eq] at hz'
    refine PyProof.Rows.call_len_slot (n := ks.length) hT PySem.F.slot_dict_len (fun Q' hq => len_keyed hs ⟨_, dk, rfl⟩ ?_) (by omega) (by omega) ⟨.int ks.length, H, I.tok _, ⟨_, rfl⟩, q⟩
    rw [pairsH_length, hl]
    exact hq
  · have hl := dbr_len dr
    rw [sizeLine_eq] at hz
    refine call_len_dict hs dk (by rw [hl]; omega) ?_
    rw [hl]
    rw [List.length_map] at q
    exact ⟨.int xs.length, H, I.tok _, ⟨_, rfl⟩, q⟩
/-- d[k] -/
theorem ix_dkt (hu : X.A.units + 65 < cLine) : IxR X (fun x y H Q => ∃ e ks ds d q r, VwR X.K H e x ∧ dkv e = some (ks, ds) ∧ VwR X.K H d y ∧ ckey ks d = some q ∧ getT ks ds q = some r ∧ ∀ z, Rp X.K H r z → Q z H) := by
  intro value slice pins s σ H x y v u Q I rx ry ⟨e, ks, ds, d, q, r, ve, h1, vd, h2, h3, hq⟩ hs
  obtain ⟨p, rfl, hsm, hr⟩ := dkt_rd I ve h1
  have : v = .ref p := rx
  subst this
  have hT := dkt_typeIs hr
  have hroom : (nestedKind X.prog X.w).room X.A.in1 := by show X.A.units + 1 + 8 < cLine; omega
  have get : ∀ (Q' : Value → Shared → Prop), (∀ z w' s', L2.Inv X pins σ H s' → RelV z w' → Rp X.K H r z → Q' w' s') → wpAny (model X.prog X.w) X.A (getItem (.ref p) u) Q' X.xe s := by
    intro Q' hQ
    rcases dkt_key I hr h2 vd ry with ⟨a, rfl, rfl, hx, hn, ht, hi, xs, ys, kr, dr, dk, hz, rr⟩ | ⟨b, rfl, rfl, rfl, xs, ys, rfl, dr, dk, hz, rr⟩
    · obtain ⟨pp, z, e1, e2, e3⟩ := getT_at kr dr rr h3
      exact wpAny_getItem_heap hroom hi dk e1 (hQ z _ _ (I.tok _) e2 e3)
    · obtain ⟨pp, z, e1, e2, e3⟩ := getB_at dr rr h3
      exact wpAny_getItem_of (knd := leafKind X.prog X.w) (isBl b) dk.mapOf e1 (hQ z _ _ (I.tok _) e2 e3)
  have fin : wpAny (model X.prog X.w) X.A (subscripted slice false (.ref p) u) (fun r s₃ => wpAny (model X.prog X.w) X.A (letTemporaryGo value (.ref p) r >>= fun _ => pure r) (EP X pins σ Q) X.xe s₃) X.xe s := by
    rw [hs]
    exact wpAny_operating (get _ fun z w' s' I' r' rz => wpAny_bind (wpAny_letTemporaryGo (wpAny_pure ⟨z, H, I', r', hq z rz⟩)))
  unfold subscriptTail
  refine wpAny_bind ?_
  rw [getitemInPython_of_ne hT.not_modules]
  refine wpAny_bind (wpAny_specialOf hT PySem.F.slot_dict_getitem.lookup ?_)
  first
    | exact wpAny_pure (wpAny_bind fin)
    | exact wpAny_bind (wpAny_pure (wpAny_bind fin))
    | exact wpAny_bind fin
/-! ### d[k] = v -/
mutual
theorem nk_hash (w w' : World) : ∀ {d : D} {k : NestedKey}, nk d = some k → k.hash w = k.hash w'
  | .non, k, e => by
    rw [← Option.some.inj (show some NestedKey.none = some k from by simpa [nk] using e)]; rfl
  | .int i, k, e => by
    rw [← Option.some.inj (show some (NestedKey.num i) = some k from by simpa [nk] using e)]; rfl
  | .bl b, k, e => by
    rw [← Option.some.inj (show some (NestedKey.num (if b = true then 1 else 0)) = some k from by simpa only [nk] using e)]; rfl
  | .str _, _, e => by simp [nk] at e
  | .lst _, _, e => by simp [nk] at e
  | .set _, _, e => by simp [nk] at e
  | .dct _ _, _, e => by simp [nk] at e
  | .dkt _ _, _, e => by simp [nk] at e
  | .fn _, _, e => by simp [nk] at e
  | .tup ds, k, e => by
    simp only [nk, Option.map_eq_some_iff] at e
    obtain ⟨ks, e1, rfl⟩ := e
    simp only [NestedKey.hash]
    rw [nks_hash w w' e1]
theorem nks_hash (w w' : World) : ∀ {ds : List D} {ks : List NestedKey}, nks ds = some ks → NestedKey.hashes w ks = NestedKey.hashes w' ks
  | [], ks, e => by
    rw [← Option.some.inj (show some [] = some ks from by simpa [nks] using e)]; rfl
  | d :: ds, ks, e => by
    simp only [nks] at e
    cases e1 : nk d with
    | none => rw [e1] at e; simp at e
    | some k =>
      cases e2 : nks ds with
      | none => rw [e1, e2] at e; simp at e
      | some r =>
        rw [e1, e2] at e
        cases e
        simp only [NestedKey.hashes]
        rw [nk_hash w w' e1, nks_hash w w' e2]
end
theorem keys_hash (w w' : World) {K : PySem.W.Frag} {H : Hp} : ∀ {ks : List D} {xs : List (NestedKey × Addr × V)} {vs : List (NestedKey × Addr × Value)}, KeysR K H ks xs → DR xs vs → ∀ x ∈ vs, x.1.hash w = x.1.hash w'
  | [], _, _, h, r, x, hx => by rw [show _ = [] from h] at r; cases r; cases hx
  | d :: ds, _, _, h, r, x, hx => by
    obtain ⟨y, t, rfl, h1, h2, _, h3, h4⟩ := h
    cases r with
    | cons r1 r2 =>
      rename_i b bs
      rcases List.mem_cons.mp hx with rfl | hx
      · rw [← r1.1]
        exact nk_hash w w' h1
      · exact keys_hash w w' h4 r2 x hx
theorem dt0_stay {p : Addr} {xs : List (NestedKey × Addr × V)} {h1 h2 : Heap} (h : DT0 h1 p xs) (k : ∀ o, h1.get? p = some o → h2.get? p = some o) : DT0 h2 p xs := by
  obtain ⟨vs, r, ⟨o, es, ep, g, c⟩, z⟩ := h
  exact ⟨vs, r, ⟨o, es, ep, k o g, c⟩, z⟩
theorem db0_stay {p : Addr} {xs : List (Bool × V)} {h1 h2 : Heap} (h : DB0 h1 p xs) (k : ∀ o, h1.get? p = some o → h2.get? p = some o) : DB0 h2 p xs := by
  obtain ⟨vs, r, d, z⟩ := h
  exact ⟨vs, r, fun P w => let ⟨o, es, ep, g, c⟩ := d P w; ⟨o, es, ep, k o g, c⟩, z⟩
theorem putX_len {xs : List (NestedKey × Addr × V)} {m : Bool} {q : NestedKey} {a : Addr} {w : V} : (putX xs m q a w).length ≤ xs.length + 1 := by
  unfold putX; split <;> simp
theorem putY_len {xs : List (Bool × V)} {m b : Bool} {w : V} : (putY xs m b w).length ≤ xs.length + 1 := by
  unfold putY; split <;> simp
def rSetT (K : PySem.W.Frag) : V → V → V → Hp → (Hp → Prop) → Prop := fun o i v H Q => ∃ p e ks ds x q d, o = .ref p ∧ OwnAt K H e p ∧ dkv e = some (ks, ds) ∧ Rp K H x i ∧ ckey ks x = some q ∧ Rp K H d v ∧ ks.length < line ∧
  ∀ o', (∀ H', H' = upd H p o' → OwnAt K H' (.dkt (addT x q ks) (putT ks ds q d)) p) → Q (upd H p o')
theorem set_dkt (hu : X.A.units + 65 < cLine) : PSet X (rSetT X.K) := by
  intro pins s σ H o i v ov iv u Q I ro ri rv h
  obtain ⟨p, e, ks, ds, x, q, d, rfl, ow, h1, hx, h2, hd, hl, hQ⟩ := h
  have : ov = .ref p := ro
  subst this
  obtain ⟨p', ep, hs, hr⟩ := dkt_rd I (v := .ref p) (.inr ⟨p, rfl, ow⟩) h1
  cases ep
  have hm : Mut (H p) := by
    cases e with
    | dkt _ _ => rcases ow with ⟨xs, h, _⟩ | ⟨xs, _, h, _⟩ <;> rw [h] <;> trivial
    | dct _ _ => obtain ⟨_, _, h, _⟩ := ow; rw [h]; trivial
    | _ => cases h1
  have hnf : ∀ ob u, H p ≠ some (.frz ob u) := fun ob u z => by rw [z] at hm; exact hm
  have hroom : (nestedKind X.prog X.w).room X.A.in1 := by show X.A.units + 1 + 8 < cLine; omega
  have hline : ks.length + 1 ≤ sizeLine := by rw [← line_eqK]; omega
  rcases dkt_key I hr h2 (.inl hx) ri with ⟨a, rfl, rfl, _, hn, ht, hi, xs, ys, kr, dr, dk, hz, rr⟩ | ⟨b, rfl, rfl, rfl, xs, ys, rfl, dr, dk, hz, rr⟩
  · have hlen : ys.length ≤ sizeLine := by rw [dr_len dr]; exact hz
    refine wpAny_setItem_heap (hsz := hlen) hroom hi dk fun h' dk' sb => ?_
    obtain ⟨kr', rr'⟩ := put_keys (K := X.K) (H := H) kr rr hn hi.2 ht hx hd
    have dr' := putX_DR (q := q) (a := a) dr rv
    rw [← memT_at q kr dr] at dr'
    obtain ⟨ob, es, ep, g, c, dd, ee, _, nd⟩ := dk'
    have ok : DT0 h' p (putX xs (memT q ks) q a v) := ⟨_, dr', ⟨ob, es, ep, g, c, dd, fun w => by
      rw [ee]
      refine List.map_congr_left fun z hz => ?_
      show (⟨z.1.hash X.w, _, _⟩ : DictEntry) = _
      rw [keys_hash X.w w kr' dr' z hz]⟩, nd, by have := putX_len (xs := xs) (m := memT q ks) (q := q) (a := a) (w := v); rw [kr.len] at this; omega, hs⟩
    refine ⟨upd H p (DTO p (putX xs (memT q ks) q a v)), I.write (e := p) (t' := s.toks + (nestedKind X.prog X.w).draws q) hm (.inl rfl) (fun c u hc hu => (sb.2 c hc).trans hu) ⟨ob, g⟩ ⟨ok, ⟨ob, g⟩, fun _ _ z k => dt0_stay z k⟩, hQ _ fun H' eH => ?_⟩
    subst eH
    exact .inl ⟨_, upd_same, kr'.mono (upd_kp hnf), rr'.mono (upd_kp hnf)⟩
  · have hlen : ys.length ≤ sizeLine := by rw [dbr_len dr]; exact hz
    refine wpAny_setItem_pairs (knd := leafKind X.prog X.w) (hsz := hlen) (isBl b) dk fun h' dk' sb => ?_
    obtain ⟨ek, rr'⟩ := put_bools (K := X.K) (H := H) (b := b) (d := d) rr hd
    have dr' := putY_DBR (b := b) dr rv
    rw [← memB_at b dr] at dr'
    obtain ⟨ob, g⟩ : ∃ ob, h'.get? p = some ob := let ⟨ob, _, _, g, _⟩ := dk'; ⟨ob, g⟩
    have ok : DB0 h' p (putY xs (memT (qb b) (xs.map fun q => PF.D.bl q.1)) b v) := ⟨_, dr', fun P w => dictOf_any (dbr_num dr') dk', by have := putY_len (xs := xs) (m := memT (qb b) (xs.map fun q => PF.D.bl q.1)) (b := b) (w := v); rw [List.length_map] at hline; omega, hs⟩
    refine ⟨upd H p (DBO p (putY xs (memT (qb b) (xs.map fun q => PF.D.bl q.1)) b v)), I.write (e := p) (t' := s.toks + 1) hm (.inl rfl) (fun c u hc hu => (sb.2 c hc).trans hu) ⟨ob, g⟩ ⟨ok, ⟨ob, g⟩, fun _ _ z k => db0_stay z k⟩, hQ _ fun H' eH => ?_⟩
    subst eH
    exact .inr ⟨_, ek, upd_same, rr'.mono (upd_kp hnf)⟩
end
end PF
/-! PF3: the operations, by values. -/
namespace PF
open PySem PySem.Spec PyProof.Rows L2

theorem OpR.imp {X : Cx} {f : Value → Value → Sem Value} {r r' : R2} (h : OpR X f r) (i : ∀ x y H Q, r' x y H Q → r x y H Q) : OpR X f r' :=
  fun pins s σ H x y v u Q I rx ry q => h pins s σ H x y v u Q I rx ry (i _ _ _ _ q)
theorem CallR.imp {X : Cx} {f : Value} {r r' : List V → Hp → VK → Prop} (h : CallR X f r) (i : ∀ xs H Q, r' xs H Q → r xs H Q) : CallR X f r' :=
  fun pins s σ H x u Q I rx q => h pins s σ H x u Q I rx (i _ _ _ q)
theorem PE.imp {X : Cx} {e : Expr} {t t' : TE} (h : PE X e t) (i : ∀ σ H Q, t' σ H Q → t σ H Q) : PE X e t' :=
  ⟨fun pins s σ H Q I q => h.run pins s σ H Q I (i _ _ _ q)⟩
theorem PT.imp {X : Cx} {e : Expr} {t t' : TT} (h : PT X e t) (i : ∀ σ H Q, t' σ H Q → t σ H Q) : PT X e t' :=
  ⟨fun pins s σ H Q I q => h.run pins s σ H Q I (i _ _ _ q)⟩
theorem PA.imp {X : Cx} {e : List Expr} {t t' : TA} (h : PA X e t) (i : ∀ σ H Q, t' σ H Q → t σ H Q) : PA X e t' :=
  ⟨fun pos pins s σ H Q I q => h.run pos pins s σ H Q I (i _ _ _ q)⟩
theorem PS.imp {X : Cx} {e : Stmt} {t t' : TS} (h : PS X e t) (i : ∀ D σ H, t' D σ H → t D σ H) : PS X e t' :=
  ⟨fun pins s σ H D I q => h.run pins s σ H D I (i _ _ _ q)⟩
theorem PSs.imp {X : Cx} {e : List Stmt} {t t' : TS} (h : PSs X e t) (i : ∀ D σ H, t' D σ H → t D σ H) : PSs X e t' :=
  ⟨fun pins s σ H D I q => h.run pins s σ H D I (i _ _ _ q)⟩
theorem PI.imp {X : Cx} {tg e : Expr} {t t' : TI} (h : PI X tg e t) (i : ∀ σ H Q, t' σ H Q → t σ H Q) : PI X tg e t' :=
  ⟨fun pins s σ H Q I q => h.run pins s σ H Q I (i _ _ _ q)⟩
theorem PI.or {X : Cx} {tg e : Expr} {t t' : TI} (h : PI X tg e t) (h' : PI X tg e t') : PI X tg e (fun σ H Q => t σ H Q ∨ t' σ H Q) :=
  ⟨fun pins s σ H Q I q => q.elim (h.run pins s σ H Q I) (h'.run pins s σ H Q I)⟩

theorem line_eq : line = sizeLine := by rw [sizeLine_eq]; rfl

/-- what an operation gives -/
def ResR (K : PySem.W.Frag) (H : Hp) (r : Opd) (v : V) (H' : Hp) : Prop :=
  Same H H' ∧ match r with
    | .dat d => Rp K H' d v
    | .own d => ∃ p, v = .ref p ∧ H p = none ∧ OwnAt K H' d p
    | .slot _ => False
theorem res_here {K : PySem.W.Frag} {H : Hp} {d : D} {v : V} (h : Rp K H d v) : ResR K H (.dat d) v H := ⟨Same.refl H, h⟩
theorem res_tup {K : PySem.W.Frag} {H : Hp} {ds : List D} {vs : List V} {p : Addr} {o : Obj} (h : Rps K H ds vs) (n : H p = none) (d : o.dict = none) : ResR K H (.dat (.tup ds)) (.ref p) (upd H p (.frz o (.tup vs))) :=
  ⟨same_new n, p, vs, rfl, .inl ⟨o, upd_same, d⟩, h.mono (kp_same (same_new n))⟩
theorem res_lst {K : PySem.W.Frag} {H : Hp} {ds : List D} {vs : List V} {p : Addr} (h : Rps K H ds vs) (n : H p = none) : ResR K H (.own (.lst ds)) (.ref p) (upd H p (.lst vs)) :=
  ⟨same_new n, p, rfl, n, vs, upd_same, h.mono (kp_same (same_new n))⟩
theorem res_tup_at {K : PySem.W.Frag} {H : Hp} {ds : List D} {vs : List V} {p : Addr} (t : TupAt K H p vs) (h : Rps K H ds vs) : ResR K H (.dat (.tup ds)) (.ref p) H := ⟨Same.refl H, p, vs, rfl, t, h⟩

section
variable {X : Cx} {pins : List (Addr × Obj)} {σ : St} {H : Hp} {s : Shared}
/-- a new tuple, kept as it is -/
theorem inv_tup {xs : List V} {us : List Value} {n : Nat} {t' : Nat} (I : L2.Inv X pins σ H s) (r : Vals xs us) (z : xs.length ≤ sizeLine) :
    L2.Inv X pins σ (upd H s.heap.objs.size (.frz { cls := .type "tuple", data := .seq us.toArray n } (.tup xs))) { s with heap := s.heap.push { cls := .type "tuple", data := .seq us.toArray n }, toks := t' } :=
  I.laid (fun b u e => Heap.get?_push_of_some _ e) (Nat.le_refl _) ⟨Heap.get?_push_size _ rfl, z, us, r, _, Heap.get?_push_size _ rfl, rfl, n, rfl⟩
theorem inv_fresh (I : L2.Inv X pins σ H s) : H s.heap.objs.size = none := I.hok.fresh (Nat.le_refl _)
/-- the end of an operation that lays a new tuple -/
theorem ep_tup {K : PySem.W.Frag} {ds : List D} {xs : List V} {us : List Value} {n : Nat} {t' : Nat} {Q : VK} (I : L2.Inv X pins σ H s) (r : Vals xs us) (z : xs.length ≤ sizeLine) (h : Rps K H ds xs) (q : ∀ v H', ResR K H (.dat (.tup ds)) v H' → Q v H') :
    EP X pins σ Q (.ref s.heap.objs.size) { s with heap := s.heap.push { cls := .type "tuple", data := .seq us.toArray n }, toks := t' } :=
  ⟨.ref s.heap.objs.size, _, inv_tup I r z, rfl, q _ _ (res_tup h (inv_fresh I) rfl)⟩
end

/-- a tuple of written items -/
def tTupF (t : TA) : TE := fun σ H Q => t σ H fun xs H1 => xs.length ≤ sizeLine ∧ ∀ p o, H1 p = none → o.dict = none → Q (.ref p) (upd H1 p (.frz o (.tup xs)))
theorem pe_tupF {X : Cx} {es : List Expr} {t : TA} {x1 pos} (h : PA X es t) : PE X (.Tuple es x1 pos) (tTupF t) := by
  refine ⟨fun pins s σ H Q I hq => ?_⟩
  refine wpAny_Tuple_spliced (thn (h.run pos pins s σ H _ I hq) fun us s1 ⟨xs, H1, I1, r, z, q⟩ => ⟨by rw [← r.length]; exact z, ?_⟩)
  exact ⟨.ref s1.heap.objs.size, _, inv_tup (t' := s1.toks) I1 r z, rfl, q _ _ (inv_fresh I1) rfl⟩

/-! ### two-place operations -/
def rOp2 (K : PySem.W.Frag) (op : Op2) : R2 := fun x y H Q => ∃ d e r, VwR K H d x ∧ VwR K H e y ∧ op2 op d e = some r ∧ ∀ v H', ResR K H r v H' → Q v H'

/-- t + u -/
def rCatF (K : PySem.W.Frag) : R2 := fun x y H Q => ∃ a b xs ys ds es, x = .ref a ∧ y = .ref b ∧ TupAt K H a xs ∧ TupAt K H b ys ∧ Rps K H ds xs ∧ Rps K H es ys ∧ xs.length + ys.length ≤ sizeLine ∧
  ∀ v H', ResR K H (.dat (.tup (ds ++ es))) v H' → Q v H'
theorem op_catF {X : Cx} : OpR X (binaryOp .Add) (rCatF X.K) := by
  intro pins s σ H x y v u Q I rx ry h
  obtain ⟨a, b, xs, ys, ds, es, rfl, rfl, ha, hb, rd, re, hz, q⟩ := h
  cases rx
  cases ry
  obtain ⟨its, r1, p1, _⟩ := I.tuple ha.sq
  obtain ⟨its2, r2, p2, _⟩ := I.tuple hb.sq
  have ldx := rd.length
  have ley := re.length
  by_cases hx : xs = []
  · subst hx
    cases r1
    have hd : ds = [] := List.eq_nil_of_length_eq_zero (by simpa using ldx.symm)
    subst hd
    exact cat_tup0 p1 p2 ⟨.ref b, H, I, rfl, q _ _ (res_tup_at hb re)⟩
  · refine HT.cat_tup p1 p2 (fun z => hx (r1.nil_iff.mp z)) (fun z => ⟨.ref a, H, I, rfl, ?_⟩) (fun z => ?_) (by rw [← r1.length, ← r2.length]; exact hz)
    · have hy : ys = [] := r2.nil_iff.mp z
      subst hy
      have he : es = [] := List.eq_nil_of_length_eq_zero (by simpa using ley.symm)
      subst he
      refine q _ _ ?_
      rw [List.append_nil]
      exact res_tup_at ha rd
    · exact ep_tup (t' := s.toks) I (r1.append r2) (by rw [List.length_append]; exact hz) (rd.append re) q
/-- two lists -/
def rCatL : R2 := fun x y H Q => ∃ l b xs zs, x = .ref l ∧ y = .ref b ∧ Rd H l (.lst xs) ∧ Rd H b (.lst zs) ∧ xs.length + zs.length ≤ sizeLine ∧ ∀ p, H p = none → Q (.ref p) (upd H p (.lst (xs ++ zs)))
theorem op_catL {X : Cx} : OpR X (binaryOp .Add) rCatL := by
  intro pins s σ H x y v u Q I rx ry h
  obtain ⟨l, b, xs, zs, rfl, rfl, hH, hB, hz, q⟩ := h
  cases rx
  cases ry
  obtain ⟨z, its, n, r, e⟩ := hH.ok I.hok
  obtain ⟨z2, its2, n2, r2, e2⟩ := hB.ok I.hok
  have hl := r.length
  have hl2 := r2.length
  refine PySem.P.add_list e e2 ?_ (by rw [List.size_toArray, List.size_toArray]; omega)
  have ea : its.toArray ++ its2.toArray = (its ++ its2).toArray := by simp
  rw [ea]
  exact ⟨.ref _, _, I.lnew (t' := s.toks) (r.append r2) (by rw [List.length_append]; omega), rfl, q _ I.fresh⟩
/-- a tuple, many times -/
theorem tuple_mul_same (l : Addr) (items : Array Value) (n : Nat) (dd : Option Addr) (sl : Array (Option Value)) (x : Int) (u : Tok) (c0 : (decide (x < -(2 ^ 63)) || decide (x ≥ 2 ^ 63)) = false) (c1 : (items.isEmpty || x == 1) = true) :
    Meets (Builtin.«tuple.__mul__» ⟨[.ref l, .int x u], []⟩) (fun _ R s => s.heap.get? l = some { cls := .type "tuple", dict := dd, data := .seq items n, slots := sl } ∧ R (.ok (.ret (Value.ref l))) s) :=
  .of_wp fun prog w A R s h => by
    obtain ⟨hp, g, d, tk, os⟩ := s
    obtain ⟨hl, h⟩ := h
    have f1 := AutoSeq1.idx_int
    wp_walk using wpAny_loadPart' hl
    repeat (first
      | (refine wpAny_ite_false (decide_eq_false (by rw [c0]; exact Bool.false_ne_true)) ?_; wp_walk using wpAny_loadPart' hl)
      | (refine wpAny_ite_true (decide_eq_true c1) ?_; wp_walk using wpAny_loadPart' hl))
    exact ⟨_, rfl, h⟩
theorem tuple_mul_none (l : Addr) (items : Array Value) (n : Nat) (dd : Option Addr) (sl : Array (Option Value)) (x : Int) (u : Tok) (c0 : (decide (x < -(2 ^ 63)) || decide (x ≥ 2 ^ 63)) = false) (c1 : (items.isEmpty || x == 1) = false) (c2 : (decide (x ≤ 0) || items.isEmpty) = true)
    (hsz : (#[] : Array Value).size ≤ sizeLine) :
    Meets (Builtin.«tuple.__mul__» ⟨[.ref l, .int x u], []⟩) (fun _ R s => s.heap.get? l = some { cls := .type "tuple", dict := dd, data := .seq items n, slots := sl } ∧
      R (.ok (.ret (Value.ref s.heap.objs.size))) { s with heap := s.heap.push { cls := Value.type "tuple", data := Data.seq #[] }, toks := s.toks }) :=
  .of_wp fun prog w A R s h => by
    obtain ⟨hp, g, d, tk, os⟩ := s
    obtain ⟨hl, h⟩ := h
    have f1 := AutoSeq1.idx_int
    wp_walk using wpAny_loadPart' hl
    repeat (first
      | (refine wpAny_ite_false (decide_eq_false (by rw [c0]; exact Bool.false_ne_true)) ?_; wp_walk using wpAny_loadPart' hl)
      | (refine wpAny_ite_false (decide_eq_false (by rw [c1]; exact Bool.false_ne_true)) ?_; wp_walk using wpAny_loadPart' hl)
      | (refine wpAny_ite_true (decide_eq_true c2) ?_; wp_walk using wpAny_loadPart' hl)
      | (refine wpAny_ite_false (decide_eq_false (Nat.not_lt.mpr hsz)) ?_; wp_walk using wpAny_loadPart' hl))
    exact ⟨_, rfl, h⟩
def rRepF (K : PySem.W.Frag) : R2 := fun x y H Q => ∃ l k xs ds, x = .ref l ∧ y = .int k ∧ TupAt K H l xs ∧ Rps K H ds xs ∧ -(2 ^ 63) ≤ k ∧ k < 2 ^ 63 ∧ xs.length * k.toNat ≤ sizeLine ∧
  ∀ v H', ResR K H (.dat (.tup (List.replicate k.toNat ds).flatten)) v H' → Q v H'
theorem op_repF {X : Cx} : OpR X (binaryOp .Mult) (rRepF X.K) := by
  intro pins s σ H x y v u Q I rx ry h
  obtain ⟨l, k, xs, ds, rfl, rfl, hT, rd, h1, h2, hz, q⟩ := h
  cases rx
  obtain ⟨t, rfl⟩ := ry
  obtain ⟨its, r, ⟨⟨cls, dd, data, sl⟩, ho, hc, n, hd⟩, hs⟩ := I.tuple hT.sq
  simp only at hc hd
  subst hc hd
  have hle : its.length = xs.length := r.length.symm
  have hld := rd.length
  have c0 : (decide (k < -(2 ^ 63)) || decide (k ≥ 2 ^ 63)) = false := by
    rw [decide_eq_false (by omega), decide_eq_false (by omega)] <;> rfl
  refine wpAny_binaryOp_repeat_ref (T := "tuple") (U := "int") (by decide) ⟨_, ho, rfl⟩ (fun s' => typeIs_int s' k t) noFill_tuple_mul F.fills_int_mul F.slot_int_rmul repeat_tuple F.slot_int_index.lookup
    (call_meets F.slot_int_rmul (typeIs_int s k t) F.entry_int_rmul (F.args_int_rmul_2 _ _) (int_rmul_tuple k t l its.toArray n dd sl)
      ⟨ho, rfl, ⟨_, ho, rfl⟩, ?_⟩)
  by_cases hsame : (its.toArray.isEmpty || k == 1) = true
  · refine call_meets F.slot_tuple_mul ⟨_, ho, rfl⟩ F.entry_tuple_mul (F.args_tuple_mul_2 _ _) (tuple_mul_same l its.toArray n dd sl k t c0 hsame) ⟨ho, ?_⟩
    refine ⟨.ref l, H, I, rfl, q _ _ ?_⟩
    have e : (List.replicate k.toNat ds).flatten = ds := by
      rcases Bool.or_eq_true _ _ ▸ hsame with e | e
      · have : its = [] := by simpa using e
        have : ds = [] := List.eq_nil_of_length_eq_zero (by rw [← hld, ← hle, this]; rfl)
        rw [this]
        simp
      · have : k = 1 := by simpa using e
        rw [this]
        show (List.replicate 1 ds).flatten = ds
        simp
    rw [e]
    exact res_tup_at hT rd
  · have c1 : (its.toArray.isEmpty || k == 1) = false := by simpa using hsame
    have hne : its.toArray.isEmpty = false := (Bool.or_eq_false_iff.mp c1).1
    by_cases hk : k ≤ 0
    · refine call_meets F.slot_tuple_mul ⟨_, ho, rfl⟩ F.entry_tuple_mul (F.args_tuple_mul_2 _ _) (tuple_mul_none l its.toArray n dd sl k t c0 c1 (by rw [decide_eq_true hk]; rfl) (Nat.zero_le _)) ⟨ho, ?_⟩
      have e : k.toNat = 0 := by omega
      rw [e] at q
      exact ep_tup (us := []) (t' := s.toks) I .nil (Nat.zero_le _) .nil q
    · have c2 : (decide (k ≤ 0) || its.toArray.isEmpty) = false := by rw [hne, Bool.or_false]; exact decide_eq_false hk
      have hsz0 : its.toArray.size = xs.length := by rw [List.size_toArray, hle]
      have hm : ((its.toArray.size : Nat) : Int) * k ≤ 16777216 := by
        rw [hsz0]
        rw [sizeLine_eq] at hz
        have : ((xs.length * k.toNat : Nat) : Int) ≤ 16777216 := by omega
        rw [Int.natCast_mul, Int.toNat_of_nonneg (by omega)] at this
        exact this
      have flen : (List.replicate k.toNat its).flatten.length ≤ sizeLine := by
        rw [PyProof.Rows.lm_len_rep_flat, hle, Nat.mul_comm]
        exact hz
      have c4 : Builtin.Tuple.tupleTooMany (((its.toArray.size : Nat) : Int) * k) = false := by
        unfold Builtin.Tuple.tupleTooMany
        rw [sizeLine_eq]
        exact decide_eq_false (by omega)
      refine call_meets F.slot_tuple_mul ⟨_, ho, rfl⟩ F.entry_tuple_mul (F.args_tuple_mul_2 _ _) (tuple_mulW l its.toArray n dd sl k t c0 c1 c2 (by omega) c4 (by rw [size_rep, List.size_toArray]; exact flen)) ⟨ho, ?_⟩
      rw [size_rep]
      exact ep_tup (t' := s.toks) I (r.rep k.toNat) (by rw [PyProof.Rows.lm_len_rep_flat, Nat.mul_comm]; exact hz) (rd.rep _) q
/-- a list, many times -/
def rRepL : R2 := fun x y H Q => ∃ l k xs, x = .ref l ∧ y = .int k ∧ Rd H l (.lst xs) ∧ -(2 ^ 63) ≤ k ∧ k < 2 ^ 63 ∧ xs.length * k.toNat ≤ sizeLine ∧
  ∀ p, H p = none → Q (.ref p) (upd H p (.lst (List.replicate k.toNat xs).flatten))
theorem op_repL {X : Cx} : OpR X (binaryOp .Mult) rRepL := by
  intro pins s σ H x y v u Q I rx ry h
  obtain ⟨l, k, xs, rfl, rfl, hH, h1, h2, hz, q⟩ := h
  cases rx
  obtain ⟨t, rfl⟩ := ry
  obtain ⟨z, its, n, r, e⟩ := hH.ok I.hok
  have hl := r.length
  have hlen : its.toArray.size * k.toNat ≤ sizeLine := by rw [List.size_toArray, ← hl]; exact hz
  have hcap : ¬ its.toArray.size * k.toNat > (2 ^ 63 - 1) / 8 := by
    have : (sizeLine : Nat) ≤ (2 ^ 63 - 1) / 8 := by decide
    omega
  have hfit : ¬ (!Builtin.List.listFitsIndex k) = true := by
    rw [fitsIndex_both h1 h2]
    exact Bool.false_ne_true
  have hlong : ¬ Builtin.List.listTooLong (its.toArray.size * k.toNat) = true := by
    rw [notLongL hlen]
    exact Bool.false_ne_true
  have hnew : List.foldl (fun x1 x2 => x1 ++ x2) #[] (List.replicate (if its.toArray.isEmpty = true then 0 else k.toNat) its.toArray) = (List.replicate k.toNat its).flatten.toArray := by
    have f0 : ∀ m : Nat, List.foldl (fun x1 x2 => x1 ++ x2) #[] (List.replicate m its.toArray) = (List.replicate m its).flatten.toArray := fun m => by
      have := foldl_rep its m []
      rw [List.nil_append] at this
      exact this
    rw [f0]
    cases its with
    | nil => simp
    | cons a r' => rw [if_neg (by simp)]
  refine wpAny_binaryOp_repeat_ref (T := "list") (U := "int") (by decide) ⟨_, e, rfl⟩ (fun s' => typeIs_int s' k t) noFill_list_mul F.fills_int_mul F.slot_int_rmul repeat_list F.slot_int_index.lookup
    (call_meets F.slot_int_rmul (typeIs_int s k t) F.entry_int_rmul (F.args_int_rmul_2 _ _) (int___rmul___int_list k t l its.toArray n)
      ⟨e, rfl, ⟨_, e, rfl⟩, call_meets F.slot_list_mul ⟨_, e, rfl⟩ F.entry_list_mul (F.args_list_mul_2 _ _) (AutoListH.list___mul___list_int_3 l its.toArray n k t hfit hcap hlong) ⟨e, ?_⟩⟩)
  rw [hnew]
  exact ⟨.ref _, _, I.lnew (t' := s.toks) (r.rep k.toNat) (by rw [PyProof.Rows.lm_len_rep_flat, Nat.mul_comm]; exact hz), rfl, q _ I.fresh⟩
def Op2.py : Op2 → Operator
  | .add => .Add | .sub => .Sub | .mul => .Mult | .fdiv => .FloorDiv | .mod => .Mod | .pow => .Pow | .shl => .LShift | .shr => .RShift | .band => .BitAnd | .bor => .BitOr | .bxor => .BitXor
section
variable {X : Cx}
theorem small_of {i : Int} (h : small64 i = true) : -(2 ^ 64) < i ∧ i < 2 ^ 64 := by
  unfold small64 at h
  simpa using h
theorem op_mulA : OpR X (binaryOp .Mult) (rI (fun i j => (small64 i || small64 j || decide (i.natAbs.log2 + j.natAbs.log2 < 1000000)) = true) fun i j => .int (i * j)) := by
  intro pins s σ H x y v u Q I rx ry h
  obtain ⟨i, j, rfl, rfl, hc, q⟩ := h
  simp only [Bool.or_eq_true, decide_eq_true_eq] at hc
  rcases hc with (hc | hc) | hc
  · exact op_mul pins s σ H _ _ v u Q I rx ry ⟨i, j, rfl, rfl, .inl (small_of hc), q⟩
  · exact op_mul pins s σ H _ _ v u Q I rx ry ⟨i, j, rfl, rfl, .inr (small_of hc), q⟩
  · exact op_mulW pins s σ H _ _ v u Q I rx ry ⟨i, j, rfl, rfl, hc, q⟩
theorem op_fdivA : OpR X (binaryOp .FloorDiv) (rI (fun _ j => 0 < j ∧ (j < 1073741824 ∨ j.natAbs.log2 < 9000)) fun i j => .int (i / j)) := by
  intro pins s σ H x y v u Q I rx ry h
  obtain ⟨i, j, rfl, rfl, ⟨h0, hc⟩, q⟩ := h
  rcases hc with hc | hc
  · exact op_fdiv pins s σ H _ _ v u Q I rx ry ⟨i, j, rfl, rfl, ⟨h0, hc⟩, q⟩
  · exact op_fdivW pins s σ H _ _ v u Q I rx ry ⟨i, j, rfl, rfl, ⟨h0, hc⟩, q⟩
theorem opR2 (op : Op2) : OpR X (binaryOp op.py) (rOp2 X.K op) := by
  cases op with
  | add =>
    refine OpR.imp (((((op_add (X := X)).or op_add_ib).or op_add_str).or op_catF).or op_catL) fun x y H Q h => ?_
    obtain ⟨d, e, r, vd, ve, ho, q⟩ := h
    cases d with
    | int i =>
      cases e with
      | int j => cases ho; exact .inl (.inl (.inl (.inl ⟨i, j, vd.int, ve.int, q _ _ (res_here rfl)⟩)))
      | bl j => cases ho; exact .inl (.inl (.inl (.inr ⟨i, j, vd.int, ve.bl, q _ _ (res_here rfl)⟩)))
      | _ => cases ho
    | str i =>
      cases e with
      | str j =>
        simp only [op2] at ho
        split at ho
        · rename_i hz
          cases ho
          exact .inl (.inl (.inr ⟨i, j, vd.str, ve.str, by rw [← line_eq]; exact hz, q _ _ (res_here rfl)⟩))
        · cases ho
      | _ => cases ho
    | tup ds =>
      cases e with
      | tup es =>
        simp only [op2] at ho
        split at ho
        · rename_i hz
          cases ho
          obtain ⟨p, vs, rfl, t, rd⟩ := vd.tup
          obtain ⟨p2, vs2, rfl, t2, rd2⟩ := ve.tup
          exact .inl (.inr ⟨p, p2, vs, vs2, ds, es, rfl, rfl, t, t2, rd, rd2, by rw [← line_eq, rd.length, rd2.length]; exact hz, q⟩)
        · cases ho
      | _ => cases ho
    | lst ds =>
      cases e with
      | lst es =>
        simp only [op2] at ho
        split at ho
        · rename_i hz
          cases ho
          obtain ⟨p, vs, rfl, t, rd⟩ := vd.lst
          obtain ⟨p2, vs2, rfl, t2, rd2⟩ := ve.lst
          exact .inr ⟨p, p2, vs, vs2, rfl, rfl, t, t2, by rw [← line_eq, rd.length, rd2.length]; exact hz, fun p n => q _ _ (res_lst (rd.append rd2) n)⟩
        · cases ho
      | _ => cases ho
    | _ => cases ho
  | mul =>
    refine OpR.imp (((op_mulA (X := X)).or op_repF).or op_repL) fun x y H Q h => ?_
    obtain ⟨d, e, r, vd, ve, ho, q⟩ := h
    cases d with
    | int i =>
      cases e with
      | int j =>
        simp only [op2] at ho
        split at ho
        · rename_i hz
          cases ho
          exact .inl (.inl ⟨i, j, vd.int, ve.int, hz, q _ _ (res_here rfl)⟩)
        · cases ho
      | _ => cases ho
    | tup ds =>
      cases e with
      | int k =>
        simp only [op2] at ho
        split at ho
        · rename_i hz
          cases ho
          obtain ⟨p, vs, rfl, t, rd⟩ := vd.tup
          exact .inl (.inr ⟨p, k, vs, ds, rfl, ve.int, t, rd, hz.2.1, hz.2.2, by rw [← line_eq, rd.length]; exact hz.1, q⟩)
        · cases ho
      | _ => cases ho
    | lst ds =>
      cases e with
      | int k =>
        simp only [op2] at ho
        split at ho
        · rename_i hz
          cases ho
          obtain ⟨p, vs, rfl, t, rd⟩ := vd.lst
          exact .inr ⟨p, k, vs, rfl, ve.int, t, hz.2.1, hz.2.2, by rw [← line_eq, rd.length]; exact hz.1, fun p n => q _ _ (res_lst (rd.rep _) n)⟩
        · cases ho
      | _ => cases ho
    | _ => cases ho
  | sub =>
    refine OpR.imp (op_sub (X := X)) fun x y H Q h => ?_
    obtain ⟨d, e, r, vd, ve, ho, q⟩ := h
    cases d <;> cases e <;> first | (cases ho; done) | (cases ho; exact ⟨_, _, vd.int, ve.int, q _ _ (res_here rfl)⟩)
  | fdiv =>
    refine OpR.imp (op_fdivA (X := X)) fun x y H Q h => ?_
    obtain ⟨d, e, r, vd, ve, ho, q⟩ := h
    cases d <;> cases e <;> first | (cases ho; done) | (simp only [op2] at ho; split at ho <;> first | (cases ho; done) | (rename_i hz; cases ho; exact ⟨_, _, vd.int, ve.int, hz, q _ _ (res_here rfl)⟩))
  | mod =>
    refine OpR.imp (op_mod (X := X)) fun x y H Q h => ?_
    obtain ⟨d, e, r, vd, ve, ho, q⟩ := h
    cases d <;> cases e <;> first | (cases ho; done) | (simp only [op2] at ho; split at ho <;> first | (cases ho; done) | (rename_i hz; cases ho; exact ⟨_, _, vd.int, ve.int, hz, q _ _ (res_here rfl)⟩))
  | pow =>
    refine OpR.imp (op_pow (X := X)) fun x y H Q h => ?_
    obtain ⟨d, e, r, vd, ve, ho, q⟩ := h
    cases d <;> cases e <;> first | (cases ho; done) | (simp only [op2] at ho; split at ho <;> first | (cases ho; done) | (rename_i hz; cases ho; exact ⟨_, _, vd.int, ve.int, hz, q _ _ (res_here rfl)⟩))
  | shl =>
    refine OpR.imp (op_shlW (X := X)) fun x y H Q h => ?_
    obtain ⟨d, e, r, vd, ve, ho, q⟩ := h
    cases d <;> cases e <;> first | (cases ho; done) | (simp only [op2] at ho; split at ho <;> first | (cases ho; done) | (rename_i hz; cases ho; exact ⟨_, _, vd.int, ve.int, hz, q _ _ (res_here rfl)⟩))
  | shr =>
    refine OpR.imp (op_shr (X := X)) fun x y H Q h => ?_
    obtain ⟨d, e, r, vd, ve, ho, q⟩ := h
    cases d <;> cases e <;> first | (cases ho; done) | (simp only [op2] at ho; split at ho <;> first | (cases ho; done) | (rename_i hz; cases ho; exact ⟨_, _, vd.int, ve.int, hz, q _ _ (res_here rfl)⟩))
  | band =>
    refine OpR.imp (op_and (X := X)) fun x y H Q h => ?_
    obtain ⟨d, e, r, vd, ve, ho, q⟩ := h
    cases d <;> cases e <;> first | (cases ho; done) | (cases ho; exact ⟨_, _, vd.int, ve.int, q _ _ (res_here rfl)⟩)
  | bor =>
    refine OpR.imp (op_or (X := X)) fun x y H Q h => ?_
    obtain ⟨d, e, r, vd, ve, ho, q⟩ := h
    cases d <;> cases e <;> first | (cases ho; done) | (cases ho; exact ⟨_, _, vd.int, ve.int, q _ _ (res_here rfl)⟩)
  | bxor =>
    refine OpR.imp (op_xor (X := X)) fun x y H Q h => ?_
    obtain ⟨d, e, r, vd, ve, ho, q⟩ := h
    cases d <;> cases e <;> first | (cases ho; done) | (cases ho; exact ⟨_, _, vd.int, ve.int, q _ _ (res_here rfl)⟩)
end

/-! ### comparisons -/
def Cm.py : Cm → CmpOp
  | .eq => .Eq | .ne => .NotEq | .lt => .Lt | .le => .LtE | .gt => .Gt | .ge => .GtE | .isin => .In | .notin => .NotIn | .is => .Is | .isnot => .IsNot
def rCm (K : PySem.W.Frag) (op : Cm) : R2 := fun x y H Q => ∃ d e b, VwR K H d x ∧ VwR K H e y ∧ cm op d e = some b ∧ Q (.bl b) H
theorem pys_map : ∀ ds : List D, D.pys ds = ds.map D.py
  | [] => rfl
  | d :: ds => by rw [List.map_cons, ← pys_map ds]; rfl
theorem memD_py (x : D) (ys : List D) : ((D.pys ys).any fun z => PyData.eqv z x.py) = memD x ys := by
  rw [pys_map, List.any_map]
  rfl
section
variable {X : Cx}
/-- in, not in, of a tuple -/
def rInT (K : PySem.W.Frag) (neg : Bool) : R2 := fun x y H Q => ∃ d ds, Dp K H x d ∧ Dp K H y (.tuple ds) ∧ SeqAt.shaped d = true ∧ SeqAt.shaped (.tuple ds) = true ∧ Q (.bl (if neg then !ds.any fun z => PyData.eqv z d else ds.any fun z => PyData.eqv z d)) H
theorem op_inT (hu : X.A.units + 65 < cLine) : OpR X (compareOp .In) (rInT X.K false) := by
  intro pins s σ H x y v u Q I rx ry h
  obtain ⟨d, ds, hd, he, sd, se, q⟩ := h
  obtain ⟨as, r1⟩ := Dp.reads I d x v hd rx
  obtain ⟨bs, r2⟩ := Dp.reads I (.tuple ds) y u he ry
  exact SeqAt.in_tuple_reads r2 r1 (SeqAt.canLay_of_shaped se) (SeqAt.canLay_of_shaped sd) (room_in_shaped sd hu) ⟨.bl _, H, I, rfl, q⟩
theorem op_notInT (hu : X.A.units + 65 < cLine) : OpR X (compareOp .NotIn) (rInT X.K true) := by
  intro pins s σ H x y v u Q I rx ry h
  obtain ⟨d, ds, hd, he, sd, se, q⟩ := h
  obtain ⟨as, r1⟩ := Dp.reads I d x v hd rx
  obtain ⟨bs, r2⟩ := Dp.reads I (.tuple ds) y u he ry
  exact SeqAt.notIn_tuple_reads r2 r1 (SeqAt.canLay_of_shaped se) (SeqAt.canLay_of_shaped sd) (room_in_shaped sd hu) ⟨.bl _, H, I, rfl, q⟩
theorem VwR.dec_non {K : PySem.W.Frag} {H : Hp} {d : D} {v : V} (h : VwR K H d v) : decide (v = .non) = d.isNon := by
  cases d with
  | non => rw [h.non]; rfl
  | bl b => rw [h.bl]; rfl
  | int b => rw [h.int]; rfl
  | str b => rw [h.str]; rfl
  | tup ds => obtain ⟨p, vs, rfl, _⟩ := h.tup; rfl
  | lst ds => obtain ⟨p, vs, rfl, _⟩ := h.lst; rfl
  | set ds => obtain ⟨p, ns, rfl, _⟩ := h.set; rfl
  | dct ds es => obtain ⟨p, kvs, rfl, _⟩ := h.dct; rfl
  | dkt ds es => obtain ⟨p, rfl, _⟩ := h.dkt; rfl
  | fn f => rcases h with h | ⟨p, rfl, h⟩ <;> exact h.elim
theorem shp_sh {d : D} (h : shp d = true) : SeqAt.shaped d.py = true := by
  unfold shp at h
  rw [Bool.and_eq_true] at h
  exact h.2
/-! ### sets and dicts of numbers -/
theorem iset_get {X : Cx} {pins : List (Addr × Obj)} {σ : St} {H : Hp} {s : Shared} {a : Addr} {ns : List Int} (I : L2.Inv X pins σ H s) (ha : H a = some (ISet a ns)) : s.heap.SetOf (intKind X.prog X.w) a (fun k => decide (k ∈ ns)) ns.length := by
  obtain ⟨o, h1, h2, h3⟩ := (I.hok a _ ha).1
  exact (h2.kind X.prog X.w).setOf h1 (by unfold scanBound; omega)
theorem iset_new {w : World} {P : Program} {H : Hp} {h : Heap} {a : Addr} {ns : List Int} (R : h.SetOf (intKind P w) a (fun k => decide (k ∈ ns)) ns.length) (hl : ns.length < 4000) : ObjOk P w H h a (ISet a ns) := by
  obtain ⟨o, ho, so⟩ := R.objOf
  refine ⟨⟨o, ho, so.intSetOf, hl⟩, ⟨o, ho⟩, fun h1 h2 p k => ?_⟩
  obtain ⟨o', e1, e2⟩ := p
  exact ⟨o', k o' e1, e2⟩
theorem memI_map (k : Int) (ns : List Int) : memI k (ns.map D.int) = decide (k ∈ ns) := by
  induction ns with
  | nil => simp [memI]
  | cons n ns ih =>
    simp only [memI, List.map_cons, List.any_cons] at ih ⊢
    rw [ih]
    by_cases h : n = k
    · simp [h]
    · have : ¬ k = n := fun z => h z.symm
      simp [h, this]
theorem memI_dct (k : Int) (kvs : List (Int × V)) : memI k (kvs.map fun q => D.int q.1) = (valV (dK kvs) (Sum.inl k)).isSome := by
  induction kvs with
  | nil => rfl
  | cons q kvs ih =>
    simp only [memI, List.map_cons, List.any_cons] at ih ⊢
    rw [ih]
    by_cases h : q.1 = k
    · rw [valV_pos (p := (Sum.inl q.1, q.2)) (by rw [h])]; simp [h]
    · rw [valV_neg (p := (Sum.inl q.1, q.2)) (by simpa using h)]; simp [h]
theorem op_inS (neg : Bool) : OpR X (compareOp (if neg then .NotIn else .In)) (fun x y H Q => ∃ k a ns, x = .int k ∧ y = .ref a ∧ H a = some (ISet a ns) ∧ Q (.bl (if neg then !decide (k ∈ ns) else decide (k ∈ ns))) H) := by
  intro pins s σ H x y v u Q I rx ry ⟨k, a, ns, e1, e2, ha, q⟩
  subst e1 e2
  cases ry
  obtain ⟨t, rfl⟩ := rx
  cases neg with
  | false => exact wpAny_inSet_of (knd := intKind X.prog X.w) (intKind_is _ _ k t) rfl (iset_get I ha) ⟨.bl _, H, I.tok _, rfl, q⟩
  | true => exact wpAny_notInSet_of (knd := intKind X.prog X.w) (intKind_is _ _ k t) rfl (iset_get I ha) ⟨.bl _, H, I.tok _, rfl, q⟩
theorem op_inDct (hu : X.A.units + 1 < cLine) (neg : Bool) : OpR X (compareOp (if neg then .NotIn else .In)) (fun x y H Q => ∃ a o, y = .ref a ∧ DGet H a x o ∧ Q (.bl (if neg then !o.isSome else o.isSome)) H) := by
  intro pins s σ H x y v u Q I rx ry ⟨a, o, e2, g, q⟩
  subst e2
  cases ry
  cases neg with
  | false => exact d_in hu I g rx fun s' I' => ⟨.bl _, H, I', rfl, q⟩
  | true => exact d_notIn hu I g rx fun s' I' => ⟨.bl _, H, I', rfl, q⟩
/-- <, >, <=, >= of data of one kind -/
def rOrd (K : PySem.W.Frag) (f : PyData → PyData → Bool) : R2 := fun x y H Q => ∃ d e, Dp K H x d ∧ Dp K H y e ∧ PySem.W.alike d e = true ∧ d ≠ .none ∧ SeqAt.shaped d = true ∧ Q (.bl (f d e)) H
theorem op_ord (hu : X.A.units + 64 < cLine) {o : CmpOp} {f : PyData → PyData → Bool} (h : ∀ {s : Shared} {a b : Value} {da db : PyData} {as bs : List Addr} {Q : Value → Shared → Prop}, Reads s.heap a da as → Reads s.heap b db bs → PySem.W.alike da db = true → da ≠ .none →
    X.A.units + min da.depth db.depth < cLine → Q (.bool (f da db)) s → wpAny (model X.prog X.w) X.A (compareOp o a b) Q X.xe s) : OpR X (compareOp o) (rOrd X.K f) := by
  intro pins s σ H x y v u Q I rx ry ⟨d, e, hd, he, al, ne, sh, q⟩
  obtain ⟨as, r1⟩ := Dp.reads I d x v hd rx
  obtain ⟨bs, r2⟩ := Dp.reads I e y u he ry
  exact h r1 r2 al ne (SeqAt.room_of_shaped sh hu) ⟨.bl _, H, I, rfl, q⟩
theorem VwR.alk {K : PySem.W.Frag} {H : Hp} {xs ys : List D} {x y : V} (h : VwR K H (.tup xs) x) (h2 : VwR K H (.tup ys) y) (a : alk (.tup xs) (.tup ys) = true) :
    ∃ d e, d = (D.tup xs).py ∧ e = (D.tup ys).py ∧ Dp K H x d ∧ Dp K H y e ∧ PySem.W.alike d e = true ∧ d ≠ .none ∧ SeqAt.shaped d = true := by
  unfold PF.alk at a
  rw [Bool.and_eq_true, Bool.and_eq_true] at a
  obtain ⟨p, vs, rfl, t, rd⟩ := h.tup
  obtain ⟨p2, vs2, rfl, t2, rd2⟩ := h2.tup
  exact ⟨_, _, rfl, rfl, .tup t.sq (rd.dp (shp_lay a.1.2)), .tup t2.sq (rd2.dp (shp_lay a.2)), a.1.1, (fun z => by simp [D.py] at z), shp_sh a.1.2⟩
theorem dkt_in {d e : D} {x y : V} {b : Bool} {Q : VK} (vd : VwR X.K H d x) (ve : VwR X.K H e y) (ho : inT d e = some b) (q : Q (.bl b) H) : ∃ d' e' ks vs q', VwR X.K H d' x ∧ VwR X.K H e' y ∧ dkv e' = some (ks, vs) ∧ ckey ks d' = some q' ∧ Q (.bl (if false = true then !memT q' ks else memT q' ks)) H := by
  unfold inT at ho
  split at ho
  · rename_i ks vs h
    obtain ⟨q', h2, rfl⟩ := Option.map_eq_some_iff.mp ho
    exact ⟨d, e, ks, vs, q', vd, ve, h, h2, q⟩
  · cases ho
theorem dkt_notin {d e : D} {x y : V} {b : Bool} {Q : VK} (vd : VwR X.K H d x) (ve : VwR X.K H e y) (ho : (inT d e).map (!·) = some b) (q : Q (.bl b) H) : ∃ d' e' ks vs q', VwR X.K H d' x ∧ VwR X.K H e' y ∧ dkv e' = some (ks, vs) ∧ ckey ks d' = some q' ∧ Q (.bl (if true = true then !memT q' ks else memT q' ks)) H := by
  obtain ⟨b', h1, rfl⟩ := Option.map_eq_some_iff.mp ho
  unfold inT at h1
  split at h1
  · rename_i ks vs h
    obtain ⟨q', h2, rfl⟩ := Option.map_eq_some_iff.mp h1
    exact ⟨d, e, ks, vs, q', vd, ve, h, h2, q⟩
  · cases h1
theorem cmR (hu : X.A.units + 65 < cLine) (op : Cm) : OpR X (compareOp op.py) (rCm X.K op) := by
  have hu0 : X.A.units < cLine := by omega
  have hu1 : X.A.units + 64 < cLine := by omega
  have hu2 : X.A.units + 1 < cLine := by omega
  cases op with
  | eq =>
    refine OpR.imp (op_eqD hu1) fun x y H Q h => ?_
    obtain ⟨d, e, b, vd, ve, ho, q⟩ := h
    simp only [cm] at ho
    split at ho
    · rename_i hs
      rw [Bool.and_eq_true] at hs
      cases ho
      exact ⟨_, _, vd.dp hs.1, ve.dp hs.2, shp_sh hs.1, shp_sh hs.2, q⟩
    · cases ho
  | ne =>
    refine OpR.imp (op_neD hu1) fun x y H Q h => ?_
    obtain ⟨d, e, b, vd, ve, ho, q⟩ := h
    simp only [cm] at ho
    split at ho
    · rename_i hs
      rw [Bool.and_eq_true] at hs
      cases ho
      exact ⟨_, _, vd.dp hs.1, ve.dp hs.2, shp_sh hs.1, shp_sh hs.2, q⟩
    · cases ho
  | lt =>
    refine OpR.imp (((op_lt (X := X)).or (op_ltT hu0)).or (op_ord hu1 (o := .Lt) (f := PySem.W.dataLt) PySem.W.lt_data)) fun x y H Q h => ?_
    obtain ⟨d, e, b, vd, ve, ho, q⟩ := h
    cases d with
    | int i =>
      cases e with
      | int j => cases ho; exact .inl (.inl ⟨i, j, vd.int, ve.int, q⟩)
      | _ => cases ho
    | tup ds =>
      cases e with
      | tup es =>
        simp only [cm] at ho
        split at ho
        · rename_i a b e1 e2
          cases ho
          obtain ⟨p, vs, rfl, t, rd⟩ := vd.tup
          obtain ⟨p2, vs2, rfl, t2, rd2⟩ := ve.tup
          have h1 := rd.intsD e1
          have h2 := rd2.intsD e2
          subst h1 h2
          exact .inl (.inr ⟨p, p2, _, _, rfl, rfl, t.sq, t2.sq, q⟩)
        · split at ho
          · rename_i ha
            cases ho
            obtain ⟨d, e, rfl, rfl, r1, r2, r3, r4, r5⟩ := vd.alk ve ha
            exact .inr ⟨_, _, r1, r2, r3, r4, r5, q⟩
          · cases ho
      | _ => cases ho
    | _ => cases ho
  | le =>
    refine OpR.imp ((op_le (X := X)).or (op_ord hu1 (o := .LtE) (f := fun a b => !PySem.W.dataLt b a) PySem.W.le_data)) fun x y H Q h => ?_
    obtain ⟨d, e, b, vd, ve, ho, q⟩ := h
    cases d <;> cases e <;> first | (cases ho; done) | (cases ho; exact .inl ⟨_, _, vd.int, ve.int, q⟩) | skip
    simp only [cm] at ho
    split at ho
    · rename_i ha
      cases ho
      obtain ⟨d, e, rfl, rfl, r1, r2, r3, r4, r5⟩ := vd.alk ve ha
      exact .inr ⟨_, _, r1, r2, r3, r4, r5, q⟩
    · cases ho
  | gt =>
    refine OpR.imp ((op_gt (X := X)).or (op_ord hu1 (o := .Gt) (f := fun a b => PySem.W.dataLt b a) PySem.W.gt_data)) fun x y H Q h => ?_
    obtain ⟨d, e, b, vd, ve, ho, q⟩ := h
    cases d <;> cases e <;> first | (cases ho; done) | (cases ho; exact .inl ⟨_, _, vd.int, ve.int, q⟩) | skip
    simp only [cm] at ho
    split at ho
    · rename_i ha
      cases ho
      obtain ⟨d, e, rfl, rfl, r1, r2, r3, r4, r5⟩ := vd.alk ve ha
      exact .inr ⟨_, _, r1, r2, r3, r4, r5, q⟩
    · cases ho
  | ge =>
    refine OpR.imp ((op_ge (X := X)).or (op_ord hu1 (o := .GtE) (f := fun a b => !PySem.W.dataLt a b) PySem.W.ge_data)) fun x y H Q h => ?_
    obtain ⟨d, e, b, vd, ve, ho, q⟩ := h
    cases d <;> cases e <;> first | (cases ho; done) | (cases ho; exact .inl ⟨_, _, vd.int, ve.int, q⟩) | skip
    simp only [cm] at ho
    split at ho
    · rename_i ha
      cases ho
      obtain ⟨d, e, rfl, rfl, r1, r2, r3, r4, r5⟩ := vd.alk ve ha
      exact .inr ⟨_, _, r1, r2, r3, r4, r5, q⟩
    · cases ho
  | isin =>
    refine OpR.imp (((op_inD hu).or (op_inT hu)).or (((op_inS (X := X) false).or (op_inDct hu2 false)).or (op_inDkt hu false))) fun x y H Q h => ?_
    obtain ⟨d, e, b, vd, ve, ho, q⟩ := h
    cases e with
    | lst es =>
      simp only [cm] at ho
      split at ho
      · rename_i hs
        rw [Bool.and_eq_true] at hs
        cases ho
        refine .inl (.inl ⟨_, _, vd.dp hs.1, ve.dp hs.2, shp_sh hs.1, shp_sh hs.2, ?_⟩)
        rw [memD_py]; exact q
      · cases ho
    | tup es =>
      simp only [cm] at ho
      split at ho
      · rename_i hs
        rw [Bool.and_eq_true] at hs
        cases ho
        refine .inl (.inr ⟨_, _, vd.dp hs.1, ve.dp hs.2, shp_sh hs.1, shp_sh hs.2, ?_⟩)
        rw [memD_py]; exact q
      · cases ho
    | set es =>
      cases d with
      | int k =>
        cases ho
        obtain ⟨p, ns, rfl, rfl, hp⟩ := ve.set
        refine .inr (.inl (.inl ⟨k, p, ns, vd.int, rfl, hp, ?_⟩))
        rw [memI_map] at q; exact q
      | _ => cases ho
    | dct ks vs =>
      cases d with
      | int k =>
        cases ho
        obtain ⟨p, kvs, rfl, rfl, hp, _⟩ := ve.dct
        refine .inr (.inl (.inr ⟨p, _, rfl, by rw [vd.int]; exact .inl ⟨_, Sum.inl k, hp, rfl, rfl⟩, ?_⟩))
        rw [memI_dct] at q; exact q
      | _ => exact .inr (.inr (dkt_in vd ve ho q))
    | dkt ks vs => exact .inr (.inr (dkt_in vd ve (by cases d <;> exact ho) q))
    | _ => cases d <;> cases ho
  | notin =>
    refine OpR.imp (((op_notInD hu).or (op_notInT hu)).or (((op_inS (X := X) true).or (op_inDct hu2 true)).or (op_inDkt hu true))) fun x y H Q h => ?_
    obtain ⟨d, e, b, vd, ve, ho, q⟩ := h
    cases e with
    | lst es =>
      simp only [cm] at ho
      split at ho
      · rename_i hs
        rw [Bool.and_eq_true] at hs
        cases ho
        refine .inl (.inl ⟨_, _, vd.dp hs.1, ve.dp hs.2, shp_sh hs.1, shp_sh hs.2, ?_⟩)
        rw [memD_py]; exact q
      · cases ho
    | tup es =>
      simp only [cm] at ho
      split at ho
      · rename_i hs
        rw [Bool.and_eq_true] at hs
        cases ho
        refine .inl (.inr ⟨_, _, vd.dp hs.1, ve.dp hs.2, shp_sh hs.1, shp_sh hs.2, ?_⟩)
        rw [memD_py]; exact q
      · cases ho
    | set es =>
      cases d with
      | int k =>
        cases ho
        obtain ⟨p, ns, rfl, rfl, hp⟩ := ve.set
        refine .inr (.inl (.inl ⟨k, p, ns, vd.int, rfl, hp, ?_⟩))
        rw [memI_map] at q; exact q
      | _ => cases ho
    | dct ks vs =>
      cases d with
      | int k =>
        cases ho
        obtain ⟨p, kvs, rfl, rfl, hp, _⟩ := ve.dct
        refine .inr (.inl (.inr ⟨p, _, rfl, by rw [vd.int]; exact .inl ⟨_, Sum.inl k, hp, rfl, rfl⟩, ?_⟩))
        rw [memI_dct] at q; exact q
      | _ => exact .inr (.inr (dkt_notin vd ve ho q))
    | dkt ks vs => exact .inr (.inr (dkt_notin vd ve (by cases d <;> exact ho) q))
    | _ => cases d <;> cases ho
  | is =>
    refine OpR.imp ((op_isN (X := X)).or (op_is_bl (X := X))) fun x y H Q h => ?_
    obtain ⟨d, e, b, vd, ve, ho, q⟩ := h
    cases e with
    | non =>
      simp only [cm] at ho
      cases ho
      refine .inl ⟨ve.non, ?_⟩
      rw [vd.dec_non]; exact q
    | bl c =>
      cases d with
      | bl a =>
        cases ho
        exact .inr ⟨a, c, vd.bl, ve.bl, q⟩
      | _ => cases ho
    | _ => cases d <;> cases ho
  | isnot =>
    refine OpR.imp ((op_notN (X := X)).or (op_isnot_bl (X := X))) fun x y H Q h => ?_
    obtain ⟨d, e, b, vd, ve, ho, q⟩ := h
    cases e with
    | non =>
      simp only [cm] at ho
      cases ho
      refine .inl ⟨ve.non, ?_⟩
      rw [vd.dec_non]; exact q
    | bl c =>
      cases d with
      | bl a =>
        cases ho
        exact .inr ⟨a, c, vd.bl, ve.bl, q⟩
      | _ => cases ho
    | _ => cases d <;> cases ho
end

/-! ### subscripts -/
def rIdx (K : PySem.W.Frag) : R2 := fun x y H Q => ∃ d e r, VwR K H d x ∧ VwR K H e y ∧ idxD d e = some r ∧ ∀ v, Rp K H r v → Q v H
theorem atD_rp {K : PySem.W.Frag} {H : Hp} {ds : List D} {vs : List V} {i : Int} {r : D} (h : Rps K H ds vs) (e : atD ds i = some r) : ∃ v, atI vs i = some v ∧ Rp K H r v := by
  unfold atD atI at e
  rw [← h.length] at e
  cases e2 : ixN vs.length i with
  | none => rw [e2] at e; cases e
  | some j =>
    rw [e2] at e
    obtain ⟨v, e3, rv⟩ := h.get (show ds[j]? = some r from e)
    exact ⟨v, by unfold atI; rw [e2]; exact e3, rv⟩
theorem getI_dct {K : PySem.W.Frag} {H : Hp} {k : Int} {r : D} : ∀ {kvs : List (Int × V)} {vs : List D}, Rps K H vs (kvs.map (·.2)) → getI (kvs.map fun q => D.int q.1) vs k = some r → ∃ z, valV (dK kvs) (Sum.inl k) = some z ∧ Rp K H r z
  | [], vs, _, h => by simp [getI] at h
  | q :: kvs, [], h, _ => by have := h.length; simp at this
  | q :: kvs, v :: vs, h, e => by
    obtain ⟨z, r', e2, rz, rr⟩ := h
    cases e2
    simp only [List.map_cons, getI] at e
    by_cases hq : q.1 = k
    · rw [if_pos hq] at e
      cases e
      exact ⟨q.2, valV_pos (p := (Sum.inl q.1, q.2)) (by rw [hq]), rz⟩
    · rw [if_neg hq] at e
      obtain ⟨z, e1, e2⟩ := getI_dct rr e
      exact ⟨z, by rw [← e1]; exact valV_neg (p := (Sum.inl q.1, q.2)) (by simpa using hq), e2⟩
section
variable {X : Cx}
/-- d[k] -/
theorem ix_dict (hu : X.A.units + 1 < cLine) : IxR X (fun x y H Q => ∃ a w, x = .ref a ∧ DGet H a y (some w) ∧ Q w H) := by
  intro value slice pins s σ H x y v u Q I rx ry ⟨a, w, e, g, q⟩ hs
  subst e
  cases rx
  have hT := dict_typeIs I g
  have fin : wpAny (model X.prog X.w) X.A (subscripted slice false (.ref a) u) (fun r s₃ => wpAny (model X.prog X.w) X.A (letTemporaryGo value (.ref a) r >>= fun _ => pure r) (EP X pins σ Q) X.xe s₃) X.xe s := by
    rw [hs]
    exact wpAny_operating (d_getItem hu I g ry fun w' s' I' r' => wpAny_bind (wpAny_letTemporaryGo (wpAny_pure ⟨w, H, I', r', q⟩)))
  unfold subscriptTail
  refine wpAny_bind ?_
  rw [getitemInPython_of_ne hT.not_modules]
  refine wpAny_bind (wpAny_specialOf hT PySem.F.slot_dict_getitem.lookup ?_)
  first
    | exact wpAny_pure (wpAny_bind fin)
    | exact wpAny_bind (wpAny_pure (wpAny_bind fin))
    | exact wpAny_bind fin
theorem idxR (hu : X.A.units + 65 < cLine) : IxR X (rIdx X.K) := by
  intro value slice pins s σ H x y v u Q I rx ry h hs
  obtain ⟨d, e, r, vd, ve, ho, q⟩ := h
  cases d with
  | dct ks vs =>
    cases e with
    | int k =>
      obtain ⟨p, kvs, rfl, rfl, hp, rd⟩ := vd.dct
      obtain ⟨z, e1, rz⟩ := getI_dct rd ho
      exact ix_dict (by omega) value slice pins s σ H _ y v u Q I rx ry ⟨p, z, rfl, by rw [ve.int, ← e1]; exact .inl ⟨_, Sum.inl k, hp, rfl, rfl⟩, q z rz⟩ hs
    | _ => cases ho
  | tup ds =>
    cases e with
    | int i =>
      obtain ⟨p, vs, rfl, t, rd⟩ := vd.tup
      obtain ⟨z, e1, rz⟩ := atD_rp rd ho
      exact ix_tup value slice pins s σ H _ y v u Q I rx ry ⟨p, vs, i, z, rfl, ve.int, t.sq, e1, q z rz⟩ hs
    | _ => cases ho
  | lst ds =>
    cases e with
    | int i =>
      obtain ⟨p, vs, rfl, t, rd⟩ := vd.lst
      obtain ⟨z, e1, rz⟩ := atD_rp rd ho
      exact ix_list value slice pins s σ H _ y v u Q I rx ry ⟨p, vs, i, z, rfl, ve.int, .inl t, e1, q z rz⟩ hs
    | _ => cases ho
  | dkt ks vs =>
    have ho' : (match ckey ks e with | some q => getT ks vs q | none => none) = some r := ho
    split at ho'
    · rename_i q' h2
      exact ix_dkt hu value slice pins s σ H x y v u Q I rx ry ⟨_, ks, vs, e, q', r, vd, rfl, ve, h2, ho', q⟩ hs
    · cases ho'
  | _ => cases ho
def rSlc (K : PySem.W.Frag) : V → Option Int → Option Int → Hp → VK → Prop := fun x lo hi H Q => ∃ d r, VwR K H d x ∧ slcD d lo hi = some r ∧ ∀ v H', ResR K H r v H' → Q v H'
theorem cut_rp {K : PySem.W.Frag} {H : Hp} {ds : List D} {vs : List V} (h : Rps K H ds vs) (lo hi : Option Int) : Rps K H (cut ds lo hi) (cutV vs lo hi) := by
  unfold cut cutV
  rw [← h.length]
  exact (h.drop _).take _
theorem slcR : SlR X (rSlc X.K) := by
  intro pins s σ H x v vl vu lo hi sl Q I rx hs pl pu h
  obtain ⟨d, r, vd, ho, q⟩ := h
  cases d with
  | lst ds =>
    cases ho
    obtain ⟨p, vs, rfl, t, rd⟩ := vd.lst
    exact sl_list pins s σ H _ v vl vu lo hi sl Q I rx hs pl pu ⟨p, vs, rfl, .inl t, fun p n => q _ _ (res_lst (cut_rp rd lo hi) n)⟩
  | tup ds =>
    cases ho
    obtain ⟨a, xs, rfl, t, rd⟩ := vd.tup
    cases rx
    obtain ⟨its, r, ht, hz⟩ := I.tuple t.sq
    have hlen : its.toArray.size = xs.length := by rw [List.size_toArray]; exact r.length.symm
    refine ⟨"tuple", _, PyProof.Rows.slot_tuple_getitem.lookup, ht.typeIs, ?_⟩
    by_cases hw : HT.sIx xs.length 0 lo = 0 ∧ HT.sIx xs.length xs.length hi = xs.length
    · refine getItem_tuple_whole ht hs pl pu (by rw [hlen]; exact hw) ⟨.ref a, H, I, rfl, q _ _ ?_⟩
      have e : cut ds lo hi = ds := by
        unfold cut
        show (ds.drop (HT.sIx ds.length 0 lo)).take (HT.sIx ds.length ds.length hi - HT.sIx ds.length 0 lo) = ds
        rw [← rd.length, hw.1, hw.2, rd.length]
        simp
      rw [e]
      exact res_tup_at t rd
    · refine HT.getItem_tuple_cut ht hs pl pu (by rw [hlen]; exact hw) ?_ (by rw [hlen]; exact hz)
      rw [hlen]
      exact ep_tup (t' := s.toks) I ((r.drop (HT.sIx xs.length 0 lo)).take (HT.sIx xs.length xs.length hi - HT.sIx xs.length 0 lo)) (Nat.le_trans (cutV_length xs lo hi) hz) (cut_rp rd lo hi) q
  | _ => cases ho
end
/-! ### t[::-1] -/
theorem fm_congr {α β : Type} {f g : α → Option β} : ∀ {l : List α}, (∀ x ∈ l, f x = g x) → l.filterMap f = l.filterMap g
  | [], _ => rfl
  | x :: xs, h => by
    rw [List.filterMap_cons, List.filterMap_cons, h x List.mem_cons_self, fm_congr fun y hy => h y (List.mem_cons_of_mem _ hy)]
section
variable {prog : Program} {w : World} {A : Around} {E : Value → Shared → Prop} {s : Shared}
theorem getItem_tuple_back {t sl : Addr} {items : Array Value} {vs : Value} {Q : Value → Shared → Prop} (ht : IsTup s.heap t items) (hs : s.heap.IsSliceOf sl .none .none vs) (ps : IsPart vs (some (-1)))
    (h : Q (.ref s.heap.objs.size) { s with heap := s.heap.push { cls := .type "tuple", data := .seq items.toList.reverse.toArray } })
    (hsz : items.size ≤ sizeLine) : wpAny (model prog w) A (getItem (.ref t) (.ref sl)) Q E s := by
  obtain ⟨os, hos, hcs, hds⟩ := id hs
  have hTs : s.TypeIs (.ref sl) "slice" := ⟨os, hos, hcs⟩
  unfold getItem
  try with_reducible refine wpAny_holding ?_
  first | refine wpAny_bind (wpAny_pure ?_) | skip
  refine wpAny_bind (wpAny_sequenceKey ht.typeIs (by decide) ?_)
  refine wpAny_bind (wpAny_callSpecial?_slot (name := Str.ofString "__getitem__") ht.typeIs PyProof.Rows.slot_tuple_getitem
    (wpAny_call_entry PyProof.Rows.slot_tuple_getitem ht.typeIs entry_tuple_getitem ?_ (args_tuple_getitem _ _)))
  show wpAny _ _ (Builtin.Tuple.tupleItemsOf (.ref t) >>= _) _ _ s
  refine wpAny_bind (tupleItemsOf_ ht ?_)
  refine wpAny_bind (wpAny_typeOf hTs ?_)
  rw [if_pos (by decide)]
  have happ : ∀ (A' : Around) (Q' : Int × Int × Nat → Shared → Prop), Q' ((items.size : Int) - 1, -1, items.size) s → wpAny (model prog w) A' (Builtin.Slice.sliceApplied (.ref sl) (pure (items.size : Int))) Q' E s := by
    intro A' Q' hq
    unfold Builtin.Slice.sliceApplied Builtin.Slice.sliceFields
    refine wpAny_bind (wpAny_bind (wpAny_field hos hds (x := .none) rfl (wpAny_bind (wpAny_field hos hds (x := .none) rfl (wpAny_bind (wpAny_field hos hds (x := vs) rfl (wpAny_pure ?_)))))))
    refine wpAny_bind (HT.slicePart_ ps ?_)
    show wpAny _ _ (if ((-1 : Int) == 0) = true then _ else _) _ _ s
    rw [if_neg (by decide)]
    refine wpAny_bind (HT.slicePart_ .none (wpAny_bind (HT.slicePart_ .none (wpAny_bind (wpAny_pure ?_)))))
    show wpAny _ _ (match Builtin.Slice.sliceAdjust none none (-1) (items.size : Int) with | (lo, hi) => pure (lo, (-1 : Int), Builtin.Slice.slicePlaces lo hi (-1))) _ _ s
    have e1 : Builtin.Slice.sliceAdjust none none (-1) (items.size : Int) = ((items.size : Int) - 1, -1) := rfl
    rw [e1]
    show wpAny _ _ (pure ((items.size : Int) - 1, (-1 : Int), Builtin.Slice.slicePlaces ((items.size : Int) - 1) (-1) (-1))) _ _ s
    have e2 : Builtin.Slice.slicePlaces ((items.size : Int) - 1) (-1) (-1) = items.size := by
      unfold Builtin.Slice.slicePlaces
      rw [if_neg (by decide)]
      by_cases h0 : (items.size : Int) - 1 > -1
      · rw [if_pos h0]
        have : ((items.size : Int) - 1 - -1 - 1) / - -1 + 1 = items.size := by
          rw [show (- -1 : Int) = 1 from rfl, Int.ediv_one]; omega
        rw [this, Int.toNat_natCast]
      · rw [if_neg h0]
        have : items.size = 0 := by omega
        rw [this]; rfl
    rw [e2]
    exact wpAny_pure hq
  refine wpAny_bind (happ _ _ ?_)
  have hno : ¬ (((items.size : Int) - 1 == 0 && (-1 : Int) == 1 && items.size == items.size) = true) := by simp
  show wpAny _ _ (if ((items.size : Int) - 1 == 0 && (-1 : Int) == 1 && items.size == items.size) = true then _ else _) _ _ s
  rw [if_neg hno]
  have hpick : ((List.range items.size).filterMap fun (k : Nat) => items[((items.size : Int) - 1 + (k : Int) * -1).toNat]?).toArray = items.toList.reverse.toArray := by
    have e : (List.range items.size).filterMap (fun (k : Nat) => items[((items.size : Int) - 1 + (k : Int) * -1).toNat]?) = ((List.range items.size).map fun k => items.size - 1 - k).filterMap (items[·]?) := by
      rw [List.filterMap_map]
      refine fm_congr fun k hk => ?_
      have hk' := List.mem_range.mp hk
      show items[((items.size : Int) - 1 + (k : Int) * -1).toNat]? = items[items.size - 1 - k]?
      rw [show ((items.size : Int) - 1 + (k : Int) * -1).toNat = items.size - 1 - k by omega]
    rw [e, PySem.W.krv_range, List.filterMap_reverse, PySem.W.krv_all]
  rw [hpick]
  have htake : sizeOk (.seq items.toList.reverse.toArray) := by
    show items.toList.reverse.toArray.size ≤ sizeLine
    rw [List.size_toArray, List.length_reverse, Array.length_toList]
    exact hsz
  first
    | exact wpAny_bind (m := Builtin.Tuple.tupleExact _) (wpAny_newObj_type (wpAny_pure ⟨_, rfl, wpAny_pure h⟩) htake)
    | exact wpAny_bind (m := Builtin.Tuple.tupleExact _) (wpAny_newObj_type (wpAny_bind (wpAny_pure (wpAny_pure ⟨_, rfl, wpAny_pure h⟩))) htake)
    | exact wpAny_bind (wpAny_bind (m := Builtin.Tuple.tupleExact _) (wpAny_newObj_type (wpAny_pure (wpAny_pure ⟨_, rfl, wpAny_pure h⟩)) htake))
    | exact wpAny_bind (wpAny_bind (m := Builtin.Tuple.tupleExact _) (wpAny_newObj_type (wpAny_pure ⟨_, rfl, wpAny_pure h⟩) htake))
end
def rRev (K : PySem.W.Frag) (x : V) (H : Hp) (Q : VK) : Prop := ∃ d r, VwR K H d x ∧ revD d = some r ∧ ∀ v H', ResR K H r v H' → Q v H'
theorem pe_rev {X : Cx} {e : Expr} {te : TE} {k : Nat} {p1 p2 p3 pos : Pos} (he : PE X e te) : PE X (.Subscript e (.Slice none none (some (.UnaryOp .USub (.Constant (.int 1) k p1) p2)) p3) pos) (fun σ H Q => te σ H fun x H1 => rRev X.K x H1 Q) := by
  refine ⟨fun pins s σ H Q I h => ?_⟩
  refine Subscript_ (thn (he.run pins s σ H _ I h) fun v s1 ⟨x, H1, I1, r1, q1⟩ => ?_)
  obtain ⟨d, res, vd, ho, q⟩ := q1
  have hst : PO X (some (.UnaryOp .USub (.Constant (.int 1) k p1) p2)) (tPart (tUn (rU fun i => .int (-i)) (tC (.int 1)))) := po_some (pe_un un_neg pe_int)
  refine wpAny_Slice (thn (po_none.run pins s1 σ H1 (fun o H2 => o = none ∧ H2 = H1) I1 ⟨rfl, rfl⟩) fun vl s2 ⟨l, H2, I2, pl, el, e2⟩ => ?_)
  subst el e2
  refine thn (po_none.run pins s2 σ H2 (fun o H3 => o = none ∧ H3 = H2) I2 ⟨rfl, rfl⟩) fun vu s3 ⟨u, H3, I3, pu, eu, e3⟩ => ?_
  subst eu e3
  refine thn (hst.run pins s3 σ H3 (fun o H4 => o = some (-1) ∧ H4 = H3) I3 ⟨1, rfl, -1, rfl, rfl, rfl⟩) fun vs s4 ⟨o, H4, I4, ps, eo, e4⟩ => ?_
  subst eo e4
  have I5 : L2.Inv X pins σ H4 { s4 with heap := s4.heap.push { cls := .type "slice", data := .fields #[vl, vu, vs] } } := I4.kept (t' := s4.toks) fun b ob q => Heap.get?_push_of_some _ q
  show wpAny (model X.prog X.w) X.A (subscriptTail e (.Slice none none (some (.UnaryOp .USub (.Constant (.int 1) k p1) p2)) p3) v (.ref s4.heap.objs.size)) (EP X pins σ Q) X.xe { s4 with heap := s4.heap.push { cls := .type "slice", data := .fields #[vl, vu, vs] } }
  cases d with
  | lst ds =>
    cases ho
    obtain ⟨a, xs, rfl, t, rd⟩ := vd.lst
    cases r1
    obtain ⟨its, r, ht, hz⟩ := I5.list (.inl t)
    have hlen := r.length
    refine tail_any (ops := [.ref a, .ref s4.heap.objs.size]) ht.isList.typeIs (PySem.slot_list_getitem.lookup) ?_ (by with_unfolding_all rfl)
    refine wpAny_getItem_list_slice ht.isList (Heap.IsSliceOf.new _ vl vu vs) pl pu ps (by decide) ?_ (by rw [List.size_toArray]; omega)
    rw [PySem.W.krv_pick]
    refine ⟨.ref _, _, I5.laid (t' := s4.toks) (o := .lst xs.reverse) (fun b ob q => Heap.get?_push_of_some _ q) (Nat.le_refl _) ?_, rfl, q _ _ (res_lst rd.reverse (I5.hok.fresh (Nat.le_refl _)))⟩
    exact ⟨by rw [List.length_reverse]; exact hz, _, 0, r.reverse, Heap.get?_push_size _ rfl⟩
  | tup ds =>
    cases ho
    obtain ⟨a, xs, rfl, t, rd⟩ := vd.tup
    cases r1
    obtain ⟨its, r, ht, hz⟩ := I5.tuple t.sq
    have hlen := r.length
    cases pl
    cases pu
    refine tail_any (ops := [.ref a, .ref s4.heap.objs.size]) ht.typeIs PyProof.Rows.slot_tuple_getitem.lookup ?_ (by with_unfolding_all rfl)
    refine getItem_tuple_back ht (Heap.IsSliceOf.new _ .none .none vs) ps ?_ (by rw [List.size_toArray]; omega)
    exact ep_tup (t' := s4.toks) I5 r.reverse (by rw [List.length_reverse]; exact hz) rd.reverse q
  | _ => cases ho

end PF
namespace PF
open PySem PySem.Spec PyProof.Rows L2

/-! ### built-in functions -/
def rBlt (K : PySem.W.Frag) (b : Blt) : List V → Hp → VK → Prop := fun vs H Q => ∃ ds r, VwRs K H ds vs ∧ bltD b ds = some r ∧ ∀ v H', ResR K H r v H' → Q v H'
theorem VwRs.one {K : PySem.W.Frag} {H : Hp} {d : D} {vs : List V} (h : VwRs K H [d] vs) : ∃ v, vs = [v] ∧ VwR K H d v := by
  cases h with
  | cons h t => cases t; exact ⟨_, rfl, h⟩
theorem VwRs.two {K : PySem.W.Frag} {H : Hp} {d e : D} {vs : List V} (h : VwRs K H [d, e] vs) : ∃ v u, vs = [v, u] ∧ VwR K H d v ∧ VwR K H e u := by
  cases h with
  | cons h t =>
    cases t with
    | cons h2 t => cases t; exact ⟨_, _, rfl, h, h2⟩
section
variable {X : Cx}
theorem sum_raw_tup {prog : Program} {w : World} {A : Around} {E : Value → Shared → Prop} {s : Shared} {l : Addr} {its : List Value} {ns : List Int} {Q : Value → Shared → Prop} (hh : A.handled = none) (hl : s.heap.IsTuple l its.toArray) (hi : IntsAre its ns)
    (h : ∀ h' tk t', (∀ b o, s.heap.get? b = some o → h'.get? b = some o) → Q (.int ns.sum t') { s with heap := h', toks := tk }) : wpAny (model prog w) A (call (.builtin "sum") [.ref l]) Q E s := by
  obtain ⟨xs, e⟩ := hi.allInts.items
  have hn : numsOf (intItems xs).toList = ns := by rw [← e]; exact hi.numsOf
  rw [nums_intItems] at hn
  rw [e] at hl
  have hlt : l < s.heap.objs.size := by obtain ⟨_, e, _⟩ := hl; exact Heap.lt_size e
  refine call_sum_walkG (wpAny_pyIter_tuple hl ?_)
  refine ⟨_, _, _, _, _, _, numAt xs, rfl, Walks.tuple (A := A.in1) hh _ l (Nat.ne_of_lt hlt) (intItems xs), ⟨⟨_, Heap.get?_push_size _ rfl, rfl, rfl⟩, hl.push _⟩, fun b hb => ?_, (fun _ _ => intItems_at), fun h' tk t' hk => ?_⟩
  · rw [Heap.size_push]
    rcases List.mem_cons.mp hb with rfl | hb
    · exact Nat.lt_succ_self _
    · rw [List.mem_singleton.mp hb]; exact Nat.lt_succ_of_lt hlt
  · have := h h' tk t' (fun b o eo => hk b o (fun hm => by rw [List.mem_singleton.mp hm] at eo; exact absurd (Heap.lt_size eo) (Nat.lt_irrefl _)) (Heap.get?_push_of_some _ eo))
    rw [preSum_eq, List.take_of_length_le (by simp [intItems])]
    rw [hn]; exact this
def rSumT (K : PySem.W.Frag) : List V → Hp → VK → Prop := fun vs H Q => ∃ (a : Addr) (ns : List Int), vs = [V.ref a] ∧ SqT K H a (ns.map V.int) ∧ Q (.int ns.sum) H
theorem cr_sumT (hc : X.calm = true) : CallR X (.builtin "sum") (rSumT X.K) := by
  intro pins s σ H vs us Q I r h
  obtain ⟨a, ns, rfl, hs, q⟩ := h
  obtain ⟨its, rv, hl, _⟩ := I.tuple hs
  rw [Vals.ref1 r]
  exact sum_raw_tup (I.ok.hd hc) hl rv.ints fun h' tk t' hk => ⟨.int _, H, I.kept hk, ⟨_, rfl⟩, q⟩
/-- tuple(x) -/
def rTupOf (K : PySem.W.Frag) : List V → Hp → VK → Prop := fun vs H Q => ∃ p ys ds, vs = [.ref p] ∧ Rps K H ds ys ∧ (SqL K H p ys ∨ TupAt K H p ys) ∧ ∀ v H', ResR K H (.dat (.tup ds)) v H' → Q v H'
theorem call_tupOf : CallR X (.type "tuple") (rTupOf X.K) := by
  intro pins s σ H xs us Q I r h
  obtain ⟨p, ys, ds, rfl, rd, h, q⟩ := h
  obtain ⟨u, rfl, rx⟩ := vals1 r
  cases rx
  rcases h with hq | hq
  · obtain ⟨its, r', pl, hz⟩ := I.list hq
    have hlen := r'.length
    refine call_tuple_list pl.isList (fun h' kp => ?_) (by simp only [List.size_toArray] <;> omega)
    have I1 : L2.Inv X pins σ H { s with heap := h' } := I.kept (t' := s.toks) kp
    exact ep_tup (s := { s with heap := h' }) (t' := s.toks) I1 r' hz rd q
  · obtain ⟨its, r', pl, hz⟩ := I.tuple hq.sq
    exact call_tuple_same pl ⟨.ref p, H, I, rfl, q _ _ (res_tup_at hq rd)⟩
theorem call_lenDR : CallR X (.builtin "len") (fun xs H Q => ∃ a kvs, xs = [V.ref a] ∧ Rd H a (.dK kvs) ∧ Q (.int kvs.length) H) := by
  intro pins s σ H xs us Q I r h
  obtain ⟨a, kvs, rfl, ha, q⟩ := h
  obtain ⟨u, rfl, ru⟩ := vals1 r
  cases ru
  exact d_len I ha fun t s' I' => ⟨.int kvs.length, H, I', ⟨t, rfl⟩, q⟩
theorem call_lenS : CallR X (.builtin "len") (fun xs H Q => ∃ a ns, xs = [V.ref a] ∧ H a = some (ISet a ns) ∧ Q (.int (ns.length : Nat)) H) := by
  intro pins s σ H xs us Q I r h
  obtain ⟨a, ns, rfl, ha, q⟩ := h
  rw [Vals.ref1 r]
  obtain ⟨_, _, _, hl⟩ := (I.hok a _ ha).1
  obtain ⟨o, es, ep, t, ho, hex, hd, _, _, _, hf, hn⟩ := iset_get I ha
  exact call_len_set ho hex hd hf (by rw [hn] <;> omega) ⟨.int (ns.length : Nat), H, I.tok _, ⟨_, by rw [hn]⟩, q⟩
theorem fm_mem (ns : List Int) (k : Int) : (PyProof.Rows.firstMet (fun i => ns.getD i 0) ns.length).any (· == k) = decide (k ∈ dedI ns) := by
  have e : (List.range ns.length).map (fun i => ns.getD i 0) = ns := by
    refine List.ext_getElem (by simp) fun i h1 h2 => ?_
    simp [List.getD_eq_getElem?_getD, List.getElem?_eq_getElem h2]
  rw [PyProof.Rows.firstMet_any, e]
  have m : ∀ l : List Int, (k ∈ dedI l ↔ k ∈ l) := by
    intro l
    induction l with
    | nil => simp [dedI]
    | cons x xs ih =>
      simp only [dedI, List.mem_cons, List.mem_filter, ih]
      by_cases h : k = x <;> simp [h]
  rw [Bool.eq_iff_iff]
  simp only [List.any_eq_true, beq_iff_eq, exists_eq_right, decide_eq_true_eq, m]
theorem fm_nodup (f : Nat → Int) : ∀ n, (PyProof.Rows.firstMet f n).Nodup
  | 0 => by rw [PyProof.Rows.firstMet_zero]; exact List.nodup_nil
  | n + 1 => by
    rw [PyProof.Rows.firstMet_succ]
    unfold PyProof.Rows.step_dedup
    split
    · exact fm_nodup f n
    · rename_i h
      refine List.nodup_append.mpr ⟨fm_nodup f n, by simp, fun a ha b hb => ?_⟩
      rw [List.mem_singleton.mp hb]
      rintro rfl
      exact h (List.any_eq_true.mpr ⟨_, ha, beq_self_eq_true _⟩)
theorem ded_nodup : ∀ ns : List Int, (dedI ns).Nodup
  | [] => List.nodup_nil
  | x :: xs => List.nodup_cons.mpr ⟨by simp, (ded_nodup xs).filter _⟩
theorem fm_len (ns : List Int) : (PyProof.Rows.firstMet (fun i => ns.getD i 0) ns.length).length = (dedI ns).length := by
  refine List.Perm.length_eq ((List.perm_ext_iff_of_nodup (fm_nodup _ _) (ded_nodup _)).mpr fun a => ?_)
  have h := fm_mem ns a
  rw [Bool.eq_iff_iff] at h
  simpa using h
theorem ded_len : ∀ ns : List Int, (dedI ns).length ≤ ns.length
  | [] => Nat.le_refl _
  | x :: xs => Nat.succ_le_succ (Nat.le_trans (List.length_filter_le _ _) (ded_len xs))
theorem bltR_set (hc : X.calm = true) : CallR X (.type "set") (rBlt X.K .set) := by
  intro pins s σ H xs us Q I r h
  obtain ⟨ds, rr, hv, ho, q⟩ := h
  match ds, hv, ho with
  | [.lst ys], hv, ho =>
    simp only [bltD] at ho
    split at ho
    · rename_i ns e
      split at ho
      · rename_i hl
        cases ho
        obtain ⟨v, rfl, hw⟩ := hv.one
        obtain ⟨p, vs, rfl, t, rd⟩ := hw.lst
        have e2 := rd.intsD e
        subst e2
        rw [Vals.ref1 r]
        obtain ⟨its, rv, pl, hz⟩ := I.list (.inl t)
        have hlen : its.toArray.size = ns.length := by rw [List.size_toArray, ← rv.length, List.length_map]
        refine call_set_list (I.ok.hd hc) pl.isList (by simpa using rv.ints) (by rw [hlen]; unfold scanBound; omega) fun h' tk hS hk => ?_
        rw [hlen, fm_len] at hS
        have hS' : h'.SetOf (intKind X.prog X.w) s.heap.objs.size (fun k => decide (k ∈ dedI ns)) (dedI ns).length := by
          have ef : (fun k => decide (k ∈ dedI ns)) = fun k' => (PyProof.Rows.firstMet (fun i => ns.getD i 0) ns.length).any (· == k') := by
            funext k; rw [fm_mem]
          rw [ef]; exact hS
        have hf : H s.heap.objs.size = none := I.hok.fresh (Nat.le_refl _)
        have lt := ded_len ns
        refine ⟨.ref s.heap.objs.size, upd H s.heap.objs.size (ISet s.heap.objs.size (dedI ns)), I.laid (t' := tk) (fun b o e => hk b o (Heap.lt_size e) e) (Nat.le_refl _) (iset_new hS' (by omega)), rfl, q _ _ ?_⟩
        exact ⟨same_new hf, s.heap.objs.size, rfl, hf, ⟨dedI ns, rfl, upd_same⟩⟩
      · cases ho
    · cases ho
theorem bltR_len (hc : X.calm = true) : CallR X (.builtin "len") (rBlt X.K .len) := by
  refine CallR.imp (((call_len_seq (X := X)).or (CallR.or call_len_str call_lenDR)).or (CallR.or call_lenDT call_lenS)) fun vs H Q h => ?_
  obtain ⟨ds, r, hv, ho, q⟩ := h
  match ds, hv, ho with
  | [.tup xs], hv, ho =>
    cases ho
    obtain ⟨v, rfl, hw⟩ := hv.one
    obtain ⟨p, vs, rfl, t, rd⟩ := hw.tup
    exact .inl (.inl ⟨p, vs, rfl, .inr t.sq, by rw [rd.length]; exact q _ _ (res_here rfl)⟩)
  | [.lst xs], hv, ho =>
    cases ho
    obtain ⟨v, rfl, hw⟩ := hv.one
    obtain ⟨p, vs, rfl, t, rd⟩ := hw.lst
    exact .inl (.inl ⟨p, vs, rfl, .inl (.inl t), by rw [rd.length]; exact q _ _ (res_here rfl)⟩)
  | [.str z], hv, ho =>
    simp only [bltD] at ho
    split at ho
    · rename_i hz
      cases ho
      obtain ⟨v, rfl, hw⟩ := hv.one
      exact .inl (.inr (.inl ⟨z, by rw [hw.str], by rw [← line_eq]; exact hz, q _ _ (res_here rfl)⟩))
    · cases ho
  | [.dct ks ws], hv, ho =>
    cases ho
    obtain ⟨v, rfl, hw⟩ := hv.one
    obtain ⟨p, kvs, rfl, rfl, hp, rd⟩ := hw.dct
    refine .inl (.inr (.inr ⟨p, _, rfl, hp, ?_⟩))
    rw [List.length_map]
    rw [List.length_map] at q
    exact q _ _ (res_here rfl)
  | [.dkt ks ws], hv, ho =>
    cases ho
    obtain ⟨v, rfl, hw⟩ := hv.one
    obtain ⟨p, rfl, _⟩ := hw.dkt
    exact .inr (.inl ⟨p, _, ks, ws, rfl, hw, rfl, q _ _ (res_here rfl)⟩)
  | [.set ws], hv, ho =>
    cases ho
    obtain ⟨v, rfl, hw⟩ := hv.one
    obtain ⟨p, ns, rfl, rfl, hp⟩ := hw.set
    refine .inr (.inr ⟨p, ns, rfl, hp, ?_⟩)
    rw [List.length_map] at q
    exact q _ _ (res_here rfl)
theorem bltR_sum (hc : X.calm = true) : CallR X (.builtin "sum") (rBlt X.K .sum) := by
  refine CallR.imp ((cr_sum hc).or (cr_sumT hc)) fun vs H Q h => ?_
  obtain ⟨ds, r, hv, ho, q⟩ := h
  match ds, hv, ho with
  | [.tup xs], hv, ho =>
    obtain ⟨ns, e, rfl⟩ := Option.map_eq_some_iff.mp ho
    obtain ⟨v, rfl, hw⟩ := hv.one
    obtain ⟨p, vs, rfl, t, rd⟩ := hw.tup
    have e2 := rd.intsD e
    subst e2
    exact .inr ⟨p, ns, rfl, t.sq, q _ _ (res_here rfl)⟩
  | [.lst xs], hv, ho =>
    obtain ⟨ns, e, rfl⟩ := Option.map_eq_some_iff.mp ho
    obtain ⟨v, rfl, hw⟩ := hv.one
    obtain ⟨p, vs, rfl, t, rd⟩ := hw.lst
    have e2 := rd.intsD e
    subst e2
    exact .inl ⟨p, ns, rfl, .inl t, q _ _ (res_here rfl)⟩
theorem bltR_abs : CallR X (.builtin "abs") (rBlt X.K .abs) := by
  refine CallR.imp (call_abs (X := X)) fun vs H Q h => ?_
  obtain ⟨ds, r, hv, ho, q⟩ := h
  match ds, hv, ho with
  | [.int i], hv, ho =>
    cases ho
    obtain ⟨v, rfl, hw⟩ := hv.one
    exact ⟨i, by rw [hw.int], q _ _ (res_here rfl)⟩
theorem bltR_int : CallR X (.type "int") (rBlt X.K .int) := by
  refine CallR.imp (call_int1 (X := X)) fun vs H Q h => ?_
  obtain ⟨ds, r, hv, ho, q⟩ := h
  match ds, hv, ho with
  | [.int i], hv, ho =>
    cases ho
    obtain ⟨v, rfl, hw⟩ := hv.one
    exact .inl ⟨i, by rw [hw.int], q _ _ (res_here rfl)⟩
  | [.bl i], hv, ho =>
    cases ho
    obtain ⟨v, rfl, hw⟩ := hv.one
    exact .inr ⟨i, by rw [hw.bl], q _ _ (res_here rfl)⟩
theorem bltR_tuple : CallR X (.type "tuple") (rBlt X.K .tuple) := by
  refine CallR.imp (call_tupOf (X := X)) fun vs H Q h => ?_
  obtain ⟨ds, r, hv, ho, q⟩ := h
  match ds, hv, ho with
  | [.tup xs], hv, ho =>
    cases ho
    obtain ⟨v, rfl, hw⟩ := hv.one
    obtain ⟨p, vs, rfl, t, rd⟩ := hw.tup
    exact ⟨p, vs, xs, rfl, rd, .inr t, q⟩
  | [.lst xs], hv, ho =>
    cases ho
    obtain ⟨v, rfl, hw⟩ := hv.one
    obtain ⟨p, vs, rfl, t, rd⟩ := hw.lst
    exact ⟨p, vs, xs, rfl, rd, .inl (.inl t), q⟩
theorem bltR_list : CallR X (.type "list") (rBlt X.K .list) := by
  refine CallR.imp (call_list_of (X := X)) fun vs H Q h => ?_
  obtain ⟨ds, r, hv, ho, q⟩ := h
  match ds, hv, ho with
  | [.tup xs], hv, ho =>
    cases ho
    obtain ⟨v, rfl, hw⟩ := hv.one
    obtain ⟨p, vs, rfl, t, rd⟩ := hw.tup
    exact ⟨p, vs, rfl, .inr t.sq, fun l n => q _ _ (res_lst rd n)⟩
  | [.lst xs], hv, ho =>
    cases ho
    obtain ⟨v, rfl, hw⟩ := hv.one
    obtain ⟨p, vs, rfl, t, rd⟩ := hw.lst
    exact ⟨p, vs, rfl, .inl (.inl t), fun l n => q _ _ (res_lst rd n)⟩
theorem maxI_mem : ∀ (ns : List Int) (n : Int), maxI n ns ∈ n :: ns ∧ ∀ y ∈ n :: ns, y ≤ maxI n ns
  | [], n => ⟨by simp [maxI], by simp [maxI]⟩
  | x :: xs, n => by
    have h := maxI_mem xs (if x > n then x else n)
    unfold maxI
    refine ⟨?_, fun y hy => ?_⟩
    · have h1 := h.1
      by_cases hx : x > n
      · rw [if_pos hx] at h1 ⊢; exact List.mem_cons_of_mem _ h1
      · rw [if_neg hx] at h1 ⊢
        rcases List.mem_cons.mp h1 with e | e
        · rw [e]; exact List.mem_cons_self
        · exact List.mem_cons_of_mem _ (List.mem_cons_of_mem _ e)
    · have h2 : (if x > n then x else n) ≤ maxI (if x > n then x else n) xs := h.2 _ List.mem_cons_self
      have h3 : n ≤ (if x > n then x else n) ∧ x ≤ (if x > n then x else n) := by split <;> omega
      rcases List.mem_cons.mp hy with rfl | hy
      · omega
      · rcases List.mem_cons.mp hy with rfl | hy
        · omega
        · exact h.2 y (List.mem_cons_of_mem _ hy)
theorem bltR_max (hc : X.calm = true) : CallR X (.builtin "max") (rBlt X.K .max) := by
  refine CallR.imp ((call_max2 hc).or (cr_max hc)) fun vs H Q h => ?_
  obtain ⟨ds, r, hv, ho, q⟩ := h
  match ds, hv, ho with
  | [.int i, .int j], hv, ho =>
    cases ho
    obtain ⟨v, u, rfl, h1, h2⟩ := hv.two
    exact .inl ⟨i, j, by rw [h1.int, h2.int], q _ _ (res_here rfl)⟩
  | [.lst xs], hv, ho =>
    simp only [bltD] at ho
    split at ho
    · rename_i n ns e
      cases ho
      obtain ⟨v, rfl, hw⟩ := hv.one
      obtain ⟨p, vs, rfl, t, rd⟩ := hw.lst
      have e2 := rd.intsD e
      subst e2
      refine .inr ⟨p, n :: ns, rfl, .inl t, by simp, fun m hm hle => ?_⟩
      obtain ⟨k1, k2⟩ := maxI_mem ns n
      have : m = maxI n ns := Int.le_antisymm (k2 m hm) (hle _ k1)
      rw [this]
      exact q _ _ (res_here rfl)
    · cases ho
theorem minI_mem : ∀ (ns : List Int) (n : Int), minI n ns ∈ n :: ns ∧ ∀ y ∈ n :: ns, minI n ns ≤ y
  | [], n => ⟨by simp [minI], by simp [minI]⟩
  | x :: xs, n => by
    have h := minI_mem xs (if x < n then x else n)
    unfold minI
    refine ⟨?_, fun y hy => ?_⟩
    · have h1 := h.1
      by_cases hx : x < n
      · rw [if_pos hx] at h1 ⊢; exact List.mem_cons_of_mem _ h1
      · rw [if_neg hx] at h1 ⊢
        rcases List.mem_cons.mp h1 with e | e
        · rw [e]; exact List.mem_cons_self
        · exact List.mem_cons_of_mem _ (List.mem_cons_of_mem _ e)
    · have h2 : minI (if x < n then x else n) xs ≤ (if x < n then x else n) := h.2 _ List.mem_cons_self
      have h3 : (if x < n then x else n) ≤ n ∧ (if x < n then x else n) ≤ x := by split <;> omega
      rcases List.mem_cons.mp hy with rfl | hy
      · omega
      · rcases List.mem_cons.mp hy with rfl | hy
        · omega
        · exact h.2 y (List.mem_cons_of_mem _ hy)
theorem bltR_min (hc : X.calm = true) : CallR X (.builtin "min") (rBlt X.K .min) := by
  refine CallR.imp ((call_min2 hc).or (cr_min hc)) fun vs H Q h => ?_
  obtain ⟨ds, r, hv, ho, q⟩ := h
  match ds, hv, ho with
  | [.int i, .int j], hv, ho =>
    cases ho
    obtain ⟨v, u, rfl, h1, h2⟩ := hv.two
    exact .inl ⟨i, j, by rw [h1.int, h2.int], q _ _ (res_here rfl)⟩
  | [.lst xs], hv, ho =>
    simp only [bltD] at ho
    split at ho
    · rename_i n ns e
      cases ho
      obtain ⟨v, rfl, hw⟩ := hv.one
      obtain ⟨p, vs, rfl, t, rd⟩ := hw.lst
      have e2 := rd.intsD e
      subst e2
      refine .inr ⟨p, n :: ns, rfl, .inl t, by simp, fun m hm hle => ?_⟩
      obtain ⟨k1, k2⟩ := minI_mem ns n
      have : m = minI n ns := Int.le_antisymm (hle _ k1) (k2 m hm)
      rw [this]
      exact q _ _ (res_here rfl)
    · cases ho
theorem bltR_any (hc : X.calm = true) : CallR X (.builtin "any") (rBlt X.K .any) := by
  refine CallR.imp (cr_any hc) fun vs H Q h => ?_
  obtain ⟨ds, r, hv, ho, q⟩ := h
  match ds, hv, ho with
  | [.lst xs], hv, ho =>
    obtain ⟨bs, e, rfl⟩ := Option.map_eq_some_iff.mp ho
    obtain ⟨v, rfl, hw⟩ := hv.one
    obtain ⟨p, vs, rfl, t, rd⟩ := hw.lst
    have e2 := rd.blsD e
    subst e2
    exact ⟨p, bs, rfl, .inl t, q _ _ (res_here rfl)⟩
theorem bltR_all (hc : X.calm = true) : CallR X (.builtin "all") (rBlt X.K .all) := by
  refine CallR.imp (cr_all hc) fun vs H Q h => ?_
  obtain ⟨ds, r, hv, ho, q⟩ := h
  match ds, hv, ho with
  | [.lst xs], hv, ho =>
    obtain ⟨bs, e, rfl⟩ := Option.map_eq_some_iff.mp ho
    obtain ⟨v, rfl, hw⟩ := hv.one
    obtain ⟨p, vs, rfl, t, rd⟩ := hw.lst
    have e2 := rd.blsD e
    subst e2
    exact ⟨p, bs, rfl, .inl t, q _ _ (res_here rfl)⟩
theorem insI_perm (x : Int) : ∀ l : List Int, (insI x l).Perm (x :: l)
  | [] => .refl _
  | y :: ys => by
    unfold insI
    split
    · exact .refl _
    · exact ((insI_perm x ys).cons y).trans (.swap x y ys)
theorem sortI_perm : ∀ l : List Int, (sortI l).Perm l
  | [] => .refl _
  | x :: xs => (insI_perm x _).trans ((sortI_perm xs).cons x)
theorem insI_sorted (x : Int) : ∀ l : List Int, l.Pairwise (· ≤ ·) → (insI x l).Pairwise (· ≤ ·)
  | [], _ => List.pairwise_singleton _ _
  | y :: ys, h => by
    obtain ⟨h1, h2⟩ := List.pairwise_cons.mp h
    unfold insI
    split
    · rename_i le
      refine List.pairwise_cons.mpr ⟨fun z hz => ?_, h⟩
      rcases List.mem_cons.mp hz with rfl | hz
      · exact le
      · exact Int.le_trans le (h1 z hz)
    · rename_i nle
      refine List.pairwise_cons.mpr ⟨fun z hz => ?_, insI_sorted x ys h2⟩
      rcases List.mem_cons.mp ((insI_perm x ys).mem_iff.mp hz) with rfl | hz
      · omega
      · exact h1 z hz
theorem sortI_sorted : ∀ l : List Int, (sortI l).Pairwise (· ≤ ·)
  | [] => .nil
  | x :: xs => insI_sorted x _ (sortI_sorted xs)
theorem sorted_eq {xs ys : List Int} (p : ys.Perm xs) (s : ys.Pairwise (· ≤ ·)) : ys = sortI xs :=
  List.Perm.eq_of_pairwise (le := (· ≤ ·)) (fun _ _ _ _ h1 h2 => Int.le_antisymm h1 h2) s (sortI_sorted xs) (p.trans (sortI_perm xs).symm)
theorem keysI : ∀ {kvs : List (Int × V)} {ns : List Int}, intsD (kvs.map fun q => D.int q.1) = some ns → (dK kvs).map (·.1) = ns.map Sum.inl
  | [], ns, h => by
    have : ns = [] := by simpa [PF.intsD] using h.symm
    subst this; rfl
  | q :: kvs, ns, h => by
    obtain ⟨ms, e, rfl⟩ := Option.map_eq_some_iff.mp (show (intsD (kvs.map fun q => D.int q.1)).map (q.1 :: ·) = some ns from h)
    have := keysI e
    simp only [dK, List.map_cons] at this ⊢
    rw [this]
theorem bltR_sorted (hc : X.calm = true) : CallR X (.builtin "sorted") (rBlt X.K .sorted) := by
  refine CallR.imp (cr_sortedI.or (call_sortedDI hc)) fun vs H Q h => ?_
  obtain ⟨ds, r, hv, ho, q⟩ := h
  match ds, hv, ho with
  | [.lst xs], hv, ho =>
    obtain ⟨ns, e, rfl⟩ := Option.map_eq_some_iff.mp ho
    obtain ⟨v, rfl, hw⟩ := hv.one
    obtain ⟨p, vs, rfl, t, rd⟩ := hw.lst
    have e2 := rd.intsD e
    subst e2
    refine .inl ⟨p, ns, rfl, .inl t, fun ns' p' hp hs hn => ?_⟩
    rw [sorted_eq hp hs]
    exact q _ _ (res_lst (Rps.of_ints _) hn)
  | [.dct ks ws], hv, ho =>
    simp only [bltD] at ho
    split at ho
    · rename_i ns e
      split at ho
      · rename_i h64
        cases ho
        obtain ⟨v, rfl, hw⟩ := hv.one
        obtain ⟨p, kvs, rfl, rfl, hp, rd⟩ := hw.dct
        refine .inr ⟨p, _, ns, rfl, hp, keysI e, h64, fun ns' p' hp' hs hn => ?_⟩
        rw [sorted_eq hp' hs]
        exact q _ _ (res_lst (Rps.of_ints _) hn)
      · cases ho
    · cases ho
theorem rep_dct {K : PySem.W.Frag} {H : Hp} {d : D} {v : V} (k : Int) (r : Rp K H d v) : ∀ {kvs : List (Int × V)} {vs : List D}, Rps K H vs (kvs.map (·.2)) → Rps K H (repI (kvs.map fun q => D.int q.1) vs k d) ((kvs.map fun q => if q.1 = k then (q.1, v) else q).map (·.2))
  | [], vs, _ => .nil
  | q :: kvs, [], h => by have := h.length; simp at this
  | q :: kvs, w :: vs, h => by
    obtain ⟨z, r', e, rz, rr⟩ := h
    cases e
    simp only [List.map_cons, repI]
    refine .cons ?_ (rep_dct k r rr)
    by_cases hq : q.1 = k
    · rw [if_pos hq, if_pos hq]; exact r
    · rw [if_neg hq, if_neg hq]; exact rz
/-- a dict's pairs with one put in -/
theorem put_dct {K : PySem.W.Frag} {H : Hp} {d : D} {v : V} (k : Int) {kvs : List (Int × V)} {vs : List D} (h : Rps K H vs (kvs.map (·.2))) (r : Rp K H d v) :
    ∃ kvs', putK (dK kvs) (Sum.inl k) v = dK kvs' ∧ addI k (kvs.map fun q => D.int q.1) = kvs'.map (fun q => D.int q.1) ∧ Rps K H (putI (kvs.map fun q => D.int q.1) vs k d) (kvs'.map (·.2)) := by
  have hm : ((dK kvs).any fun kv => decide (kv.1 = Sum.inl k)) = memI k (kvs.map fun q => D.int q.1) := by rw [memI_dct, valV_any]
  unfold putK addI putI
  rw [hm]
  by_cases hk : memI k (kvs.map fun q => D.int q.1) = true
  · rw [if_pos hk, if_pos hk, if_pos hk]
    refine ⟨kvs.map fun q => if q.1 = k then (q.1, v) else q, ?_, ?_, rep_dct k r h⟩
    · unfold dK
      rw [List.map_map, List.map_map]
      refine List.map_congr_left fun q _ => ?_
      by_cases hq : q.1 = k <;> simp [hq]
    · rw [List.map_map]
      refine List.map_congr_left fun q _ => ?_
      by_cases hq : q.1 = k <;> simp [hq]
  · rw [if_neg hk, if_neg hk, if_neg hk]
    exact ⟨kvs ++ [(k, v)], by simp [dK], by simp, by rw [List.map_append]; exact h.append (.cons r .nil)⟩
theorem mkD_cons {x : D} {xs ks vs : List D} {r : List D × List D} (h : mkD ks vs (x :: xs) = some r) : ∃ k d, x = .tup [.int k, d] ∧ mkD (addI k ks) (putI ks vs k d) xs = some r := by
  unfold mkD at h
  split at h
  · rename_i e; cases e
  · rename_i k d r' e
    cases e
    exact ⟨k, d, rfl, h⟩
  · cases h
/-- pairs made into a dict -/
theorem mkD_ok {K : PySem.W.Frag} {H : Hp} : ∀ (xs : List D) {us : List V} {vs ks' vs' : List D} {base : List (Int × V)}, Rps K H xs us → mkD (base.map fun q => D.int q.1) vs xs = some (ks', vs') → Rps K H vs (base.map (·.2)) →
    ∃ (ps : List Addr) (kvs kvs' : List (Int × V)), us = ps.map V.ref ∧ Paired (fun p (kv : Key × V) => TupAt K H p [kV kv.1, kv.2]) ps (dK kvs) ∧ mergeK (dK base) (dK kvs) = dK kvs' ∧ ks' = kvs'.map (fun q => D.int q.1) ∧ Rps K H vs' (kvs'.map (·.2)) := by
  intro xs
  induction xs with
  | nil =>
    intro us vs ks' vs' base hx hm hb
    have : us = [] := hx
    subst this
    have hm' : some (base.map fun q => D.int q.1, vs) = some (ks', vs') := by
      rw [← hm]; rfl
    cases hm'
    exact ⟨[], [], base, rfl, .nil, rfl, rfl, hb⟩
  | cons x xs ih =>
    intro us vs ks' vs' base hx hm hb
    obtain ⟨u, r, rfl, hu, hr⟩ := hx
    obtain ⟨k, d, rfl, hm'⟩ := mkD_cons hm
    obtain ⟨p, ws, rfl, t, w1, r1, rfl, e1, w2, r3, rfl, e2, r4⟩ := hu
    have : r3 = [] := r4
    subst this
    have : w1 = .int k := e1
    subst this
    obtain ⟨b2, f1, f2, f3⟩ := put_dct k hb e2
    rw [f2] at hm'
    obtain ⟨ps, kvs, kvs', g1, g2, g3, g4, g5⟩ := ih hr hm' f3
    refine ⟨p :: ps, (k, w2) :: kvs, kvs', by rw [g1]; rfl, .cons t g2, ?_, g4, g5⟩
    rw [← g3]
    show mergeK (putK (dK base) (Sum.inl k) w2) (dK kvs) = _
    rw [f1]
theorem tup_plain {pins : List (Addr × Obj)} {σ : St} {H : Hp} {s : Shared} (I : L2.Inv X pins σ H s) {a : Addr} {xs : List V} (h : TupAt X.K H a xs) : ∃ its : List Value, Vals xs its ∧ PlainSeq "tuple" s.heap a its.toArray ∧ xs.length ≤ sizeLine := by
  rcases h with ⟨o, e, d⟩ | ⟨o, its, n, e, c, d, dt, hz, r⟩
  · obtain ⟨g, z, its, r, o', g', c, n, dt⟩ := I.hok a _ e
    rw [g] at g'; cases g'
    exact ⟨its, r, ⟨o, n, g, c, d, dt⟩, z⟩
  · refine ⟨its.toList, r, ⟨o, n, I.kIn a o e, c, d, by simpa using dt⟩, ?_⟩
    have q : xs.length = its.toList.length := r.length
    have q2 : its.toList.length = its.size := Array.length_toList
    omega
theorem pairs_at {pins : List (Addr × Obj)} {σ : St} {H : Hp} {s : Shared} (I : L2.Inv X pins σ H s) : ∀ {ps : List Addr} {kvs : List (Key × V)}, Paired (fun p (kv : Key × V) => TupAt X.K H p [kV kv.1, kv.2]) ps kvs →
    ∃ (prs : List (Key × Value)) (uvs : List (Value × Value)), KV kvs prs ∧ prs.length = ps.length ∧ uvs.length = ps.length ∧ ∀ (j : Nat) u v, uvs[j]? = some (u, v) → ∃ (b : Addr) (k : Key), ps[j]? = some b ∧ s.heap.IsTuple b #[u, v] ∧ prs[j]? = some (k, v) ∧ keyIs k u = true
  | _, _, .nil => ⟨[], [], .nil, rfl, rfl, fun j u v e => by simp at e⟩
  | _, _, .cons (a := p) (b := kv) h t => by
    obtain ⟨prs, uvs, r, hl, hl2, hp⟩ := pairs_at I t
    obtain ⟨its, rv, ht, _⟩ := I.tuple h.sq
    obtain ⟨u, y, ei, ru, ry⟩ := vals2 rv
    subst ei
    refine ⟨(kv.1, y) :: prs, (u, y) :: uvs, .cons ⟨rfl, ry⟩ r, by rw [List.length_cons, List.length_cons, hl], by rw [List.length_cons, List.length_cons, hl2], fun j u' v' e => ?_⟩
    cases j with
    | zero =>
      have e' : (u, y) = (u', v') := Option.some.inj e
      cases e'
      exact ⟨p, kv.1, rfl, ht, rfl, kV_is (P := X.prog) (w := X.w) ru⟩
    | succ j =>
      obtain ⟨b, k, e1, e2, e3, e4⟩ := hp j u' v' (by simpa using e)
      exact ⟨b, k, by simpa using e1, e2, by simpa using e3, e4⟩
/-- dict(t) of a tuple of pairs -/
theorem cr_dictT (hcalm : X.calm = true) : CallR X (.type "dict") (fun xs H Q => ∃ (a : Addr) (ps : List Addr) (kvs : List (Key × V)), xs = [.ref a] ∧ TupAt X.K H a (ps.map V.ref) ∧ Paired (fun p (kv : Key × V) => TupAt X.K H p [kV kv.1, kv.2]) ps kvs ∧
    ∀ p, H p = none → Q (.ref p) (upd H p (.dK (mergeK [] kvs)))) := by
  intro pins s σ H xs us Q I r q
  obtain ⟨a, ps, kvs, ex, hq, hp, q⟩ := q
  subst ex
  obtain ⟨u, eu, rx⟩ := vals1 r
  subst eu
  cases rx
  obtain ⟨its, rv, pl, hz⟩ := tup_plain I hq
  have ei := refs_at rv
  subst ei
  rw [List.length_map] at hz
  obtain ⟨prs, uvs, rel, hl, hl2, hpr⟩ := pairs_at I hp
  have items : PairItems s.heap (ps.map Value.ref).toArray (fun j => ps.getD j 0) uvs := ⟨by simp [hl2], fun j k v e => by
    obtain ⟨b, k', e1, e2, e3, e4⟩ := hpr j k v e
    have eb : ps.getD j 0 = b := by rw [List.getD_eq_getElem?_getD, e1]; rfl
    refine ⟨?_, ?_⟩
    · show _ = some (Value.ref (ps.getD j 0))
      rw [eb]; simp [e1]
    · show PairAt _ (ps.getD j 0) _ _
      rw [eb]; exact .inl e2⟩
  refine PySem.call_dict_pairs (knd := mixKind X.prog X.w) (kvs := prs) (PairArg.tuple a _ (fun j => ps.getD j 0) uvs) (I.ok.hd hcalm) ⟨pl, items⟩ ⟨by rw [hl, hl2], fun i key v e => ?_⟩ (by rw [hl2]; exact hz) fun h' tk hd' k => ?_
  · obtain ⟨b, k', e1, e2, e3, e4⟩ := hpr i key v e
    exact ⟨k', e3, e4⟩
  · have hm : (s.heap.objs.size == sysModules) = false := beq_eq_false_iff_ne.mpr (Nat.ne_of_gt I.big)
    have hlen : (mergeK [] kvs).length ≤ sizeLine := by
      refine Nat.le_trans (length_mergeK kvs []) ?_
      rw [List.length_nil, Nat.zero_add, rel.length, hl]
      exact hz
    exact ⟨.ref s.heap.objs.size, upd H s.heap.objs.size (.dK (mergeK [] kvs)), I.laid (t' := tk) (fun b o e => k b o (fun z => nomatch z) e) (Nat.le_refl _) (show ObjOk X.prog X.w _ _ _ (.dK (mergeK [] kvs)) from ⟨hlen, hm, merged [] prs, KV.merge rel .nil, hd'⟩), rfl, q _ (I.hok.fresh (Nat.le_refl _))⟩
theorem paired_sq {K : PySem.W.Frag} {H : Hp} : ∀ {ps : List Addr} {kvs : List (Key × V)}, Paired (fun p (kv : Key × V) => TupAt K H p [kV kv.1, kv.2]) ps kvs → Paired (fun p (kv : Key × V) => SqT K H p [kV kv.1, kv.2]) ps kvs
  | _, _, .nil => .nil
  | _, _, .cons h t => .cons h.sq (paired_sq t)
theorem bltR_dict (hc : X.calm = true) : CallR X (.type "dict") (rBlt X.K .dict) := by
  refine CallR.imp ((call_dictP hc).or (cr_dictT hc)) fun vs H Q h => ?_
  obtain ⟨ds, r, hv, ho, q⟩ := h
  match ds, hv, ho with
  | [.lst xs], hv, ho =>
    simp only [bltD] at ho
    split at ho
    · obtain ⟨⟨ks', vs'⟩, e, rfl⟩ := Option.map_eq_some_iff.mp ho
      obtain ⟨v, rfl, hw⟩ := hv.one
      obtain ⟨p, us, rfl, t, rd⟩ := hw.lst
      obtain ⟨ps, kvs, kvs', g1, g2, g3, g4, g5⟩ := mkD_ok xs (base := []) rd e Rps.nil
      subst g1
      refine .inl ⟨p, ps, dK kvs, rfl, .inl t, paired_sq g2, fun a ha => ?_⟩
      rw [show mergeK [] (dK kvs) = dK kvs' from g3]
      exact q _ _ ⟨same_new ha, a, rfl, ha, kvs', g4, upd_same, g5.mono (kp_same (same_new ha))⟩
    · cases ho
  | [.tup xs], hv, ho =>
    simp only [bltD] at ho
    split at ho
    · obtain ⟨⟨ks', vs'⟩, e, rfl⟩ := Option.map_eq_some_iff.mp ho
      obtain ⟨v, rfl, hw⟩ := hv.one
      obtain ⟨p, us, rfl, t, rd⟩ := hw.tup
      obtain ⟨ps, kvs, kvs', g1, g2, g3, g4, g5⟩ := mkD_ok xs (base := []) rd e Rps.nil
      subst g1
      refine .inr ⟨p, ps, dK kvs, rfl, t, g2, fun a ha => ?_⟩
      rw [show mergeK [] (dK kvs) = dK kvs' from g3]
      exact q _ _ ⟨same_new ha, a, rfl, ha, kvs', g4, upd_same, g5.mono (kp_same (same_new ha))⟩
    · cases ho
def Ty.py : Ty → String
  | .bool => "bool" | .int => "int" | .str => "str" | .tuple => "tuple" | .list => "list"
def kdName : Kd → String
  | .non => "NoneType" | .bl => "bool" | .int => "int" | .str => "str" | .tup => "tuple" | .lst => "list"
theorem kit_kd (t : Ty) (k : Kd) : kitB (kdName k) t.py = some (isK t k) := by
  cases t <;> cases k <;> decide +kernel
theorem isiR {K : PySem.W.Frag} {H : Hp} {d : D} {x : V} (h : VwR K H d x) (t : Ty) {b : Bool} (hb : isiD t d = some b) : ∃ ty, TyX K H x ty ∧ PySem.W.kitOne K ty (.type t.py) = some b := by
  have fin : ∀ k, kd d = some k → TyX K H x (.type (kdName k)) → ∃ ty, TyX K H x ty ∧ PySem.W.kitOne K ty (.type t.py) = some b := by
    intro k hk ht
    unfold isiD at hb
    rw [hk] at hb
    have hb' : isK t k = b := Option.some.inj hb
    exact ⟨_, ht, by rw [← hb']; exact kit_ty (kit_kd t k)⟩
  cases d with
  | non => rw [h.non] at fin ⊢; exact fin .non rfl (.base .non)
  | bl k => rw [h.bl] at fin ⊢; exact fin .bl rfl (.base (.bl k))
  | int k => rw [h.int] at fin ⊢; exact fin .int rfl (.base (.int k))
  | str k => rw [h.str] at fin ⊢; exact fin .str rfl (.base (.str k))
  | tup ds =>
    obtain ⟨p, vs, rfl, t', rd⟩ := h.tup
    refine fin .tup rfl ?_
    rcases t' with ⟨o, e, _⟩ | ⟨o, its, n, e, c, _⟩
    · exact .fTuple e
    · exact .kTuple e c
  | lst ds =>
    obtain ⟨p, vs, rfl, t', rd⟩ := h.lst
    refine fin .lst rfl ?_
    rcases t' with e | ⟨o, e⟩
    · exact .base (.lst e)
    · exact .base (.frz e)
  | _ => unfold isiD at hb; cases hb
def Blt.val : Blt → Value
  | .len => .builtin "len" | .sum => .builtin "sum" | .max => .builtin "max" | .min => .builtin "min" | .abs => .builtin "abs" | .int => .type "int" | .tuple => .type "tuple" | .list => .type "list" | .set => .type "set" | .sorted => .builtin "sorted" | .any => .builtin "any" | .all => .builtin "all" | .dict => .type "dict"
/-- the built-in functions that are served -/
def Blt.ok : Blt → Bool
  | _ => true
theorem bltR (hc : X.calm = true) (b : Blt) (hb : b.ok = true) : CallR X b.val (rBlt X.K b) := by
  cases b with
  | len => exact bltR_len hc
  | sum => exact bltR_sum hc
  | max => exact bltR_max hc
  | abs => exact bltR_abs
  | int => exact bltR_int
  | tuple => exact bltR_tuple
  | list => exact bltR_list
  | min => exact bltR_min hc
  | sorted => exact bltR_sorted hc
  | any => exact bltR_any hc
  | all => exact bltR_all hc
  | dict => exact bltR_dict hc
  | set => exact bltR_set hc
end

/-! ### methods -/
def Mt.id : Mt → String
  | .append => "list.append" | .pop => "list.pop" | .reverse => "list.reverse" | .extend => "list.extend" | .add => "set.add" | .insert => "list.insert" | .index => "list.index" | .count => "list.count" | .get => "dict.get"
/-- a method that changes the list that a name owns -/
def rMut (K : PySem.W.Frag) (m : Mt) : V → List V → Hp → VK → Prop := fun x vs H Q => ∃ p d ds r d', x = .ref p ∧ OwnAt K H d p ∧ Rps K H ds vs ∧ mutD m d ds = some (r, d') ∧
  ∀ v H', (∀ b u, b ≠ p → H b = some u → H' b = some u) → (∀ b, b ≠ p → H' b = H b) → OwnAt K H' d' p → Rp K H' r v → Q v H'
theorem upd_own {K : PySem.W.Frag} {H : Hp} {p : Addr} {vs : List V} {ds : List D} {xs : List V} (h : H p = some (.lst xs)) (r : Rps K H ds vs) : Kp H (upd H p (.lst vs)) ∧ OwnAt K (upd H p (.lst vs)) (.lst ds) p := by
  have k : Kp H (upd H p (.lst vs)) := upd_kp fun ob u e => by rw [h] at e; cases e
  exact ⟨k, vs, upd_same, r.mono k⟩
section
variable {X : Cx}
theorem mutR_append : MtM X "list.append" (rMut X.K .append) := by
  intro pins s σ H x vs v us Q I rx rv h
  obtain ⟨p, d, ds, r, d', rfl, ho, rd, hm, q⟩ := h
  match d, ds, ho, rd, hm with
  | .lst xs, [y], ho, rd, hm =>
    simp only [mutD] at hm
    split at hm
    · rename_i hz
      cases hm
      obtain ⟨ws, e, rw'⟩ := ho
      obtain ⟨y', r', rfl, ry, rn⟩ := rd
      have : r' = [] := rn
      subst this
      obtain ⟨k, o2⟩ := upd_own (p := p) e (rw'.append (Rps.cons ry .nil))
      exact mt_append pins s σ H _ _ v us Q I rx rv ⟨p, ws, y', rfl, rfl, e, by rw [← line_eq, rw'.length]; exact hz, q _ _ (fun b u n h => by rw [upd_ne n]; exact h) (fun b n => upd_ne n) o2 rfl⟩
    · cases hm
theorem eraseIdx_rp {K : PySem.W.Frag} {H : Hp} : ∀ {ds : List D} {vs : List V} (n : Nat), Rps K H ds vs → Rps K H (ds.eraseIdx n) (vs.eraseIdx n)
  | [], vs, n, h => by rw [show vs = [] from h]; exact .nil
  | d :: ds, vs, 0, h => by obtain ⟨v, r, rfl, _, t⟩ := h; exact t
  | d :: ds, vs, n + 1, h => by obtain ⟨v, r, rfl, x, t⟩ := h; exact .cons x (eraseIdx_rp n t)
theorem mutR_pop : MtM X "list.pop" (rMut X.K .pop) := by
  intro pins s σ H x vs v us Q I rx rv h
  obtain ⟨p, d, ds, r, d', rfl, ho, rd, hm, q⟩ := h
  cases d with
  | lst xs =>
    cases ds with
    | nil =>
      simp only [mutD] at hm
      split at hm
      · rename_i y hy
        cases hm
        obtain ⟨ws, e, rw'⟩ := ho
        have : vs = [] := rd
        subst this
        obtain ⟨k, o2⟩ := upd_own (p := p) e rw'.dropLast
        rw [List.getLast?_eq_getElem?] at hy
        obtain ⟨y', hy', ry⟩ := rw'.get hy
        exact mt_pop pins s σ H _ _ v us Q I rx rv ⟨p, ws, y', rfl, rfl, e, by rw [rw'.length]; exact hy', q _ _ (fun b u n h => by rw [upd_ne n]; exact h) (fun b n => upd_ne n) o2 (ry.mono k)⟩
      · cases hm
    | cons d1 ds =>
      cases ds with
      | cons d2 ds => cases d1 <;> cases hm
      | nil =>
        cases d1 with
        | int i =>
          obtain ⟨z, r', rfl, rz, rn⟩ := rd
          have : r' = [] := rn
          subst this
          have : z = .int i := rz
          subst this
          simp only [mutD] at hm
          by_cases h0 : 0 ≤ i
          · rw [if_pos h0] at hm
            cases hy : xs[i.toNat]? with
            | none => rw [hy] at hm; cases hm
            | some y =>
              rw [hy] at hm
              cases hm
              obtain ⟨ws, e, rw'⟩ := ho
              obtain ⟨k, o2⟩ := upd_own (p := p) e (eraseIdx_rp i.toNat rw')
              obtain ⟨y', hy', ry⟩ := rw'.get hy
              have hz : ws.length ≤ sizeLine := by obtain ⟨its, n, r, ho, hz⟩ := I.lst e; exact hz
              have hl : i.toNat < ws.length := (List.getElem?_eq_some_iff.mp hy').1
              rw [sizeLine_eq] at hz
              have sq : seqIndex? i ws.length = some i.toNat := seqIndex_of h0 (by omega)
              exact mt_popAt pins s σ H _ _ v us Q I rx rv ⟨p, ws, i, i.toNat, y', rfl, rfl, e, by omega, by omega, sq, hy', q _ _ (fun b u n h => by rw [upd_ne n]; exact h) (fun b n => upd_ne n) o2 (ry.mono k)⟩
          · rw [if_neg h0] at hm; cases hm
        | _ => cases hm
  | _ => cases ds <;> (try cases hm) <;> (rename_i ds; cases ds <;> cases hm)
theorem mutR_reverse : MtM X "list.reverse" (rMut X.K .reverse) := by
  intro pins s σ H x vs v us Q I rx rv h
  obtain ⟨p, d, ds, r, d', rfl, ho, rd, hm, q⟩ := h
  match d, ds, ho, rd, hm with
  | .lst xs, [], ho, rd, hm =>
    cases hm
    obtain ⟨ws, e, rw'⟩ := ho
    have : vs = [] := rd
    subst this
    obtain ⟨k, o2⟩ := upd_own (p := p) e rw'.reverse
    exact mt_reverse pins s σ H _ _ v us Q I rx rv ⟨p, ws, rfl, rfl, e, q _ _ (fun b u n h => by rw [upd_ne n]; exact h) (fun b n => upd_ne n) o2 rfl⟩
/-- s.add(k) -/
theorem addI_map (k : Int) (ns : List Int) : addI k (ns.map D.int) = (if k ∈ ns then ns else ns ++ [k]).map D.int := by
  unfold addI
  rw [memI_map]
  by_cases hk : k ∈ ns <;> simp [hk]
theorem add_set {P : Program} {w : World} {h : Heap} {p : Addr} {ns : List Int} {k : Int} (new : h.SetOf (intKind P w) p (fun k' => (fun k => decide (k ∈ ns)) k' || decide (k' = k)) (if (fun k => decide (k ∈ ns)) k = true then ns.length else ns.length + 1)) :
    h.SetOf (intKind P w) p (fun j => decide (j ∈ (if k ∈ ns then ns else ns ++ [k]))) (if k ∈ ns then ns else ns ++ [k]).length := by
  by_cases hk : k ∈ ns
  · rw [if_pos (by simpa using hk)] at new
    rw [if_pos hk]
    refine SetOf_congr new (fun j => ?_) rfl
    by_cases hj : j = k
    · subst hj; simp [hk]
    · simp [hj]
  · rw [if_neg (by simpa using hk)] at new
    rw [if_neg hk]
    exact SetOf_congr new (fun j => by simp) (by simp)
theorem mutR_add : MtR X "set.add" (rMut X.K .add) := by
  intro pins s σ H x vs v us Q I rx rv h
  obtain ⟨p, d, ds, r, d', rfl, ho, rd, hm, q⟩ := h
  cases d with
  | set xs =>
    cases ds with
    | nil => cases hm
    | cons d1 ds =>
      cases ds with
      | cons d2 ds => cases d1 <;> cases hm
      | nil =>
        cases d1 with
        | int k =>
          simp only [mutD] at hm
          by_cases hz : xs.length + 1 < 4000
          · rw [if_pos hz] at hm
            cases hm
            obtain ⟨ns, rfl, hp⟩ := ho
            obtain ⟨z, r', rfl, rz, rn⟩ := rd
            have : r' = [] := rn
            subst this
            have : z = .int k := rz
            subst this
            cases rx
            obtain ⟨u, rfl, tk, rfl⟩ := vals1 rv
            have hl : ns.length + 1 < 4000 := by simpa using hz
            refine call_set_add (knd := intKind X.prog X.w) (intKind_is _ _ k tk) rfl (iset_get I hp) (by unfold scanBound; omega) fun h' sb new => ?_
            have R := add_set new
            have hl2 : (if k ∈ ns then ns else ns ++ [k]).length < 4000 := by
              split
              · omega
              · rw [List.length_append, List.length_singleton]; exact hl
            have he : ∃ u, h'.get? p = some u := by
              obtain ⟨o, _, _, _, ho, _⟩ := R
              exact ⟨o, ho⟩
            refine ⟨.non, upd H p (ISet p (if k ∈ ns then ns else ns ++ [k])), I.write (e := p) (t' := s.toks + 1) (by rw [hp]; trivial) (.inl rfl) (fun b u hb hu => (sb.2 b hb).trans hu) he (iset_new R hl2), rfl, q _ _ (fun b u n h => by rw [upd_ne n]; exact h) (fun b n => upd_ne n) ?_ rfl⟩
            exact ⟨_, addI_map k ns, upd_same⟩
          · rw [if_neg hz] at hm; cases hm
        | _ => cases hm
  | _ => cases ds <;> (try cases hm) <;> (rename_i ds; cases ds <;> cases hm)
/-- index of a tuple or a list of ints -/
def rMth (K : PySem.W.Frag) (m : Mt) : V → List V → Hp → VK → Prop := fun x vs H Q => ∃ d ds r, VwR K H d x ∧ Rps K H ds vs ∧ mthD m d ds = some r ∧ ∀ v, Rp K H r v → Q v H
theorem mthR_index_tup : MtR X "tuple.index" (fun x vs H Q => ∃ ds e r, VwR X.K H (.tup ds) x ∧ Rps X.K H [e] vs ∧ indexD ds e = some r ∧ ∀ v, Rp X.K H r v → Q v H) := by
  intro pins s σ H x xs v us Q I rx rxs h
  obtain ⟨ds, e, r, vd, re, hm, q⟩ := h
  obtain ⟨p, vs, rfl, t, rd⟩ := vd.tup
  obtain ⟨y', r', rfl, ry, rn⟩ := re
  have e1 : r' = [] := rn
  subst e1
  cases e with
  | int k =>
    have e2 : y' = .int k := ry
    subst e2
    unfold indexD at hm
    cases e : intsD ds with
    | none => rw [e] at hm; cases hm
    | some ns =>
      rw [e] at hm
      have hm' : (if k ∈ ns then some (D.int (ns.idxOf k : Nat)) else none) = some r := hm
      by_cases hk : k ∈ ns
      · rw [if_pos hk] at hm'
        cases hm'
        have e3 := rd.intsD e
        subst e3
        cases rx
        obtain ⟨u, rfl, tk, rfl⟩ := vals1 rxs
        obtain ⟨its, r, pl, hz⟩ := I.tuple t.sq
        exact PySem.SeqAt.tuple_index_ints pl (intsAre_of r) hk ⟨.int _, H, I.tok _, ⟨_, rfl⟩, q _ rfl⟩
      · rw [if_neg hk] at hm'; cases hm'
  | _ => cases hm
theorem mthR_index_lst : MtR X "list.index" (fun x vs H Q => ∃ ds e r, VwR X.K H (.lst ds) x ∧ Rps X.K H [e] vs ∧ indexD ds e = some r ∧ ∀ v, Rp X.K H r v → Q v H) := by
  intro pins s σ H x xs v us Q I rx rxs h
  obtain ⟨ds, e, r, vd, re, hm, q⟩ := h
  obtain ⟨p, vs, rfl, t, rd⟩ := vd.lst
  obtain ⟨y', r', rfl, ry, rn⟩ := re
  have e1 : r' = [] := rn
  subst e1
  cases e with
  | int k =>
    have e2 : y' = .int k := ry
    subst e2
    unfold indexD at hm
    cases e : intsD ds with
    | none => rw [e] at hm; cases hm
    | some ns =>
      rw [e] at hm
      have hm' : (if k ∈ ns then some (D.int (ns.idxOf k : Nat)) else none) = some r := hm
      by_cases hk : k ∈ ns
      · rw [if_pos hk] at hm'
        cases hm'
        have e3 := rd.intsD e
        subst e3
        cases rx
        obtain ⟨u, rfl, tk, rfl⟩ := vals1 rxs
        obtain ⟨its, r, pl, hz⟩ := I.list (.inl t)
        exact PySem.SeqAt.list_index_ints pl.isList (intsAre_of r) (by have q := r.length; rw [List.length_map] at q; rw [List.length_map] at hz; exact hz) hk ⟨.int _, H, I.tok _, ⟨_, rfl⟩, q _ rfl⟩
      · rw [if_neg hk] at hm'; cases hm'
  | _ => cases hm
theorem fst_vals {h : Heap} {xs : List PyData} {vs : List Value} {as : List Addr} (hxs : PyData.canLayAll0 xs = true) (rs : ReadsAll h vs xs as) (d : PyData) : vs.findIdx? (fun y => PyData.eqv (SeqAt.readOf h y) d) = xs.findIdx? (fun y => PyData.eqv y d) := by
  rw [← SeqAt.readsAll_map xs _ _ hxs rs, List.findIdx?_map]; rfl
/-- index in a list, of data -/
theorem mthR_index_any (hu : X.A.units + 65 < cLine) : MtR X "list.index" (fun x vs H Q => ∃ (ds : List PF.D) (e : PF.D) (j : Nat), VwR X.K H (.lst ds) x ∧ Rps X.K H [e] vs ∧ shp e = true ∧ shp (.lst ds) = true ∧ ds.length ≤ line ∧ fstD e ds = some j ∧ ∀ v, Rp X.K H (.int (j : Int)) v → Q v H) := by
  intro pins s σ H x xs v us Q I rx rxs h
  obtain ⟨ds, e, j, vd, re, se, sd, hln, hm, q⟩ := h
  obtain ⟨y', r', rfl, ry, rn⟩ := re
  have e1 : r' = [] := rn
  subst e1
  obtain ⟨u, rfl, ru⟩ := vals1 rxs
  obtain ⟨as, r1⟩ := Dp.reads I _ x v (vd.dp sd) rx
  obtain ⟨bs, r2⟩ := Dp.reads I _ y' u (ry.dp (shp_lay se)) ru
  have hxs : PyData.canLayAll0 (PF.D.pys ds) = true := by
    have := shp_lay sd
    simpa [PF.D.py, PyData.canLay0] using this
  have hd := shp_lay se
  have hr := room_in_shaped (xs := PF.D.pys ds) (shp_sh se) hu
  have r1' : Reads s.heap v (.list (PF.D.pys ds)) as := r1
  cases r1' with
  | @list l o items n _ _ h1 h2 h3 h4 =>
    obtain ⟨cls, dd, data, sl⟩ := o
    have h2' : cls = .type "list" := h2
    have h3' : data = .seq items n := h3
    subst h2' h3'
    have hq := SeqAt.items_eqAt h4 r2 hxs hd hr
    have hf := fst_vals hxs h4 e.py
    have hf2 : (PF.D.pys ds).findIdx? (fun y => PyData.eqv y e.py) = some j := by
      rw [pys_map, List.findIdx?_map]; exact hm
    rw [hf2] at hf
    obtain ⟨hj, hit, hno⟩ := List.findIdx?_eq_some_iff_getElem.mp hf
    have hjl : j < ds.length := (List.findIdx?_eq_some_iff_getElem.mp hm).1
    refine call_meets PySem.F.slot_list_index ⟨_, h1, rfl⟩ PySem.F.entry_list_index (PySem.F.args_list_index_2 _ _)
      (SeqAt.list_indexAt l items n dd sl u (fun y => PyData.eqv (SeqAt.readOf s.heap y) e.py) j (by simpa using hj) (by unfold line at hln; omega) (by simpa using hit) (fun m hm' hlt => by simpa using hno m hlt)) ⟨h1, hq, ?_⟩
    exact ⟨.int (j : Int), H, I.tok _, ⟨_, rfl⟩, q _ rfl⟩
theorem mthR_index_both (hu : X.A.units + 65 < cLine) : MtR X "list.index" (fun x vs H Q => ∃ ds e r, VwR X.K H (.lst ds) x ∧ Rps X.K H [e] vs ∧ mthD .index (.lst ds) [e] = some r ∧ ∀ v, Rp X.K H r v → Q v H) := by
  intro pins s σ H x xs v us Q I rx rxs h
  obtain ⟨ds, e, r, vd, re, hm, q⟩ := h
  simp only [mthD] at hm
  cases hi : indexD ds e with
  | some r' =>
    rw [hi] at hm
    cases hm
    exact mthR_index_lst pins s σ H x xs v us Q I rx rxs ⟨ds, e, _, vd, re, hi, q⟩
  | none =>
    rw [hi] at hm
    simp only at hm
    split at hm
    · rename_i hs
      rw [Bool.and_eq_true, Bool.and_eq_true] at hs
      obtain ⟨j, hj, rfl⟩ := Option.map_eq_some_iff.mp hm
      exact mthR_index_any hu pins s σ H x xs v us Q I rx rxs ⟨ds, e, j, vd, re, hs.1.1, hs.1.2, of_decide_eq_true hs.2, hj, q⟩
    · cases hm
theorem cnt_b (b : Bool) : ∀ {bs : List Bool} {us : List Value}, Vals (bs.map V.bl) us → us.countP (fun y => y == Value.bool b) = bs.count b
  | [], _, .nil => rfl
  | x :: bs, u :: us, .cons r t => by
    have e : u = Value.bool x := r
    subst e
    rw [List.countP_cons, cnt_b b t, List.count_cons]
    by_cases h : x = b
    · subst h; simp
    · have h2 : (Value.bool x == Value.bool b) = false := beq_eq_false_iff_ne.mpr fun z => h (Value.bool.inj z)
      have h3 : (x == b) = false := beq_eq_false_iff_ne.mpr h
      rw [h2, h3]
theorem mem_b : ∀ {bs : List Bool} {us : List Value}, Vals (bs.map V.bl) us → ∀ y ∈ us, ∃ c, y = Value.bool c
  | [], _, .nil, y, hy => by cases hy
  | x :: bs, u :: us, .cons r t, y, hy => by
    rcases List.mem_cons.mp hy with rfl | hy
    · exact ⟨x, r⟩
    · exact mem_b t y hy
theorem mthR_count_lst : MtR X "list.count" (fun x vs H Q => ∃ ds e r, VwR X.K H (.lst ds) x ∧ Rps X.K H [e] vs ∧ mthD .count (.lst ds) [e] = some r ∧ ∀ v, Rp X.K H r v → Q v H) := by
  intro pins s σ H x xs v us Q I rx rxs h
  obtain ⟨ds, e, r, vd, re, hm, q⟩ := h
  obtain ⟨p, vs, rfl, t, rd⟩ := vd.lst
  obtain ⟨y', r', rfl, ry, rn⟩ := re
  have e1 : r' = [] := rn
  subst e1
  cases e with
  | bl b =>
    have e2 : y' = .bl b := ry
    subst e2
    obtain ⟨bs, eb, rfl⟩ := Option.map_eq_some_iff.mp (show (blsD ds).map (fun bs => PF.D.int (bs.count b : Nat)) = some r from hm)
    have e3 := rd.blsD eb
    subst e3
    cases rx
    obtain ⟨u, rfl, ru⟩ := vals1 rxs
    have eu : u = .bool b := ru
    subst eu
    obtain ⟨its, rv, pl, hz⟩ := I.list (.inl t)
    obtain ⟨⟨cls, dd, data, sl⟩, n, ho, hc, hdn, hd⟩ := pl
    simp only at hc hd
    subst hc hd
    refine call_meets PySem.F.slot_list_count ⟨_, ho, rfl⟩ PySem.F.entry_list_count (PySem.F.args_list_count_2 _ _)
      (SeqAt.list_countAt p its.toArray n dd sl (.bool b) (fun y => y == Value.bool b)) ⟨ho, fun y hy => ?_, ?_⟩
    · obtain ⟨c, rfl⟩ := mem_b rv y (by simpa using hy)
      have ec : (Value.bool c == Value.bool b) = (c == b) := by cases c <;> cases b <;> decide
      show SeqAt.EqAt _ _ _ _ (Value.bool c == Value.bool b)
      rw [ec]
      exact SeqAt.EqAt.bool_bool c b
    · refine ⟨.int (bs.count b : Nat), H, I.tok _, ⟨s.toks, ?_⟩, q _ rfl⟩
      show Value.int ((its.toArray.toList.countP _ : Nat) : Int) s.toks = Value.int ((bs.count b : Nat) : Int) s.toks
      rw [show its.toArray.toList = its from rfl, cnt_b b rv]
  | _ => simp [mthD] at hm
end
end PF
/-! PF5: readings of the small language's parts, and how they are put together. -/
namespace PF
open PySem PySem.Spec PyProof.Rows L2

abbrev Ev := Env → Option (Opd × Env)
def tE (K : PySem.W.Frag) (f : Ev) : TE := fun σ H Q => ∃ env o env', EnvR K H σ env ∧ f env = some (o, env') ∧ ∀ v H', Po K σ H env o env' v H' → Q v H'
def tD (K : PySem.W.Frag) (f : Env → Option (D × Env)) : TE := fun σ H Q => ∃ env d env', EnvR K H σ env ∧ f env = some (d, env') ∧ ∀ v H', EnvR K H' σ env' → Tr σ H env σ H' env' → Rp K H' d v → Q v H'
def tT (K : PySem.W.Frag) (f : Ev) : TT := fun σ H Q => ∃ env b env', EnvR K H σ env ∧ f env = some (.dat (.bl b), env') ∧ ∀ H', EnvR K H' σ env' → Tr σ H env σ H' env' → Q b H'
/-- what an iterator yields -/
def ItOk (K : PySem.W.Frag) (H : Hp) (J : It) (xs : List D) : Prop := ∀ i H2, Kp H H2 →
  (i < xs.length → J.go i H2 ∧ ∀ x H3, J.yld i H2 x H3 → H3 = H2 ∧ ∃ d, xs[i]? = some d ∧ Rp K H2 d x) ∧ (i = xs.length → J.stop i H2)
def tI (K : PySem.W.Frag) (f : Ev) : TI := fun σ H R => ∃ env xs env', EnvR K H σ env ∧ f env = some (.dat (.tup xs), env') ∧ ∀ J H', EnvR K H' σ env' → Tr σ H env σ H' env' → ItOk K H' J xs → R J H'
def tDs (K : PySem.W.Frag) (f : Env → Option (List D × Env)) : TA := fun σ H Q => ∃ env ds env', EnvR K H σ env ∧ f env = some (ds, env') ∧ ∀ vs H', EnvR K H' σ env' → Tr σ H env σ H' env' → Rps K H' ds vs → Q vs H'
/-- operands, from the left -/
inductive OpdsR (K : PySem.W.Frag) (σ : St) (H0 : Hp) (env0 : Env) (H : Hp) (env : Env) : List Opd → List V → Prop
  | nil : OpdsR K σ H0 env0 H env [] []
  | cons {o : Opd} {v : V} {os : List Opd} {vs : List V} (r : OpdR K H σ env o v) (n : ∀ d p, o = .own d → v = .ref p → H0 p = none ∨ OwnA env0 σ p) (t : OpdsR K σ H0 env0 H env os vs)
      (dj : ∀ (d : D) (p : Addr), o = .own d → v = .ref p → ∀ (k : Nat) (e : D), os[k]? = some (.own e) → vs[k]? ≠ some (.ref p)) : OpdsR K σ H0 env0 H env (o :: os) (v :: vs)
def tAs (K : PySem.W.Frag) (f : Env → Option (List Opd × Env)) : TA := fun σ H Q => ∃ env os env', EnvR K H σ env ∧ f env = some (os, env') ∧ ∀ vs H', EnvR K H' σ env' → Tr σ H env σ H' env' → OpdsR K σ H env H' env' os vs → Q vs H'

section
variable {X : Cx} {K : PySem.W.Frag}
/-- an operation's end -/
theorem po_res {σ : St} {H H1 H' : Hp} {env env1 : Env} {r : Opd} {v : V} (E : EnvR K H1 σ env1) (t : Tr σ H env σ H1 env1) (h : ResR K H1 r v H') : Po K σ H env r env1 v H' := by
  obtain ⟨sm, hr⟩ := h
  have E' := E.same sm
  refine ⟨E', t.trans (tr_same sm), ?_, ?_⟩
  · cases r with
    | dat d => exact hr
    | own d =>
      obtain ⟨p, e, n, o⟩ := hr
      refine ⟨p, e, o, fun z => ?_⟩
      obtain ⟨u, q, _⟩ := E.nfrz z
      rw [n] at q; cases q
    | slot i => exact hr.elim
  · intro d p e1 e2
    subst e1
    obtain ⟨p', e, n, o⟩ := hr
    rw [e2] at e; cases e
    exact t.fresh n
theorem po_dat {σ : St} {H H1 : Hp} {env env1 : Env} {d : D} {v : V} (E : EnvR K H1 σ env1) (t : Tr σ H env σ H1 env1) (h : Rp K H1 d v) : Po K σ H env (.dat d) env1 v H1 :=
  ⟨E, t, h, fun _ _ e => nomatch e⟩

/-! ### data from an expression: a list is kept as it is -/
theorem pe_frz {e : Expr} {f : Ev} (h : PE X e (tE X.K f)) : PE X e (tD X.K fun env => match f env with | none => none | some (o, env) => toD env o) := by
  refine ⟨fun pins s σ H Q I hw => ?_⟩
  obtain ⟨env, d, env', E, hf, q⟩ := hw
  dsimp only at hf
  cases hfe : f env with
  | none => rw [hfe] at hf; cases hf
  | some oe =>
    obtain ⟨o, env1⟩ := oe
    rw [hfe] at hf
    have hf : toD env1 o = some (d, env') := hf
    refine thn (h.run pins s σ H (fun v H1 => Po X.K σ H env o env1 v H1) I ⟨env, o, env1, E, hfe, fun v H1 p => p⟩) fun u s1 ⟨v, H1, I1, r1, po⟩ => ?_
    cases o with
    | dat d0 =>
      cases hf
      exact ⟨v, H1, I1, r1, q v H1 po.e po.t po.r⟩
    | own d0 =>
      cases d0 with
      | lst xs =>
        cases hf
        obtain ⟨p, rfl, ⟨vs, e1, rv⟩, nown⟩ := po.r
        obtain ⟨ob, I2⟩ := inv_freeze I1 e1
        have k : Kp H1 (upd H1 p (.frz ob (.lst vs))) := upd_kp fun ob u e => by rw [e1] at e; cases e
        have oth : ∀ b u, b ≠ p → H1 b = some u → upd H1 p (.frz ob (.lst vs)) b = some u := fun b u n e => by rw [upd_ne n]; exact e
        refine ⟨.ref p, _, I2, r1, q _ _ ⟨po.e.len, fun i sl e => ?_, po.e.dj⟩ ⟨fun b u e n => ?_, po.t.s⟩ ⟨p, ob, vs, rfl, upd_same, rv.mono k⟩⟩
        · obtain ⟨x, e2, r⟩ := po.e.sl i sl e
          refine ⟨x, e2, ?_⟩
          cases sl with
          | un => trivial
          | val d => obtain ⟨v, e3, r⟩ := r; exact ⟨v, e3, r.mono k⟩
          | own d =>
            obtain ⟨p2, e3, r⟩ := r
            subst e3
            refine ⟨p2, rfl, r.keep k fun u qq => oth p2 u ?_ qq⟩
            rintro rfl
            exact nown ⟨i, d, e, e2⟩
        · refine oth b u ?_ (po.t.f b u e n)
          rintro rfl
          rcases po.n _ _ rfl rfl with z | z
          · rw [e] at z; cases z
          · exact n z
      | dct ks ds =>
        cases hf
        obtain ⟨p, rfl, ⟨kvs, ek, e1, rv⟩, nown⟩ := po.r
        obtain ⟨ob, I2⟩ := inv_freezeD I1 e1
        have k : Kp H1 (upd H1 p (.frz ob (.dK (dK kvs)))) := upd_kp fun ob u e => by rw [e1] at e; cases e
        have oth : ∀ b u, b ≠ p → H1 b = some u → upd H1 p (.frz ob (.dK (dK kvs))) b = some u := fun b u n e => by rw [upd_ne n]; exact e
        refine ⟨.ref p, _, I2, r1, q _ _ ⟨po.e.len, fun i sl e => ?_, po.e.dj⟩ ⟨fun b u e n => ?_, po.t.s⟩ ⟨p, ob, kvs, rfl, ek, upd_same, rv.mono k⟩⟩
        · obtain ⟨x, e2, r⟩ := po.e.sl i sl e
          refine ⟨x, e2, ?_⟩
          cases sl with
          | un => trivial
          | val d => obtain ⟨v, e3, r⟩ := r; exact ⟨v, e3, r.mono k⟩
          | own d =>
            obtain ⟨p2, e3, r⟩ := r
            subst e3
            refine ⟨p2, rfl, r.keep k fun u qq => oth p2 u ?_ qq⟩
            rintro rfl
            exact nown ⟨i, d, e, e2⟩
        · refine oth b u ?_ (po.t.f b u e n)
          rintro rfl
          rcases po.n _ _ rfl rfl with z | z
          · rw [e] at z; cases z
          · exact n z
      | _ => cases hf
    | slot i =>
      cases hl : look env1 i with
      | own d0 =>
        cases d0 with
        | lst xs =>
          simp only [toD, hl] at hf
          cases hf
          obtain ⟨p, e2, ⟨vs, e1, rv⟩, ow⟩ := po.e.own hl
          have e3 : σ[i]? = some (some v) := po.r
          rw [e2] at e3
          cases e3
          obtain ⟨ob, I2⟩ := inv_freeze I1 e1
          have k : Kp H1 (upd H1 p (.frz ob (.lst vs))) := upd_kp fun ob u e => by rw [e1] at e; cases e
          have oth : ∀ b u, b ≠ p → H1 b = some u → upd H1 p (.frz ob (.lst vs)) b = some u := fun b u n e => by rw [upd_ne n]; exact e
          have rl : Rp X.K (upd H1 p (.frz ob (.lst vs))) (.lst xs) (.ref p) := ⟨p, ob, vs, rfl, upd_same, rv.mono k⟩
          have getS : ∀ {j : Nat} {sl : Slot}, (env1.set i (.val (.lst xs)))[j]? = some sl → (j = i ∧ sl = .val (.lst xs)) ∨ (j ≠ i ∧ env1[j]? = some sl) := fun {j sl} e => by
            by_cases hj : i = j
            · subst hj
              rw [List.getElem?_set_self' ] at e
              cases hh : env1[i]? with
              | none => rw [hh] at e; cases e
              | some w => rw [hh] at e; cases e; exact .inl ⟨rfl, rfl⟩
            · rw [List.getElem?_set_ne hj] at e
              exact .inr ⟨Ne.symm hj, e⟩
          have hio := look_own hl
          have ow' : ∀ b, OwnA (env1.set i (.val (.lst xs))) σ b → OwnA env1 σ b ∧ b ≠ p := fun b ⟨j, d, h1, h2⟩ => by
            rcases getS h1 with ⟨_, z⟩ | ⟨hj, z⟩
            · cases z
            · refine ⟨⟨j, d, z, h2⟩, ?_⟩
              rintro rfl
              exact hj (po.e.dj j i d _ b z hio h2 e2)
          refine ⟨.ref p, _, I2, r1, q _ _ ⟨by rw [List.length_set]; exact po.e.len, fun j sl e => ?_, fun j l a b c h1 h2 h3 h4 => ?_⟩ ⟨fun b u e n => ?_, fun b z => po.t.s b (ow' b z).1⟩ rl⟩
          · rcases getS e with ⟨rfl, rfl⟩ | ⟨hj, e⟩
            · exact ⟨_, e2, .ref p, rfl, rl⟩
            · obtain ⟨x, e4, r⟩ := po.e.sl j sl e
              refine ⟨x, e4, ?_⟩
              cases sl with
              | un => trivial
              | val d => obtain ⟨v, e3, r⟩ := r; exact ⟨v, e3, r.mono k⟩
              | own d =>
                obtain ⟨p2, e3, r⟩ := r
                subst e3
                refine ⟨p2, rfl, r.keep k fun u qq => oth p2 u ?_ qq⟩
                rintro rfl
                exact hj (po.e.dj j i d _ p2 e hio e4 e2)
          · rcases getS h1 with ⟨_, z⟩ | ⟨_, h1⟩
            · cases z
            · rcases getS h2 with ⟨_, z⟩ | ⟨_, h2⟩
              · cases z
              · exact po.e.dj j l a b c h1 h2 h3 h4
          · refine oth b u ?_ (po.t.f b u e n)
            rintro rfl
            rcases po.t.s b ow with z | z
            · exact n z
            · rw [e] at z; cases z
        | dct ks ds =>
          simp only [toD, hl] at hf
          cases hf
          obtain ⟨p, e2, ⟨kvs, ek, e1, rv⟩, ow⟩ := po.e.own hl
          have e3 : σ[i]? = some (some v) := po.r
          rw [e2] at e3
          cases e3
          obtain ⟨ob, I2⟩ := inv_freezeD I1 e1
          have k : Kp H1 (upd H1 p (.frz ob (.dK (dK kvs)))) := upd_kp fun ob u e => by rw [e1] at e; cases e
          have oth : ∀ b u, b ≠ p → H1 b = some u → upd H1 p (.frz ob (.dK (dK kvs))) b = some u := fun b u n e => by rw [upd_ne n]; exact e
          have rl : Rp X.K (upd H1 p (.frz ob (.dK (dK kvs)))) (.dct ks ds) (.ref p) := ⟨p, ob, kvs, rfl, ek, upd_same, rv.mono k⟩
          have getS : ∀ {j : Nat} {sl : Slot}, (env1.set i (.val (.dct ks ds)))[j]? = some sl → (j = i ∧ sl = .val (.dct ks ds)) ∨ (j ≠ i ∧ env1[j]? = some sl) := fun {j sl} e => by
            by_cases hj : i = j
            · subst hj
              rw [List.getElem?_set_self' ] at e
              cases hh : env1[i]? with
              | none => rw [hh] at e; cases e
              | some w => rw [hh] at e; cases e; exact .inl ⟨rfl, rfl⟩
            · rw [List.getElem?_set_ne hj] at e
              exact .inr ⟨Ne.symm hj, e⟩
          have hio := look_own hl
          have ow' : ∀ b, OwnA (env1.set i (.val (.dct ks ds))) σ b → OwnA env1 σ b ∧ b ≠ p := fun b ⟨j, d, h1, h2⟩ => by
            rcases getS h1 with ⟨_, z⟩ | ⟨hj, z⟩
            · cases z
            · refine ⟨⟨j, d, z, h2⟩, ?_⟩
              rintro rfl
              exact hj (po.e.dj j i d _ b z hio h2 e2)
          refine ⟨.ref p, _, I2, r1, q _ _ ⟨by rw [List.length_set]; exact po.e.len, fun j sl e => ?_, fun j l a b c h1 h2 h3 h4 => ?_⟩ ⟨fun b u e n => ?_, fun b z => po.t.s b (ow' b z).1⟩ rl⟩
          · rcases getS e with ⟨rfl, rfl⟩ | ⟨hj, e⟩
            · exact ⟨_, e2, .ref p, rfl, rl⟩
            · obtain ⟨x, e4, r⟩ := po.e.sl j sl e
              refine ⟨x, e4, ?_⟩
              cases sl with
              | un => trivial
              | val d => obtain ⟨v, e3, r⟩ := r; exact ⟨v, e3, r.mono k⟩
              | own d =>
                obtain ⟨p2, e3, r⟩ := r
                subst e3
                refine ⟨p2, rfl, r.keep k fun u qq => oth p2 u ?_ qq⟩
                rintro rfl
                exact hj (po.e.dj j i d _ p2 e hio e4 e2)
          · rcases getS h1 with ⟨_, z⟩ | ⟨_, h1⟩
            · cases z
            · rcases getS h2 with ⟨_, z⟩ | ⟨_, h2⟩
              · cases z
              · exact po.e.dj j l a b c h1 h2 h3 h4
          · refine oth b u ?_ (po.t.f b u e n)
            rintro rfl
            rcases po.t.s b ow with z | z
            · exact n z
            · rw [e] at z; cases z
        | _ => simp [toD, hl] at hf
      | un => simp [toD, hl] at hf
      | val d0 => simp [toD, hl] at hf

/-! ### tests and what is walked, from a value -/
theorem VwR.tru {H : Hp} {d : D} {v : V} {b : Bool} (h : VwR K H d v) (ht : truth d = some b) : TruV K v H b := by
  cases d with
  | non => cases ht; rw [h.non]; rfl
  | bl k => cases ht; rw [h.bl]; rfl
  | int k => cases ht; rw [h.int]; rfl
  | tup ds =>
    cases ht
    obtain ⟨p, vs, rfl, t, rd⟩ := h.tup
    refine .inr (.inl ⟨vs, t.sq, ?_⟩)
    have := rd.length
    cases ds <;> cases vs <;> first | rfl | simp at this
  | lst ds =>
    cases ht
    obtain ⟨p, vs, rfl, t, rd⟩ := h.lst
    refine .inl ⟨vs, .inl t, ?_⟩
    have := rd.length
    cases ds <;> cases vs <;> first | rfl | simp at this
  | _ => cases ht
theorem pt_fin {e : Expr} {f : Ev} (h : PE X e (tE X.K f)) (he : ∀ whole, isTrue e X.env whole = (do let v ← whole; standAt e.pos; holding [v] (truthy v))) : PT X e (tT X.K fun env => fin .t (f env)) := by
  refine PT.imp (pt_truth h he) fun σ H Q hw => ?_
  obtain ⟨env, b, env', E, hf, q⟩ := hw
  dsimp only at hf
  cases hfe : f env with
  | none => rw [hfe] at hf; cases hf
  | some oe =>
    obtain ⟨o, env1⟩ := oe
    rw [hfe] at hf
    simp only [fin] at hf
    cases hv : view env1 o with
    | none => rw [hv] at hf; cases hf
    | some d =>
      rw [hv] at hf
      cases ht : truth d with
      | none => simp only [ht] at hf; cases hf
      | some b' =>
        simp only [ht] at hf
        cases hf
        exact ⟨env, o, _, E, hfe, fun v H' po => ⟨b, VwR.tru (po.r.view po.e hv) ht, q H' po.e po.t⟩⟩
theorem itl_ok {H : Hp} {a : Addr} {o : Obj} {vs : List V} {xs : List D} (h : H a = some (.frz o (.lst vs))) (r : Rps K H xs vs) : ItOk K H (Itl K a) xs := fun i H2 k => by
  have h2 : SqL K H2 a vs := .inl (.inr ⟨o, k _ _ _ h⟩)
  have hl := r.length
  refine ⟨fun hi => ?_, fun hi => ⟨vs, h2, by omega⟩⟩
  refine ⟨⟨vs, vs[i]'(by omega), h2, List.getElem?_eq_getElem (by omega)⟩, fun x H3 y => ?_⟩
  obtain ⟨e, y⟩ := y
  refine ⟨e, ?_⟩
  have ex := y vs h2
  exact ⟨xs[i], List.getElem?_eq_getElem hi, (r.mono k).at (List.getElem?_eq_getElem hi) ex⟩
theorem itt_ok {H : Hp} {a : Addr} {vs : List V} {xs : List D} (h : TupAt K H a vs) (r : Rps K H xs vs) : ItOk K H (Itt K a) xs := fun i H2 k => by
  have h2 : SqT K H2 a vs := (h.mono k).sq
  have hl := r.length
  refine ⟨fun hi => ?_, fun hi => ⟨vs, h2, by omega⟩⟩
  refine ⟨⟨vs, vs[i]'(by omega), h2, List.getElem?_eq_getElem (by omega)⟩, fun x H3 y => ?_⟩
  obtain ⟨e, y⟩ := y
  refine ⟨e, ?_⟩
  have ex := y vs h2
  exact ⟨xs[i], List.getElem?_eq_getElem hi, (r.mono k).at (List.getElem?_eq_getElem hi) ex⟩
theorem itk_ok {H : Hp} {a : Addr} {o : Obj} {kvs : List (Int × V)} (h : H a = some (.frz o (.dK (dK kvs)))) : ItOk K H (Itk a o (dK kvs)) (kvs.map fun q => D.int q.1) := fun i H2 k => by
  have h2 := k _ _ _ h
  refine ⟨fun hi => ?_, fun hi => ⟨h2, by rw [hi]; simp⟩⟩
  have hi' : i < kvs.length := by simpa using hi
  refine ⟨⟨h2, by simpa using hi'⟩, fun x H3 y => ?_⟩
  obtain ⟨e, k', v', e2, e3⟩ := y
  refine ⟨e, .int kvs[i].1, by simp [hi'], ?_⟩
  have e4 : (dK kvs)[i]? = some (Sum.inl kvs[i].1, kvs[i].2) := by simp [dK, hi']
  rw [e4] at e2
  cases e2
  exact e3
theorem pi_fin {tg e : Expr} {f : Ev} (h : PE X e (tE X.K f)) : PI X tg e (tI X.K fun env => fin .i (f env)) := by
  refine PI.imp (PI.or (pi_tup (pe_frz h)) (PI.or (pi_list (pe_frz h)) (pi_keys (pe_frz h)))) fun σ H R hw => ?_
  obtain ⟨env, xs, env', E, hf, q⟩ := hw
  dsimp only at hf
  cases hfe : f env with
  | none => rw [hfe] at hf; cases hf
  | some oe =>
    obtain ⟨o, env1⟩ := oe
    rw [hfe] at hf
    simp only [fin, itemsOf] at hf
    cases hd : toD env1 o with
    | none => rw [hd] at hf; cases hf
    | some de =>
      obtain ⟨d, env2⟩ := de
      rw [hd] at hf
      cases d with
      | tup ys =>
        simp only at hf
        cases hf
        refine .inl ⟨env, .tup xs, env', E, by simp only [hfe]; exact hd, fun v H' E' t' r => ?_⟩
        obtain ⟨a, vs, rfl, t, rd⟩ := r
        exact ⟨a, rfl, ⟨vs, t.sq⟩, q _ _ E' t' (itt_ok t rd)⟩
      | lst ys =>
        simp only at hf
        cases hf
        refine .inr (.inl ⟨env, .lst xs, env', E, by simp only [hfe]; exact hd, fun v H' E' t' r => ?_⟩)
        obtain ⟨a, ob, vs, rfl, t, rd⟩ := r
        exact ⟨a, rfl, ⟨vs, .inl (.inr ⟨ob, t⟩)⟩, q _ _ E' t' (itl_ok t rd)⟩
      | dct ks ws =>
        simp only at hf
        cases hf
        refine .inr (.inr ⟨env, .dct xs ws, env', E, by simp only [hfe]; exact hd, fun v H' E' t' r => ?_⟩)
        obtain ⟨a, ob, kvs, rfl, rfl, t, rd⟩ := r
        exact ⟨a, ob, rfl, .inl ⟨_, t, q _ _ E' t' (itk_ok t)⟩⟩
      | _ => cases hf
end
end PF
/-! PF6: the small language's expressions against Python's; that what the evaluator gives is what runs. -/
namespace PF
open PySem PySem.Spec PyProof.Rows L2

/-! ### classes of errors -/
/-- what the top holds under a name -/
def xvl (K : PySem.W.Frag) (x : Str) : Value := match PySem.W.nsIn K mainGlobals x with
  | some (some v) => v
  | _ => .none
/-- facts of classes: one that is raised; except y takes (or doesn't take) one of x; isinstance of one of x and y, of one of x and ValueError -/
inductive XF where
  | exc (x : Str) | exm (x y : Str) (b : Bool) | isn (x y : Str) (b : Bool) | isb (x : Str) (b : Bool)
deriving DecidableEq
def veB : List Value := [.type "ValueError", .type "Exception", .type "BaseException", .type "object"]
def excB (K : PySem.W.Frag) (C : Addr) : Bool :=
  PySem.W.excIn K C veB "ValueError.__new__" && (PySem.W.keepIn K (.ref C) && (decide (PySem.W.typeIn K (.ref C) = some (.type "type")) &&
  (decide (PySem.W.findIn K (.ref C) "__getattribute__" = some (some (.builtin "BaseException.__getattribute__"))) && (decide (PySem.W.findIn K (.ref C) "__getattr__" = some none) && (decide (PySem.W.subIn K (.ref C) (.type "BaseException") = some true) &&
  (PySem.W.hasDictIn K C && (decide (PySem.W.findIn K (.ref C) "__class__" = some (some (.builtin "object.__class__"))) && (decide (PySem.W.specialIn K (.builtin "object.__class__") "__get__" = some (some (.builtin "getset_descriptor.__get__"))) &&
  (decide (PySem.W.takesIn K (.builtin "object.__class__") = some true) && decide (PySem.W.mroIn K C (.type "object") = some true))))))))))
def XF.ok (K : PySem.W.Frag) : XF → Bool
  | .exc x => match xvl K x with
    | .ref C => excB K C
    | _ => false
  | .exm x y b => decide (PySem.W.exmOne K (xvl K x) (xvl K y) = some b)
  | .isn x y b => decide (PySem.W.kitOne K (xvl K x) (xvl K y) = some b) && (match xvl K y with | .ref _ => true | _ => false)
  | .isb x b => decide (PySem.W.kitOne K (xvl K x) (.type "ValueError") = some b)
theorem excB_ok {K : PySem.W.Frag} {C : Addr} (h : excB K C = true) : PySem.W.excIn K C veB "ValueError.__new__" = true ∧ PySem.W.keepIn K (.ref C) = true ∧ PySem.W.typeIn K (.ref C) = some (.type "type") ∧ ExcC K C := by
  unfold excB at h
  simp only [Bool.and_eq_true, decide_eq_true_eq] at h
  obtain ⟨h1, h2, h3, h4, h5, h6, h7, h8, h9, h10, h11⟩ := h
  exact ⟨h1, h2, h3, ⟨h4, h5, h6, h7, h8, h9, h10, h11⟩⟩
theorem exc_ref {K : PySem.W.Frag} {x : Str} (h : (XF.exc x).ok K = true) : ∃ C, xvl K x = .ref C ∧ excB K C = true := by
  have h' : (match xvl K x with | .ref C => excB K C | _ => false) = true := h
  split at h'
  · rename_i C e; exact ⟨C, e, h'⟩
  · cases h'

/-- what a text is checked against: names by slot, the scope, the names that may be stored to, those that no global bears, the defs with how many parameters -/
structure Ck where
  N : List Str
  sc : Scope
  st : Str → Bool
  bn : List Str
  fns : List (Str × Nat)
  /-- classes' names; facts of them -/
  xn : List Str
  xs : List XF
def visB (sc : Scope) (x : Str) : Bool := match sc.names.lookup x with
  | some .local => true | some .cell => true | some .free => true | _ => false
theorem vis_of {sc : Scope} {x : Str} (h : visB sc x = true) : Vis sc x := by
  unfold visB at h
  unfold Vis
  split at h <;> simp_all
def ldOk (G : Ck) (i : Nat) (x : Str) : Bool := decide (G.N[i]? = some x) && visB G.sc x && !(x == ("__debug__" : Str)) && !(x == ("__classdict__" : Str))
def locB (G : Ck) (x : Str) : Bool := match G.sc.names.lookup x with
  | some .local => true | some .cell => G.st x | _ => false
def stOk (G : Ck) (i : Nat) (x : Str) : Bool := decide (G.N[i]? = some x) && locB G x
def gbOk (G : Ck) (x : Str) : Bool := (match G.sc.names.lookup x with | some .globalImplicit => true | _ => false) && !(x == ("__debug__" : Str))
def blOk (G : Ck) (x : Str) : Bool := gbOk G x && G.bn.contains x
def Blt.name : Blt → Str
  | .len => "len" | .sum => "sum" | .max => "max" | .min => "min" | .abs => "abs" | .int => "int" | .tuple => "tuple" | .list => "list" | .set => "set" | .sorted => "sorted" | .any => "any" | .all => "all" | .dict => "dict"
def Ty.name : Ty → Str
  | .bool => "bool" | .int => "int" | .str => "str" | .tuple => "tuple" | .list => "list"
def Mt.name : Mt → Str
  | .append => "append" | .pop => "pop" | .reverse => "reverse" | .extend => "extend" | .add => "add" | .insert => "insert" | .index => "index" | .count => "count" | .get => "get"
/-- how many arguments a changing method takes here -/
def Mt.mut : Mt → Nat → Bool
  | .append, 1 => true | .pop, 0 => true | .pop, 1 => true | .reverse, 0 => true | .add, 1 => true | _, _ => false
def isSetE : Expr → Bool
  | .Set _ _ _ => true | _ => false
def isCallO : Expr → Bool
  | .Call (.Name _ _) [] [] _ => true | _ => false
def isIteE : E → Bool
  | .ite _ _ _ => true | .sdsp _ => true | _ => false
def isNonE : E → Bool
  | .non => true | _ => false
def Tg.is : Tg → List Nat
  | .nm i => [i] | .tp is => is
def ckTs (G : Ck) : List Nat → List Expr → Bool
  | [], [] => true
  | i :: is, .Name x _ :: es => stOk G i x && ckTs G is es
  | _, _ => false
def ckTg (G : Ck) : Tg → Expr → Bool
  | .nm i, .Name x _ => stOk G i x
  | .tp is, .Tuple es _ _ => ckTs G is es
  | _, _ => false
/-- the checks within a comprehension's block -/
def Ck.blk (G : Ck) (scope : Scope) : Ck := { G with sc := relS scope G.sc, st := fun x => scope.names.lookup x == some .cell }
def ownN (N : List Str) (own : List Nat) : List (Str × Nat) := own.map fun i => (N.getD i "", i)
def kdsPlainB (e : Expr) : Bool := PySem.W.kdsPlain e
mutual
def ckE : E → Ck → Expr → Bool
  | .var i, G, .Name x _ => ldOk G i x
  | .int i, _, .Constant (.int j) _ _ => decide (i = j)
  | .bl b, _, .Constant (.bool c) _ _ => decide (b = c)
  | .non, _, .Constant .none _ _ => true
  | .str s, _, .Constant (.str t) _ _ => decide (s = t)
  | .tup es, G, .Tuple xs _ _ => ckEs es G xs
  | .lst es, G, .List xs _ => ckEs es G xs
  | .bin op a b, G, .BinOp x o y _ => decide (op.py = o) && ckE a G x && ckE b G y
  | .neg a, G, .UnaryOp .USub x _ => ckE a G x
  | .not a, G, .UnaryOp .Not x _ => ckE a G x
  | .cmp op a b, G, .Compare x [o] [y] _ => decide (op.py = o) && ckE a G x && ckE b G y && !isSetE y
  | .chain op op2 a b c, G, .Compare x [o, o2] [y, z] _ => decide (op.py = o) && decide (op2.py = o2) && ckE a G x && ckE b G y && ckE c G z && !isSetE z
  | .and es, G, .BoolOp .And xs _ => !es.isEmpty && ckEs es G xs
  | .or es, G, .BoolOp .Or xs _ => !es.isEmpty && ckEs es G xs
  | .ite t a b, G, .IfExp t' x y _ => ckE t G t' && ckE a G x && ckE b G y
  | .idx a i, G, .Subscript x y _ => ckE a G x && ckE i G y
  | .rev a, G, .Subscript x (.Slice none none (some (.UnaryOp .USub (.Constant (.int 1) _ _) _)) _) _ => ckE a G x
  | .slc a lo hi, G, .Subscript x (.Slice l h none _) _ => ckE a G x && (match l with | none => isNonE lo | some l => !isNonE lo && ckE lo G l) && (match h with | none => isNonE hi | some h => !isNonE hi && ckE hi G h)
  | .call f es, G, .Call (.Name x _) xs [] _ => decide (x = f) && gbOk G x && G.fns.contains (f, es.length) && ckEs es G xs
  | .blt b es, G, .Call (.Name x _) xs [] _ => decide (x = b.name) && b.ok && blOk G x && !es.isEmpty && ckEs es G xs
  | .isi a t, G, .Call (.Name x _) [y, .Name z _] [] _ => decide (x = "isinstance") && blOk G x && decide (z = t.name) && blOk G z && ckE a G y
  | .mut m i es, G, .Call (.Attribute (.Name x _) nm apos) xs [] cpos => decide (nm = m.name) && m.mut es.length && ldOk G i x && (apos.endLine == cpos.line) && ckEs es G xs
  | .dget a k z, G, .Call (.Attribute o nm apos) [x, y] [] cpos => decide (nm = "get") && !isCallO o && (apos.endLine == cpos.line) && ckE a G o && ckE k G x && ckE z G y
  | .dpop i k z, G, .Call (.Attribute (.Name w _) nm apos) [x, y] [] cpos => decide (nm = "pop") && (apos.endLine == cpos.line) && ldOk G i w && ckE k G x && ckE z G y
  | .mth m a es, G, .Call (.Attribute o nm apos) xs [] cpos => (decide (m = .index) || decide (m = .count)) && decide (nm = m.name) && !isCallO o && (apos.endLine == cpos.line) && decide (es.length = 1) && ckE a G o && ckEs es G xs
  | .lc own tg (.rng es) cond elt, G, .ListComp elt' [⟨t0, .Call (.Name x _) xs [] _, ifs0, 0⟩] scope _ => blkC G.N G.sc scope (ownN G.N own) && ckTg (G.blk scope) tg t0 && (tg.is.all fun i => own.contains i) && (decide (x = "range") && blOk G x && (decide (es.length = 1) || decide (es.length = 2)) && ckEs es G xs) && decide (cond.length ≤ 1) && ckEs cond (G.blk scope) ifs0 && ckE elt (G.blk scope) elt'
  | .lc own tg src cond elt, G, .ListComp elt' [⟨t0, i0, ifs0, 0⟩] scope _ => blkC G.N G.sc scope (ownN G.N own) && ckTg (G.blk scope) tg t0 && (tg.is.all fun i => own.contains i) && (!isIteE src && ckE src G i0) && decide (cond.length ≤ 1) && ckEs cond (G.blk scope) ifs0 && ckE elt (G.blk scope) elt'
  | .lc2 own tg src cond vs1 tg1 src1 cond1 elt, G, .ListComp elt' [⟨t0, i0, ifs0, 0⟩, ⟨t1, i1, ifs1, 0⟩] scope _ => blkC G.N G.sc scope (ownN G.N own) && ckTg (G.blk scope) tg t0 && (tg.is.all fun i => own.contains i) && ckTg (G.blk scope) tg1 t1 && (tg1.is.all fun i => vs1.contains i) && (vs1.all fun i => own.contains i) && (!isIteE src && ckE src G i0) && (!isIteE src1 && ckE src1 (G.blk scope) i1) && decide (cond.length ≤ 1) && decide (cond1.length ≤ 1) && ckEs cond (G.blk scope) ifs0 && ckEs cond1 (G.blk scope) ifs1 && ckE elt (G.blk scope) elt'
  | .rng es, G, .Call (.Name x _) xs [] _ => decide (x = "range") && blOk G x && (decide (es.length = 1) || decide (es.length = 2)) && ckEs es G xs
  | .sdsp a, G, .Set [z] k _ => decide (k = 0) && kdsPlainB z && ckE a G z
  | .dnew, _, .Dict [] [] _ => true
  | .dsp1 k v, G, .Dict [some x] [y] _ => ckE k G x && ckE v G y
  | .lrng t es, G, .Call (.Name y _) [.Call (.Name x _) xs [] _] [] _ => decide (y = (if t then "tuple" else "list" : Str)) && blOk G y && (decide (x = "range") && blOk G x && (decide (es.length = 1) || decide (es.length = 2)) && ckEs es G xs)
  | .sset a, G, .Call (.Name x _) [.Call (.Name y _) [z] [] _] [] _ => decide (x = "sorted") && decide (y = "set") && blOk G x && blOk G y && ckE a G z
  | _, _, _ => false
def ckEs : List E → Ck → List Expr → Bool
  | [], _, [] => true
  | e :: es, G, x :: xs => ckE e G x && ckEs es G xs
  | _, _, _ => false
end

/-- what is walked -/
def ckI (e : E) (G : Ck) (x : Expr) : Bool := match e, x with
  | .rng es, .Call (.Name x _) xs [] _ => decide (x = "range") && blOk G x && (decide (es.length = 1) || decide (es.length = 2)) && ckEs es G xs
  | e, x => !isIteE e && ckE e G x

/-- a def's promise, by the evaluator -/
def spC (K : PySem.W.Frag) (c : Cl) (f : Str) : Sp := fun vs H Q E => (∃ ss r fs, EnvR K H (vs.map some) ss ∧ c f ss = some (r, fs) ∧
  ∀ v H', EnvR K H' (vs.map some) fs → Tr (vs.map some) H ss (vs.map some) H' fs → OpdR K H' (vs.map some) fs r v → (∀ i, r ≠ .slot i) → (∀ d p, r = .own d → v = .ref p → H p = none ∨ OwnA ss (vs.map some) p) → Q v H') ∨
  ∃ ss g, EnvR K H (vs.map some) ss ∧ noOwn ss = true ∧ c f (mark :: ss) = some (.dat (.str g), []) ∧ ∀ H', (∀ b u, H b = some u → H' b = some u) → E (xvl K g) none H'
structure CallOk (X : Cx) (c : Cl) (f : Str) (n : Nat) : Prop where
  ok : ∃ (a : Addr) (fdt : FuncData) (ps : List Str) (k : Nat), X.mg f = some (.ref a) ∧ PySem.W.keepIn X.K (.ref a) = true ∧ Binds X.K fdt ps [] ∧ FnOk X.prog X.w X.K X.mg X.base (L2.CX X.prog X.w) k a fdt ps (spC X.K c f) ∧ Room k X.A ∧ ps.length = n
structure XOk (X : Cx) (G : Ck) (c : Cl) : Prop where
  n : X.N = G.N
  nd : X.N.Nodup
  calm : X.calm = true
  sc : X.env.scope = G.sc
  kd : G.sc.kind = .function
  fn : ∀ x, G.st x = true → X.fn x = true
  bn : ∀ x, x ∈ G.bn → X.mg x = none
  un : X.A.units + 65 < cLine
  fns : ∀ f n, (f, n) ∈ G.fns → CallOk X c f n
  px : PassesOwn (model X.prog X.w) X.A X.env X.xe
  cd : PySem.W.kdsCode X.K X.env.code = true
  xg : ∀ x, x ∈ G.xn → X.mg x = some (xvl X.K x)
  xf : ∀ φ, φ ∈ G.xs → φ.ok X.K = true
/-- what is shown of a part -/
def SE (c : Cl) (e : E) : Prop := ∀ X G, XOk X G c → ∀ x, ckE e G x = true → PE X x (tE X.K (ev c e .v)) ∧ PT X x (tT X.K (ev c e .t))
section
variable {c : Cl} {X : Cx} {G : Ck}
theorem ld_of (O : XOk X G c) {i : Nat} {x : Str} {pos : Pos} (h : ldOk G i x = true) : PE X (.Name x pos) (tVar i) := by
  unfold ldOk at h
  simp only [Bool.and_eq_true, decide_eq_true_eq, Bool.not_eq_true'] at h
  obtain ⟨⟨⟨h1, h2⟩, h3⟩, h4⟩ := h
  exact pe_var (by rw [O.n]; exact h1) (by rw [O.sc]; exact vis_of h2) h3 h4
theorem gl_of (O : XOk X G c) {x : Str} (h : gbOk G x = true) : Gl X x ∧ (x == ("__debug__" : Str)) = false := by
  unfold gbOk at h
  simp only [Bool.and_eq_true, Bool.not_eq_true'] at h
  refine ⟨?_, h.2⟩
  show X.env.scope.names.lookup x = some .globalImplicit
  rw [O.sc]
  have h1 := h.1
  split at h1 <;> simp_all
theorem bl_of (O : XOk X G c) {x : Str} (h : blOk G x = true) : Gl X x ∧ X.mg x = none ∧ (x == ("__debug__" : Str)) = false := by
  unfold blOk at h
  rw [Bool.and_eq_true] at h
  obtain ⟨h1, h2⟩ := gl_of O h.1
  exact ⟨h1, O.bn _ (by simpa using h.2), h2⟩
/-- from a value's reading to a test's -/
theorem se_of {e : E} (he : ∀ env, ev c e .t env = fin .t (ev c e .v env)) (h : ∀ X G, XOk X G c → ∀ x, ckE e G x = true → PE X x (tE X.K (ev c e .v)) ∧ (∀ whole, isTrue x X.env whole = (do let v ← whole; standAt x.pos; holding [v] (truthy v)))) : SE c e := fun X G O x hx => by
  obtain ⟨h1, h2⟩ := h X G O x hx
  refine ⟨h1, ?_⟩
  have := pt_fin h1 h2
  rw [show ev c e .t = fun env => fin .t (ev c e .v env) from funext he]
  exact this
theorem se_var (i : Nat) : SE c (.var i) := by
  refine se_of (fun _ => rfl) fun X G O x hx => ?_
  cases x <;> first | (cases hx; done) | skip
  rename_i id pos
  refine ⟨PE.imp (ld_of O hx) fun σ H Q h => ?_, fun _ => rfl⟩
  obtain ⟨env, o, env', E, hf, q⟩ := h
  simp only [ev, fin] at hf
  cases hl : look env i with
  | un => rw [hl] at hf; cases hf
  | val d =>
    rw [hl] at hf
    cases hf
    obtain ⟨v, e, r⟩ := E.val hl
    exact ⟨v, e, q v H (po_dat E .refl r)⟩
  | own d =>
    rw [hl] at hf
    cases hf
    obtain ⟨p, e, r, ow⟩ := E.own hl
    exact ⟨.ref p, e, q _ H ⟨E, .refl, e, fun _ _ z => nomatch z⟩⟩
theorem pe_const {x : Expr} {d : D} {v : V} (h : PE X x (tC v)) (hr : ∀ H, Rp X.K H d v) : PE X x (tE X.K fun env => some (.dat d, env)) :=
  PE.imp h fun σ H Q ⟨env, o, env', E, hf, q⟩ => by
    cases hf
    exact q v H (po_dat E .refl (hr H))
theorem se_int (i : Int) : SE c (.int i) := by
  refine se_of (fun _ => rfl) fun X G O x hx => ?_
  cases x <;> first | (cases hx; done) | skip
  rename_i cst k pos
  cases cst <;> first | (cases hx; done) | skip
  rename_i j
  have e : i = j := of_decide_eq_true hx
  subst e
  exact ⟨pe_const pe_int fun _ => rfl, fun _ => rfl⟩
theorem se_bl (i : Bool) : SE c (.bl i) := by
  refine se_of (fun _ => rfl) fun X G O x hx => ?_
  cases x <;> first | (cases hx; done) | skip
  rename_i cst k pos
  cases cst <;> first | (cases hx; done) | skip
  rename_i j
  have e : i = j := of_decide_eq_true hx
  subst e
  exact ⟨pe_const pe_bl fun _ => rfl, fun _ => rfl⟩
theorem se_non : SE c .non := by
  refine se_of (fun _ => rfl) fun X G O x hx => ?_
  cases x <;> first | (cases hx; done) | skip
  rename_i cst k pos
  cases cst <;> first | (cases hx; done) | skip
  exact ⟨pe_const pe_non fun _ => rfl, fun _ => rfl⟩
theorem se_str (i : Str) : SE c (.str i) := by
  refine se_of (fun _ => rfl) fun X G O x hx => ?_
  cases x <;> first | (cases hx; done) | skip
  rename_i cst k pos
  cases cst <;> first | (cases hx; done) | skip
  rename_i j
  have e : i = j := of_decide_eq_true hx
  subst e
  exact ⟨pe_const pe_str fun _ => rfl, fun _ => rfl⟩

/-! ### argument lists -/
theorem star_of {e : E} {G : Ck} {x : Expr} {env : PySem.Env} (h : ckE e G x = true) (xs : List Expr) : starEach (x :: xs) env = (false, eval x env) :: starEach xs env := by
  cases x <;> first | rfl | (exfalso; cases e <;> first | (cases h; done) | (rename_i src _ _; cases src <;> cases h))
theorem any_star : ∀ {es : List E} {G : Ck} {xs : List Expr} {env : PySem.Env} {pos : Pos}, ckEs es G xs = true → (backTo pos (starEach xs env)).any (·.1) = false
  | [], _, [], _, _, _ => rfl
  | [], _, _ :: _, _, _, h => by cases h
  | _ :: _, _, [], _, _, h => by cases h
  | e :: es, G, x :: xs, env, pos, h => by
    have h' : (ckE e G x && ckEs es G xs) = true := h
    rw [Bool.and_eq_true] at h'
    rw [star_of h'.1]
    show (false || (backTo pos (starEach xs env)).any (·.1)) = false
    rw [any_star h'.2]
    rfl
theorem len_of : ∀ {es : List E} {G : Ck} {xs : List Expr}, ckEs es G xs = true → xs.length = es.length
  | [], _, [], _ => rfl
  | [], _, _ :: _, h => by cases h
  | _ :: _, _, [], h => by cases h
  | e :: es, G, x :: xs, h => by
    have h' : (ckE e G x && ckEs es G xs) = true := h
    rw [Bool.and_eq_true] at h'
    rw [List.length_cons, List.length_cons, len_of h'.2]
theorem pa_ds (O : XOk X G c) : ∀ {es : List E}, (∀ e ∈ es, SE c e) → ∀ {xs : List Expr}, ckEs es G xs = true → PA X xs (tDs X.K (evds c es))
  | [], _, [], _ => PA.imp pa_nil fun σ H Q ⟨env, ds, env', E, hf, q⟩ => by
    cases hf
    exact q [] H E .refl rfl
  | [], _, _ :: _, h => by cases h
  | _ :: _, _, [], h => by cases h
  | e :: es, hs, x :: xs, h => by
    have h' : (ckE e G x && ckEs es G xs) = true := h
    rw [Bool.and_eq_true] at h'
    have h1 := pe_frz (hs e List.mem_cons_self X G O x h'.1).1
    have h2 := pa_ds O (fun e he => hs e (List.mem_cons_of_mem _ he)) h'.2
    refine PA.imp (pa_cons h1 h2 (star_of h'.1 xs)) fun σ H Q ⟨env, ds, env', E, hf, q⟩ => ?_
    simp only [evds] at hf
    cases e1 : ev c e .v env with
    | none => rw [e1] at hf; cases hf
    | some oe =>
      obtain ⟨o, env1⟩ := oe
      rw [e1] at hf
      simp only at hf
      cases e2 : toD env1 o with
      | none => rw [e2] at hf; cases hf
      | some de =>
        obtain ⟨d, env2⟩ := de
        rw [e2] at hf
        simp only at hf
        cases e3 : evds c es env2 with
        | none => rw [e3] at hf; cases hf
        | some dse =>
          obtain ⟨ds', env3⟩ := dse
          rw [e3] at hf
          cases hf
          refine ⟨env, d, env2, E, by simp only [e1, e2], fun v H1 E1 t1 r1 => ⟨env2, ds', env', E1, e3, fun vs H2 E2 t2 r2 => q _ H2 E2 (t1.trans t2) (.cons (r1.mono (t2.kp E1)) r2)⟩⟩
theorem OpdsR.later {K : PySem.W.Frag} {σ : St} {H0 H H1 : Hp} {env0 env env1 : Env} (E : EnvR K H σ env) (t : Tr σ H env σ H1 env1) : ∀ {os : List Opd} {vs : List V}, OpdsR K σ H0 env0 H env os vs → OpdsR K σ H0 env0 H1 env1 os vs
  | _, _, .nil => .nil
  | _, _, .cons r n t' dj => .cons (r.later E t) n (OpdsR.later E t t') dj
theorem OpdsR.from {K : PySem.W.Frag} {σ : St} {H0 H H1 : Hp} {env0 env env1 : Env} (t : Tr σ H env σ H0 env0) : ∀ {os : List Opd} {vs : List V}, OpdsR K σ H0 env0 H1 env1 os vs → OpdsR K σ H env H1 env1 os vs
  | _, _, .nil => .nil
  | _, _, .cons r n t' dj => .cons r (fun d p e1 e2 => by
      rcases n d p e1 e2 with z | z
      · exact t.fresh z
      · exact (t.s p z).symm) (OpdsR.from t t') dj
theorem OpdsR.own {K : PySem.W.Frag} {σ : St} {H0 H1 : Hp} {env0 env1 : Env} : ∀ {os : List Opd} {vs : List V}, OpdsR K σ H0 env0 H1 env1 os vs → ∀ (k : Nat) (e : D) (p : Addr), os[k]? = some (.own e) → vs[k]? = some (.ref p) → H0 p = none ∨ OwnA env0 σ p
  | _, _, .nil, k, e, p, h, _ => by simp at h
  | _, _, .cons r n t dj, 0, e, p, h, h2 => by
    simp at h h2
    exact n e p h h2
  | _, _, .cons r n t dj, k + 1, e, p, h, h2 => OpdsR.own t k e p (by simpa using h) (by simpa using h2)
theorem pa_os (O : XOk X G c) : ∀ {es : List E}, (∀ e ∈ es, SE c e) → ∀ {xs : List Expr}, ckEs es G xs = true → PA X xs (tAs X.K (evs c es))
  | [], _, [], _ => PA.imp pa_nil fun σ H Q ⟨env, ds, env', E, hf, q⟩ => by
    cases hf
    exact q [] H E .refl .nil
  | [], _, _ :: _, h => by cases h
  | _ :: _, _, [], h => by cases h
  | e :: es, hs, x :: xs, h => by
    have h' : (ckE e G x && ckEs es G xs) = true := h
    rw [Bool.and_eq_true] at h'
    have h1 := (hs e List.mem_cons_self X G O x h'.1).1
    have h2 := pa_os O (fun e he => hs e (List.mem_cons_of_mem _ he)) h'.2
    refine PA.imp (pa_cons h1 h2 (star_of h'.1 xs)) fun σ H Q ⟨env, ds, env', E, hf, q⟩ => ?_
    simp only [evs] at hf
    cases e1 : ev c e .v env with
    | none => rw [e1] at hf; cases hf
    | some oe =>
      obtain ⟨o, env1⟩ := oe
      rw [e1] at hf
      simp only at hf
      cases e3 : evs c es env1 with
      | none => rw [e3] at hf; cases hf
      | some dse =>
        obtain ⟨os', env3⟩ := dse
        rw [e3] at hf
        cases hf
        refine ⟨env, o, env1, E, e1, fun v H1 po => ⟨env1, os', env', po.e, e3, fun vs H2 E2 t2 r2 => q _ H2 E2 (po.t.trans t2) (.cons (po.r.later po.e t2) po.n (r2.from po.t) ?_)⟩⟩
        intro d p eo ev k e' hk hv
        subst eo
        obtain ⟨p', e2, oa, no⟩ := po.r
        rw [ev] at e2; cases e2
        rcases r2.own k e' p hk hv with z | z
        · obtain ⟨u, qq, _⟩ := oa.nfrz
          rw [qq] at z; cases z
        · exact no z
end
end PF
/-! PF7: the expressions, one by one. -/
namespace PF
open PySem PySem.Spec PyProof.Rows L2
section
variable {c : Cl}
theorem two_inv {α : Type} {a b : E} {env : Env} {r : α} {k : D → D → Env → Opd → Option α}
    (h : (match ev c a .v env with
      | none => none
      | some (x, env) => match ev c b .v env with
        | none => none
        | some (y, env) => match view env x, view env y with
          | some d, some e => k d e env y
          | _, _ => none) = some r) :
    ∃ x env1 y env2 d e, ev c a .v env = some (x, env1) ∧ ev c b .v env1 = some (y, env2) ∧ view env2 x = some d ∧ view env2 y = some e ∧ k d e env2 y = some r := by
  cases e1 : ev c a .v env with
  | none => rw [e1] at h; cases h
  | some xe =>
    obtain ⟨x, env1⟩ := xe
    rw [e1] at h
    simp only at h
    cases e2 : ev c b .v env1 with
    | none => rw [e2] at h; cases h
    | some ye =>
      obtain ⟨y, env2⟩ := ye
      rw [e2] at h
      simp only at h
      cases e3 : view env2 x with
      | none => rw [e3] at h; cases h
      | some d =>
        cases e4 : view env2 y with
        | none => rw [e3, e4] at h; cases h
        | some e =>
          rw [e3, e4] at h
          exact ⟨x, env1, y, env2, d, e, rfl, e2, e3, e4, h⟩
theorem se_tup {es : List E} (hs : ∀ e ∈ es, SE c e) : SE c (.tup es) := by
  refine se_of (fun _ => rfl) fun X G O x hx => ?_
  cases x <;> first | (cases hx; done) | skip
  rename_i xs k pos
  refine ⟨PE.imp (pe_tupF (pa_ds O hs hx)) fun σ H Q ⟨env, o, env', E, hf, q⟩ => ?_, fun _ => rfl⟩
  simp only [ev, fin] at hf
  cases e1 : evds c es env with
  | none => rw [e1] at hf; cases hf
  | some de =>
    obtain ⟨ds, env1⟩ := de
    rw [e1] at hf
    simp only at hf
    by_cases hz : ds.length ≤ line
    · rw [if_pos hz] at hf
      cases hf
      refine ⟨env, ds, env', E, e1, fun vs H1 E1 t1 r1 => ⟨by rw [r1.length, ← line_eq]; exact hz, fun p ob n hd => q _ _ (po_res E1 t1 (res_tup r1 n hd))⟩⟩
    · rw [if_neg hz] at hf; cases hf
theorem se_lst {es : List E} (hs : ∀ e ∈ es, SE c e) : SE c (.lst es) := by
  refine se_of (fun _ => rfl) fun X G O x hx => ?_
  cases x <;> first | (cases hx; done) | skip
  rename_i xs pos
  refine ⟨PE.imp (pe_lst (pa_ds O hs hx)) fun σ H Q ⟨env, o, env', E, hf, q⟩ => ?_, fun _ => rfl⟩
  simp only [ev, fin] at hf
  cases e1 : evds c es env with
  | none => rw [e1] at hf; cases hf
  | some de =>
    obtain ⟨ds, env1⟩ := de
    rw [e1] at hf
    simp only at hf
    by_cases hz : ds.length ≤ line
    · rw [if_pos hz] at hf
      cases hf
      refine ⟨env, ds, env', E, e1, fun vs H1 E1 t1 r1 => ⟨by rw [r1.length, ← line_eq]; exact hz, fun p n => q _ _ (po_res E1 t1 (res_lst r1 n))⟩⟩
    · rw [if_neg hz] at hf; cases hf
theorem and2 {a b : Bool} (h : (a && b) = true) : a = true ∧ b = true := by rwa [Bool.and_eq_true] at h
theorem se_bin {op : Op2} {a b : E} (ha : SE c a) (hb : SE c b) : SE c (.bin op a b) := by
  refine se_of (fun _ => rfl) fun X G O x hx => ?_
  cases x <;> first | (cases hx; done) | skip
  rename_i l o r pos
  obtain ⟨hx1, h3⟩ := and2 hx
  obtain ⟨h1, h2⟩ := and2 hx1
  have eo : op.py = o := of_decide_eq_true h1
  subst eo
  refine ⟨PE.imp (pe_op (opR2 op) (ha X G O _ h2).1 (hb X G O _ h3).1) fun σ H Q ⟨env, o, env', E, hf, q⟩ => ?_, fun _ => rfl⟩
  simp only [ev, fin] at hf
  obtain ⟨x, env1, y, env2, d, e, e1, e2, e3, e4, hk⟩ := two_inv (k := fun d e env _ => match op2 op d e with | some r => some (r, env) | none => none) hf
  cases ho : op2 op d e with
  | none => rw [ho] at hk; cases hk
  | some r =>
    rw [ho] at hk
    cases hk
    exact ⟨env, x, env1, E, e1, fun v H1 p1 => ⟨env1, y, env', p1.e, e2, fun u H2 p2 => ⟨d, e, o, (p1.r.later p1.e p2.t).view p2.e e3, p2.r.view p2.e e4, ho, fun w H3 res => q w H3 (po_res p2.e (p1.t.trans p2.t) res)⟩⟩⟩
theorem nomk {op : CmpOp} {y : Expr} (h : isSetE y = false) : behindInMarks op y = false := by
  cases y <;> first | rfl | cases h
theorem po_bl {K : PySem.W.Frag} {σ : St} {H H1 : Hp} {env env1 : Env} {b : Bool} (E : EnvR K H1 σ env1) (t : Tr σ H env σ H1 env1) : Po K σ H env (.dat (.bl b)) env1 (.bl b) H1 := po_dat E t rfl
theorem se_cmp {op : Cm} {a b : E} (ha : SE c a) (hb : SE c b) : SE c (.cmp op a b) := by
  intro X G O x hx
  cases x <;> first | (cases hx; done) | skip
  rename_i l ops rs pos
  match ops, rs, hx with
  | [o], [r], hx =>
    obtain ⟨hx1, h4⟩ := and2 hx
    obtain ⟨hx2, h3⟩ := and2 hx1
    obtain ⟨h1, h2⟩ := and2 hx2
    have eo : op.py = o := of_decide_eq_true h1
    subst eo
    have hm : behindInMarks op.py r = false := nomk (by simpa using h4)
    have key : ∀ {σ : St} {H : Hp} {env env' : Env} {bb : Bool} {Q : VK}, EnvR X.K H σ env → ev c (.cmp op a b) .v env = some (.dat (.bl bb), env') → (∀ H', EnvR X.K H' σ env' → Tr σ H env σ H' env' → Q (.bl bb) H') →
        tOp (rCm X.K op) (tE X.K (ev c a .v)) (tE X.K (ev c b .v)) σ H Q := by
      intro σ H env env' bb Q E hf q
      simp only [ev, fin] at hf
      obtain ⟨x, env1, y, env2, d, e, e1, e2, e3, e4, hk⟩ := two_inv (k := fun d e env _ => match cm op d e with | some r => some (Opd.dat (.bl r), env) | none => none) hf
      cases ho : cm op d e with
      | none => rw [ho] at hk; cases hk
      | some r =>
        rw [ho] at hk
        cases hk
        exact ⟨env, x, env1, E, e1, fun v H1 p1 => ⟨env1, y, env', p1.e, e2, fun u H2 p2 => ⟨d, e, bb, (p1.r.later p1.e p2.t).view p2.e e3, p2.r.view p2.e e4, ho, q H2 p2.e (p1.t.trans p2.t)⟩⟩⟩
    have vb : ∀ {env : Env} {o : Opd} {env' : Env}, ev c (.cmp op a b) .v env = some (o, env') → ∃ bb, o = .dat (.bl bb) := by
      intro env o env' hf
      simp only [ev, fin] at hf
      obtain ⟨x, env1, y, env2, d, e, e1, e2, e3, e4, hk⟩ := two_inv (k := fun d e env _ => match cm op d e with | some r => some (Opd.dat (.bl r), env) | none => none) hf
      cases ho : cm op d e with
      | none => rw [ho] at hk; cases hk
      | some r => rw [ho] at hk; cases hk; exact ⟨_, rfl⟩
    refine ⟨PE.imp (pe_cmpR (cmR O.un op) (ha X G O _ h2).1 (hb X G O _ h3).1 hm) fun σ H Q ⟨env, o, env', E, hf, q⟩ => ?_, PT.imp (pt_cmpR (cmR O.un op) (ha X G O _ h2).1 (hb X G O _ h3).1 hm) fun σ H Q ⟨env, b', env', E, hf, q⟩ => ?_⟩
    · obtain ⟨bb, rfl⟩ := vb hf
      exact key E hf fun H' E' t' => q _ H' (po_bl E' t')
    · have hf' : fin .t (ev c (.cmp op a b) .v env) = some (.dat (.bl b'), env') := hf
      cases hv : ev c (.cmp op a b) .v env with
      | none => rw [hv] at hf'; cases hf'
      | some oe =>
        obtain ⟨o, env2⟩ := oe
        obtain ⟨bb, rfl⟩ := vb hv
        rw [hv] at hf'
        cases hf'
        exact key E hv fun H' E' t' => ⟨b', rfl, q H' E' t'⟩
theorem se_chain {op op2 : Cm} {a b d : E} (ha : SE c a) (hb : SE c b) (hd : SE c d) : SE c (.chain op op2 a b d) := by
  intro X G O x hx
  cases x <;> first | (cases hx; done) | skip
  rename_i l ops rs pos
  match ops, rs, hx with
  | [o, o2], [r, r2], hx =>
    obtain ⟨hx1, h6⟩ := and2 hx
    obtain ⟨hx2, h5⟩ := and2 hx1
    obtain ⟨hx3, h4⟩ := and2 hx2
    obtain ⟨hx4, h3⟩ := and2 hx3
    obtain ⟨h1, h2⟩ := and2 hx4
    have eo : op.py = o := of_decide_eq_true h1
    have eo2 : op2.py = o2 := of_decide_eq_true h2
    subst eo eo2
    have hm : lastMarks [op.py, op2.py] [r, r2] = false := nomk (op := op2.py) (by simpa using h6)
    have inv : ∀ {env : Env} {o : Opd} {env' : Env}, ev c (.chain op op2 a b d) .v env = some (o, env') →
        ∃ x env1 y env2 g e, ev c a .v env = some (x, env1) ∧ ev c b .v env1 = some (y, env2) ∧ view env2 x = some g ∧ view env2 y = some e ∧
          ((cm op g e = some false ∧ o = .dat (.bl false) ∧ env' = env2) ∨ (cm op g e = some true ∧ ∃ z env3 e2 h k, ev c d .v env2 = some (z, env3) ∧ view env3 y = some e2 ∧ view env3 z = some h ∧ cm op2 e2 h = some k ∧ o = .dat (.bl k) ∧ env' = env3)) := by
      intro env o env' hf
      simp only [ev, fin] at hf
      obtain ⟨x, env1, y, env2, g, e, e1, e2, e3, e4, hk⟩ := two_inv (k := fun g e env y => match cm op g e with
          | none => none
          | some false => some (Opd.dat (.bl false), env)
          | some true => match ev c d .v env with
            | none => none
            | some (z, env) => match view env y, view env z with
              | some e, some g => match cm op2 e g with | some r => some (Opd.dat (.bl r), env) | none => none
              | _, _ => none) hf
      refine ⟨x, env1, y, env2, g, e, e1, e2, e3, e4, ?_⟩
      cases ho : cm op g e with
      | none => rw [ho] at hk; cases hk
      | some bb =>
        rw [ho] at hk
        cases bb with
        | false => cases hk; exact .inl ⟨rfl, rfl, rfl⟩
        | true =>
          simp only at hk
          cases e5 : ev c d .v env2 with
          | none => rw [e5] at hk; cases hk
          | some ze =>
            obtain ⟨z, env3⟩ := ze
            rw [e5] at hk
            simp only at hk
            cases e6 : view env3 y with
            | none => rw [e6] at hk; cases hk
            | some e2' =>
              cases e7 : view env3 z with
              | none => rw [e6, e7] at hk; cases hk
              | some h' =>
                rw [e6, e7] at hk
                simp only at hk
                cases e8 : cm op2 e2' h' with
                | none => rw [e8] at hk; cases hk
                | some k =>
                  rw [e8] at hk
                  cases hk
                  exact .inr ⟨rfl, z, _, e2', h', k, rfl, e6, e7, e8, rfl, rfl⟩
    have key : ∀ {σ : St} {H : Hp} {env env' : Env} {o : Opd} {Q : VK}, EnvR X.K H σ env → ev c (.chain op op2 a b d) .v env = some (o, env') → (∀ bb H', o = .dat (.bl bb) → EnvR X.K H' σ env' → Tr σ H env σ H' env' → Q (.bl bb) H') →
        tChain (rCm X.K op) (rCm X.K op2) (tE X.K (ev c a .v)) (tE X.K (ev c b .v)) (tE X.K (ev c d .v)) σ H Q := by
      intro σ H env env' o Q E hf q
      obtain ⟨x, env1, y, env2, g, e, e1, e2, e3, e4, hk⟩ := inv hf
      refine ⟨env, x, env1, E, e1, fun v H1 p1 => ⟨env1, y, env2, p1.e, e2, fun u H2 p2 => ?_⟩⟩
      rcases hk with ⟨ho, rfl, rfl⟩ | ⟨ho, z, env3, e2', h', k, e5, e6, e7, e8, rfl, rfl⟩
      · refine ⟨g, e, false, (p1.r.later p1.e p2.t).view p2.e e3, p2.r.view p2.e e4, ho, false, rfl, ?_⟩
        rw [if_neg Bool.false_ne_true]
        exact q _ H2 rfl p2.e (p1.t.trans p2.t)
      · refine ⟨g, e, true, (p1.r.later p1.e p2.t).view p2.e e3, p2.r.view p2.e e4, ho, true, rfl, ?_⟩
        rw [if_pos rfl]
        exact ⟨env2, z, env', p2.e, e5, fun w' H3 p3 => ⟨e2', h', k, (p2.r.later p2.e p3.t).view p3.e e6, p3.r.view p3.e e7, e8, q _ H3 rfl p3.e ((p1.t.trans p2.t).trans p3.t)⟩⟩
    have vb : ∀ {env : Env} {o : Opd} {env' : Env}, ev c (.chain op op2 a b d) .v env = some (o, env') → ∃ bb, o = .dat (.bl bb) := by
      intro env o env' hf
      obtain ⟨x, env1, y, env2, g, e, e1, e2, e3, e4, hk⟩ := inv hf
      rcases hk with ⟨ho, rfl, rfl⟩ | ⟨ho, z, env3, e2', h', k, e5, e6, e7, e8, rfl, rfl⟩
      · exact ⟨_, rfl⟩
      · exact ⟨_, rfl⟩
    have ca := cmR (X := X) O.un op
    have cb := cmR (X := X) O.un op2
    refine ⟨PE.imp (pe_chain ca cb (ha X G O _ (by assumption)).1 (hb X G O _ (by assumption)).1 (hd X G O _ (by assumption)).1 hm) fun σ H Q ⟨env, o, env', E, hf, q⟩ => key E hf fun bb H' e E' t' => ?_,
      PT.imp (pt_chain ca cb (ha X G O _ (by assumption)).1 (hb X G O _ (by assumption)).1 (hd X G O _ (by assumption)).1 hm) fun σ H Q ⟨env, b', env', E, hf, q⟩ => ?_⟩
    · subst e
      exact q _ H' (po_bl E' t')
    · have hf' : fin .t (ev c (.chain op op2 a b d) .v env) = some (.dat (.bl b'), env') := hf
      cases hv : ev c (.chain op op2 a b d) .v env with
      | none => rw [hv] at hf'; cases hf'
      | some oe =>
        obtain ⟨o, env2⟩ := oe
        obtain ⟨bb, rfl⟩ := vb hv
        rw [hv] at hf'
        cases hf'
        exact key E hv fun bb H' e E' t' => by
          cases e
          exact ⟨_, rfl, q H' E' t'⟩
theorem se_neg {a : E} (ha : SE c a) : SE c (.neg a) := by
  refine se_of (fun _ => rfl) fun X G O x hx => ?_
  cases x <;> first | (cases hx; done) | skip
  rename_i op y pos
  cases op <;> first | (cases hx; done) | skip
  refine ⟨PE.imp (pe_un un_neg (ha X G O _ hx).1) fun σ H Q ⟨env, o, env', E, hf, q⟩ => ?_, fun _ => rfl⟩
  simp only [ev, fin] at hf
  cases e1 : ev c a .v env with
  | none => rw [e1] at hf; cases hf
  | some xe =>
    obtain ⟨x, env1⟩ := xe
    rw [e1] at hf
    cases x with
    | dat d =>
      cases d with
      | int i =>
        cases hf
        exact ⟨env, _, _, E, e1, fun v H1 p1 => ⟨i, p1.r, q _ H1 (po_dat p1.e p1.t rfl)⟩⟩
      | _ => cases hf
    | _ => cases hf
theorem not_inv {a : E} {x : Option (Opd × Env)} {o : Opd} {env' : Env} (h : (match x with
    | some (.dat (.bl b), env) => some (Opd.dat (.bl (!b)), env)
    | _ => none) = some (o, env')) : ∃ b, x = some (.dat (.bl b), env') ∧ o = .dat (.bl (!b)) := by
  cases x with
  | none => cases h
  | some xe =>
    obtain ⟨x, env1⟩ := xe
    cases x with
    | dat d =>
      cases d with
      | bl b => cases h; exact ⟨b, rfl, rfl⟩
      | _ => cases h
    | _ => cases h
theorem fin_t_inv {x : Option (Opd × Env)} {o : Opd} {env' : Env} (h : fin .t x = some (o, env')) : ∃ y d b, x = some (y, env') ∧ view env' y = some d ∧ truth d = some b ∧ o = .dat (.bl b) := by
  cases x with
  | none => cases h
  | some xe =>
    obtain ⟨y, env1⟩ := xe
    simp only [fin] at h
    cases e3 : view env1 y with
    | none => rw [e3] at h; cases h
    | some d =>
      rw [e3] at h
      cases e4 : truth d with
      | none => simp only [e4] at h; cases h
      | some b =>
        simp only [e4] at h
        cases h
        exact ⟨y, d, b, rfl, e3, e4, rfl⟩
theorem se_not {a : E} (ha : SE c a) : SE c (.not a) := by
  intro X G O x hx
  cases x <;> first | (cases hx; done) | skip
  rename_i op y pos
  cases op <;> first | (cases hx; done) | skip
  refine ⟨PE.imp (pe_notT (ha X G O _ hx).1) fun σ H Q ⟨env, o, env', E, hf, q⟩ => ?_, PT.imp (pt_not (ha X G O _ hx).2) fun σ H Q ⟨env, b, env', E, hf, q⟩ => ?_⟩
  · simp only [ev, fin] at hf
    obtain ⟨b, e1, rfl⟩ := not_inv (a := a) hf
    obtain ⟨y, d, b', e2, e3, e4, e5⟩ := fin_t_inv e1
    cases e5
    exact ⟨env, y, env', E, e2, fun v H1 p1 => ⟨b, VwR.tru (p1.r.view p1.e e3) e4, q _ H1 (po_bl p1.e p1.t)⟩⟩
  · simp only [ev] at hf
    obtain ⟨y, d, b', e2, e3, e4, e5⟩ := fin_t_inv hf
    obtain ⟨b2, e6, rfl⟩ := not_inv (a := a) e2
    cases e3
    cases e4
    cases e5
    exact ⟨env, b2, env', E, e6, fun H1 E1 t1 => q H1 E1 t1⟩
/-! ### and, or -/
theorem and_cons {e : E} {es : List E} {md : Md} {env : Env} {b : Bool} {env' : Env} (h : evAnd c (e :: es) md env = some (.dat (.bl b), env')) :
    (b = false ∧ ev c e md env = some (.dat (.bl false), env')) ∨ ∃ env1, ev c e md env = some (.dat (.bl true), env1) ∧ evAnd c es md env1 = some (.dat (.bl b), env') := by
  simp only [evAnd] at h
  cases e1 : ev c e md env with
  | none => rw [e1] at h; cases h
  | some oe =>
    obtain ⟨o, env1⟩ := oe
    rw [e1] at h
    cases o with
    | dat d =>
      cases d with
      | bl k =>
        cases k with
        | false => cases h; exact .inl ⟨rfl, rfl⟩
        | true => exact .inr ⟨env1, rfl, h⟩
      | _ => cases h
    | _ => cases h
theorem or_cons {e : E} {es : List E} {md : Md} {env : Env} {b : Bool} {env' : Env} (h : evOr c (e :: es) md env = some (.dat (.bl b), env')) :
    (b = true ∧ ev c e md env = some (.dat (.bl true), env')) ∨ ∃ env1, ev c e md env = some (.dat (.bl false), env1) ∧ evOr c es md env1 = some (.dat (.bl b), env') := by
  simp only [evOr] at h
  cases e1 : ev c e md env with
  | none => rw [e1] at h; cases h
  | some oe =>
    obtain ⟨o, env1⟩ := oe
    rw [e1] at h
    cases o with
    | dat d =>
      cases d with
      | bl k =>
        cases k with
        | true => cases h; exact .inl ⟨rfl, rfl⟩
        | false => exact .inr ⟨env1, rfl, h⟩
      | _ => cases h
    | _ => cases h
theorem and_bl : ∀ {es : List E} {md : Md} {env : Env} {o : Opd} {env' : Env}, evAnd c es md env = some (o, env') → ∃ b, o = .dat (.bl b)
  | [], md, env, o, env', h => by cases h; exact ⟨_, rfl⟩
  | e :: es, md, env, o, env', h => by
    simp only [evAnd] at h
    split at h
    · cases h; exact ⟨_, rfl⟩
    · exact and_bl h
    · cases h
theorem or_bl : ∀ {es : List E} {md : Md} {env : Env} {o : Opd} {env' : Env}, evOr c es md env = some (o, env') → ∃ b, o = .dat (.bl b)
  | [], md, env, o, env', h => by cases h; exact ⟨_, rfl⟩
  | e :: es, md, env, o, env', h => by
    simp only [evOr] at h
    split at h
    · cases h; exact ⟨_, rfl⟩
    · exact or_bl h
    · cases h
theorem pe_ands {X : Cx} {G : Ck} (O : XOk X G c) {pos : Pos} : ∀ {e : E} {es : List E}, (∀ e' ∈ e :: es, SE c e') → ∀ {xs : List Expr}, ckEs (e :: es) G xs = true → PE X (.BoolOp .And xs pos) (tE X.K (evAnd c (e :: es) .v))
  | e, [], hs, [], h => by cases h
  | e, _ :: _, hs, [], h => by cases h
  | e, [], hs, x :: y :: xs, h => by
    obtain ⟨h1, h2⟩ := and2 (show (ckE e G x && ckEs [] G (y :: xs)) = true from h)
    cases h2
  | e, e2 :: es, hs, [x], h => by
    obtain ⟨h1, h2⟩ := and2 (show (ckE e G x && ckEs (e2 :: es) G []) = true from h)
    cases h2
  | e, [], hs, [x], h => by
    obtain ⟨h1, h2⟩ := and2 (show (ckE e G x && ckEs [] G []) = true from h)
    refine PE.imp (pe_one (hs e List.mem_cons_self X G O x h1).1) fun σ H Q ⟨env, o, env', E, hf, q⟩ => ?_
    obtain ⟨b, rfl⟩ := and_bl hf
    rcases and_cons hf with ⟨rfl, e1⟩ | ⟨env1, e1, e2⟩
    · exact ⟨env, _, env', E, e1, q⟩
    · cases e2
      exact ⟨env, _, env', E, e1, q⟩
  | e, e2 :: es, hs, x :: y :: xs, h => by
    obtain ⟨h1, h2⟩ := and2 (show (ckE e G x && ckEs (e2 :: es) G (y :: xs)) = true from h)
    refine PE.imp (pe_and (hs e List.mem_cons_self X G O x h1).1 (pe_ands O (fun e' he => hs e' (List.mem_cons_of_mem _ he)) h2)) fun σ H Q ⟨env, o, env', E, hf, q⟩ => ?_
    obtain ⟨b, rfl⟩ := and_bl hf
    rcases and_cons hf with ⟨rfl, e1⟩ | ⟨env1, e1, e2⟩
    · refine ⟨env, _, env', E, e1, fun v H1 p1 => ⟨false, p1.r, ?_⟩⟩
      rw [if_neg Bool.false_ne_true]
      exact q _ H1 (po_bl p1.e p1.t)
    · refine ⟨env, _, env1, E, e1, fun v H1 p1 => ⟨true, p1.r, ?_⟩⟩
      rw [if_pos rfl]
      exact ⟨env1, _, env', p1.e, e2, fun w' H2 p2 => by
        have : w' = .bl b := p2.r
        subst this
        exact q _ H2 (po_bl p2.e (p1.t.trans p2.t))⟩
theorem pe_ors {X : Cx} {G : Ck} (O : XOk X G c) {pos : Pos} : ∀ {e : E} {es : List E}, (∀ e' ∈ e :: es, SE c e') → ∀ {xs : List Expr}, ckEs (e :: es) G xs = true → PE X (.BoolOp .Or xs pos) (tE X.K (evOr c (e :: es) .v))
  | e, [], hs, [], h => by cases h
  | e, _ :: _, hs, [], h => by cases h
  | e, [], hs, x :: y :: xs, h => by
    obtain ⟨h1, h2⟩ := and2 (show (ckE e G x && ckEs [] G (y :: xs)) = true from h)
    cases h2
  | e, e2 :: es, hs, [x], h => by
    obtain ⟨h1, h2⟩ := and2 (show (ckE e G x && ckEs (e2 :: es) G []) = true from h)
    cases h2
  | e, [], hs, [x], h => by
    obtain ⟨h1, h2⟩ := and2 (show (ckE e G x && ckEs [] G []) = true from h)
    refine PE.imp (pe_one (hs e List.mem_cons_self X G O x h1).1) fun σ H Q ⟨env, o, env', E, hf, q⟩ => ?_
    obtain ⟨b, rfl⟩ := or_bl hf
    rcases or_cons hf with ⟨rfl, e1⟩ | ⟨env1, e1, e2⟩
    · exact ⟨env, _, env', E, e1, q⟩
    · cases e2
      exact ⟨env, _, env', E, e1, q⟩
  | e, e2 :: es, hs, x :: y :: xs, h => by
    obtain ⟨h1, h2⟩ := and2 (show (ckE e G x && ckEs (e2 :: es) G (y :: xs)) = true from h)
    refine PE.imp (pe_or (hs e List.mem_cons_self X G O x h1).1 (pe_ors O (fun e' he => hs e' (List.mem_cons_of_mem _ he)) h2)) fun σ H Q ⟨env, o, env', E, hf, q⟩ => ?_
    obtain ⟨b, rfl⟩ := or_bl hf
    rcases or_cons hf with ⟨rfl, e1⟩ | ⟨env1, e1, e2⟩
    · refine ⟨env, _, env', E, e1, fun v H1 p1 => ⟨true, p1.r, ?_⟩⟩
      rw [if_pos rfl]
      exact q _ H1 (po_bl p1.e p1.t)
    · refine ⟨env, _, env1, E, e1, fun v H1 p1 => ⟨false, p1.r, ?_⟩⟩
      rw [if_neg Bool.false_ne_true]
      exact ⟨env1, _, env', p1.e, e2, fun w' H2 p2 => by
        have : w' = .bl b := p2.r
        subst this
        exact q _ H2 (po_bl p2.e (p1.t.trans p2.t))⟩
theorem pw_ands {X : Cx} {G : Ck} (O : XOk X G c) {pos : Pos} : ∀ {e : E} {es : List E}, (∀ e' ∈ e :: es, SE c e') → ∀ {xs : List Expr}, ckEs (e :: es) G xs = true → PW X (.BoolOp .And xs pos) (tT X.K (evAnd c (e :: es) .t))
  | e, [], hs, [], h => by cases h
  | e, _ :: _, hs, [], h => by cases h
  | e, [], hs, x :: y :: xs, h => by
    obtain ⟨h1, h2⟩ := and2 (show (ckE e G x && ckEs [] G (y :: xs)) = true from h)
    cases h2
  | e, e2 :: es, hs, [x], h => by
    obtain ⟨h1, h2⟩ := and2 (show (ckE e G x && ckEs (e2 :: es) G []) = true from h)
    cases h2
  | e, [], hs, [x], h => by
    obtain ⟨h1, h2⟩ := and2 (show (ckE e G x && ckEs [] G []) = true from h)
    refine ⟨fun wh pins s σ H Q I hw => (pw_and1 (hs e List.mem_cons_self X G O x h1).2).run wh pins s σ H Q I ?_⟩
    obtain ⟨env, b, env', E, hf, q⟩ := hw
    rcases and_cons hf with ⟨rfl, e1⟩ | ⟨env1, e1, e2⟩
    · exact ⟨env, _, env', E, e1, q⟩
    · cases e2
      exact ⟨env, _, env', E, e1, q⟩
  | e, e2 :: es, hs, x :: y :: xs, h => by
    obtain ⟨h1, h2⟩ := and2 (show (ckE e G x && ckEs (e2 :: es) G (y :: xs)) = true from h)
    refine ⟨fun wh pins s σ H Q I hw => (pw_and (hs e List.mem_cons_self X G O x h1).2 (pw_ands O (fun e' he => hs e' (List.mem_cons_of_mem _ he)) h2)).run wh pins s σ H Q I ?_⟩
    obtain ⟨env, b, env', E, hf, q⟩ := hw
    rcases and_cons hf with ⟨rfl, e1⟩ | ⟨env1, e1, e2⟩
    · refine ⟨env, _, env', E, e1, fun H1 E1 t1 => ?_⟩
      dsimp only
      rw [if_neg Bool.false_ne_true]
      exact q H1 E1 t1
    · refine ⟨env, _, env1, E, e1, fun H1 E1 t1 => ?_⟩
      dsimp only
      rw [if_pos rfl]
      exact ⟨env1, _, env', E1, e2, fun H2 E2 t2 => q H2 E2 (t1.trans t2)⟩
theorem pw_ors {X : Cx} {G : Ck} (O : XOk X G c) {pos : Pos} : ∀ {e : E} {es : List E}, (∀ e' ∈ e :: es, SE c e') → ∀ {xs : List Expr}, ckEs (e :: es) G xs = true → PW X (.BoolOp .Or xs pos) (tT X.K (evOr c (e :: es) .t))
  | e, [], hs, [], h => by cases h
  | e, _ :: _, hs, [], h => by cases h
  | e, [], hs, x :: y :: xs, h => by
    obtain ⟨h1, h2⟩ := and2 (show (ckE e G x && ckEs [] G (y :: xs)) = true from h)
    cases h2
  | e, e2 :: es, hs, [x], h => by
    obtain ⟨h1, h2⟩ := and2 (show (ckE e G x && ckEs (e2 :: es) G []) = true from h)
    cases h2
  | e, [], hs, [x], h => by
    obtain ⟨h1, h2⟩ := and2 (show (ckE e G x && ckEs [] G []) = true from h)
    refine ⟨fun wh pins s σ H Q I hw => (pw_or1 (hs e List.mem_cons_self X G O x h1).2).run wh pins s σ H Q I ?_⟩
    obtain ⟨env, b, env', E, hf, q⟩ := hw
    rcases or_cons hf with ⟨rfl, e1⟩ | ⟨env1, e1, e2⟩
    · exact ⟨env, _, env', E, e1, q⟩
    · cases e2
      exact ⟨env, _, env', E, e1, q⟩
  | e, e2 :: es, hs, x :: y :: xs, h => by
    obtain ⟨h1, h2⟩ := and2 (show (ckE e G x && ckEs (e2 :: es) G (y :: xs)) = true from h)
    refine ⟨fun wh pins s σ H Q I hw => (pw_or (hs e List.mem_cons_self X G O x h1).2 (pw_ors O (fun e' he => hs e' (List.mem_cons_of_mem _ he)) h2)).run wh pins s σ H Q I ?_⟩
    obtain ⟨env, b, env', E, hf, q⟩ := hw
    rcases or_cons hf with ⟨rfl, e1⟩ | ⟨env1, e1, e2⟩
    · refine ⟨env, _, env', E, e1, fun H1 E1 t1 => ?_⟩
      dsimp only
      rw [if_pos rfl]
      exact q H1 E1 t1
    · refine ⟨env, _, env1, E, e1, fun H1 E1 t1 => ?_⟩
      dsimp only
      rw [if_neg Bool.false_ne_true]
      exact ⟨env1, _, env', E1, e2, fun H2 E2 t2 => q H2 E2 (t1.trans t2)⟩
theorem fin_bl {md : Md} {x : Option (Opd × Env)} (h : ∀ o env, x = some (o, env) → ∃ b, o = .dat (.bl b)) (hm : md = .t) : fin md x = x := by
  subst hm
  cases x with
  | none => rfl
  | some oe =>
    obtain ⟨o, env⟩ := oe
    obtain ⟨b, rfl⟩ := h o env rfl
    rfl
theorem se_and {es : List E} (hs : ∀ e ∈ es, SE c e) : SE c (.and es) := by
  intro X G O x hx
  cases x <;> first | (cases hx; done) | skip
  rename_i op xs pos
  cases op <;> first | (cases hx; done) | skip
  obtain ⟨h1, h2⟩ := and2 hx
  cases es with
  | nil => cases h1
  | cons e es =>
    refine ⟨pe_ands O hs h2, ?_⟩
    rw [show ev c (.and (e :: es)) .t = evAnd c (e :: es) .t from funext fun env => fin_bl (fun o env h => and_bl h) rfl]
    exact (pw_ands O hs h2).pt
theorem se_or {es : List E} (hs : ∀ e ∈ es, SE c e) : SE c (.or es) := by
  intro X G O x hx
  cases x <;> first | (cases hx; done) | skip
  rename_i op xs pos
  cases op <;> first | (cases hx; done) | skip
  obtain ⟨h1, h2⟩ := and2 hx
  cases es with
  | nil => cases h1
  | cons e es =>
    refine ⟨pe_ors O hs h2, ?_⟩
    rw [show ev c (.or (e :: es)) .t = evOr c (e :: es) .t from funext fun env => fin_bl (fun o env h => or_bl h) rfl]
    exact (pw_ors O hs h2).pt
end
end PF
/-! PF8: names lent to a call and given back. -/
namespace PF
open PySem PySem.Spec PyProof.Rows L2
section
variable {K : PySem.W.Frag} {H H1 H2 : Hp} {σ : St} {env env1 env2 : Env}
theorem OwnA.cons {s : Slot} {ss : Env} {x : Option V} {σ : St} {p : Addr} : OwnA (s :: ss) (x :: σ) p ↔ (∃ d, s = .own d ∧ x = some (.ref p)) ∨ OwnA ss σ p := by
  constructor
  · rintro ⟨i, d, h1, h2⟩
    cases i with
    | zero => simp at h1 h2; exact .inl ⟨d, h1, h2⟩
    | succ i => exact .inr ⟨i, d, by simpa using h1, by simpa using h2⟩
  · rintro (⟨d, rfl, rfl⟩ | ⟨i, d, h1, h2⟩)
    · exact ⟨0, d, rfl, rfl⟩
    · exact ⟨i + 1, d, by simpa using h1, by simpa using h2⟩
theorem EnvR.nil : EnvR K H [] [] := ⟨rfl, fun i s e => by simp at e, fun i j d e p h => by simp at h⟩
theorem EnvR.cons' {s : Slot} {ss : Env} {x : Option V} (h : SlotR K H s x) (E : EnvR K H σ ss) (dj : ∀ d p, s = .own d → x = some (.ref p) → ¬ OwnA ss σ p) : EnvR K H (x :: σ) (s :: ss) := by
  refine ⟨by rw [List.length_cons, List.length_cons, E.len], fun i sl e => ?_, fun i j d e p h1 h2 h3 h4 => ?_⟩
  · cases i with
    | zero => simp at e; subst e; exact ⟨x, rfl, h⟩
    | succ i =>
      obtain ⟨y, e2, r⟩ := E.sl i sl (by simpa using e)
      exact ⟨y, by simpa using e2, r⟩
  · cases i with
    | zero =>
      cases j with
      | zero => rfl
      | succ j =>
        simp at h1 h3
        exact (dj d p h1 h3 ⟨j, e, by simpa using h2, by simpa using h4⟩).elim
    | succ i =>
      cases j with
      | zero =>
        simp at h2 h4
        exact (dj e p h2 h4 ⟨i, d, by simpa using h1, by simpa using h3⟩).elim
      | succ j =>
        rw [E.dj i j d e p (by simpa using h1) (by simpa using h2) (by simpa using h3) (by simpa using h4)]
theorem EnvR.uncons {s : Slot} {ss : Env} {x : Option V} (E : EnvR K H (x :: σ) (s :: ss)) : SlotR K H s x ∧ EnvR K H σ ss ∧ ∀ d p, s = .own d → x = some (.ref p) → ¬ OwnA ss σ p := by
  refine ⟨?_, ⟨by have := E.len; simpa using this, fun i sl e => ?_, fun i j d e p h1 h2 h3 h4 => ?_⟩, fun d p e1 e2 z => ?_⟩
  · obtain ⟨y, e2, r⟩ := E.sl 0 s rfl
    cases e2
    exact r
  · obtain ⟨y, e2, r⟩ := E.sl (i + 1) sl (by simpa using e)
    exact ⟨y, by simpa using e2, r⟩
  · have := E.dj (i + 1) (j + 1) d e p (by simpa using h1) (by simpa using h2) (by simpa using h3) (by simpa using h4)
    omega
  · obtain ⟨i, d', h1, h2⟩ := z
    subst e1 e2
    have := E.dj 0 (i + 1) d d' p rfl (by simpa using h1) rfl (by simpa using h2)
    omega
/-- a slot let go -/
theorem EnvR.un (E : EnvR K H σ env) (i : Nat) : EnvR K H σ (env.set i .un) ∧ (∀ p, OwnA (env.set i .un) σ p → OwnA env σ p) ∧ ∀ p, σ[i]? = some (some (.ref p)) → (∃ d, env[i]? = some (.own d)) → ¬ OwnA (env.set i .un) σ p := by
  have getS : ∀ {j : Nat} {sl : Slot}, (env.set i .un)[j]? = some sl → (j = i ∧ sl = .un) ∨ (j ≠ i ∧ env[j]? = some sl) := fun {j sl} e => by
    by_cases hj : i = j
    · subst hj
      rw [List.getElem?_set_self'] at e
      cases hh : env[i]? with
      | none => rw [hh] at e; cases e
      | some w => rw [hh] at e; cases e; exact .inl ⟨rfl, rfl⟩
    · rw [List.getElem?_set_ne hj] at e
      exact .inr ⟨Ne.symm hj, e⟩
  have own : ∀ {j : Nat} {d : D}, (env.set i .un)[j]? = some (.own d) → j ≠ i ∧ env[j]? = some (.own d) := fun {j d} e => by
    rcases getS e with ⟨_, z⟩ | z
    · cases z
    · exact z
  refine ⟨⟨by rw [List.length_set]; exact E.len, fun j sl e => ?_, fun j l d e p h1 h2 h3 h4 => E.dj j l d e p (own h1).2 (own h2).2 h3 h4⟩, fun p ⟨j, d, h1, h2⟩ => ⟨j, d, (own h1).2, h2⟩, fun p h ⟨d, hd⟩ ⟨j, e, h1, h2⟩ => (own h1).1 (E.dj j i e d p (own h1).2 hd h2 h)⟩
  rcases getS e with ⟨rfl, rfl⟩ | ⟨hj, e⟩
  · have hlt : j < env.length := by
      obtain ⟨q, _⟩ := List.getElem?_eq_some_iff.mp e
      rw [List.length_set] at q; exact q
    rw [E.len] at hlt
    exact ⟨σ[j], List.getElem?_eq_getElem hlt, trivial⟩
  · exact E.sl j sl e
/-- a slot that takes a value -/
theorem EnvR.put (E : EnvR K H σ env) {i : Nat} {s : Slot} {x : Option V} (hx : σ[i]? = some x) (h : SlotR K H s x) (dj : ∀ d p, s = .own d → x = some (.ref p) → ¬ OwnA env σ p) :
    EnvR K H σ (env.set i s) ∧ ∀ p, OwnA (env.set i s) σ p → OwnA env σ p ∨ ∃ d, s = .own d ∧ x = some (.ref p) := by
  have getS : ∀ {j : Nat} {sl : Slot}, (env.set i s)[j]? = some sl → (j = i ∧ sl = s) ∨ (j ≠ i ∧ env[j]? = some sl) := fun {j sl} e => by
    by_cases hj : i = j
    · subst hj
      rw [List.getElem?_set_self'] at e
      cases hh : env[i]? with
      | none => rw [hh] at e; cases e
      | some w => rw [hh] at e; cases e; exact .inl ⟨rfl, rfl⟩
    · rw [List.getElem?_set_ne hj] at e
      exact .inr ⟨Ne.symm hj, e⟩
  refine ⟨⟨by rw [List.length_set]; exact E.len, fun j sl e => ?_, fun j l d e p h1 h2 h3 h4 => ?_⟩, fun p ⟨j, d, h1, h2⟩ => ?_⟩
  · rcases getS e with ⟨rfl, rfl⟩ | ⟨hj, e⟩
    · exact ⟨x, hx, h⟩
    · exact E.sl j sl e
  · rcases getS h1 with ⟨rfl, z1⟩ | ⟨hj, z1⟩
    · rcases getS h2 with ⟨rfl, z2⟩ | ⟨hl, z2⟩
      · rfl
      · rw [hx] at h3; cases h3
        exact (dj d p z1.symm rfl ⟨l, e, z2, h4⟩).elim
    · rcases getS h2 with ⟨rfl, z2⟩ | ⟨hl, z2⟩
      · rw [hx] at h4; cases h4
        exact (dj e p z2.symm rfl ⟨j, d, z1, h3⟩).elim
      · exact E.dj j l d e p z1 z2 h3 h4
  · rcases getS h1 with ⟨rfl, z⟩ | ⟨hj, z⟩
    · rw [hx] at h2; cases h2
      exact .inr ⟨d, z.symm, rfl⟩
    · exact .inl ⟨j, d, z, h2⟩
theorem OpdsR.under {H0 : Hp} {env0 : Env} (ho : ∀ p, OwnA env1 σ p → OwnA env σ p) : ∀ {os : List Opd} {vs : List V}, OpdsR K σ H0 env0 H env os vs → OpdsR K σ H0 env0 H env1 os vs
  | _, _, .nil => .nil
  | .dat d :: _, _, .cons r n t dj => .cons r n (OpdsR.under ho t) dj
  | .own d :: _, _, .cons ⟨p, e, o, no⟩ n t dj => .cons ⟨p, e, o, fun z => no (ho p z)⟩ n (OpdsR.under ho t) dj
  | .slot i :: _, _, .cons r n t dj => .cons r n (OpdsR.under ho t) dj
theorem lend_ok {H0 : Hp} {env0 : Env} : ∀ {os : List Opd} {vs : List V} {env : Env} {ss : List Slot} {env2 : Env}, EnvR K H σ env → OpdsR K σ H0 env0 H env os vs → lend os env = some (ss, env2) →
    EnvR K H σ env2 ∧ (∀ p, OwnA env2 σ p → OwnA env σ p) ∧ EnvR K H (vs.map some) ss ∧
      ∀ p, OwnA ss (vs.map some) p → ¬ OwnA env2 σ p ∧ (OwnA env σ p ∨ ∃ (k : Nat) (e : D), os[k]? = some (.own e) ∧ vs[k]? = some (.ref p))
  | [], _, env, ss, env2, E, .nil, h => by
    cases h
    exact ⟨E, fun _ z => z, .nil, fun p ⟨i, d, h, _⟩ => by simp at h⟩
  | o :: r, v :: vs, env, ss, env2, E, .cons ro n t dj, h => by
    cases o with
    | dat d =>
      simp only [lend] at h
      cases e1 : lend r env with
      | none => rw [e1] at h; cases h
      | some q =>
        obtain ⟨ss', env'⟩ := q
        rw [e1] at h
        cases h
        obtain ⟨a1, a2, a3, a4⟩ := lend_ok E t e1
        refine ⟨a1, a2, .cons' ⟨v, rfl, ro⟩ a3 (fun d p z => nomatch z), fun p z => ?_⟩
        rcases OwnA.cons.mp z with ⟨d, z, _⟩ | z
        · cases z
        · obtain ⟨b1, b2⟩ := a4 p z
          refine ⟨b1, b2.imp id fun ⟨k, e, k1, k2⟩ => ⟨k + 1, e, by simpa using k1, by simpa using k2⟩⟩
    | own d =>
      simp only [lend] at h
      cases e1 : lend r env with
      | none => rw [e1] at h; cases h
      | some q =>
        obtain ⟨ss', env'⟩ := q
        rw [e1] at h
        cases h
        obtain ⟨a1, a2, a3, a4⟩ := lend_ok E t e1
        obtain ⟨p, rfl, oa, no⟩ := ro
        refine ⟨a1, a2, .cons' ⟨p, rfl, oa⟩ a3 (fun d' p' z1 z2 z3 => ?_), fun p' z => ?_⟩
        · cases z2
          obtain ⟨b1, b2⟩ := a4 p z3
          rcases b2 with b2 | ⟨k, e, k1, k2⟩
          · exact no b2
          · exact dj d p rfl rfl k e k1 k2
        · rcases OwnA.cons.mp z with ⟨d', z1, z2⟩ | z
          · cases z2
            exact ⟨fun q => no (a2 _ q), .inr ⟨0, d, rfl, rfl⟩⟩
          · obtain ⟨b1, b2⟩ := a4 p' z
            refine ⟨b1, b2.imp id fun ⟨k, e, k1, k2⟩ => ⟨k + 1, e, by simpa using k1, by simpa using k2⟩⟩
    | slot i =>
      simp only [lend] at h
      cases hl : look env i with
      | own d =>
        rw [hl] at h
        simp only at h
        cases e1 : lend r (env.set i .un) with
        | none => rw [e1] at h; cases h
        | some q =>
          obtain ⟨ss', env'⟩ := q
          rw [e1] at h
          cases h
          obtain ⟨u1, u2, u3⟩ := E.un i
          obtain ⟨a1, a2, a3, a4⟩ := lend_ok u1 (t.under u2) e1
          obtain ⟨p, e2, oa, ow⟩ := E.own hl
          have e3 : σ[i]? = some (some v) := ro
          rw [e2] at e3
          cases e3
          have nun := u3 p e2 ⟨d, look_own hl⟩
          refine ⟨a1, fun p z => u2 p (a2 p z), .cons' ⟨p, rfl, oa⟩ a3 (fun d' p' z1 z2 z3 => ?_), fun p' z => ?_⟩
          · cases z2
            obtain ⟨b1, b2⟩ := a4 p z3
            rcases b2 with b2 | ⟨k, e, k1, k2⟩
            · exact nun b2
            · have : ∀ {os : List Opd} {vs : List V}, OpdsR K σ H0 env0 H env os vs → ∀ (k : Nat) (e : D), os[k]? = some (.own e) → vs[k]? = some (.ref p) → ¬ OwnA env σ p := by
                intro os vs t
                induction t with
                | nil => intro k e h; simp at h
                | cons r n t dj ih =>
                  intro k e h h2
                  cases k with
                  | zero =>
                    simp at h h2
                    subst h h2
                    obtain ⟨p', e', _, no⟩ := r
                    cases e'
                    exact no
                  | succ k => exact ih k e (by simpa using h) (by simpa using h2)
              exact this t k e k1 k2 ow
          · rcases OwnA.cons.mp z with ⟨d', z1, z2⟩ | z
            · cases z2
              exact ⟨fun q => nun (a2 _ q), .inl ow⟩
            · obtain ⟨b1, b2⟩ := a4 p' z
              refine ⟨b1, b2.imp (u2 p') fun ⟨k, e, k1, k2⟩ => ⟨k + 1, e, by simpa using k1, by simpa using k2⟩⟩
      | un => rw [hl] at h; cases h
      | val d => rw [hl] at h; cases h
/-- what is given back stands -/
theorem give_ok : ∀ {os : List Opd} {vs : List V} {fs : List Slot} {env : Env}, (∀ (k i : Nat), os[k]? = some (.slot i) → ∀ v, vs[k]? = some v → σ[i]? = some (some v)) → EnvR K H σ env → EnvR K H (vs.map some) fs → (∀ p, OwnA env σ p → ¬ OwnA fs (vs.map some) p) →
    EnvR K H σ (giveBack os fs env) ∧ ∀ p, OwnA (giveBack os fs env) σ p → OwnA env σ p ∨ OwnA fs (vs.map some) p
  | [], _, fs, env, _, E, _, _ => by
    cases fs <;> exact ⟨E, fun _ z => .inl z⟩
  | .dat d :: r, vs, [], env, _, E, _, _ => ⟨E, fun _ z => .inl z⟩
  | .own d :: r, vs, [], env, _, E, _, _ => ⟨E, fun _ z => .inl z⟩
  | .slot d :: r, vs, [], env, _, E, _, _ => ⟨E, fun _ z => .inl z⟩
  | o :: r, [], s :: fs, env, _, E, F, _ => by have := F.len; simp at this
  | o :: r, v :: vs, s :: fs, env, hk, E, F, dj => by
    obtain ⟨f1, f2, f3⟩ := EnvR.uncons (σ := vs.map some) F
    have hk' : ∀ (k i : Nat), r[k]? = some (.slot i) → ∀ v, vs[k]? = some v → σ[i]? = some (some v) := fun k i h v' h' => hk (k + 1) i (by simpa using h) v' (by simpa using h')
    have skip : EnvR K H σ (giveBack r fs env) ∧ ∀ p, OwnA (giveBack r fs env) σ p → OwnA env σ p ∨ OwnA (s :: fs) ((v :: vs).map some) p := by
      obtain ⟨g1, g2⟩ := give_ok hk' E f2 fun p z q => dj p z (OwnA.cons.mpr (.inr q))
      exact ⟨g1, fun p z => (g2 p z).imp id fun q => OwnA.cons.mpr (.inr q)⟩
    cases o with
    | dat d => exact skip
    | own d => exact skip
    | slot i =>
      have hi : σ[i]? = some (some v) := hk 0 i rfl v rfl
      obtain ⟨e1, e2⟩ := E.put hi f1 fun d p z1 z2 z3 => dj p z3 (OwnA.cons.mpr (.inl ⟨d, z1, z2⟩))
      obtain ⟨g1, g2⟩ := give_ok hk' e1 f2 fun p z q => by
        rcases e2 p z with z | ⟨d, z1, z2⟩
        · exact dj p z (OwnA.cons.mpr (.inr q))
        · exact f3 d p z1 z2 q
      refine ⟨g1, fun p z => ?_⟩
      rcases g2 p z with z | z
      · rcases e2 p z with z | ⟨d, z1, z2⟩
        · exact .inl z
        · exact .inr (OwnA.cons.mpr (.inl ⟨d, z1, z2⟩))
      · exact .inr (OwnA.cons.mpr (.inr z))
end
end PF
/-! PF9: the other expressions. -/
namespace PF
open PySem PySem.Spec PyProof.Rows L2
section
variable {c : Cl}
theorem isTrue_ifx {M : Model} {A : Around} {E : Value → Shared → Prop} {s : Shared} {env : PySem.Env} {t a b : Expr} {pos : Pos} {whole : Sem Value} {Q : Bool → Shared → Prop}
    (h : wpAny M A (isTrue t env (eval t env)) (fun k s' => wpAny M A (if k = true then isTrue a env (eval a env) else isTrue b env (eval b env)) Q E s') E s) : wpAny M A (isTrue (.IfExp t a b pos) env whole) Q E s := by
  show wpAny M A (do if ← isTrue t env (eval t env) then isTrue a env (eval a env) else isTrue b env (eval b env)) Q E s
  exact wpAny_bind (wpAny_mono h (fun k s' h' => h') fun _ _ x => x)
theorem pt_ifx {X : Cx} {t a b : Expr} {pos : Pos} {tt ta tb : TT} (ht : PT X t tt) (ha : PT X a ta) (hb : PT X b tb) : PT X (.IfExp t a b pos) (fun σ H Q => tt σ H fun k H1 => if k = true then ta σ H1 Q else tb σ H1 Q) := by
  refine ⟨fun pins s σ H Q I h => isTrue_ifx (thn (ht.run pins s σ H _ I h) fun k s1 ⟨H1, I1, q1⟩ => ?_)⟩
  cases k with
  | true => rw [if_pos rfl] at q1 ⊢; exact ha.run pins s1 σ H1 Q I1 q1
  | false => rw [if_neg Bool.false_ne_true] at q1 ⊢; exact hb.run pins s1 σ H1 Q I1 q1
theorem ite_inv {t a b : E} {md : Md} {env : Env} {r : Opd × Env} (h : ev c (.ite t a b) md env = some r) : ∃ k env1, ev c t .t env = some (.dat (.bl k), env1) ∧ (if k = true then ev c a md env1 else ev c b md env1) = some r := by
  simp only [ev] at h
  cases e1 : ev c t .t env with
  | none => rw [e1] at h; cases h
  | some oe =>
    obtain ⟨o, env1⟩ := oe
    rw [e1] at h
    cases o with
    | dat d =>
      cases d with
      | bl k => cases k <;> exact ⟨_, env1, rfl, h⟩
      | _ => cases h
    | _ => cases h
theorem se_ite {t a b : E} (ht : SE c t) (ha : SE c a) (hb : SE c b) : SE c (.ite t a b) := by
  intro X G O x hx
  cases x <;> first | (cases hx; done) | skip
  rename_i t' a' b' pos
  obtain ⟨hx1, h3⟩ := and2 hx
  obtain ⟨h1, h2⟩ := and2 hx1
  refine ⟨PE.imp (pe_ifExp (ht X G O _ h1).2 (ha X G O _ h2).1 (hb X G O _ h3).1) fun σ H Q ⟨env, o, env', E, hf, q⟩ => ?_, PT.imp (pt_ifx (ht X G O _ h1).2 (ha X G O _ h2).2 (hb X G O _ h3).2) fun σ H Q ⟨env, o, env', E, hf, q⟩ => ?_⟩
  · obtain ⟨k, env1, e1, e2⟩ := ite_inv hf
    refine ⟨env, k, env1, E, e1, fun H1 E1 t1 => ?_⟩
    dsimp only
    have next : ∀ v H2, Po X.K σ H1 env1 o env' v H2 → Q v H2 := fun v H2 p => q v H2 ⟨p.e, t1.trans p.t, p.r, fun d p' a b => by
      rcases p.n d p' a b with z | z
      · exact t1.fresh z
      · exact (t1.s p' z).symm⟩
    cases k with
    | true => rw [if_pos rfl] at e2 ⊢; exact ⟨env1, o, env', E1, e2, next⟩
    | false => rw [if_neg Bool.false_ne_true] at e2 ⊢; exact ⟨env1, o, env', E1, e2, next⟩
  · obtain ⟨k, env1, e1, e2⟩ := ite_inv hf
    refine ⟨env, k, env1, E, e1, fun H1 E1 t1 => ?_⟩
    dsimp only
    cases k with
    | true => rw [if_pos rfl] at e2 ⊢; exact ⟨env1, o, env', E1, e2, fun H2 E2 t2 => q H2 E2 (t1.trans t2)⟩
    | false => rw [if_neg Bool.false_ne_true] at e2 ⊢; exact ⟨env1, o, env', E1, e2, fun H2 E2 t2 => q H2 E2 (t1.trans t2)⟩
theorem plain_of {e : E} {G : Ck} {x : Expr} (h : ckE e G x = true) : PlainIx x := by
  intro o i
  cases x <;> first | rfl | (exfalso; cases e <;> first | (cases h; done) | (rename_i src _ _; cases src <;> cases h))
theorem se_idx {a b : E} (ha : SE c a) (hb : SE c b) : SE c (.idx a b) := by
  refine se_of (fun _ => rfl) fun X G O x hx => ?_
  cases x <;> first | (cases hx; done) | skip
  rename_i l r pos
  obtain ⟨h1, h2⟩ := and2 hx
  refine ⟨PE.imp (pe_ix (idxR (by have := O.un; omega)) (ha X G O _ h1).1 (hb X G O _ h2).1 (plain_of h2)) fun σ H Q ⟨env, o, env', E, hf, q⟩ => ?_, fun _ => rfl⟩
  simp only [ev, fin] at hf
  obtain ⟨x, env1, y, env2, d, e, e1, e2, e3, e4, hk⟩ := two_inv (k := fun d e env _ => match idxD d e with | some r => some (Opd.dat r, env) | none => none) hf
  cases ho : idxD d e with
  | none => rw [ho] at hk; cases hk
  | some r =>
    rw [ho] at hk
    cases hk
    exact ⟨env, x, env1, E, e1, fun v H1 p1 => ⟨env1, y, env', p1.e, e2, fun u H2 p2 => ⟨d, e, r, (p1.r.later p1.e p2.t).view p2.e e3, p2.r.view p2.e e4, ho, fun w rw => q w H2 (po_dat p2.e (p1.t.trans p2.t) rw)⟩⟩⟩
theorem se_rev {a : E} (ha : SE c a) : SE c (.rev a) := by
  refine se_of (fun _ => rfl) fun X G O x hx => ?_
  cases x <;> first | (cases hx; done) | skip
  rename_i l r pos
  cases r <;> first | (cases hx; done) | skip
  rename_i lo hi st p2
  cases lo <;> first | (cases hx; done) | skip
  cases hi <;> first | (cases hx; done) | skip
  cases st <;> first | (cases hx; done) | skip
  rename_i st
  cases st <;> first | (cases hx; done) | skip
  rename_i op st p3
  cases op <;> first | (cases hx; done) | skip
  cases st <;> first | (cases hx; done) | skip
  rename_i cst k p4
  cases cst <;> first | (cases hx; done) | skip
  rename_i i
  by_cases hi : i = 1
  · subst hi
    refine ⟨PE.imp (pe_rev (ha X G O _ hx).1) fun σ H Q ⟨env, o, env', E, hf, q⟩ => ?_, fun _ => rfl⟩
    simp only [ev, fin] at hf
    cases e1 : ev c a .v env with
    | none => rw [e1] at hf; cases hf
    | some xe =>
      obtain ⟨x, env1⟩ := xe
      rw [e1] at hf
      simp only at hf
      cases e2 : view env1 x with
      | none => rw [e2] at hf; cases hf
      | some d =>
        rw [e2] at hf
        simp only at hf
        cases e3 : revD d with
        | none => rw [e3] at hf; cases hf
        | some r =>
          rw [e3] at hf
          cases hf
          exact ⟨env, x, _, E, e1, fun v H1 p1 => ⟨d, _, p1.r.view p1.e e2, e3, fun w H2 res => q w H2 (po_res p1.e p1.t res)⟩⟩
  · exfalso
    unfold ckE at hx
    split at hx <;> simp_all
/-- a slice's part -/
def tP (K : PySem.W.Frag) (c : Cl) (e : E) : TO := fun σ H Q => ∃ env d env' p, EnvR K H σ env ∧ ev c e .v env = some (.dat d, env') ∧ part e d = some p ∧ ∀ H', EnvR K H' σ env' → Tr σ H env σ H' env' → Q p H'
theorem po_of {X : Cx} {G : Ck} (O : XOk X G c) {e : E} (he : SE c e) {l : Option Expr} (h : (match l with | none => isNonE e | some l => !isNonE e && ckE e G l) = true) : PO X l (tP X.K c e) := by
  cases l with
  | none =>
    cases e <;> first | (cases h; done) | skip
    refine ⟨fun pins s σ H Q I hw => po_none.run pins s σ H Q I ?_⟩
    obtain ⟨env, d, env', p, E, e1, e2, q⟩ := hw
    cases e1
    cases e2
    exact q H E .refl
  | some l =>
    obtain ⟨h0, h1⟩ := and2 h
    have hp := po_some (he X G O l h1).1
    refine ⟨fun pins s σ H Q I hw => hp.run pins s σ H Q I ?_⟩
    obtain ⟨env, d, env', p, E, e1, e2, q⟩ := hw
    refine ⟨env, _, env', E, e1, fun v H1 p1 => ?_⟩
    cases d with
    | int i =>
      have : p = some i := by
        cases e <;> first | (cases h0; done) | (cases e2; rfl)
      subst this
      exact ⟨i, p1.r, q H1 p1.e p1.t⟩
    | _ => cases e <;> first | (cases h0; done) | cases e2
theorem slc_inv {a lo hi : E} {env : Env} {o : Opd} {env' : Env} (h : ev c (.slc a lo hi) .v env = some (o, env')) :
    ∃ x env1 l env2 g d p q, ev c a .v env = some (x, env1) ∧ ev c lo .v env1 = some (.dat l, env2) ∧ ev c hi .v env2 = some (.dat g, env') ∧ view env' x = some d ∧ part lo l = some p ∧ part hi g = some q ∧ slcD d p q = some o := by
  simp only [ev, fin] at h
  cases e1 : ev c a .v env with
  | none => rw [e1] at h; cases h
  | some xe =>
    obtain ⟨x, env1⟩ := xe
    rw [e1] at h
    simp only at h
    cases e2 : ev c lo .v env1 with
    | none => rw [e2] at h; cases h
    | some le =>
      obtain ⟨l, env2⟩ := le
      rw [e2] at h
      cases l with
      | dat l =>
        simp only at h
        cases e3 : ev c hi .v env2 with
        | none => rw [e3] at h; cases h
        | some ge =>
          obtain ⟨g, env3⟩ := ge
          rw [e3] at h
          cases g with
          | dat g =>
            simp only at h
            cases e4 : view env3 x with
            | none => rw [e4] at h; cases h
            | some d =>
              cases e5 : part lo l with
              | none => rw [e4, e5] at h; cases h
              | some p =>
                cases e6 : part hi g with
                | none => rw [e4, e5, e6] at h; cases h
                | some q =>
                  rw [e4, e5, e6] at h
                  simp only at h
                  cases e7 : slcD d p q with
                  | none => rw [e7] at h; cases h
                  | some r =>
                    rw [e7] at h
                    cases h
                    exact ⟨x, env1, l, env2, g, d, p, q, rfl, e2, e3, e4, e5, e6, e7⟩
          | _ => cases h
      | _ => cases h
theorem se_slc {a lo hi : E} (ha : SE c a) (hl : SE c lo) (hh : SE c hi) : SE c (.slc a lo hi) := by
  refine se_of (fun _ => rfl) fun X G O x hx => ?_
  cases x <;> first | (cases hx; done) | skip
  rename_i l r pos
  cases r <;> first | (cases hx; done) | skip
  rename_i le he st p2
  cases st <;> first | (cases hx; done) | skip
  obtain ⟨hx1, h3⟩ := and2 hx
  obtain ⟨h1, h2⟩ := and2 hx1
  refine ⟨PE.imp (pe_slice slcR (ha X G O _ h1).1 (po_of O hl h2) (po_of O hh h3)) fun σ H Q ⟨env, o, env', E, hf, q⟩ => ?_, fun _ => rfl⟩
  obtain ⟨x, env1, l, env2, g, d, p, r, e1, e2, e3, e4, e5, e6, e7⟩ := slc_inv hf
  exact ⟨env, x, env1, E, e1, fun v H1 p1 => ⟨env1, l, env2, p, p1.e, e2, e5, fun H2 E2 t2 => ⟨env2, g, env', r, E2, e3, e6, fun H3 E3 t3 => ⟨d, o, ((p1.r.later p1.e t2).later E2 t3).view E3 e4, e7, fun w H4 res => q w H4 (po_res E3 ((p1.t.trans t2).trans t3) res)⟩⟩⟩⟩
/-! ### calls -/
theorem boot_of (b : Blt) (h : b.ok = true) : bootBuiltins b.name = some b.val := by
  cases b <;> first | (cases h; done) | decide +kernel
theorem pe_callV {X : Cx} {f : Value} {r : List V → Hp → VK → Prop} {x : Str} {p pos : Pos} {e : Expr} {es : List Expr} {t : TA} (hc : CallR X f r) (hf : (∃ id, f = .builtin id) ∨ ∃ T, f = .type T) (hg : Gl X x) (hm : X.mg x = none) (hv : bootBuiltins x = some f) (ha : PA X (e :: es) t) (hn : x ≠ "__name__") (hdb : (x == ("__debug__" : Str)) = false)
    (he : starEach (e :: es) X.env = (false, eval e X.env) :: starEach es X.env) (hpl : (backTo pos (starEach es X.env)).any (·.1) = false) : PE X (.Call (.Name x p) (e :: es) [] pos) (tCB r t) := by
  rcases hf with ⟨id, rfl⟩ | ⟨T, rfl⟩
  · exact pe_callB hc hg hm hv ha hn hdb he hpl
  · exact pe_callTy hc hg hm hv ha hn hdb he hpl
theorem views_ok {K : PySem.W.Frag} {σ : St} {H0 H : Hp} {env0 env : Env} (E : EnvR K H σ env) : ∀ {os : List Opd} {vs : List V} {ds : List D}, OpdsR K σ H0 env0 H env os vs → views env os = some ds → VwRs K H ds vs
  | [], _, ds, .nil, h => by cases h; exact .nil
  | o :: os, _, ds, .cons r n t dj, h => by
    simp only [views] at h
    cases e1 : view env o with
    | none => rw [e1] at h; cases h
    | some d =>
      cases e2 : views env os with
      | none => rw [e1, e2] at h; cases h
      | some ds' =>
        rw [e1, e2] at h
        cases h
        exact .cons (r.view E e1) (views_ok E t e2)
theorem blt_inv {b : Blt} {es : List E} {env : Env} {o : Opd} {env' : Env} (h : ev c (.blt b es) .v env = some (o, env')) : ∃ os ds, evs c es env = some (os, env') ∧ views env' os = some ds ∧ bltD b ds = some o := by
  simp only [ev, fin] at h
  cases e1 : evs c es env with
  | none => rw [e1] at h; cases h
  | some xe =>
    obtain ⟨os, env1⟩ := xe
    rw [e1] at h
    simp only at h
    cases e2 : views env1 os with
    | none => rw [e2] at h; cases h
    | some ds =>
      rw [e2] at h
      simp only at h
      cases e3 : bltD b ds with
      | none => rw [e3] at h; cases h
      | some r =>
        rw [e3] at h
        cases h
        exact ⟨os, ds, rfl, e2, e3⟩
theorem se_blt {b : Blt} {es : List E} (hs : ∀ e ∈ es, SE c e) : SE c (.blt b es) := by
  refine se_of (fun _ => rfl) fun X G O x hx => ?_
  cases x <;> first | (cases hx; done) | skip
  rename_i f args kws pos
  cases f <;> first | (cases hx; done) | skip
  rename_i x p
  cases kws <;> first | (cases hx; done) | skip
  obtain ⟨hx1, h5⟩ := and2 hx
  obtain ⟨hx2, h4⟩ := and2 hx1
  obtain ⟨hx3, h3⟩ := and2 hx2
  obtain ⟨h1, h2⟩ := and2 hx3
  have ex : x = b.name := of_decide_eq_true h1
  subst ex
  obtain ⟨g1, g2, g3⟩ := bl_of O h3
  cases es with
  | nil => cases h4
  | cons e es =>
    cases args with
    | nil => cases h5
    | cons a args =>
      obtain ⟨k1, k2⟩ := and2 (show (ckE e G a && ckEs es G args) = true from h5)
      have hn : b.name ≠ "__name__" := by cases b <;> decide
      have hv : (∃ id, b.val = .builtin id) ∨ ∃ T, b.val = .type T := by cases b <;> first | exact .inl ⟨_, rfl⟩ | exact .inr ⟨_, rfl⟩
      refine ⟨PE.imp (pe_callV (bltR O.calm b h2) hv g1 g2 (boot_of b h2) (pa_os O hs h5) hn g3 (star_of k1 _) (any_star k2)) fun σ H Q ⟨env, o, env', E, hf, q⟩ => ?_, fun _ => rfl⟩
      obtain ⟨os, ds, e1, e2, e3⟩ := blt_inv hf
      exact ⟨env, os, env', E, e1, fun vs H1 E1 t1 r1 => ⟨ds, o, views_ok E1 r1 e2, e3, fun w H2 res => q w H2 (po_res E1 t1 res)⟩⟩
theorem boot_ty (t : Ty) : bootBuiltins t.name = some (.type t.py) := by
  cases t <;> decide +kernel
theorem boot_isi : bootBuiltins ("isinstance" : Str) = some (.builtin "isinstance") := by decide +kernel
theorem se_isi {a : E} {t : Ty} (ha : SE c a) : SE c (.isi a t) := by
  refine se_of (fun _ => rfl) fun X G O x hx => ?_
  cases x <;> first | (cases hx; done) | skip
  rename_i f args kws pos
  cases f <;> first | (cases hx; done) | skip
  rename_i x p
  match args, kws, hx with
  | [y, .Name z pz], [], hx =>
    obtain ⟨hx1, h5⟩ := and2 hx
    obtain ⟨hx2, h4⟩ := and2 hx1
    obtain ⟨hx3, h3⟩ := and2 hx2
    obtain ⟨h1, h2⟩ := and2 hx3
    have ex : x = "isinstance" := of_decide_eq_true h1
    have ez : z = t.name := of_decide_eq_true h3
    subst ex ez
    obtain ⟨g1, g2, g3⟩ := bl_of O h2
    obtain ⟨k1, k2, k3⟩ := bl_of O h4
    have hn : t.name ≠ "__name__" := by cases t <;> decide
    have pz : PE X (.Name t.name pz) (tC (.ty t.py)) := pe_bltn k1 k2 (boot_ty t) rfl hn k3
    refine ⟨PE.imp (pe_callB call_isi g1 g2 boot_isi (pa_cons (ha X G O _ h5).1 (pa_cons pz pa_nil) (star_of h5 _)) (by decide) g3 (star_of h5 _) rfl) fun σ H Q ⟨env, o, env', E, hf, q⟩ => ?_, fun _ => rfl⟩
    simp only [ev, fin] at hf
    cases e1 : ev c a .v env with
    | none => rw [e1] at hf; cases hf
    | some xe =>
      obtain ⟨x, env1⟩ := xe
      rw [e1] at hf
      simp only at hf
      cases e2 : view env1 x with
      | none => rw [e2] at hf; cases hf
      | some d =>
        rw [e2] at hf
        simp only at hf
        cases e3 : isiD t d with
        | none => rw [e3] at hf; cases hf
        | some b =>
          rw [e3] at hf
          cases hf
          refine ⟨env, x, _, E, e1, fun v H1 p1 => ?_⟩
          obtain ⟨ty, k1, k2⟩ := isiR (p1.r.view p1.e e2) t e3
          exact ⟨v, .ty t.py, ty, _, b, rfl, .ty _, k1, k2, q _ H1 (po_bl p1.e p1.t)⟩
/-! ### methods -/
theorem mut_inv {m : Mt} {i : Nat} {es : List E} {env : Env} {o : Opd} {env' : Env} (h : ev c (.mut m i es) .v env = some (o, env')) :
    ∃ d0 ds env1 d r d', look env i = .own d0 ∧ evds c es env = some (ds, env1) ∧ look env1 i = .own d ∧ mutD m d ds = some (r, d') ∧ o = .dat r ∧ env' = env1.set i (.own d') ∧ wantsM m d0 = true := by
  simp only [ev, fin] at h
  cases e0 : look env i with
  | own d0 =>
    rw [e0] at h
    simp only at h
    by_cases hw : wantsM m d0 = true
    case neg => rw [if_neg hw] at h; cases h
    rw [if_pos hw] at h
    cases e1 : evds c es env with
    | none => rw [e1] at h; cases h
    | some xe =>
      obtain ⟨ds, env1⟩ := xe
      rw [e1] at h
      simp only at h
      cases e2 : look env1 i with
      | own d =>
        rw [e2] at h
        simp only at h
        cases e3 : mutD m d ds with
        | none => rw [e3] at h; cases h
        | some rd =>
          obtain ⟨r, d'⟩ := rd
          rw [e3] at h
          cases h
          exact ⟨d0, ds, env1, d, r, d', rfl, rfl, e2, e3, rfl, rfl, hw⟩
      | un => rw [e2] at h; cases h
      | val _ => rw [e2] at h; cases h
  | un => rw [e0] at h; cases h
  | val _ => rw [e0] at h; cases h
theorem own_sql {K : PySem.W.Frag} {H : Hp} {d : D} {p : Addr} {m : Mt} (hm : m ≠ .add) (hw : wantsM m d = true) (h : OwnAt K H d p) : ∃ xs, SqL K H p xs := by
  cases d with
  | lst ds =>
    obtain ⟨vs, e, _⟩ := h
    exact ⟨vs, .inl (.inl e)⟩
  | _ => cases m <;> first | exact (hm rfl).elim | (cases hw; done)
theorem mut_end {K : PySem.W.Frag} {σ : St} {H H1 H2 : Hp} {env env1 : Env} {i : Nat} {d d' r : D} {p : Addr} {v : V} (E : EnvR K H1 σ env1) (t : Tr σ H env σ H1 env1) (hl : look env1 i = .own d) (hp : σ[i]? = some (some (.ref p)))
    (k : ∀ b, b ≠ p → H2 b = H1 b) (o : OwnAt K H2 d' p) (o1 : OwnAt K H1 d p) (hr : Rp K H2 r v) : Po K σ H env (.dat r) (env1.set i (.own d')) v H2 := by
  have hio := look_own hl
  have kp : Kp H1 H2 := fun a ob u e => by
    rw [k a ?_]; exact e
    rintro rfl
    obtain ⟨u', q, n⟩ := o1.nfrz
    rw [e] at q; cases q
    exact n _ _ rfl
  have E2 : EnvR K H2 σ (env1.set i .un) := by
    obtain ⟨u1, u2, u3⟩ := E.un i
    refine ⟨u1.len, fun j sl e => ?_, u1.dj⟩
    obtain ⟨x, e2, rr⟩ := u1.sl j sl e
    refine ⟨x, e2, ?_⟩
    cases sl with
    | un => trivial
    | val d => obtain ⟨v, e3, rr⟩ := rr; exact ⟨v, e3, rr.mono kp⟩
    | own d2 =>
      obtain ⟨p2, e3, rr⟩ := rr
      subst e3
      refine ⟨p2, rfl, rr.keep kp fun u qq => ?_⟩
      rw [k p2 ?_]; exact qq
      rintro rfl
      exact u3 p2 hp ⟨d, hio⟩ ⟨j, d2, e, e2⟩
  have nun : ¬ OwnA (env1.set i .un) σ p := (E.un i).2.2 p hp ⟨d, hio⟩
  obtain ⟨E3, o3⟩ := E2.put (s := .own d') hp ⟨p, rfl, o⟩ fun d2 p2 z1 z2 z3 => by cases z2; exact nun z3
  rw [List.set_set] at E3 o3
  have ow : OwnA env1 σ p := ⟨i, d, hio, hp⟩
  refine ⟨E3, ⟨fun b u e n => ?_, fun b z => ?_⟩, hr, fun _ _ z => nomatch z⟩
  · have hb := t.f b u e n
    rw [k b fun z => ?_]
    · exact hb
    · have ow' : OwnA env1 σ b := by rw [z]; exact ow
      rcases t.s b ow' with z | z
      · exact n z
      · rw [e] at z; cases z
  · rcases o3 b z with z | ⟨d2, z1, z2⟩
    · exact t.s b ((E.un i).2.1 b z)
    · cases z2; exact t.s _ ow
theorem base_name {x : Str} {p : Pos} {nm : Str} {env : PySem.Env} : attributeBase (.Name x p) nm env (eval (.Name x p) env) = eval (.Name x p) env := rfl
theorem mut_go {X : Cx} {m : Mt} (hm : m ≠ .add) {i : Nat} {es : List E} {σ : St} {H : Hp} {Q : VK} {env : Env} {o : Opd} {env' : Env} (E : EnvR X.K H σ env) (hf : ev c (.mut m i es) .v env = some (o, env')) (q : ∀ v H', Po X.K σ H env o env' v H' → Q v H') :
    ∃ v, σ[i]? = some (some v) ∧ tyV X.K "list" v H ∧ tDs X.K (evds c es) σ H fun xs H2 => rMut X.K m v xs H2 Q := by
  obtain ⟨d0, ds, env1, d, r, d', e0, e1, e2, e3, rfl, rfl, hw⟩ := mut_inv hf
  obtain ⟨p0, g1, g2, g3⟩ := E.own e0
  refine ⟨_, g1, .inl ⟨rfl, own_sql hm hw g2⟩, env, ds, env1, E, e1, fun vs H1 E1 t1 r1 => ?_⟩
  obtain ⟨p1, k1, k2, k3⟩ := E1.own e2
  rw [g1] at k1
  cases k1
  exact ⟨p0, d, ds, r, d', rfl, k2, r1, e3, fun v H2 f1 f2 o2 rr => q v H2 (mut_end E1 t1 e2 g1 f2 o2 k2 rr)⟩
/-- a set's method -/
theorem pe_bmS {X : Cx} {o e : Expr} {name : Str} {id : String} {apos cpos : Pos} {to : TE} {t : TA} {r : V → List V → Hp → VK → Prop} (pa : PlainAttrs "set") (slot : PySem.Slot "set" name id) (hty : typeOf (.builtin id) = pure (.type "method_descriptor")) (hm : MtR X id r) (ho : PE X o to) (ha : PA X [e] t)
    (hbase : attributeBase o name X.env (eval o X.env) = eval o X.env) (hs : starEach [e] X.env = (false, eval e X.env) :: starEach [] X.env) (hline : (apos.endLine == cpos.line) = true) :
    PE X (.Call (.Attribute o name apos) [e] [] cpos) (fun σ H Q => to σ H fun x H1 => (∃ p ns, x = .ref p ∧ H1 p = some (ISet p ns)) ∧ t σ H1 fun xs H2 => r x xs H2 Q) := by
  refine ⟨fun pins s σ H Q I h => ?_⟩
  refine wpAny_Call_method_late hbase (by rw [hs]; rfl) hline rfl (thn (ho.run pins s σ H _ I h) fun v s1 ⟨x, H1, I1, r1, ⟨p, ns, ex, hp⟩, q1⟩ => ?_)
  subst ex
  cases r1
  have hS := iset_get I1 hp
  refine ⟨"set", id, pa, slot, hty, hS.typeIs, hS.noDict, ?_⟩
  have hA := ha.run cpos pins s1 σ H1 _ I1 q1
  rw [hs] at hA ⊢
  refine Calls.callWith_builtin rfl (Calls.evalArgs_plain ?_)
  exact thn hA fun us s2 ⟨vs, H2, I2, r2, q2⟩ => hm pins s2 σ H2 (V.ref p) vs _ us Q I2 rfl r2 q2
theorem se_mut {m : Mt} {i : Nat} {es : List E} (hs : ∀ e ∈ es, SE c e) : SE c (.mut m i es) := by
  refine se_of (fun _ => rfl) fun X G O x hx => ?_
  cases x <;> first | (cases hx; done) | skip
  rename_i f args kws pos
  cases f <;> first | (cases hx; done) | skip
  rename_i ob nm apos
  cases ob <;> first | (cases hx; done) | skip
  rename_i x p
  cases kws <;> first | (cases hx; done) | skip
  obtain ⟨hx1, h5⟩ := and2 hx
  obtain ⟨hx2, h4⟩ := and2 hx1
  obtain ⟨hx3, h3⟩ := and2 hx2
  obtain ⟨h1, h2⟩ := and2 hx3
  have en : nm = m.name := of_decide_eq_true h1
  subst en
  have hv := ld_of (pos := p) O h3
  clear hx hx1 hx2 hx3 h1 h3
  refine ⟨?_, fun _ => rfl⟩
  cases m <;> first | (cases es <;> cases h2; done) | skip
  · -- append
    match es, args, h2, h5, hs with
    | [e], _ :: _ :: _, h2, h5, hs => cases (and2 h5).2
    | [e], [a], h2, h5, hs =>
      obtain ⟨k1, k2⟩ := and2 (show (ckE e G a && ckEs [] G []) = true from h5)
      refine PE.imp (pe_bm PySem.F.plainAttrs_list PySem.F.slot_list_append PySem.F.type_list_append (mutR_append (X := X)) hv (pa_ds O hs h5) base_name (by rw [star_of k1]; rfl) h4 (star_of k1 _) rfl) fun σ H Q ⟨env, o, env', E, hf, q⟩ => ?_
      exact mut_go (by decide) E hf q
  · -- pop
    match es, args, h2, h5, hs with
    | [], [], h2, h5, hs =>
      refine PE.imp (pe_bm0 PySem.F.plainAttrs_list PySem.F.slot_list_pop PySem.F.type_list_pop (mutR_pop (X := X)) hv base_name h4) fun σ H Q ⟨env, o, env', E, hf, q⟩ => ?_
      obtain ⟨v, g1, g2, env1, ds, env2, E1, e1, g3⟩ := mut_go (by decide) E hf q
      cases e1
      exact ⟨v, g1, g2, g3 [] H E1 .refl rfl⟩
    | [e], _ :: _ :: _, h2, h5, hs => cases (and2 h5).2
    | [e], [a], h2, h5, hs =>
      obtain ⟨k1, k2⟩ := and2 (show (ckE e G a && ckEs [] G []) = true from h5)
      refine PE.imp (pe_bm PySem.F.plainAttrs_list PySem.F.slot_list_pop PySem.F.type_list_pop (mutR_pop (X := X)) hv (pa_ds O hs h5) base_name (by rw [star_of k1]; rfl) h4 (star_of k1 _) rfl) fun σ H Q ⟨env, o, env', E, hf, q⟩ => ?_
      exact mut_go (by decide) E hf q
  · -- reverse
    match es, args, h2, h5, hs with
    | [], [], h2, h5, hs =>
      refine PE.imp (pe_bm0 PySem.F.plainAttrs_list PySem.F.slot_list_reverse PySem.F.type_list_reverse (mutR_reverse (X := X)) hv base_name h4) fun σ H Q ⟨env, o, env', E, hf, q⟩ => ?_
      obtain ⟨v, g1, g2, env1, ds, env2, E1, e1, g3⟩ := mut_go (by decide) E hf q
      cases e1
      exact ⟨v, g1, g2, g3 [] H E1 .refl rfl⟩
  · -- add
    match es, args, h2, h5, hs with
    | [e], _ :: _ :: _, h2, h5, hs => cases (and2 h5).2
    | [e], [a], h2, h5, hs =>
      obtain ⟨k1, k2⟩ := and2 (show (ckE e G a && ckEs [] G []) = true from h5)
      refine PE.imp (pe_bmS PySem.F.plainAttrs_set PySem.F.slot_set_add PySem.F.type_set_add (mutR_add (X := X)) hv (pa_ds O hs h5) base_name (star_of k1 _) h4) fun σ H Q ⟨env, o, env', E, hf, q⟩ => ?_
      obtain ⟨d0, ds, env1, d, r, d', e0, e1, e2, e3, rfl, rfl, hw⟩ := mut_inv hf
      obtain ⟨p0, g1, g2, g3⟩ := E.own e0
      have hset : ∃ ns, H p0 = some (ISet p0 ns) := by
        cases d0 with
        | set xs => obtain ⟨ns, _, h⟩ := g2; exact ⟨ns, h⟩
        | _ => cases hw
      obtain ⟨ns, hp⟩ := hset
      refine ⟨.ref p0, g1, ⟨p0, ns, rfl, hp⟩, env, ds, env1, E, e1, fun vs H1 E1 t1 r1 => ?_⟩
      obtain ⟨p1, k1, k2, k3⟩ := E1.own e2
      rw [g1] at k1
      cases k1
      exact ⟨p0, d, ds, r, d', rfl, k2, r1, e3, fun v H2 f1 f2 o2 rr => q v H2 (mut_end E1 t1 e2 g1 f2 o2 k2 rr)⟩
/-- a tuple's method -/
theorem pe_bmT {X : Cx} {o e : Expr} {name : Str} {id : String} {apos cpos : Pos} {to : TE} {t : TA} {r : V → List V → Hp → VK → Prop} (pa : PlainAttrs "tuple") (slot : PySem.Slot "tuple" name id) (hty : typeOf (.builtin id) = pure (.type "method_descriptor")) (hm : MtR X id r) (ho : PE X o to) (ha : PA X [e] t)
    (hbase : attributeBase o name X.env (eval o X.env) = eval o X.env) (hs : starEach [e] X.env = (false, eval e X.env) :: starEach [] X.env) (hline : (apos.endLine == cpos.line) = true) :
    PE X (.Call (.Attribute o name apos) [e] [] cpos) (fun σ H Q => to σ H fun x H1 => (∃ p xs, x = .ref p ∧ TupAt X.K H1 p xs) ∧ t σ H1 fun xs H2 => r x xs H2 Q) := by
  refine ⟨fun pins s σ H Q I h => ?_⟩
  refine wpAny_Call_method_late hbase (by rw [hs]; rfl) hline rfl (thn (ho.run pins s σ H _ I h) fun v s1 ⟨x, H1, I1, r1, ⟨p, xs, ex, tp⟩, q1⟩ => ?_)
  subst ex
  cases r1
  have hd : s1.TypeIs (.ref p) "tuple" ∧ ∀ a, Value.ref p = .ref a → ∃ ob, s1.heap.get? a = some ob ∧ ob.dict = none := by
    obtain ⟨its, _, pl, _⟩ := I1.tuple tp.sq
    refine ⟨pl.typeIs, fun a e => ?_⟩
    cases e
    rcases tp with ⟨ob, e1, e2⟩ | ⟨ob, its, n, e1, _, e2, _⟩
    · exact ⟨ob, (I1.hok p _ e1).1, e2⟩
    · exact ⟨ob, I1.kIn p ob e1, e2⟩
  refine ⟨"tuple", id, pa, slot, hty, hd.1, hd.2, ?_⟩
  have hA := ha.run cpos pins s1 σ H1 _ I1 q1
  rw [hs] at hA ⊢
  refine Calls.callWith_builtin rfl (Calls.evalArgs_plain ?_)
  exact thn hA fun us s2 ⟨vs, H2, I2, r2, q2⟩ => hm pins s2 σ H2 (V.ref p) vs _ us Q I2 rfl r2 q2
theorem base_of {o : Expr} {nm : Str} {env : PySem.Env} (h : isCallO o = false) : attributeBase o nm env (eval o env) = eval o env := by
  unfold attributeBase
  split
  · cases h
  · rfl
theorem mth_inv {m : Mt} {a : E} {es : List E} {env : Env} {o : Opd} {env' : Env} (h : ev c (.mth m a es) .v env = some (o, env')) :
    ∃ x env1 d0 ds d r, ev c a .v env = some (x, env1) ∧ view env1 x = some d0 ∧ isSeq d0 = true ∧ evds c es env1 = some (ds, env') ∧ view env' x = some d ∧ sameQ d0 d = true ∧ mthD m d ds = some r ∧ o = .dat r := by
  simp only [ev, fin] at h
  cases e1 : ev c a .v env with
  | none => rw [e1] at h; cases h
  | some xe =>
    obtain ⟨x, env1⟩ := xe
    rw [e1] at h
    simp only at h
    cases e0 : view env1 x with
    | none => rw [e0] at h; cases h
    | some d0 =>
      rw [e0] at h
      simp only at h
      by_cases hq : isSeq d0 = true
      case neg => rw [if_neg hq] at h; cases h
      rw [if_pos hq] at h
      cases e2 : evds c es env1 with
      | none => rw [e2] at h; cases h
      | some de =>
        obtain ⟨ds, env2⟩ := de
        rw [e2] at h
        simp only at h
        cases e4 : view env2 x with
        | none => rw [e4] at h; cases h
        | some d =>
          rw [e4] at h
          simp only at h
          by_cases hk : sameQ d0 d = true
          case neg => rw [if_neg hk] at h; cases h
          rw [if_pos hk] at h
          cases e3 : mthD m d ds with
          | none => rw [e3] at h; cases h
          | some r =>
            rw [e3] at h
            cases h
            exact ⟨x, env1, d0, ds, d, r, rfl, e0, hq, e2, e4, hk, e3, rfl⟩
/-- a method of a tuple or of a list -/
theorem pe_bmQ {X : Cx} {o e : Expr} {name : Str} {idt idl : String} {apos cpos : Pos} {to : TE} {t : TA} {r rl : V → List V → Hp → VK → Prop} (pa : PlainAttrs "tuple") (slot : PySem.Slot "tuple" name idt) (hty : typeOf (.builtin idt) = pure (.type "method_descriptor")) (hm : MtR X idt r)
    (pal : PlainAttrs "list") (slotl : PySem.Slot "list" name idl) (htyl : typeOf (.builtin idl) = pure (.type "method_descriptor")) (hml : MtR X idl rl) (ho : PE X o to) (ha : PA X [e] t)
    (hbase : attributeBase o name X.env (eval o X.env) = eval o X.env) (hs : starEach [e] X.env = (false, eval e X.env) :: starEach [] X.env) (hline : (apos.endLine == cpos.line) = true) :
    PE X (.Call (.Attribute o name apos) [e] [] cpos) (fun σ H Q => to σ H fun x H1 => (∃ p xs, x = .ref p ∧ TupAt X.K H1 p xs ∧ t σ H1 fun xs H2 => r x xs H2 Q) ∨ ∃ p xs, x = .ref p ∧ Rd H1 p (.lst xs) ∧ t σ H1 fun xs H2 => rl x xs H2 Q) := by
  refine ⟨fun pins s σ H Q I h => ?_⟩
  refine wpAny_Call_method_late hbase (by rw [hs]; rfl) hline rfl (thn (ho.run pins s σ H _ I h) fun v s1 ⟨x, H1, I1, r1, hx⟩ => ?_)
  rcases hx with ⟨p, xs, ex, tp, q1⟩ | ⟨p, xs, ex, tp, q1⟩
  · subst ex
    cases r1
    have hd : s1.TypeIs (.ref p) "tuple" ∧ ∀ a, Value.ref p = .ref a → ∃ ob, s1.heap.get? a = some ob ∧ ob.dict = none := by
      obtain ⟨its, _, pl, _⟩ := I1.tuple tp.sq
      refine ⟨pl.typeIs, fun a e => ?_⟩
      cases e
      rcases tp with ⟨ob, e1, e2⟩ | ⟨ob, its, n, e1, _, e2, _⟩
      · exact ⟨ob, (I1.hok p _ e1).1, e2⟩
      · exact ⟨ob, I1.kIn p ob e1, e2⟩
    refine ⟨"tuple", idt, pa, slot, hty, hd.1, hd.2, ?_⟩
    have hA := ha.run cpos pins s1 σ H1 _ I1 q1
    rw [hs] at hA ⊢
    refine Calls.callWith_builtin rfl (Calls.evalArgs_plain ?_)
    exact thn hA fun us s2 ⟨vs, H2, I2, r2, q2⟩ => hm pins s2 σ H2 (V.ref p) vs _ us Q I2 rfl r2 q2
  · subst ex
    cases r1
    have hd : s1.TypeIs (.ref p) "list" ∧ ∀ a, Value.ref p = .ref a → ∃ ob, s1.heap.get? a = some ob ∧ ob.dict = none := by
      obtain ⟨its, _, pl, _⟩ := I1.list (.inl tp)
      refine ⟨pl.isList.typeIs, fun a e => ?_⟩
      cases e
      have z : ObjOk X.prog X.w H1 s1.heap p (.lst xs) := rd_of I1.hok tp
      obtain ⟨_, its, n, _, e⟩ := z
      exact ⟨_, e, rfl⟩
    refine ⟨"list", idl, pal, slotl, htyl, hd.1, hd.2, ?_⟩
    have hA := ha.run cpos pins s1 σ H1 _ I1 q1
    rw [hs] at hA ⊢
    refine Calls.callWith_builtin rfl (Calls.evalArgs_plain ?_)
    exact thn hA fun us s2 ⟨vs, H2, I2, r2, q2⟩ => hml pins s2 σ H2 (V.ref p) vs _ us Q I2 rfl r2 q2
theorem evds_one {e : E} {env env' : Env} {ds : List D} (h : evds c [e] env = some (ds, env')) : ∃ z, ds = [z] := by
  simp only [evds] at h
  cases e1 : ev c e .v env with
  | none => rw [e1] at h; cases h
  | some oe =>
    obtain ⟨o, env1⟩ := oe
    rw [e1] at h
    simp only at h
    cases e2 : toD env1 o with
    | none => rw [e2] at h; cases h
    | some de =>
      obtain ⟨d, env2⟩ := de
      rw [e2] at h
      cases h
      exact ⟨d, rfl⟩
theorem se_mthG {m : Mt} {a : E} {es : List E} {idt idl : String} (slot : PySem.Slot "tuple" m.name idt) (hty : typeOf (.builtin idt) = pure (.type "method_descriptor")) (slotl : PySem.Slot "list" m.name idl) (htyl : typeOf (.builtin idl) = pure (.type "method_descriptor"))
    (hm : ∀ X, MtR X idt (fun x vs H Q => ∃ ds e r, VwR X.K H (.tup ds) x ∧ Rps X.K H [e] vs ∧ mthD m (.tup ds) [e] = some r ∧ ∀ v, Rp X.K H r v → Q v H))
    (hml : ∀ X : Cx, X.A.units + 65 < cLine → MtR X idl (fun x vs H Q => ∃ ds e r, VwR X.K H (.lst ds) x ∧ Rps X.K H [e] vs ∧ mthD m (.lst ds) [e] = some r ∧ ∀ v, Rp X.K H r v → Q v H))
    (ha : SE c a) (hs : ∀ e ∈ es, SE c e) : SE c (.mth m a es) := by
  refine se_of (fun _ => rfl) fun X G O x hx => ?_
  cases x <;> first | (cases hx; done) | skip
  rename_i f args kws pos
  cases f <;> first | (cases hx; done) | skip
  rename_i ob nm apos
  cases kws <;> first | (cases hx; done) | skip
  obtain ⟨hx1, h7⟩ := and2 hx
  obtain ⟨hx2, h6⟩ := and2 hx1
  obtain ⟨hx3, h5⟩ := and2 hx2
  obtain ⟨hx4, h4⟩ := and2 hx3
  obtain ⟨hx5, h3⟩ := and2 hx4
  obtain ⟨h1, h2⟩ := and2 hx5
  have en : nm = m.name := of_decide_eq_true h2
  have hl : es.length = 1 := of_decide_eq_true h5
  subst en
  match es, args, hl, h7, hs with
  | [e], _ :: _ :: _, hl, h7, hs => cases (and2 h7).2
  | [e], [y], hl, h7, hs =>
    obtain ⟨k1, k2⟩ := and2 (show (ckE e G y && ckEs [] G []) = true from h7)
    refine ⟨PE.imp (pe_bmQ PySem.F.plainAttrs_tuple slot hty (hm X) PySem.F.plainAttrs_list slotl htyl (hml X O.un) (ha X G O _ h6).1 (pa_ds O hs h7) (base_of (by simpa using h3)) (star_of k1 _) h4) fun σ H Q ⟨env, o, env', E, hf, q⟩ => ?_, fun _ => rfl⟩
    obtain ⟨x, env1, d0, ds, d, r, e1, e0, hq, e2, e4, hk, e3, rfl⟩ := mth_inv hf
    refine ⟨env, _, env1, E, e1, fun v H1 p1 => ?_⟩
    have v0 := p1.r.view p1.e e0
    have later : ∀ {H2 : Hp}, EnvR X.K H2 σ env' → Tr σ H1 env1 σ H2 env' → VwR X.K H2 d v := fun E2 t2 => (p1.r.later p1.e t2).view E2 e4
    have hds : ∃ z, ds = [z] := by
      exact evds_one e2
    obtain ⟨z, rfl⟩ := hds
    cases d0 with
    | tup ys =>
      obtain ⟨p, vs, ev, t, rd⟩ := v0.tup
      subst ev
      refine .inl ⟨p, vs, rfl, t, env1, [z], env', p1.e, e2, fun us H2 E2 t2 r2 => ?_⟩
      have v2 := later E2 t2
      cases d with
      | tup zs => exact ⟨zs, z, r, v2, r2, e3, fun w rw => q w H2 (po_dat E2 (p1.t.trans t2) rw)⟩
      | _ => cases hk
    | lst ys =>
      obtain ⟨p, vs, ev, t, rd⟩ := v0.lst
      subst ev
      refine .inr ⟨p, vs, rfl, t, env1, [z], env', p1.e, e2, fun us H2 E2 t2 r2 => ?_⟩
      have v2 := later E2 t2
      cases d with
      | lst zs => exact ⟨zs, z, r, v2, r2, e3, fun w rw => q w H2 (po_dat E2 (p1.t.trans t2) rw)⟩
      | _ => cases hk
    | _ => cases hq
theorem se_mth {m : Mt} {a : E} {es : List E} (ha : SE c a) (hs : ∀ e ∈ es, SE c e) : SE c (.mth m a es) := by
  cases m with
  | index => exact se_mthG (m := .index) PySem.F.slot_tuple_index PySem.F.type_tuple_index PySem.F.slot_list_index PySem.F.type_list_index (fun X => mthR_index_tup (X := X)) (fun X hu => mthR_index_both (X := X) hu) ha hs
  | count => exact se_mthG (m := .count) PySem.F.slot_tuple_count PySem.F.type_tuple_count PySem.F.slot_list_count PySem.F.type_list_count (fun X pins s σ H x xs v us Q I rx rxs ⟨ds, e, r, _, _, hm, _⟩ => by cases hm) (fun X _ => mthR_count_lst (X := X)) ha hs
  | _ =>
    refine se_of (fun _ => rfl) fun X G O x hx => ?_
    cases x <;> first | (cases hx; done) | skip
    rename_i f args kws pos
    cases f <;> first | (cases hx; done) | skip
    rename_i ob nm apos
    cases kws <;> cases hx
end
end PF
/-! PF9S: sorted(set(x)) of tuples of numbers below 64. -/
namespace PF
open PySem PySem.Spec PyProof.Rows L2
/-! ### set(x) of a tuple -/
section
variable {P : Program} {w : World} {A : Around} {E : Value → Shared → Prop} {s : Shared}
abbrev bareSet (w : World) : Obj := { cls := .type "set", dict := none, data := .set #[] 0 (.fresh 0 0 (!w.params.followText "set-order")) }
abbrev tupIt (t : Addr) : Obj := { cls := .type "tuple_iterator", data := .fields #[.ref t, .int 0 0] }
/-- the answer of set.__init__ -/
def SetMade (P : Program) (w : World) (s : Shared) (ks : List (Addr × List Int)) (s2 : Shared) : Prop :=
  ∃ h' tk L es ep t, s2 = { s with heap := h', toks := tk } ∧ SetTR P w h' s.heap.objs.size L es ep t ∧ Got ks ks.length L ∧ ∀ b o, s.heap.get? b = some o → h'.get? b = some o
theorem fill_set {l : Addr} {vs : Array Value} (ks : List (Addr × List Int)) (hh : A.handled = none) (hl : s.heap.IsTuple l vs) (hv : vs.toList = ks.map fun p => Value.ref p.1)
    (hk : ∀ p ∈ ks, IsT P w s.heap p.2 p.1) (hn : ks.length < 64) (hu : A.units + 3 < cLine) {R : Result → Shared → Prop} (hR : ∀ s2, SetMade P w s ks s2 → R (.ok (.ret .none)) s2) :
    codeAny (model P w) A.in1.in1 (.builtin "set.update.loop" ⟨[.ref s.heap.objs.size, .ref (s.heap.push (bareSet w)).objs.size], []⟩) R { s with heap := (s.heap.push (bareSet w)).push (tupIt l) } := by
  have z1 : (s.heap.push (bareSet w)).objs.size = s.heap.objs.size + 1 := Heap.size_push ..
  have ll : l < s.heap.objs.size := by obtain ⟨_, e, _⟩ := hl; exact Heap.lt_size e
  have zs : vs.size = ks.length := by
    have q := congrArg List.length hv
    simpa using q
  have at' : ∀ (i : Nat) (v : Value), vs[i]? = some v → ∃ p, ks[i]? = some p ∧ v = .ref p.1 := fun i v e => by
    rw [← Array.getElem?_toList, hv, List.getElem?_map] at e
    obtain ⟨p, e1, e2⟩ := Option.map_eq_some_iff.mp e
    exact ⟨p, e1, e2.symm⟩
  have no : ∀ b, s.heap.objs.size ≤ b → s.heap.get? b = none := fun b hb => by
    cases q : s.heap.get? b with
    | none => rfl
    | some o => exact (Nat.lt_irrefl _ (Nat.lt_of_lt_of_le (Heap.lt_size q) hb)).elim
  have ne : l ≠ (s.heap.push (bareSet w)).objs.size := by rw [z1]; exact Nat.ne_of_lt (Nat.lt_succ_of_lt ll)
  have h3 : A.in1.in1.in1.handled = none := by simp [hh]
  have hsf : s.heap.objs.size ∉ [(s.heap.push (bareSet w)).objs.size, l] := by
    rw [z1]; simp only [List.mem_cons, List.not_mem_nil, or_false, not_or]; exact ⟨Nat.ne_of_lt (Nat.lt_succ_self _), Nat.ne_of_gt ll⟩
  have g1 : ((s.heap.push (bareSet w)).push (tupIt l)).get? s.heap.objs.size = some (bareSet w) := Heap.get?_push_of_some _ (Heap.get?_push_size _ rfl)
  refine set_update_tups (A := A.in1.in1) ((Walks.tuple h3 _ l ne vs).toS) s.heap.objs.size hsf ks zs hn at' s.heap hk (no _ (Nat.le_refl _)) (fun b hb => no b (by rw [List.mem_singleton.mp hb, z1]; exact Nat.le_succ _)) hu (vs.size - 0) 0 _ (by omega) (Nat.zero_le _)
    ⟨⟨_, Heap.get?_push_size _ rfl, rfl, rfl⟩, ((hl.push _).push _)⟩ (fun b o e => Heap.get?_push_of_some _ (Heap.get?_push_of_some _ e)) ⟨[], #[], 0, _, setTR_fresh g1, Got.zero ks⟩ ?_
  intro s' L es ep t hm hS g hkp
  refine hR s' ⟨s'.heap, s'.toks, L, es, ep, t, ?_, hS, by rw [← zs]; exact g, hkp⟩
  have e1 : s'.gens = s.gens := hm.gens
  have e2 : s'.drawn = s.drawn := hm.drawn
  have e3 : s'.os = s.os := hm.os
  cases s'
  simp only at e1 e2 e3
  subst e1 e2 e3
  rfl
theorem set_of_tuple {l : Addr} {vs : Array Value} (ks : List (Addr × List Int)) {Q : Value → Shared → Prop} (hh : A.handled = none) (hl : s.heap.IsTuple l vs) (hv : vs.toList = ks.map fun p => Value.ref p.1)
    (hk : ∀ p ∈ ks, IsT P w s.heap p.2 p.1) (hn : ks.length < 64) (hu : A.units + 3 < cLine)
    (h : ∀ (h' : Heap) (tk : Nat) L es ep t, SetTR P w h' s.heap.objs.size L es ep t → Got ks ks.length L → (∀ b o, s.heap.get? b = some o → h'.get? b = some o) → Q (.ref s.heap.objs.size) { s with heap := h', toks := tk }) : wpAny (model P w) A (call (.type "set") [.ref l]) Q E s := by
  obtain ⟨m1, m2, hmro⟩ := F.called_set.mro
  have cmade := F.called_set.made
  have csub := F.called_set.sub
  refine wpAny_call (codeAny_of_tree ?_); show wpAny _ _ (callAny (.type "set") _) _ _ _
  refine wpAny_pure ⟨Code.quiet_builtin _ (by decide +kernel), codeAny_builtin F.entry_type_call ?_⟩; rw [Around.under_plain (weight_type_call_type "set" [.ref l] []) rfl]
  have c1 := F.called_set.notType
  have c2 := F.called_set.canCreate
  have c3 := F.typeCall_set_1 (.ref l)
  repeat (any_goals (first | assumption | wp_step))
  refine codeAny_mono (code_set_led1 (.ref l) (E := E) (Q₁ := fun ob s1 => ob = .ref s.heap.objs.size ∧ s1 = { s with heap := s.heap.push (bareSet w) }) ⟨rfl, rfl⟩) fun r s1 hr => ?_
  cases r with
  | error e => exact hr
  | ok fl =>
    cases fl with
    | ret ob =>
      obtain ⟨rfl, rfl⟩ := hr
      have gS : (s.heap.push (bareSet w)).get? s.heap.objs.size = some (bareSet w) := Heap.get?_push_size _ rfl
      have tS : Shared.TypeIs { s with heap := s.heap.push (bareSet w) } (.ref s.heap.objs.size) "set" := ⟨_, gS, rfl⟩
      have i1 := F.called_set.init.lookup
      have i2 := F.called_set.init.bind (.ref s.heap.objs.size)
      repeat (any_goals (first | assumption | wp_step))
      refine codeAny_mono (codeAny_call_builtin (R := wants (fun r s2 => r = .none ∧ SetMade P w s ks s2) E) F.called_set.init.plain F.entry_set_init (check_set_init_1 tS ?_)) fun r2 s2 hr2 => ?_
      · obtain ⟨ol, hol, hcl, nl, hdl⟩ := hl
        obtain ⟨oc, od, odata, os⟩ := ol
        simp only at hcl hdl
        subst hcl hdl
        have gl : (s.heap.push (bareSet w)).get? l = some { cls := .type "tuple", dict := od, data := .seq vs nl, slots := os } := Heap.get?_push_of_some _ hol
        have b1 : isSubtype (.type "tuple") (.type "set") = pure false := by rw [isSubtype_type]; kernel_rfl
        have b2 : isSubtype (.type "tuple") (.type "frozenset") = pure false := by rw [isSubtype_type]; kernel_rfl
        have b3 : (Value.type "tuple" == Value.type "dict") = false := by decide
        have hl1 : (s.heap.push (bareSet w)).IsTuple l vs := ⟨_, gl, rfl, nl, rfl⟩
        unfold Builtin.«set.__init__» noKeywords Builtin.Frozenset.updateFrom; generalize hPI : pyIter = PI
        wp_walk
        subst hPI
        refine wpAny_pyIter_tuple hl1 ?_; refine wpAny_bind (wpAny_runValue ?_)
        refine fill_set (P := P) (w := w) (l := l) ks hh ⟨_, hol, rfl, nl, rfl⟩ hv hk hn hu fun s2 hs2 => ?_
        show wpAny _ _ _ _ _ _
        refine wpAny_pure ?_; show wpAny _ _ (ret Value.none) _ _ _
        exact wpAny_pure ⟨rfl, hs2⟩
      · cases r2 with
        | error e => exact hr2
        | ok fl2 =>
          cases fl2 with
          | ret r =>
            obtain ⟨rfl, h', tk, L, es, ep, t, rfl, hS, g, hk'⟩ := hr2
            repeat (any_goals (first | assumption | wp_step))
            exact h _ _ _ _ _ _ hS g hk'
          | _ => exact hr2.elim
    | _ => exact hr.elim
/-! ### set(x) of a list of numbers -/
abbrev lstIt (t : Addr) : Obj := { cls := .type "list_iterator", data := .fields #[.ref t, .int 0 0] }
def SetMadeI (P : Program) (w : World) (s : Shared) (ns : List Int) (s2 : Shared) : Prop :=
  ∃ h' tk c, s2 = { s with heap := h', toks := tk } ∧ SetR w h' s.heap.objs.size (fun j => decide (j ∈ ns)) c ∧ c ≤ ns.length ∧ ∀ b o, s.heap.get? b = some o → h'.get? b = some o
theorem fill_ints {l : Addr} {vs : Array Value} (ns : List Int) (hh : A.handled = none) (hl : s.heap.IsList l vs) (hv : IntsAre vs.toList ns) (hn : ns.length < 64) {R : Result → Shared → Prop} (hR : ∀ s2, SetMadeI P w s ns s2 → R (.ok (.ret .none)) s2) :
    codeAny (model P w) A.in1.in1 (.builtin "set.update.loop" ⟨[.ref s.heap.objs.size, .ref (s.heap.push (bareSet w)).objs.size], []⟩) R { s with heap := (s.heap.push (bareSet w)).push (lstIt l) } := by
  have z1 : (s.heap.push (bareSet w)).objs.size = s.heap.objs.size + 1 := Heap.size_push ..
  have ll : l < s.heap.objs.size := by obtain ⟨_, e, _⟩ := hl; exact Heap.lt_size e
  have zs : vs.size = ns.length := by
    have q := hv.length
    simpa using q
  have at' : ∀ (i : Nat) (v : Value), vs[i]? = some v → ∃ k t, ns[i]? = some k ∧ v = .int k t := fun i v hv' => by
    have hi : i < ns.length := by rw [← zs]; exact (Array.getElem?_eq_some_iff.mp hv').1
    obtain ⟨t, e⟩ := PyProof.Rows.IntsAre.int_at hv i v (by rw [Array.getElem?_toList]; exact hv')
    refine ⟨ns[i], t, List.getElem?_eq_getElem hi, ?_⟩
    rw [e, List.getD_eq_getElem?_getD, List.getElem?_eq_getElem hi] <;> rfl
  have ne : l ≠ (s.heap.push (bareSet w)).objs.size := by rw [z1]; exact Nat.ne_of_lt (Nat.lt_succ_of_lt ll)
  have h3 : A.in1.in1.in1.handled = none := by simp [hh]
  have hsf : s.heap.objs.size ∉ [(s.heap.push (bareSet w)).objs.size, l] := by
    rw [z1]; simp only [List.mem_cons, List.not_mem_nil, or_false, not_or]; exact ⟨Nat.ne_of_lt (Nat.lt_succ_self _), Nat.ne_of_gt ll⟩
  have g1 : ((s.heap.push (bareSet w)).push (lstIt l)).get? s.heap.objs.size = some (bareSet w) := Heap.get?_push_of_some _ (Heap.get?_push_size _ rfl)
  refine set_update_ints (A := A.in1.in1) ((Walks.list h3 _ l ne vs).toS) s.heap.objs.size hsf ns zs (by unfold scanBound; omega) at' (vs.size - 0) 0 _ (by omega) (Nat.zero_le _)
    ⟨⟨_, Heap.get?_push_size _ rfl, rfl, rfl⟩, ((hl.at fun o e => Heap.get?_push_of_some _ e).at fun o e => Heap.get?_push_of_some _ e)⟩ ⟨0, Nat.le_refl _, setR_new_at g1⟩ ?_
  intro s' c hm hc hS
  refine hR s' ⟨s'.heap, s'.toks, c, ?_, hS, by rw [← zs]; exact hc, fun b o e => ?_⟩
  · have e1 : s'.gens = s.gens := hm.gens
    have e2 : s'.drawn = s.drawn := hm.drawn
    have e3 : s'.os = s.os := hm.os
    cases s'
    simp only at e1 e2 e3
    subst e1 e2 e3
    rfl
  · have hb0 : b < s.heap.objs.size := Heap.lt_size e
    exact hm.heap b o (by simp only [List.mem_cons, List.mem_singleton, List.not_mem_nil, or_false, not_or]; exact ⟨Nat.ne_of_lt hb0, by rw [z1]; exact Nat.ne_of_lt (Nat.lt_succ_of_lt hb0)⟩) (Heap.get?_push_of_some _ (Heap.get?_push_of_some _ e))
theorem set_of_ints {l : Addr} {vs : Array Value} (ns : List Int) {Q : Value → Shared → Prop} (hh : A.handled = none) (hl : s.heap.IsList l vs) (hv : IntsAre vs.toList ns) (hn : ns.length < 64)
    (h : ∀ (h' : Heap) (tk c : Nat), SetR w h' s.heap.objs.size (fun j => decide (j ∈ ns)) c → c ≤ ns.length → (∀ b o, s.heap.get? b = some o → h'.get? b = some o) → Q (.ref s.heap.objs.size) { s with heap := h', toks := tk }) : wpAny (model P w) A (call (.type "set") [.ref l]) Q E s := by
  obtain ⟨m1, m2, hmro⟩ := F.called_set.mro
  have cmade := F.called_set.made
  have csub := F.called_set.sub
  refine wpAny_call (codeAny_of_tree ?_); show wpAny _ _ (callAny (.type "set") _) _ _ _
  refine wpAny_pure ⟨Code.quiet_builtin _ (by decide +kernel), codeAny_builtin F.entry_type_call ?_⟩; rw [Around.under_plain (weight_type_call_type "set" [.ref l] []) rfl]
  have c1 := F.called_set.notType
  have c2 := F.called_set.canCreate
  have c3 := F.typeCall_set_1 (.ref l)
  repeat (any_goals (first | assumption | wp_step))
  refine codeAny_mono (code_set_led1 (.ref l) (E := E) (Q₁ := fun ob s1 => ob = .ref s.heap.objs.size ∧ s1 = { s with heap := s.heap.push (bareSet w) }) ⟨rfl, rfl⟩) fun r s1 hr => ?_
  cases r with
  | error e => exact hr
  | ok fl =>
    cases fl with
    | ret ob =>
      obtain ⟨rfl, rfl⟩ := hr
      have gS : (s.heap.push (bareSet w)).get? s.heap.objs.size = some (bareSet w) := Heap.get?_push_size _ rfl
      have tS : Shared.TypeIs { s with heap := s.heap.push (bareSet w) } (.ref s.heap.objs.size) "set" := ⟨_, gS, rfl⟩
      have i1 := F.called_set.init.lookup
      have i2 := F.called_set.init.bind (.ref s.heap.objs.size)
      repeat (any_goals (first | assumption | wp_step))
      refine codeAny_mono (codeAny_call_builtin (R := wants (fun r s2 => r = .none ∧ SetMadeI P w s ns s2) E) F.called_set.init.plain F.entry_set_init (check_set_init_1 tS ?_)) fun r2 s2 hr2 => ?_
      · obtain ⟨ol, hol, hcl, nl, hdl⟩ := hl
        obtain ⟨oc, od, odata, os⟩ := ol
        simp only at hcl hdl
        subst hcl hdl
        have gl : (s.heap.push (bareSet w)).get? l = some { cls := .type "list", dict := od, data := .seq vs nl, slots := os } := Heap.get?_push_of_some _ hol
        have b1 := F.sub_list_set
        have b2 := F.sub_list_frozenset
        have b3 : (Value.type "list" == Value.type "dict") = false := by decide
        have hl1 : (s.heap.push (bareSet w)).IsList l vs := ⟨_, gl, rfl, nl, rfl⟩
        unfold Builtin.«set.__init__» noKeywords Builtin.Frozenset.updateFrom; generalize hPI : pyIter = PI
        wp_walk
        subst hPI
        refine wpAny_pyIter_list hl1 ?_; refine wpAny_bind (wpAny_runValue ?_)
        refine fill_ints (P := P) (w := w) (l := l) ns hh ⟨_, hol, rfl, nl, rfl⟩ hv hn fun s2 hs2 => ?_
        show wpAny _ _ _ _ _ _
        refine wpAny_pure ?_; show wpAny _ _ (ret Value.none) _ _ _
        exact wpAny_pure ⟨rfl, hs2⟩
      · cases r2 with
        | error e => exact hr2
        | ok fl2 =>
          cases fl2 with
          | ret r =>
            obtain ⟨rfl, h', tk, c, rfl, hS, g, hk'⟩ := hr2
            repeat (any_goals (first | assumption | wp_step))
            exact h _ _ _ hS g hk'
          | _ => exact hr2.elim
    | _ => exact hr.elim
/-! ### sorted -/
/-- what sorted leaves of a set with rows of d numbers, or with one row -/
theorem sort_few {a : Addr} {vs : List Value} {n d : Nat} {B : Int} {Pf : PySem.Fin → Shared → Prop} (ho : s.heap.get? a = some (seqObj "list" vs.toArray n)) (h1 : vs.length ≤ 1)
    (h : ∀ out : Array Value, out.toList.Perm vs → Pf (.done (.ret .none)) { s with heap := sortedHeap s.heap a vs out }) : wpAny (model P w) A (Builtin.«list.sort» ⟨[.ref a], []⟩) Pf E s := by
  refine SK.plain_sort (r := fun _ => 0) ho (by omega) (fun h2 => absurd h2 (by omega)) fun ps out q1 q2 q3 => ?_
  refine h out ?_
  rw [q1]
  have z := q2.map Prod.snd
  rwa [List.map_snd_zip (Nat.le_refl _)] at z
theorem sorted_one {a : Addr} {q : Addr × List Int} {es : Array (Int × Value)} {ep : Nat} {t : SetTable} {Q : Value → Shared → Prop} (R : SetTR P w s.heap a [q] es ep t) (hh : A.handled = none)
    (hQ : ∀ s' p (c : Nat), (∀ b o, s.heap.get? b = some o → s'.heap.get? b = some o) → s'.gens = s.gens → s'.os = s.os → s.heap.objs.size ≤ p → s'.heap.get? p = some (seqObj "list" #[Value.ref q.1] c) → Q (.ref p) s') :
    wpAny (model P w) A (call (.builtin "sorted") [.ref a]) Q E s := by
  obtain ⟨o, ho, hex, hd⟩ := R.ob
  have z1 := R.size
  refine Calls.call_function_entry kind_sorted plain_sorted entry_sorted (args_sorted1 _) ?_; unfold Builtin.«sorted»
  refine wpAny_bind (m := checkCount "sorted" 1 1 _) (wpAny_pure ?_)
  refine wpAny_bind (collect_set (A := A.in1) hh ⟨o, ho, hex.1, hd⟩ R.fits (by rw [z1]; show 1 < scanBound; decide) R.tab.ris R.led fun s1 vs k1 hz g1 o1 pm => ?_)
  have e1 : es.toList.map (·.2) = [Value.ref q.1] := by rw [R.rows]; rfl
  rw [e1] at pm
  have e2 : vs = [Value.ref q.1] := List.perm_singleton.mp pm
  subst e2
  refine wpAny_bind (wpAny_newList ?_ (by rw [sizeLine_eq]; show 1 ≤ 16777216; decide))
  have gl : (s1.heap.push (seqObj "list" [Value.ref q.1].toArray 0)).get? s1.heap.objs.size = some (seqObj "list" [Value.ref q.1].toArray 0) := Heap.get?_push_size _ rfl
  refine wpAny_bind (wpAny_holding (wpAny_call_entry (s := { s1 with heap := s1.heap.push (seqObj "list" [Value.ref q.1].toArray 0) }) slot_list_sort ⟨_, gl, rfl⟩ entry_list_sort (sort_few (d := 0) (B := 0) (vs := [Value.ref q.1]) gl (Nat.le_refl _) fun out a1 => ⟨_, rfl, ?_⟩) (args_list_sort _)))
  have e3 : out.toList = [Value.ref q.1] := List.perm_singleton.mp a1
  obtain ⟨c, hc⟩ := sortedHeap_at (vs := [Value.ref q.1]) (out := out) gl
  have e4 : out = #[Value.ref q.1] := by rw [← Array.toArray_toList (xs := out), e3]
  rw [e4] at hc
  refine wpAny_pure ⟨_, rfl, hQ _ s1.heap.objs.size c (fun b u e => ?_) g1 o1 hz (by rw [e4]; exact hc)⟩
  have q := k1 b u e
  have hlt := Heap.lt_size q
  show (sortedHeap (s1.heap.push (seqObj "list" [Value.ref _].toArray 0)) s1.heap.objs.size [Value.ref _] out).get? b = some u
  rw [sortedHeap_old (Nat.ne_of_lt hlt) (by rw [size_push']; exact Nat.lt_succ_of_lt hlt)]; exact Heap.get?_push_of_some _ q
end
section
variable {X : Cx}
/-- set(x), x tuples of numbers in a list or in a tuple -/
def rSetA (K : PySem.W.Frag) (P : Program) (w : World) : List V → Hp → VK → Prop := fun xs H Q => ∃ (l : Addr) (ks : List (Addr × List Int)), xs = [V.ref l] ∧ (SqL K H l (ks.map fun p => V.ref p.1) ∨ TupAt K H l (ks.map fun p => V.ref p.1)) ∧
  (∀ p ∈ ks, SqT K H p.1 (p.2.map V.int)) ∧ ks.length < 64 ∧ ∀ a L, H a = none → (∀ p ∈ L, p ∈ ks) → (∀ p ∈ ks, p.2 ∈ L.map (·.2)) → (L.map (·.2)).Nodup → Q (.ref a) (upd H a (SetTO P w a L))
theorem cr_setA (hc : X.calm = true) (hu : X.A.units + 64 < cLine) : CallR X (.type "set") (rSetA X.K X.prog X.w) := by
  intro pins s σ H xs us Q I r ⟨l, ks, e, hl, hk, hf, q⟩
  subst e
  rw [Vals.ref1 r]
  have hn : H s.heap.objs.size = none := I.hok.fresh (Nat.le_refl _)
  have fin : ∀ (h' : Heap) (tk : Nat) L es ep t, SetTR X.prog X.w h' s.heap.objs.size L es ep t → Got ks ks.length L → (∀ b o, s.heap.get? b = some o → h'.get? b = some o) →
      EP X pins σ Q (.ref s.heap.objs.size) { s with heap := h', toks := tk } := fun h' tk L es ep t R g k =>
    ⟨.ref s.heap.objs.size, upd H s.heap.objs.size (SetTO X.prog X.w s.heap.objs.size L), I.laid (t' := tk) k (Nat.le_refl _) (setTO_new R.t0), rfl, q _ L hn (fun p hp => List.mem_of_mem_take (g.sub p hp)) (fun p hp => g.all p (by rw [List.take_length]; exact hp)) R.nd⟩
  rcases hl with hl | hl
  · obtain ⟨its, rv, pl, hz⟩ := I.list hl
    exact call_set_tups (P := X.prog) (w := X.w) ks (I.ok.hd hc) pl.isList (by simpa using refs_of_vals rv) (fun p hp => I.isT (hk p hp)) hf (by omega) fin
  · obtain ⟨its, rv, pl, hz⟩ := I.tuple hl.sq
    exact set_of_tuple (P := X.prog) (w := X.w) ks (I.ok.hd hc) pl (by simpa using refs_of_vals rv) (fun p hp => I.isT (hk p hp)) hf (by omega) fin
/-- set(x) of a list of numbers -/
def rSetN (K : PySem.W.Frag) (w : World) : List V → Hp → VK → Prop := fun vs H Q => ∃ (l : Addr) (ns : List Int), vs = [V.ref l] ∧ (SqL K H l (ns.map V.int) ∨ TupAt K H l (ns.map V.int)) ∧ ns.length < 64 ∧
  ∀ a c, H a = none → c ≤ ns.length → Q (.ref a) (upd H a (SetO w a (fun j => decide (j ∈ ns)) c))
theorem cr_setN (hc : X.calm = true) : CallR X (.type "set") (rSetN X.K X.w) := by
  intro pins s σ H xs us Q I r ⟨l, ns, e, hl, hn, q⟩
  subst e
  rw [Vals.ref1 r]
  have hf : H s.heap.objs.size = none := I.hok.fresh (Nat.le_refl _)
  have fin : ∀ (h' : Heap) (tk c : Nat), SetR X.w h' s.heap.objs.size (fun j => decide (j ∈ ns)) c → c ≤ ns.length → (∀ b o, s.heap.get? b = some o → h'.get? b = some o) → EP X pins σ Q (.ref s.heap.objs.size) { s with heap := h', toks := tk } := fun h' tk c R g k =>
    ⟨.ref s.heap.objs.size, upd H s.heap.objs.size (SetO X.w s.heap.objs.size (fun j => decide (j ∈ ns)) c), I.laid (t' := tk) k (Nat.le_refl _) (setO_new R), rfl, q _ c hf g⟩
  rcases hl with hl | hl
  · obtain ⟨its, rv, pl, hz⟩ := I.list hl
    exact set_of_ints (P := X.prog) (w := X.w) ns (I.ok.hd hc) pl.isList (by simpa using rv.ints) hn fin
  · obtain ⟨its, rv, pl, hz⟩ := I.tuple hl.sq
    exact call_set_tupI (P := X.prog) (w := X.w) ns (I.ok.hd hc) pl (by simpa using rv.ints) (by unfold scanBound; omega) fin
/-- sorted(set) -/
def rSortA (K : PySem.W.Frag) (P : Program) (w : World) : List V → Hp → VK → Prop := fun vs H Q => ∃ (a : Addr) (L : List (Addr × List Int)) (d : Nat), vs = [V.ref a] ∧ H a = some (SetTO P w a L) ∧ (∀ p ∈ L, SqT K H p.1 (p.2.map V.int)) ∧ (1 ≤ d ∨ ∃ q, L = [q]) ∧
  (∀ p ∈ L, p.2.length = d ∧ TS.Bd 64 p.2) ∧ ∀ (L' : List (Addr × List Int)) (p : Addr), L'.Perm L → L'.length < 64 → L'.Pairwise (fun q r => TS.code 64 q.2 ≤ TS.code 64 r.2) → H p = none → Q (.ref p) (upd H p (.lst (L'.map fun q => V.ref q.1)))
theorem cr_sortA (hc : X.calm = true) : CallR X (.builtin "sorted") (rSortA X.K X.prog X.w) := by
  intro pins s σ H vs us Q I r ⟨a, L, d, e, ha, hk, hd, hB, q⟩
  subst e
  have R0 : SetT0 X.prog X.w s.heap a L := (I.hok a _ ha).1
  obtain ⟨es, ep, t, R⟩ := R0.full fun p hp => I.isT (hk p hp)
  rw [Vals.ref1 r]
  have fin : ∀ s' p (out : Array Value) (c : Nat) (L' : List (Addr × List Int)), (∀ b o, s.heap.get? b = some o → s'.heap.get? b = some o) → s'.gens = s.gens → s'.os = s.os → s.heap.objs.size ≤ p →
      s'.heap.get? p = some (seqObj "list" out c) → out.toList = L'.map (fun q => Value.ref q.1) → L'.Perm L → L'.Pairwise (fun q r => TS.code 64 q.2 ≤ TS.code 64 r.2) → EP X pins σ Q (.ref p) s' := by
    intro s' p out c L' k g o hp hg hout pm pw
    have few : L'.length < 64 := by rw [pm.length_eq]; exact R.few
    have hlen : (L'.map fun q => V.ref q.1).length ≤ sizeLine := by rw [List.length_map, sizeLine_eq]; omega
    have hn : H p = none := I.hok.fresh hp
    have hv : Vals (L'.map fun q => V.ref q.1) out.toList := by rw [hout]; exact vals_of_refs L'
    have J : Inv X pins σ (upd H p (.lst (L'.map fun q => V.ref q.1))) { s with heap := s'.heap, gens := s'.gens, drawn := s'.drawn, toks := s'.toks } :=
      I.call (ch := []) (Un.laid k hp hn) (I.hok.laid k hp ⟨hlen, out.toList, c, hv, hg⟩) (by rw [g]; exact I.bare) (fun _ z => nomatch z)
    have e : s' = { s with heap := s'.heap, gens := s'.gens, drawn := s'.drawn, toks := s'.toks } := by
      cases s'; cases s; cases o; rfl
    rw [e]
    exact ⟨.ref p, _, J, rfl, q L' p pm few pw hn⟩
  rcases hd with hd | ⟨x, rfl⟩
  · exact sorted_setT R (I.ok.hd hc) hd hB fin
  · exact sorted_one R (I.ok.hd hc) fun s' p c k g o hp hg => fin s' p _ c [x] k g o hp hg rfl (.refl _) (List.pairwise_singleton _ _)
end
/-! ### in plain Lean -/
theorem code_inj {B : Int} : ∀ {x y : List Int}, x.length = y.length → TS.Bd B x → TS.Bd B y → TS.code B x = TS.code B y → x = y
  | [], [], _, _, _, _ => rfl
  | [], _ :: _, h, _, _, _ => by simp at h
  | _ :: _, [], h, _, _, _ => by simp at h
  | a :: x, b :: y, h, hx, hy, e => by
    have hl : x.length = y.length := by simpa using h
    rcases Int.lt_trichotomy a b with z | z | z
    · have := TS.code_lt hl hx.tail hy.tail z; omega
    · subst z
      have e2 : TS.code B x = TS.code B y := by
        have e' : a * B ^ x.length + TS.code B x = a * B ^ y.length + TS.code B y := e
        rw [hl] at e'
        omega
      rw [code_inj hl hx.tail hy.tail e2]
    · have := TS.code_lt hl.symm hy.tail hx.tail z; omega
theorem insR_mem {B : Int} {x z : List Int} : ∀ {l : List (List Int)}, z ∈ insR B x l ↔ z = x ∨ z ∈ l
  | [] => by simp [insR]
  | y :: ys => by
    unfold insR
    split
    · rename_i e; subst e; simp
    · split
      · simp
      · simp only [List.mem_cons, insR_mem (l := ys)]
        constructor
        · rintro (h | h | h) <;> simp [h]
        · rintro (h | h | h) <;> simp [h]
theorem sortR_mem {B : Int} {z : List Int} : ∀ {l : List (List Int)}, z ∈ sortR B l ↔ z ∈ l
  | [] => by simp [sortR]
  | y :: ys => by unfold sortR; rw [insR_mem, sortR_mem, List.mem_cons]
theorem insR_sorted {B : Int} {x : List Int} : ∀ {l : List (List Int)}, (∀ z ∈ l, TS.code B x = TS.code B z → x = z) → l.Pairwise (fun a b => TS.code B a < TS.code B b) → (insR B x l).Pairwise fun a b => TS.code B a < TS.code B b
  | [], _, _ => List.pairwise_singleton _ _
  | y :: ys, hi, h => by
    obtain ⟨h1, h2⟩ := List.pairwise_cons.mp h
    unfold insR
    split
    · exact h
    · rename_i ne
      split
      · rename_i le
        have lt : TS.code B x < TS.code B y := Int.lt_iff_le_and_ne.mpr ⟨by assumption, fun e => ne (hi y List.mem_cons_self e)⟩
        refine List.pairwise_cons.mpr ⟨fun z hz => ?_, h⟩
        rcases List.mem_cons.mp hz with rfl | hz
        · exact lt
        · have := h1 z hz; omega
      · rename_i nle
        refine List.pairwise_cons.mpr ⟨fun z hz => ?_, insR_sorted (fun z hz => hi z (List.mem_cons_of_mem _ hz)) h2⟩
        rcases insR_mem.mp hz with rfl | hz
        · omega
        · exact h1 z hz
theorem sortR_sorted {B : Int} {d : Nat} : ∀ {l : List (List Int)}, (∀ z ∈ l, z.length = d ∧ TS.Bd B z) → (sortR B l).Pairwise fun a b => TS.code B a < TS.code B b
  | [], _ => List.Pairwise.nil
  | y :: ys, h => by
    unfold sortR
    refine insR_sorted (fun z hz e => ?_) (sortR_sorted fun z hz => h z (List.mem_cons_of_mem _ hz))
    obtain ⟨a1, a2⟩ := h y List.mem_cons_self
    obtain ⟨b1, b2⟩ := h z (List.mem_cons_of_mem _ (sortR_mem.mp hz))
    exact code_inj (a1.trans b1.symm) a2 b2 e
theorem sort_is {d : Nat} {rs ls : List (List Int)} (h : ∀ z ∈ rs, z.length = d ∧ TS.Bd 64 z) (hm : ∀ z, z ∈ ls ↔ z ∈ rs) (nd : ls.Nodup) (pw : ls.Pairwise fun a b => TS.code 64 a ≤ TS.code 64 b) : ls = sortR 64 rs := by
  have hs := sortR_sorted h
  have nd2 : (sortR 64 rs).Nodup := hs.imp fun {a b} lt e => by rw [e] at lt; exact Int.lt_irrefl _ lt
  refine List.Perm.eq_of_pairwise (le := fun a b => TS.code 64 a ≤ TS.code 64 b) (fun a b ha hb h1 h2 => ?_) pw (hs.imp fun {a b} lt => Int.le_of_lt lt) ((List.perm_ext_iff_of_nodup nd nd2).mpr fun z => (hm z).trans sortR_mem.symm)
  obtain ⟨a1, a2⟩ := h a ((hm a).mp ha)
  obtain ⟨b1, b2⟩ := h b (sortR_mem.mp hb)
  exact code_inj (a1.trans b1.symm) a2 b2 (Int.le_antisymm h1 h2)
theorem rows_ks {K : PySem.W.Frag} {H : Hp} : ∀ {xs : List D} {vs : List V} {rs : List (List Int)}, Rps K H xs vs → rowsD xs = some rs → ∃ ks : List (Addr × List Int), vs = ks.map (fun p => V.ref p.1) ∧ ks.map (·.2) = rs ∧ ∀ p ∈ ks, TupAt K H p.1 (p.2.map V.int)
  | [], vs, rs, r, h => by
    cases h
    have e : vs = [] := r
    exact ⟨[], by rw [e]; rfl, rfl, fun p hp => nomatch hp⟩
  | x :: xs, vs, rs, r, h => by
    obtain ⟨v, r', rfl, r1, r2⟩ := r
    cases x with
    | tup ys =>
      unfold rowsD at h
      cases e1 : intsD ys with
      | none => rw [e1] at h; cases h
      | some a =>
        cases e2 : rowsD xs with
        | none => rw [e1, e2] at h; cases h
        | some b =>
          rw [e1, e2] at h
          cases h
          obtain ⟨ks, k1, k2, k3⟩ := rows_ks r2 e2
          obtain ⟨p, us, rfl, t, ru⟩ := r1
          have e3 := ru.intsD e1
          subst e3
          refine ⟨(p, a) :: ks, by rw [k1]; rfl, by rw [← k2]; rfl, fun q hq => ?_⟩
          rcases List.mem_cons.mp hq with rfl | hq
          · exact t
          · exact k3 q hq
    | _ => cases h
theorem dedI_mem {z : Int} : ∀ {l : List Int}, z ∈ dedI l ↔ z ∈ l
  | [] => by simp [dedI]
  | y :: ys => by
    unfold dedI
    rw [List.mem_cons, List.mem_filter, dedI_mem, List.mem_cons]
    by_cases h : z = y
    · simp [h]
    · simp [h]
theorem dedI_nodup : ∀ l : List Int, (dedI l).Nodup
  | [] => .nil
  | y :: ys => by
    unfold dedI
    refine List.nodup_cons.mpr ⟨fun h => ?_, (dedI_nodup ys).filter _⟩
    have := (List.mem_filter.mp h).2
    simp at this
theorem sort_strict {ns ls : List Int} (hm : ∀ z, z ∈ ls ↔ z ∈ ns) (pw : ls.Pairwise (· < ·)) : ls = sortI (dedI ns) := by
  have nd : ls.Nodup := pw.imp fun {a b} lt e => by rw [e] at lt; exact Int.lt_irrefl _ lt
  refine sorted_eq ((List.perm_ext_iff_of_nodup nd (dedI_nodup ns)).mpr fun z => (hm z).trans dedI_mem.symm) (pw.imp fun {a b} lt => Int.le_of_lt lt)
theorem ssetR_case {d : D} {xs : List D} (h : ssetD d = some xs) : (∃ ys ns, (d = .lst ys ∨ d = .tup ys) ∧ intsD ys = some ns ∧ ns.length < 64 ∧ xs = (sortI (dedI ns)).map .int) ∨ ssetR d = some xs := by
  unfold ssetD at h
  split at h
  · rename_i ys
    split at h
    · rename_i ns e
      split at h
      · rename_i hz
        cases h
        exact .inl ⟨ys, ns, .inl rfl, e, hz, rfl⟩
      · cases h
    · exact .inr h
  · rename_i ys
    split at h
    · rename_i ns e
      split at h
      · rename_i hz
        cases h
        exact .inl ⟨ys, ns, .inr rfl, e, hz, rfl⟩
      · cases h
    · exact .inr h
  · exact .inr h
/-- sorted(set(x)) -/
theorem se_sset {c : Cl} {a : E} (ha : SE c a) : SE c (.sset a) := by
  refine se_of (fun _ => rfl) fun X G O x hx => ?_
  cases x <;> first | (cases hx; done) | skip
  rename_i f args kws pos
  cases f <;> first | (cases hx; done) | skip
  rename_i x p
  match args, kws, hx with
  | [.Call (.Name y py) [z] [] pz], [], hx =>
    obtain ⟨h1, h5⟩ := and2 (show (decide (x = "sorted") && decide (y = "set") && blOk G x && blOk G y && ckE a G z) = true from hx)
    obtain ⟨h2, h4⟩ := and2 h1
    obtain ⟨h6, h3⟩ := and2 h2
    obtain ⟨h7, h8⟩ := and2 h6
    have ex : x = "sorted" := of_decide_eq_true h7
    have ey : y = "set" := of_decide_eq_true h8
    subst ex ey
    obtain ⟨g1, g2, g3⟩ := bl_of O h3
    obtain ⟨k1, k2, k3⟩ := bl_of O h4
    have hu : X.A.units + 64 < cLine := by have := O.un; omega
    have bs : bootBuiltins ("set" : Str) = some (.type "set") := by decide +kernel
    have bo : bootBuiltins ("sorted" : Str) = some (.builtin "sorted") := by decide +kernel
    have inner := pe_callTy (pos := pz) (p := py) ((cr_setN O.calm).or (cr_setA O.calm hu)) k1 k2 bs (pa_cons (ha X G O z h5).1 pa_nil (by rw [star_of h5])) (by decide) k3 (by rw [star_of h5]) (by rfl)
    refine ⟨PE.imp (pe_callB (pos := pos) (p := p) ((cr_sortedSet O.calm).or (cr_sortA O.calm)) g1 g2 bo (pa_cons inner pa_nil) (by decide) g3) fun σ H Q ⟨env, o, env', E, hf, q⟩ => ?_, fun _ => rfl⟩
    simp only [ev, fin] at hf
    cases e1 : ev c a .v env with
    | none => rw [e1] at hf; cases hf
    | some oe =>
      obtain ⟨oa, env1⟩ := oe
      rw [e1] at hf
      simp only at hf
      cases e2 : view env1 oa with
      | none => rw [e2] at hf; cases hf
      | some d =>
        rw [e2] at hf
        simp only at hf
        cases e3 : ssetD d with
        | none => rw [e3] at hf; cases hf
        | some xs =>
          rw [e3] at hf
          cases hf
          refine ⟨env, oa, env', E, e1, fun v H1 p1 => ?_⟩
          have vw := p1.r.view p1.e e2
          rcases ssetR_case e3 with ⟨ys, ns, hd, e5, lt, rfl⟩ | e3
          · have srcI : ∃ l vs, v = .ref l ∧ (SqL X.K H1 l vs ∨ TupAt X.K H1 l vs) ∧ Rps X.K H1 ys vs := by
              rcases hd with rfl | rfl
              · obtain ⟨l, vs, e, t, rd⟩ := vw.lst; exact ⟨l, vs, e, .inl (.inl t), rd⟩
              · obtain ⟨l, vs, e, t, rd⟩ := vw.tup; exact ⟨l, vs, e, .inr t, rd⟩
            obtain ⟨l, vs, rfl, t, rd⟩ := srcI
            have e6 := rd.intsD e5
            subst e6
            refine .inl ⟨l, ns, rfl, t, lt, fun b c nb hc => ?_⟩
            have sb : Same H1 (upd H1 b (SetO X.w b (fun j => decide (j ∈ ns)) c)) := same_new nb
            refine .inl ⟨b, _, c, rfl, upd_same, by omega, fun ls t' pw hm hl nt => ?_⟩
            have e7 : ls = sortI (dedI ns) := sort_strict (fun z => by rw [hm z]; simp) pw
            have nt1 : H1 t' = none := by
              by_cases hb : t' = b
              · subst hb; exact nb
              · rwa [upd_ne hb] at nt
            have sa : Same (upd H1 b (SetO X.w b (fun j => decide (j ∈ ns)) c)) (upd (upd H1 b (SetO X.w b (fun j => decide (j ∈ ns)) c)) t' (.lst (ls.map V.int))) := same_new nt
            refine q _ _ (po_res p1.e p1.t ⟨sb.trans sa, t', rfl, nt1, _, upd_same, ?_⟩)
            rw [e7]
            exact Rps.of_ints _
          -- the rows
          unfold ssetR at e3
          cases e4 : seqOf d with
          | none => rw [e4] at e3; cases e3
          | some ys =>
            rw [e4] at e3
            simp only at e3
            cases e5 : rowsD ys with
            | none => rw [e5] at e3; cases e3
            | some rs =>
              rw [e5] at e3
              cases rs with
              | nil => cases e3
              | cons r rs =>
                simp only at e3
                split at e3
                · rename_i hz
                  cases e3
                  obtain ⟨hz1, hz2⟩ := and2 hz
                  obtain ⟨hz3, hz4⟩ := and2 hz1
                  have lt : ys.length < 64 := of_decide_eq_true hz2
                  have ok : ∀ z ∈ r :: rs, z.length = r.length ∧ TS.Bd 64 z := fun z hz => by
                    have := List.all_eq_true.mp hz4 z hz
                    obtain ⟨b1, b2⟩ := and2 this
                    refine ⟨of_decide_eq_true b1, fun m hm => ?_⟩
                    have b3 := List.all_eq_true.mp b2 m hm
                    simpa using b3
                  have src : ∃ l vs, v = .ref l ∧ (SqL X.K H1 l vs ∨ TupAt X.K H1 l vs) ∧ Rps X.K H1 ys vs := by
                    cases d with
                    | tup zs => cases e4; obtain ⟨l, vs, e, t, rd⟩ := vw.tup; exact ⟨l, vs, e, .inr t, rd⟩
                    | lst zs => cases e4; obtain ⟨l, vs, e, t, rd⟩ := vw.lst; exact ⟨l, vs, e, .inl (.inl t), rd⟩
                    | _ => cases e4
                  obtain ⟨l, vs, rfl, hs, rd⟩ := src
                  obtain ⟨ks, kv, kr, kt⟩ := rows_ks rd e5
                  have kl : ks.length < 64 := by
                    have q1 := rd.length
                    rw [kv, List.length_map] at q1
                    omega
                  rw [kv] at hs
                  refine .inr ⟨l, ks, rfl, hs, fun p hp => (kt p hp).sq, kl, fun b L nb L1 L2 L3 => ?_⟩
                  have sb : Same H1 (upd H1 b (SetTO X.prog X.w b L)) := same_new nb
                  have mem : ∀ z, z ∈ L.map (·.2) ↔ z ∈ r :: rs := fun z => by
                    rw [← kr]
                    constructor
                    · intro hz
                      obtain ⟨p, hp, e⟩ := List.mem_map.mp hz
                      exact List.mem_map.mpr ⟨p, L1 p hp, e⟩
                    · intro hz
                      obtain ⟨p, hp, e⟩ := List.mem_map.mp hz
                      rw [← e]; exact L2 p hp
                  refine .inr ⟨b, L, r.length, rfl, upd_same, fun p hp => ((kt p (L1 p hp)).mono (kp_same sb)).sq, ?_, fun p hp => ok _ ((mem _).mp (List.mem_map.mpr ⟨p, hp, rfl⟩)), fun L' t pm few pw nt => ?_⟩
                  · rw [Bool.or_eq_true] at hz3
                    rcases hz3 with h | h
                    · exact .inl (of_decide_eq_true h)
                    · refine .inr ?_
                      have : rs = [] := by simpa using h
                      subst this
                      have m1 : ∀ z ∈ L.map (·.2), z = r := fun z hz => by simpa using (mem z).mp hz
                      match L, L3, m1, (mem r).mpr (by simp) with
                      | [], _, _, h => simp at h
                      | [x], _, _, _ => exact ⟨x, rfl⟩
                      | x :: y :: L, nd, m1, _ =>
                        exfalso
                        have a1 := m1 x.2 (by simp)
                        have a2 := m1 y.2 (by simp)
                        simp only [List.map_cons, List.nodup_cons] at nd
                        exact nd.1 (by rw [a1, a2]; simp)
                  · have e6 : L'.map (·.2) = sortR 64 (r :: rs) := sort_is ok (fun z => ((pm.map (·.2)).mem_iff).trans (mem z)) ((pm.map (·.2)).nodup_iff.mpr L3) (List.pairwise_map.mpr pw)
                    have nt1 : H1 t = none := by
                      by_cases hb : t = b
                      · subst hb; exact nb
                      · rwa [upd_ne hb] at nt
                    have sa : Same (upd H1 b (SetTO X.prog X.w b L)) (upd (upd H1 b (SetTO X.prog X.w b L)) t (.lst (L'.map fun q => V.ref q.1))) := same_new nt
                    refine q _ _ (po_res p1.e p1.t ⟨sb.trans sa, t, rfl, nt1, _, upd_same, ?_⟩)
                    rw [← e6, List.map_map]
                    have : ∀ l : List (Addr × List Int), (∀ p ∈ l, p ∈ ks) → Rps X.K (upd (upd H1 b (SetTO X.prog X.w b L)) t (.lst (L'.map fun q => V.ref q.1))) (l.map ((fun z => D.tup (z.map .int)) ∘ fun p => p.2)) (l.map fun q => V.ref q.1) := by
                      intro l
                      induction l with
                      | nil => intro _; exact .nil
                      | cons p l ih =>
                        intro h
                        exact .cons ⟨p.1, _, rfl, (kt p (h p List.mem_cons_self)).mono (kp_same (sb.trans sa)), Rps.of_ints _⟩ (ih fun q hq => h q (List.mem_cons_of_mem _ hq))
                    exact this L' fun p hp => L1 p (pm.mem_iff.mp hp)
                · cases e3
end PF
/-! PF10: calls of defs, comprehensions, all expressions. -/
namespace PF
open PySem PySem.Spec PyProof.Rows L2
section
variable {c : Cl}
theorem call_inv {f : Str} {es : List E} {env : Env} {o : Opd} {env' : Env} (h : ev c (.call f es) .v env = some (o, env')) :
    ∃ os env1 ss env2 fs, evs c es env = some (os, env1) ∧ lend os env1 = some (ss, env2) ∧ c f ss = some (o, fs) ∧ env' = giveBack os fs env2 := by
  simp only [ev, fin] at h
  cases e1 : evs c es env with
  | none => rw [e1] at h; cases h
  | some xe =>
    obtain ⟨os, env1⟩ := xe
    rw [e1] at h
    simp only at h
    cases e2 : lend os env1 with
    | none => rw [e2] at h; cases h
    | some de =>
      obtain ⟨ss, env2⟩ := de
      rw [e2] at h
      simp only at h
      cases e3 : c f ss with
      | none => rw [e3] at h; cases h
      | some rf =>
        obtain ⟨r, fs⟩ := rf
        rw [e3] at h
        cases h
        exact ⟨os, env1, ss, env2, fs, rfl, e2, e3, rfl⟩
theorem opds_slot {K : PySem.W.Frag} {σ : St} {H0 H : Hp} {env0 env : Env} : ∀ {os : List Opd} {vs : List V}, OpdsR K σ H0 env0 H env os vs → ∀ (k i : Nat), os[k]? = some (.slot i) → ∀ v, vs[k]? = some v → σ[i]? = some (some v)
  | _, _, .nil, k, i, h, _, _ => by simp at h
  | _, _, .cons r n t dj, 0, i, h, v, h2 => by
    simp at h h2
    subst h h2
    exact r
  | _, _, .cons r n t dj, k + 1, i, h, v, h2 => opds_slot t k i (by simpa using h) v (by simpa using h2)
theorem opds_own {K : PySem.W.Frag} {σ : St} {H0 H : Hp} {env0 env : Env} : ∀ {os : List Opd} {vs : List V}, OpdsR K σ H0 env0 H env os vs → ∀ (k : Nat) (e : D) (p : Addr), os[k]? = some (.own e) → vs[k]? = some (.ref p) → OwnAt K H e p ∧ ¬ OwnA env σ p
  | _, _, .nil, k, i, p, h, _ => by simp at h
  | _, _, .cons r n t dj, 0, i, p, h, h2 => by
    simp at h h2
    subst h h2
    obtain ⟨p', e, o, no⟩ := r
    cases e
    exact ⟨o, no⟩
  | _, _, .cons r n t dj, k + 1, i, p, h, h2 => opds_own t k i p (by simpa using h) (by simpa using h2)
/-- behind a call -/
theorem call_end {K : PySem.W.Frag} {σ : St} {H H1 H2 : Hp} {env env1 env2 : Env} {os : List Opd} {vs : List V} {ss fs : List Slot} {o : Opd} {v : V}
    (E1 : EnvR K H1 σ env1) (t1 : Tr σ H env σ H1 env1) (r1 : OpdsR K σ H env H1 env1 os vs) (hl : lend os env1 = some (ss, env2))
    (F : EnvR K H2 (vs.map some) fs) (tc : Tr (vs.map some) H1 ss (vs.map some) H2 fs) (ro : OpdR K H2 (vs.map some) fs o v) (ns : ∀ i, o ≠ .slot i) (nr : ∀ d p, o = .own d → v = .ref p → H1 p = none ∨ OwnA ss (vs.map some) p) :
    Po K σ H env o (giveBack os fs env2) v H2 := by
  obtain ⟨l1, l2, l3, l4⟩ := lend_ok E1 r1 hl
  have kp : Kp H1 H2 := tc.kp l3
  -- what the caller keeps
  have n2 : ∀ p, OwnA env2 σ p → ¬ OwnA ss (vs.map some) p := fun p z q => (l4 p q).1 z
  have E2 : EnvR K H2 σ env2 := by
    refine ⟨l1.len, fun j sl e => ?_, l1.dj⟩
    obtain ⟨x, e2, rr⟩ := l1.sl j sl e
    refine ⟨x, e2, ?_⟩
    cases sl with
    | un => trivial
    | val d => obtain ⟨v, e3, rr⟩ := rr; exact ⟨v, e3, rr.mono kp⟩
    | own d2 =>
      obtain ⟨p2, e3, rr⟩ := rr
      subst e3
      exact ⟨p2, rfl, rr.keep kp fun u qq => tc.f p2 u qq (n2 p2 ⟨j, d2, e, e2⟩)⟩
  have dj : ∀ p, OwnA env2 σ p → ¬ OwnA fs (vs.map some) p := fun p z q => by
    rcases tc.s p q with q | q
    · exact n2 p z q
    · obtain ⟨u, e, _⟩ := l1.nfrz z
      rw [q] at e; cases e
  obtain ⟨g1, g2⟩ := give_ok (opds_slot r1) E2 F dj
  -- what the callee may touch
  have touched : ∀ p, OwnA ss (vs.map some) p → H p = none ∨ OwnA env σ p := fun p z => by
    rcases (l4 p z).2 with q | ⟨k, e, k1, k2⟩
    · exact (t1.s p q).symm
    · exact r1.own k e p k1 k2
  refine ⟨g1, ⟨fun b u e n => ?_, fun p z => ?_⟩, ?_, fun d p e1 e2 => ?_⟩
  · refine tc.f b u (t1.f b u e n) fun z => ?_
    rcases touched b z with q | q
    · rw [e] at q; cases q
    · exact n q
  · rcases g2 p z with z | z
    · exact t1.s p (l2 p z)
    · rcases tc.s p z with q | q
      · exact (touched p q).symm
      · exact (t1.fresh q).symm
  · cases o with
    | dat d => exact ro
    | own d =>
      obtain ⟨p, e, oa, no⟩ := ro
      refine ⟨p, e, oa, fun z => ?_⟩
      rcases g2 p z with z | z
      · rcases nr d p rfl e with q | q
        · obtain ⟨u, e', _⟩ := l1.nfrz z
          rw [q] at e'; cases e'
        · exact n2 p z q
      · exact no z
    | slot i => exact (ns i rfl).elim
  · rcases nr d p e1 e2 with q | q
    · exact t1.fresh q
    · exact touched p q
theorem se_call {f : Str} {es : List E} (hs : ∀ e ∈ es, SE c e) : SE c (.call f es) := by
  refine se_of (fun _ => rfl) fun X G O x hx => ?_
  cases x <;> first | (cases hx; done) | skip
  rename_i fe args kws pos
  cases fe <;> first | (cases hx; done) | skip
  rename_i x p
  cases kws <;> first | (cases hx; done) | skip
  obtain ⟨hx1, h4⟩ := and2 hx
  obtain ⟨hx2, h3⟩ := and2 hx1
  obtain ⟨h1, h2⟩ := and2 hx2
  have ex : x = f := of_decide_eq_true h1
  subst ex
  obtain ⟨g1, g2⟩ := gl_of O h2
  obtain ⟨a, fdt, ps, k, m1, m2, m3, m4, m5, m6⟩ := (O.fns x es.length (by simpa using h3)).ok
  refine ⟨?_, fun _ => rfl⟩
  have fin : ∀ {σ : St} {H : Hp} {Q : VK}, tE X.K (ev c (.call x es) .v) σ H Q → tCall (spC X.K c x) [] E0 (tAs X.K (evs c es)) σ H Q := by
    rintro σ H Q ⟨env, o, env', E, hf, q⟩
    obtain ⟨os, env1, ss, env2, fs, e1, e2, e3, rfl⟩ := call_inv hf
    refine ⟨env, os, env1, E, e1, fun vs H1 E1 t1 r1 => ?_⟩
    dsimp only
    rw [List.append_nil]
    obtain ⟨l1, l2, l3, l4⟩ := lend_ok E1 r1 e2
    exact .inl ⟨ss, o, fs, l3, e3, fun v H2 F tc ro ns nr => q v H2 (call_end E1 t1 r1 e2 F tc ro ns nr)⟩
  match es, args, h4, hs with
  | [], [], h4, hs =>
    refine PE.imp (pe_call0 m4 m5 g1 m1 m2 m3 .nil passL g2) fun σ H Q h => ?_
    obtain ⟨env, os, env1, E, e1, q⟩ := fin h
    cases e1
    exact q [] H E .refl .nil
  | [], _ :: _, h4, hs => cases h4
  | _ :: _, [], h4, hs => cases h4
  | e :: es, y :: ys, h4, hs =>
    obtain ⟨k1, k2⟩ := and2 (show (ckE e G y && ckEs es G ys) = true from h4)
    exact PE.imp (pe_call m4 m5 g1 m1 m2 m3 .nil passL (pa_os O hs h4) g2 (star_of k1 _) (any_star k2)) fun σ H Q h => fin h
/-! ### targets -/
theorem setAll_ok {K : PySem.W.Frag} {H : Hp} : ∀ {is : List Nat} {ds : List D} {vs : List V} {env env' : Env} {σ : St}, setAll env is ds = some env' → Rps K H ds vs → EnvR K H σ env →
    ∃ σ', EnvR K H σ' env' ∧ σ'.length = σ.length ∧ (∀ j, j ∉ is → σ'[j]? = σ[j]?) ∧ (∀ p, OwnA env' σ' p → OwnA env σ p) ∧ vs.length = is.length ∧ σ' = (is.zip vs).foldl (fun σ q => σ.set q.1 (some q.2)) σ
  | [], [], vs, env, env', σ, h, r, E => by
    cases h
    have : vs = [] := r
    subst this
    exact ⟨σ, E, rfl, fun _ _ => rfl, fun _ z => z, rfl, rfl⟩
  | i :: is, d :: ds, vs, env, env', σ, h, r, E => by
    obtain ⟨v, vr, rfl, r1, r2⟩ := r
    have E1 : EnvR K H (σ.set i (some v)) (env.set i (.val d)) ∧ ∀ p, OwnA (env.set i (.val d)) (σ.set i (some v)) p → OwnA env σ p := by
      have own : ∀ {j : Nat} {e : D}, (env.set i (.val d))[j]? = some (.own e) → j ≠ i ∧ env[j]? = some (.own e) := fun {j e} q => by
        by_cases hj : i = j
        · subst hj
          rw [List.getElem?_set_self'] at q
          cases hh : env[i]? with
          | none => rw [hh] at q; cases q
          | some w => rw [hh] at q; cases q
        · rw [List.getElem?_set_ne hj] at q
          exact ⟨Ne.symm hj, q⟩
      refine ⟨⟨by rw [List.length_set, List.length_set]; exact E.len, fun j sl e => ?_, fun j l a b p h1 h2 h3 h4 => ?_⟩, fun p ⟨j, e, h1, h2⟩ => ?_⟩
      · by_cases hj : i = j
        · subst hj
          rw [List.getElem?_set_self'] at e
          cases hh : env[i]? with
          | none => rw [hh] at e; cases e
          | some w =>
            rw [hh] at e
            cases e
            have hlt : i < σ.length := by rw [← E.len]; exact (List.getElem?_eq_some_iff.mp hh).1
            exact ⟨some v, by rw [List.getElem?_set_self hlt], v, rfl, r1⟩
        · rw [List.getElem?_set_ne hj] at e ⊢
          exact E.sl j sl e
      · obtain ⟨n1, z1⟩ := own h1
        obtain ⟨n2, z2⟩ := own h2
        rw [List.getElem?_set_ne (Ne.symm n1)] at h3
        rw [List.getElem?_set_ne (Ne.symm n2)] at h4
        exact E.dj j l a b p z1 z2 h3 h4
      · obtain ⟨n1, z1⟩ := own h1
        rw [List.getElem?_set_ne (Ne.symm n1)] at h2
        exact ⟨j, e, z1, h2⟩
    obtain ⟨σ', a1, a2, a3, a4, a5, a6⟩ := setAll_ok (is := is) h r2 E1.1
    refine ⟨σ', a1, by rw [a2, List.length_set], fun j hj => ?_, fun p z => E1.2 p (a4 p z), by rw [List.length_cons, List.length_cons, a5], a6⟩
    rw [a3 j fun z => hj (List.mem_cons_of_mem _ z), List.getElem?_set_ne fun (z : i = j) => hj (by rw [z]; exact List.mem_cons_self)]
/-- a target's reading -/
def gT (K : PySem.W.Frag) (tg : Tg) : TG := fun v σ H Q => ∃ env d env', EnvR K H σ env ∧ Rp K H d v ∧ bindT env tg d = some env' ∧
  ∀ σ', EnvR K H σ' env' → σ'.length = σ.length → (∀ j, j ∉ tg.is → σ'[j]? = σ[j]?) → (∀ p, OwnA env' σ' p → OwnA env σ p) → Q σ' H
theorem pgs_of {X : Cx} {G : Ck} (O : XOk X G c) : ∀ {is : List Nat} {ts : List Expr}, ckTs G is ts = true → PGs X ts (fun vs σ H Q => vs.length = is.length ∧ Q ((is.zip vs).foldl (fun σ q => σ.set q.1 (some q.2)) σ) H) ∧ (assignEach ts X.env).length = is.length ∧ (assignEach ts X.env).findIdx? (·.1) = none
  | [], [], _ => ⟨⟨fun pins s σ H vs us Q I r h => pgs_nil.run pins s σ H vs us Q I r ⟨List.eq_nil_of_length_eq_zero h.1, by
      have := List.eq_nil_of_length_eq_zero h.1
      subst this
      exact h.2⟩⟩, rfl, rfl⟩
  | [], _ :: _, h => by cases h
  | _ :: _, [], h => by cases h
  | i :: is, t :: ts, h => by
    cases t <;> first | (cases h; done) | skip
    rename_i x p
    obtain ⟨h1, h2⟩ := and2 (show (stOk G i x && ckTs G is ts) = true from h)
    obtain ⟨k1, k2⟩ := and2 h1
    have hx : X.N[i]? = some x := by rw [O.n]; exact of_decide_eq_true k1
    have hl : L2.Loc X.env.scope x ∧ (X.fn x = true ∨ X.env.scope.names.lookup x = some .local) := by
      unfold L2.Loc
      rw [O.sc]
      unfold locB at k2
      split at k2
      · rename_i e; exact ⟨.inl e, .inr e⟩
      · rename_i e; exact ⟨.inr e, .inl (O.fn x k2)⟩
      · cases k2
    obtain ⟨a1, a2, a3⟩ := pgs_of O h2
    refine ⟨⟨fun pins s σ H vs us Q I r hq => ?_⟩, ?_, ?_⟩
    · refine (pgs_cons (pg_name O.nd hx hl.1 hl.2) a1).run pins s σ H vs us Q I r ?_
      obtain ⟨q1, q2⟩ := hq
      cases vs with
      | nil => simp at q1
      | cons v vr => exact ⟨v, vr, rfl, by simpa using q1, q2⟩
    · show (assignEach ts X.env).length + 1 = _
      rw [a2]; rfl
    · show ((false, assign (.Name x p) X.env) :: assignEach ts X.env).findIdx? (·.1) = none
      rw [List.findIdx?_cons]
      simp [a3]
theorem pg_of {X : Cx} {G : Ck} (O : XOk X G c) {tg : Tg} {t : Expr} (h : ckTg G tg t = true) : PG X t (gT X.K tg) := by
  cases tg with
  | nm i =>
    cases t <;> first | (cases h; done) | skip
    rename_i x p
    obtain ⟨k1, k2⟩ := and2 (show (decide (G.N[i]? = some x) && locB G x) = true from h)
    have hx : X.N[i]? = some x := by rw [O.n]; exact of_decide_eq_true k1
    have hl : L2.Loc X.env.scope x ∧ (X.fn x = true ∨ X.env.scope.names.lookup x = some .local) := by
      unfold L2.Loc
      rw [O.sc]
      unfold locB at k2
      split at k2
      · rename_i e; exact ⟨.inl e, .inr e⟩
      · rename_i e; exact ⟨.inr e, .inl (O.fn x k2)⟩
      · cases k2
    refine ⟨fun pins s σ H v u Q I r hq => (pg_name O.nd hx hl.1 hl.2).run pins s σ H v u Q I r ?_⟩
    obtain ⟨env, d, env', E, rd, hb, q⟩ := hq
    have hb' : setAll env [i] [d] = some env' := hb
    obtain ⟨σ', a1, a2, a3, a4, a5, a6⟩ := setAll_ok (vs := [v]) hb' (Rps.cons rd .nil) E
    subst a6
    exact q _ a1 a2 a3 a4
  | tp is =>
    cases t <;> first | (cases h; done) | skip
    rename_i ts k p
    obtain ⟨a1, a2, a3⟩ := pgs_of O (show ckTs G is ts = true from h)
    refine ⟨fun pins s σ H v u Q I r hq => (pg_tup O.calm a1 a2 a3).run pins s σ H v u Q I r ?_⟩
    obtain ⟨env, d, env', E, rd, hb, q⟩ := hq
    cases d with
    | tup ds =>
      obtain ⟨a, xs, rfl, t, rs⟩ := rd
      obtain ⟨σ', b1, b2, b3, b4, b5, b6⟩ := setAll_ok (show setAll env is ds = some env' from hb) rs E
      subst b6
      exact ⟨a, xs, rfl, t.sq, b5, b5, q _ b1 b2 b3 b4⟩
    | _ => cases hb
/-! ### comprehensions -/
theorem wipe_get (σ : St) : ∀ (vs : List Nat) (j : Nat), (wipe σ vs)[j]? = if j ∈ vs ∧ j < σ.length then some none else σ[j]?
  | [], j => by simp [wipe]
  | v :: vs, j => by
    unfold wipe
    have ih := wipe_get σ vs j
    by_cases hv : v = j
    · subst hv
      rw [List.getElem?_set_self', ih]
      by_cases hl : v < σ.length
      · by_cases hm : v ∈ vs
        · simp [hl, hm]
        · simp [hl, hm, List.getElem?_eq_getElem hl]
      · simp [hl, List.getElem?_eq_none (Nat.le_of_not_lt hl)]
    · rw [List.getElem?_set_ne hv, ih]
      by_cases hm : j ∈ vs
      · by_cases hl : j < σ.length
        · rw [if_pos ⟨hm, hl⟩, if_pos ⟨List.mem_cons_of_mem _ hm, hl⟩]
        · rw [if_neg fun z => hl z.2, if_neg fun z => hl z.2]
      · rw [if_neg fun z => hm z.1, if_neg fun z => by
          rcases List.mem_cons.mp z.1 with e | e
          · exact hv e.symm
          · exact hm e]
theorem wipe_same {σ σ2 : St} {vs : List Nat} (hl : σ2.length = σ.length) (h : ∀ j, j ∉ vs → σ2[j]? = (wipe σ vs)[j]?) : wipe σ2 vs = wipe σ vs := by
  refine List.ext_getElem? fun j => ?_
  rw [wipe_get, wipe_get]
  by_cases hm : j ∈ vs
  · by_cases hj : j < σ.length
    · rw [if_pos ⟨hm, by omega⟩, if_pos ⟨hm, hj⟩]
    · rw [if_neg fun z => hj (by have := z.2; omega), if_neg fun z => hj z.2, List.getElem?_eq_none (by omega), List.getElem?_eq_none (by omega)]
  · rw [if_neg fun z => hm z.1, if_neg fun z => hm z.1, h j hm, wipe_get, if_neg fun z => hm z.1]
theorem wipeE_get (env : Env) : ∀ (vs : List Nat) (j : Nat), (wipeE env vs)[j]? = if j ∈ vs ∧ j < env.length then some .un else env[j]?
  | [], j => by simp [wipeE]
  | v :: vs, j => by
    unfold wipeE
    have ih := wipeE_get env vs j
    by_cases hv : v = j
    · subst hv
      rw [List.getElem?_set_self', ih]
      by_cases hl : v < env.length
      · by_cases hm : v ∈ vs
        · simp [hl, hm]
        · simp [hl, hm, List.getElem?_eq_getElem hl]
      · simp [hl, List.getElem?_eq_none (Nat.le_of_not_lt hl)]
    · rw [List.getElem?_set_ne hv, ih]
      by_cases hm : j ∈ vs
      · by_cases hl : j < env.length
        · rw [if_pos ⟨hm, hl⟩, if_pos ⟨List.mem_cons_of_mem _ hm, hl⟩]
        · rw [if_neg fun z => hl z.2, if_neg fun z => hl z.2]
      · rw [if_neg fun z => hm z.1, if_neg fun z => by
          rcases List.mem_cons.mp z.1 with e | e
          · exact hv e.symm
          · exact hm e]
theorem wipeE_len (env : Env) : ∀ vs : List Nat, (wipeE env vs).length = env.length
  | [] => rfl
  | v :: vs => by unfold wipeE; rw [List.length_set, wipeE_len env vs]
theorem backE_get (old env : Env) (he : old.length = env.length) : ∀ (vs : List Nat) (j : Nat), (backE old env vs)[j]? = if j ∈ vs then old[j]? else env[j]?
  | [], j => by simp [backE]
  | v :: vs, j => by
    unfold backE
    have ih := backE_get old env he vs j
    by_cases hv : v = j
    · subst hv
      rw [List.getElem?_set_self', ih, if_pos List.mem_cons_self]
      by_cases hl : v < old.length
      · have e1 : old[v]? = some old[v] := List.getElem?_eq_getElem hl
        have e2 : env[v]? = some env[v] := List.getElem?_eq_getElem (by omega)
        have e3 : look old v = old[v] := by unfold look; rw [e1]; rfl
        rw [e3, e1, e2]
        split <;> rfl
      · rw [List.getElem?_eq_none (by omega), List.getElem?_eq_none (by omega)]
        split <;> rfl
    · rw [List.getElem?_set_ne hv, ih]
      by_cases hm : j ∈ vs
      · rw [if_pos hm, if_pos (List.mem_cons_of_mem _ hm)]
      · rw [if_neg hm, if_neg fun z => by
          rcases List.mem_cons.mp z with e | e
          · exact hv e.symm
          · exact hm e]
theorem backE_len (old env : Env) : ∀ vs : List Nat, (backE old env vs).length = env.length
  | [] => rfl
  | v :: vs => by unfold backE; rw [List.length_set, backE_len old env vs]
/-- a turn of a comprehension -/
def lcF (c : Cl) (own : List Nat) (tg : Tg) (cond : List E) (elt : E) : D → Env → Option (Option D × Env) := fun x env => match bindT (wipeE env own) tg x with
  | none => none
  | some env => match evAnd c cond .t env with
    | some (.dat (.bl true), env) => match ev c elt .v env with
      | none => none
      | some (o, env) => match toD env o with
        | some (d, env) => some (some d, env)
        | none => none
    | some (.dat (.bl false), env) => some (none, env)
    | _ => none
theorem lcF_inv {own : List Nat} {tg : Tg} {cond : List E} {elt : E} {x : D} {env : Env} {r : Option D} {env' : Env} (h : lcF c own tg cond elt x env = some (r, env')) :
    ∃ env1, bindT (wipeE env own) tg x = some env1 ∧ ((r = none ∧ evAnd c cond .t env1 = some (.dat (.bl false), env')) ∨
      ∃ env2 d, r = some d ∧ evAnd c cond .t env1 = some (.dat (.bl true), env2) ∧ (match ev c elt .v env2 with | none => none | some (o, env) => toD env o) = some (d, env')) := by
  unfold lcF at h
  cases e1 : bindT (wipeE env own) tg x with
  | none => rw [e1] at h; cases h
  | some env1 =>
    rw [e1] at h
    simp only at h
    refine ⟨env1, rfl, ?_⟩
    cases e2 : evAnd c cond .t env1 with
    | none => rw [e2] at h; cases h
    | some oe =>
      obtain ⟨o, env2⟩ := oe
      obtain ⟨b, rfl⟩ := and_bl e2
      rw [e2] at h
      cases b with
      | false => cases h; exact .inl ⟨rfl, rfl⟩
      | true =>
        simp only at h
        cases e3 : ev c elt .v env2 with
        | none => rw [e3] at h; cases h
        | some oe =>
          obtain ⟨o, env3⟩ := oe
          rw [e3] at h
          simp only at h
          cases e4 : toD env3 o with
          | none => rw [e4] at h; cases h
          | some de =>
            obtain ⟨d, env4⟩ := de
            rw [e4] at h
            cases h
            exact .inr ⟨env2, d, rfl, rfl, by rw [e3]; exact e4⟩
theorem EnvR.wipe {K : PySem.W.Frag} {H : Hp} {σ σ2 : St} {env : Env} {own : List Nat} (E : EnvR K H σ2 env) (hl : σ2.length = σ.length) (hs : ∀ j, j ∉ own → σ2[j]? = σ[j]?) :
    EnvR K H (L2.wipe σ own) (wipeE env own) ∧ ∀ p, OwnA (wipeE env own) (L2.wipe σ own) p → OwnA env σ2 p := by
  have get : ∀ {j : Nat} {sl : Slot}, (wipeE env own)[j]? = some sl → (j ∈ own ∧ sl = .un ∧ j < env.length) ∨ (j ∉ own ∧ env[j]? = some sl) := fun {j sl} e => by
    rw [wipeE_get] at e
    by_cases hm : j ∈ own
    · by_cases hj : j < env.length
      · rw [if_pos ⟨hm, hj⟩] at e; cases e; exact .inl ⟨hm, rfl, hj⟩
      · rw [if_neg fun z => hj z.2, List.getElem?_eq_none (by omega)] at e; cases e
    · rw [if_neg fun z => hm z.1] at e; exact .inr ⟨hm, e⟩
  have gets : ∀ {j : Nat}, j ∉ own → (L2.wipe σ own)[j]? = σ2[j]? := fun {j} hm => by rw [wipe_get, if_neg fun z => hm z.1, hs j hm]
  have own' : ∀ {j : Nat} {d : D}, (wipeE env own)[j]? = some (.own d) → j ∉ own ∧ env[j]? = some (.own d) := fun {j d} e => by
    rcases get e with ⟨_, z, _⟩ | z
    · cases z
    · exact z
  refine ⟨⟨by rw [wipeE_len, wipe_length, E.len, hl], fun j sl e => ?_, fun j l a b p h1 h2 h3 h4 => ?_⟩, fun p ⟨j, d, h1, h2⟩ => ?_⟩
  · rcases get e with ⟨hm, rfl, hj⟩ | ⟨hm, e⟩
    · have : j < (L2.wipe σ own).length := by rw [wipe_length, ← hl, ← E.len]; exact hj
      exact ⟨_, List.getElem?_eq_getElem this, trivial⟩
    · rw [gets hm]; exact E.sl j sl e
  · obtain ⟨n1, z1⟩ := own' h1
    obtain ⟨n2, z2⟩ := own' h2
    rw [gets n1] at h3
    rw [gets n2] at h4
    exact E.dj j l a b p z1 z2 h3 h4
  · obtain ⟨n1, z1⟩ := own' h1
    rw [gets n1] at h2
    exact ⟨j, d, z1, h2⟩
theorem wipe_wipe (σ : St) (own : List Nat) : L2.wipe (L2.wipe σ own) own = L2.wipe σ own := wipe_same (wipe_length σ own) fun _ _ => rfl
/-- the reading of a comprehension -/
theorem lc_read {K : PySem.W.Frag} {own : List Nat} {tg : Tg} {cond : List E} {elt : E} {σ : St} {H0 H1 : Hp} {env0 env1 envF : Env} {xs total : List D} {J : It} {Q : VK} (htg : ∀ j ∈ tg.is, j ∈ own)
    (E1 : EnvR K H1 σ env1) (t1 : Tr σ H0 env0 σ H1 env1) (hJ : ItOk K H1 J xs) (hl : lcLoop (lcF c own tg cond elt) xs env1 = some (total, envF)) (hz : total.length ≤ line)
    (q : ∀ v H', Po K σ H0 env0 (.own (.lst total)) (backE env1 envF own) v H' → Q v H') :
    ∀ D, H1 D = none → ∃ W : Nat → Nat → Hp → Prop, (∃ m, W 0 m (upd H1 D (.lst []))) ∧ ∀ i m H, W i m H →
      (J.stop i H ∧ Q (.ref D) H) ∨ (J.go i H ∧ ∃ Nx : Hp → Prop, (∀ H', Nx H' → ∃ m', m' < m ∧ W (i + 1) m' H') ∧ ∀ x H', J.yld i H x H' → gT K tg x (L2.wipe σ own) H' fun σ2 H2 => L2.wipe σ2 own = L2.wipe σ own ∧ tT K (evAnd c cond .t) σ2 H2 fun b H3 =>
        if b = true then tD K (fun env => match ev c elt .v env with | none => none | some (o, env) => toD env o) σ2 H3 fun y H4 => ∃ acc, H4 D = some (.lst acc) ∧ acc.length < sizeLine ∧ Nx (upd H4 D (.lst (acc ++ [y]))) else Nx H3) := by
  intro D hD
  have sD : Same H1 (upd H1 D (.lst [])) := same_new hD
  -- what holds at a turn
  let P : Nat → Hp → Prop := fun i H => ∃ env accD rest acc, lcLoop (lcF c own tg cond elt) (xs.drop i) env = some (rest, envF) ∧ EnvR K H (L2.wipe σ own) (wipeE env own) ∧ H D = some (.lst acc) ∧ Rps K H accD acc ∧ accD ++ rest = total ∧
    Tr σ H1 env1 (L2.wipe σ own) H (wipeE env own) ∧ ¬ OwnA (wipeE env own) (L2.wipe σ own) D ∧ (∀ p, OwnA (wipeE env own) (L2.wipe σ own) p → OwnA (wipeE env1 own) (L2.wipe σ own) p ∨ H1 p = none) ∧ (∀ b u, H1 b = some u → ¬ OwnA (wipeE env1 own) (L2.wipe σ own) b → H b = some u)
  obtain ⟨w1, w2⟩ := EnvR.wipe (own := own) E1 rfl (fun _ _ => rfl)
  have nD1 : ¬ OwnA env1 σ D := fun z => by
    obtain ⟨u, e, _⟩ := E1.nfrz z
    rw [hD] at e; cases e
  have p0 : P 0 (upd H1 D (.lst [])) := by
    refine ⟨env1, [], total, [], hl, w1.same sD, upd_same, .nil, rfl, ⟨fun b u e _ => sD b u e, fun p z => .inl (w2 p z)⟩, fun z => nD1 (w2 D z), fun p z => .inl z, fun b u e _ => sD b u e⟩
  refine ⟨fun i m H => m = xs.length - i ∧ i ≤ xs.length ∧ P i H, ⟨xs.length, by simp, Nat.zero_le _, p0⟩, ?_⟩
  rintro i m H ⟨rfl, hi, env, accD, rest, acc, hlp, EH, hDa, hacc, htot, tr, nD, ow, fr⟩
  have kp1 : Kp H1 H := fun a ob u e => fr a _ e fun z => by
    obtain ⟨u', e', n⟩ := w1.nfrz z
    rw [e] at e'; cases e'
    exact n _ _ rfl
  by_cases hlt : i < xs.length
  · refine .inr ⟨(hJ i H kp1).1 hlt |>.1, P (i + 1), fun H' p => ⟨xs.length - (i + 1), by omega, rfl, hlt, p⟩, fun x H' y => ?_⟩
    obtain ⟨e, d, hd, rd⟩ := ((hJ i H kp1).1 hlt).2 x H' y
    subst e
    have hdrop : xs.drop i = d :: xs.drop (i + 1) := by
      rw [List.drop_eq_getElem_cons hlt]
      have : xs[i] = d := by rw [List.getElem?_eq_getElem hlt] at hd; exact Option.some.inj hd
      rw [this]
    rw [hdrop] at hlp
    simp only [lcLoop] at hlp
    cases ef : lcF c own tg cond elt d env with
    | none => rw [ef] at hlp; cases hlp
    | some re =>
      obtain ⟨r, envN⟩ := re
      rw [ef] at hlp
      obtain ⟨envB, hb, hcase⟩ := lcF_inv ef
      refine ⟨wipeE env own, d, envB, EH, rd, hb, fun σ2 E2 l2 s2 o2 => ⟨?_, ?_⟩⟩
      · rw [← wipe_wipe σ own]
        exact wipe_same l2 fun j hj => by rw [wipe_get (L2.wipe σ own), if_neg fun z => hj z.1, s2 j fun z => hj (htg j z)]
      · have hs2 : ∀ j, j ∉ own → σ2[j]? = (L2.wipe σ own)[j]? := fun j hj => s2 j fun z => hj (htg j z)
        rcases hcase with ⟨rfl, ec⟩ | ⟨envC, dd, rfl, ec, ee⟩
        · refine ⟨envB, false, envN, E2, ec, fun H3 E3 t3 => ?_⟩
          dsimp only
          rw [if_neg Bool.false_ne_true]
          obtain ⟨v1, v2⟩ := EnvR.wipe (σ := L2.wipe σ own) (own := own) E3 l2 hs2
          rw [wipe_wipe] at v1 v2
          have nDB : ¬ OwnA envB σ2 D := fun z => nD (o2 D z)
          have up : ∀ p, OwnA (wipeE envN own) (L2.wipe σ own) p → OwnA (wipeE env own) (L2.wipe σ own) p ∨ H' p = none := fun p z => (t3.s p (v2 p z)).imp (o2 p) id
          have frB : ∀ b u, H' b = some u → ¬ OwnA (wipeE env own) (L2.wipe σ own) b → H3 b = some u := fun b u e n => t3.f b u e fun z => n (o2 b z)
          have trB : Tr (L2.wipe σ own) H' (wipeE env own) (L2.wipe σ own) H3 (wipeE envN own) := ⟨frB, up⟩
          have hD3 : H3 D = some (.lst acc) := frB D _ hDa nD
          refine ⟨envN, accD, rest, acc, hlp, v1, hD3, hacc.mono (t3.kp E2), htot, tr.trans trB, fun z => ?_, fun p z => ?_, fun b u e n => ?_⟩
          · rcases up D z with z | z
            · exact nD z
            · rw [hDa] at z; cases z
          · rcases up p z with z | z
            · exact ow p z
            · by_cases n : OwnA (wipeE env1 own) (L2.wipe σ own) p
              · exact .inl n
              · refine .inr ?_
                cases e : H1 p with
                | none => rfl
                | some u => rw [fr p u e n] at z; cases z
          · refine frB b u (fr b u e n) fun z => ?_
            rcases ow b z with z | z
            · exact n z
            · rw [e] at z; cases z
        · refine ⟨envB, true, envC, E2, ec, fun H3 E3 t3 => ?_⟩
          dsimp only
          rw [if_pos rfl]
          refine ⟨envC, dd, envN, E3, ee, fun y H4 E4 t4 ry => ?_⟩
          have t34 := t3.trans t4
          obtain ⟨v1, v2⟩ := EnvR.wipe (σ := L2.wipe σ own) (own := own) E4 l2 hs2
          rw [wipe_wipe] at v1 v2
          have up : ∀ p, OwnA (wipeE envN own) (L2.wipe σ own) p → OwnA (wipeE env own) (L2.wipe σ own) p ∨ H' p = none := fun p z => (t34.s p (v2 p z)).imp (o2 p) id
          have frB : ∀ b u, H' b = some u → ¬ OwnA (wipeE env own) (L2.wipe σ own) b → H4 b = some u := fun b u e n => t34.f b u e fun z => n (o2 b z)
          have hD4 : H4 D = some (.lst acc) := frB D _ hDa nD
          have nD4 : ¬ OwnA (wipeE envN own) (L2.wipe σ own) D := fun z => by
            rcases up D z with z | z
            · exact nD z
            · rw [hDa] at z; cases z
          cases er : lcLoop (lcF c own tg cond elt) (xs.drop (i + 1)) envN with
          | none => simp only [er] at hlp; cases hlp
          | some rr =>
            obtain ⟨rest', envF'⟩ := rr
            simp only [er] at hlp
            cases hlp
            have hla : acc.length < sizeLine := by
              have h1 : total.length = accD.length + (rest'.length + 1) := by rw [← htot, List.length_append, List.length_cons]
              rw [hacc.length, ← line_eq]
              omega
            refine ⟨acc, hD4, hla, ?_⟩
            have kD : Kp H4 (upd H4 D (.lst (acc ++ [y]))) := upd_kp fun ob u e => by rw [hD4] at e; cases e
            have oth : ∀ b u, b ≠ D → H4 b = some u → upd H4 D (.lst (acc ++ [y])) b = some u := fun b u n e => by rw [upd_ne n]; exact e
            refine ⟨envN, accD ++ [dd], rest', acc ++ [y], er, ⟨v1.len, fun j sl e => ?_, v1.dj⟩, upd_same, ((hacc.mono (t34.kp E2)).append (.cons ry .nil)).mono kD, by rw [← htot]; simp, ⟨fun b u e n => ?_, fun p z => ?_⟩, nD4, fun p z => ?_, fun b u e n => ?_⟩
            · obtain ⟨x', e2, rr⟩ := v1.sl j sl e
              refine ⟨x', e2, ?_⟩
              cases sl with
              | un => trivial
              | val d => obtain ⟨v, e3, rr⟩ := rr; exact ⟨v, e3, rr.mono kD⟩
              | own d2 =>
                obtain ⟨p2, e3, rr⟩ := rr
                subst e3
                refine ⟨p2, rfl, rr.keep kD fun u qq => oth p2 u ?_ qq⟩
                rintro rfl
                exact nD4 ⟨j, d2, e, e2⟩
            · refine oth b u ?_ (frB b u (tr.f b u e n) fun z => ?_)
              · rintro rfl; rw [hD] at e; cases e
              · rcases tr.s b z with z | z
                · exact n z
                · rw [e] at z; cases z
            · rcases up p z with z | z
              · exact tr.s p z
              · exact (tr.fresh z).symm
            · rcases up p z with z | z
              · exact ow p z
              · by_cases n : OwnA (wipeE env1 own) (L2.wipe σ own) p
                · exact .inl n
                · refine .inr ?_
                  cases e : H1 p with
                  | none => rfl
                  | some u => rw [fr p u e n] at z; cases z
            · refine oth b u ?_ (frB b u (fr b u e n) fun z => ?_)
              · rintro rfl; rw [hD] at e; cases e
              · rcases ow b z with z | z
                · exact n z
                · rw [e] at z; cases z
  · have e : i = xs.length := by omega
    subst e
    refine .inl ⟨(hJ _ H kp1).2 rfl, ?_⟩
    rw [List.drop_length] at hlp
    simp only [lcLoop] at hlp
    cases hlp
    rw [List.append_nil] at htot
    subst htot
    -- the names of the block as they stood
    have hlen : env1.length = envF.length := by
      have a := EH.len
      rw [wipeE_len, wipe_length] at a
      rw [a, E1.len]
    have bget := backE_get env1 envF hlen own
    have kept : ∀ j d p, j ∈ own → env1[j]? = some (.own d) → σ[j]? = some (some (.ref p)) → H p = H1 p := fun j d p hj h1 h2 => by
      have o1 : OwnA env1 σ p := ⟨j, d, h1, h2⟩
      obtain ⟨u, e, _⟩ := E1.nfrz o1
      rw [e]
      refine fr p u e fun ⟨l, b, k1, k2⟩ => ?_
      rw [wipeE_get] at k1
      by_cases hm : l ∈ own
      · by_cases hl' : l < env1.length
        · rw [if_pos ⟨hm, hl'⟩] at k1; cases k1
        · rw [if_neg fun z => hl' z.2, List.getElem?_eq_none (by omega)] at k1; cases k1
      · rw [if_neg fun z => hm z.1] at k1
        rw [wipe_get, if_neg fun z => hm z.1] at k2
        have := E1.dj l j b d p k1 h1 k2 h2
        subst this
        exact hm hj
    have outs : ∀ {j : Nat} {sl : Slot}, j ∉ own → envF[j]? = some sl → (wipeE envF own)[j]? = some sl ∧ (L2.wipe σ own)[j]? = σ[j]? := fun {j sl} hj e => by
      rw [wipeE_get, if_neg fun z => hj z.1, wipe_get, if_neg fun z => hj z.1]
      exact ⟨e, rfl⟩
    have ownB : ∀ p, OwnA (backE env1 envF own) σ p → (∃ j d, j ∈ own ∧ env1[j]? = some (.own d) ∧ σ[j]? = some (some (.ref p))) ∨ OwnA (wipeE envF own) (L2.wipe σ own) p := fun p ⟨j, d, h1, h2⟩ => by
      rw [bget j] at h1
      by_cases hj : j ∈ own
      · rw [if_pos hj] at h1; exact .inl ⟨j, d, hj, h1, h2⟩
      · rw [if_neg hj] at h1
        obtain ⟨k1, k2⟩ := outs hj h1
        exact .inr ⟨j, d, k1, by rw [k2]; exact h2⟩
    have EB : EnvR K H σ (backE env1 envF own) := by
      refine ⟨by rw [backE_len, ← hlen, E1.len], fun j sl e => ?_, fun j l a b p h1 h2 h3 h4 => ?_⟩
      · rw [bget j] at e
        by_cases hj : j ∈ own
        · rw [if_pos hj] at e
          obtain ⟨x', e2, rr⟩ := E1.sl j sl e
          refine ⟨x', e2, ?_⟩
          cases sl with
          | un => trivial
          | val d => obtain ⟨v, e3, rr⟩ := rr; exact ⟨v, e3, rr.mono kp1⟩
          | own d2 =>
            obtain ⟨p2, e3, rr⟩ := rr
            subst e3
            exact ⟨p2, rfl, rr.keep kp1 fun u qq => by rw [kept j d2 p2 hj e e2]; exact qq⟩
        · rw [if_neg hj] at e
          obtain ⟨k1, k2⟩ := outs hj e
          rw [← k2]
          exact EH.sl j sl k1
      · rw [bget j] at h1
        rw [bget l] at h2
        by_cases hj : j ∈ own
        · rw [if_pos hj] at h1
          by_cases hl' : l ∈ own
          · rw [if_pos hl'] at h2
            exact E1.dj j l a b p h1 h2 h3 h4
          · rw [if_neg hl'] at h2
            obtain ⟨k1, k2⟩ := outs hl' h2
            exfalso
            have o1 : OwnA env1 σ p := ⟨j, a, h1, h3⟩
            rcases ow p ⟨l, b, k1, by rw [k2]; exact h4⟩ with ⟨i', d', z1, z2⟩ | z
            · rw [wipeE_get] at z1
              by_cases hm : i' ∈ own
              · by_cases hx : i' < env1.length
                · rw [if_pos ⟨hm, hx⟩] at z1; cases z1
                · rw [if_neg fun z => hx z.2, List.getElem?_eq_none (by omega)] at z1; cases z1
              · rw [if_neg fun z => hm z.1] at z1
                rw [wipe_get, if_neg fun z => hm z.1] at z2
                have := E1.dj i' j d' a p z1 h1 z2 h3
                subst this
                exact hm hj
            · obtain ⟨u, e, _⟩ := E1.nfrz o1
              rw [z] at e; cases e
        · rw [if_neg hj] at h1
          obtain ⟨k1, k2⟩ := outs hj h1
          by_cases hl' : l ∈ own
          · rw [if_pos hl'] at h2
            exfalso
            have o1 : OwnA env1 σ p := ⟨l, b, h2, h4⟩
            rcases ow p ⟨j, a, k1, by rw [k2]; exact h3⟩ with ⟨i', d', z1, z2⟩ | z
            · rw [wipeE_get] at z1
              by_cases hm : i' ∈ own
              · by_cases hx : i' < env1.length
                · rw [if_pos ⟨hm, hx⟩] at z1; cases z1
                · rw [if_neg fun z => hx z.2, List.getElem?_eq_none (by omega)] at z1; cases z1
              · rw [if_neg fun z => hm z.1] at z1
                rw [wipe_get, if_neg fun z => hm z.1] at z2
                have := E1.dj i' l d' b p z1 h2 z2 h4
                subst this
                exact hm hl'
            · obtain ⟨u, e, _⟩ := E1.nfrz o1
              rw [z] at e; cases e
          · rw [if_neg hl'] at h2
            obtain ⟨k3, k4⟩ := outs hl' h2
            exact EH.dj j l a b p k1 k3 (by rw [k2]; exact h3) (by rw [k4]; exact h4)
    have nDB : ¬ OwnA (backE env1 envF own) σ D := fun z => by
      rcases ownB D z with ⟨j, d, hj, h1, h2⟩ | z
      · exact nD1 ⟨j, d, h1, h2⟩
      · exact nD z
    refine q _ H ⟨EB, t1.trans ⟨fun b u e n => tr.f b u e n, fun p z => ?_⟩, ⟨D, rfl, ⟨acc, hDa, hacc⟩, nDB⟩, fun d p e1 e2 => ?_⟩
    · rcases ownB p z with ⟨j, d, hj, h1, h2⟩ | z
      · exact .inl ⟨j, d, h1, h2⟩
      · exact tr.s p z
    · cases e2
      exact t1.fresh hD
/-! ### what is walked -/
theorem itr_ok {K : PySem.W.Frag} {H : Hp} (a b : Int) : ItOk K H (Itr a (b - a).toNat) (rngL a b 1) := fun i H2 _ => by
  have e : ((b - a + 1 - 1) / 1).toNat = (b - a).toNat := by rw [Int.ediv_one]; congr 1; omega
  have hl : (rngL a b 1).length = (b - a).toNat := by
    unfold rngL
    rw [if_pos (by decide), List.length_map, List.length_range, e]
  refine ⟨fun hi => ?_, fun hi => ?_⟩
  · rw [hl] at hi
    refine ⟨hi, fun x H3 y => ?_⟩
    obtain ⟨e1, e2⟩ := y
    refine ⟨e1, .int (a + 1 * (i : Int)), ?_, ?_⟩
    · unfold rngL
      rw [if_pos (by decide), List.getElem?_map, e, List.getElem?_range hi]
      rfl
    · rw [e2, Int.one_mul]; rfl
  · rw [hl] at hi
    show (b - a).toNat ≤ i
    omega
theorem rng_inv {es : List E} {env : Env} {o : Opd} {env' : Env} (h : ev c (.rng es) .i env = some (o, env')) : ∃ ds xs, evds c es env = some (ds, env') ∧ rngD ds = some xs ∧ o = .dat (.tup xs) := by
  simp only [ev] at h
  cases e1 : evds c es env with
  | none => rw [e1] at h; cases h
  | some de =>
    obtain ⟨ds, env1⟩ := de
    rw [e1] at h
    simp only at h
    cases e2 : rngD ds with
    | none => rw [e2] at h; cases h
    | some xs =>
      rw [e2] at h
      cases h
      exact ⟨ds, xs, rfl, e2, rfl⟩
theorem pi_rng {X : Cx} {G : Ck} (O : XOk X G c) {es : List E} (hs : ∀ e ∈ es, SE c e) {x : Str} {p pos : Pos} {args : List Expr} (h : (decide (x = "range") && blOk G x && (decide (es.length = 1) || decide (es.length = 2)) && ckEs es G args) = true) (tg : Expr) :
    PI X tg (.Call (.Name x p) args [] pos) (tI X.K (ev c (.rng es) .i)) := by
  obtain ⟨h1, h2⟩ := and2 h
  obtain ⟨h3, h4⟩ := and2 h1
  obtain ⟨h5, h6⟩ := and2 h3
  have ex : x = "range" := of_decide_eq_true h5
  subst ex
  obtain ⟨g1, g2, g3⟩ := bl_of O h6
  have hp := pa_ds O hs h2
  have hlen := len_of h2
  rw [Bool.or_eq_true, decide_eq_true_eq, decide_eq_true_eq] at h4
  have ok1 : ∀ {i : Int}, okR i = true → -(2 ^ 62) ≤ i ∧ i < 2 ^ 62 := fun {i} h => by unfold okR at h; simpa using h
  match es, args, h4, hlen, h2, hs, hp with
  | [e], [a], h4, hlen, h2, hs, hp =>
    obtain ⟨k1, k2⟩ := and2 (show (ckE e G a && ckEs [] G []) = true from h2)
    refine PI.imp (pi_range1 g1 g2 hp (star_of k1 _)) fun σ H R ⟨env, xs, env', E, hf, q⟩ => ?_
    obtain ⟨ds, xs', e1, e2, e3⟩ := rng_inv hf
    cases e3
    refine ⟨env, ds, env', E, e1, fun vs H1 E1 t1 r1 => ?_⟩
    have hl1 := r1.length
    match ds, e2, r1 with
    | [.int b], e2, r1 =>
      obtain ⟨v, r, rfl, rv, rr⟩ := r1
      have : r = [] := rr
      subst this
      have : v = .int b := rv
      subst this
      simp only [rngD] at e2
      split at e2
      · rename_i hk
        cases e2
        obtain ⟨b1, b2⟩ := ok1 hk
        refine ⟨b, rfl, b1, b2, q _ _ E1 t1 ?_⟩
        have := itr_ok (K := X.K) (H := H1) 0 b
        rwa [Int.sub_zero] at this
      · cases e2
    | [.int a, .int b], e2, r1 =>
      exfalso
      simp only [evds] at e1
      split at e1
      · cases e1
      · split at e1
        · cases e1
        · cases e1
    | [.int a, .int b, .int d], e2, r1 =>
      exfalso
      simp only [evds] at e1
      split at e1
      · cases e1
      · split at e1
        · cases e1
        · cases e1
  | [e, f], [a, b], h4, hlen, h2, hs, hp =>
    obtain ⟨k1, k2⟩ := and2 (show (ckE e G a && ckEs [f] G [b]) = true from h2)
    obtain ⟨k3, k4⟩ := and2 (show (ckE f G b && ckEs [] G []) = true from k2)
    refine PI.imp (pi_range2 g1 g2 hp (by rw [star_of k1, star_of k3]; rfl) (star_of k3 _)) fun σ H R ⟨env, xs, env', E, hf, q⟩ => ?_
    obtain ⟨ds, xs', e1, e2, e3⟩ := rng_inv hf
    cases e3
    refine ⟨env, ds, env', E, e1, fun vs H1 E1 t1 r1 => ?_⟩
    have hlds : ds.length = 2 := by
      simp only [evds] at e1
      split at e1
      · cases e1
      · split at e1
        · cases e1
        · split at e1
          · cases e1
          · rename_i h'
            split at h'
            · cases h'
            · split at h'
              · cases h'
              · cases h'
                cases e1
                rfl
    match ds, hlds, e2, r1 with
    | [.int a, .int b], hlds, e2, r1 =>
      obtain ⟨v, r, rfl, rv, rr⟩ := r1
      obtain ⟨v2, r2, rfl, rv2, rr2⟩ := rr
      have : r2 = [] := rr2
      subst this
      have : v = .int a := rv
      subst this
      have : v2 = .int b := rv2
      subst this
      simp only [rngD] at e2
      split at e2
      · rename_i hk
        cases e2
        obtain ⟨hk1, hk2⟩ := and2 hk
        obtain ⟨b1, b2⟩ := ok1 hk1
        obtain ⟨b3, b4⟩ := ok1 hk2
        exact ⟨a, b, rfl, ⟨b1, b2, b3, b4⟩, q _ _ E1 t1 (itr_ok a b)⟩
      · cases e2
theorem ev_i {e : E} (h1 : isIteE e = false) (h2 : ∀ es, e ≠ .rng es) : ev c e .i = fun env => fin .i (ev c e .v env) := by
  funext env
  cases e <;> first | rfl | (cases h1; done) | exact (h2 _ rfl).elim
theorem nofold {e : E} {G : Ck} {x : Expr} (h : ckI e G x = true) (env : PySem.Env) (v : Value) : foldedSetIterable x env v = pure v := by
  cases x <;> first | rfl | (exfalso; cases e <;> first | (cases h; done) | (rename_i src _ _; cases src <;> cases h))
theorem pi_of {X : Cx} {G : Ck} (O : XOk X G c) {src : E} (hs : SE c src) (hr : ∀ es, src = .rng es → ∀ e ∈ es, SE c e) {x : Expr} (h : ckI src G x = true) (tg : Expr) : PI X tg x (tI X.K (ev c src .i)) := by
  by_cases hq : ∃ es, src = .rng es
  · obtain ⟨es, rfl⟩ := hq
    cases x <;> first | (cases h; done) | skip
    rename_i f args kws pos
    cases f <;> first | (cases h; done) | skip
    cases kws <;> first | (cases h; done) | skip
    exact pi_rng O (hr es rfl) h tg
  · have hn : ∀ es, src ≠ .rng es := fun es z => hq ⟨es, z⟩
    have h' : (!isIteE src && ckE src G x) = true := by
      unfold ckI at h
      split at h
      · exact absurd rfl (hn _)
      · exact h
    obtain ⟨k1, k2⟩ := and2 h'
    rw [ev_i (by simpa using k1) hn]
    exact pi_fin (hs X G O x k2).1
end
end PF
/-! PF10B: comprehensions of two clauses. -/
namespace PF
open PySem PySem.Spec PyProof.Rows L2
section
variable {c : Cl}
/-- where a comprehension stands: the names' values, what the new list at P holds -/
structure LSt (K : PySem.W.Frag) (τ : St) (own : List Nat) (H1 : Hp) (e1 : Env) (P : Addr) (σ : St) (H : Hp) (env : Env) (accD : List D) : Prop where
  len : σ.length = τ.length
  out : ∀ j, j ∉ own → σ[j]? = τ[j]?
  e : EnvR K H σ env
  acc : ∃ acc, H P = some (.lst acc) ∧ Rps K H accD acc
  tr : Tr τ H1 e1 σ H env
  nd : ¬ OwnA env σ P
section
variable {K : PySem.W.Frag} {τ σ σ2 : St} {own : List Nat} {H1 H H' : Hp} {e1 env env' : Env} {P : Addr} {accD : List D}
theorem LSt.ev (L : LSt K τ own H1 e1 P σ H env accD) (E : EnvR K H' σ env') (t : Tr σ H env σ H' env') : LSt K τ own H1 e1 P σ H' env' accD := by
  obtain ⟨acc, h, r⟩ := L.acc
  refine ⟨L.len, L.out, E, ⟨acc, t.f P _ h L.nd, r.mono (t.kp L.e)⟩, L.tr.trans t, fun z => ?_⟩
  rcases t.s P z with z | z
  · exact L.nd z
  · rw [h] at z; cases z
theorem LSt.wipe (L : LSt K τ own H1 e1 P σ H env accD) {vs : List Nat} (hv : ∀ j ∈ vs, j ∈ own) : LSt K τ own H1 e1 P (L2.wipe σ vs) H (wipeE env vs) accD := by
  obtain ⟨w1, w2⟩ := EnvR.wipe (own := vs) L.e rfl (fun _ _ => rfl)
  refine ⟨by rw [wipe_length, L.len], fun j hj => ?_, w1, L.acc, ⟨L.tr.f, fun p z => L.tr.s p (w2 p z)⟩, fun z => L.nd (w2 P z)⟩
  rw [wipe_get, if_neg fun z => hj (hv j z.1), L.out j hj]
theorem LSt.bind (L : LSt K τ own H1 e1 P σ H env accD) (E : EnvR K H σ2 env') (l : σ2.length = σ.length) (s : ∀ j, j ∉ own → σ2[j]? = σ[j]?) (o : ∀ p, OwnA env' σ2 p → OwnA env σ p) : LSt K τ own H1 e1 P σ2 H env' accD :=
  ⟨l.trans L.len, fun j hj => (s j hj).trans (L.out j hj), E, L.acc, ⟨L.tr.f, fun p z => L.tr.s p (o p z)⟩, fun z => L.nd (o P z)⟩
theorem LSt.push (L : LSt K τ own H1 e1 P σ H env accD) (hP : H1 P = none) {d : D} {y : V} (ry : Rp K H d y) : ∃ acc, H P = some (.lst acc) ∧ acc.length = accD.length ∧ LSt K τ own H1 e1 P σ (upd H P (.lst (acc ++ [y]))) env (accD ++ [d]) ∧ Kp H (upd H P (.lst (acc ++ [y]))) := by
  obtain ⟨acc, h, r⟩ := L.acc
  have kD : Kp H (upd H P (.lst (acc ++ [y]))) := upd_kp fun ob u e => by rw [h] at e; cases e
  have oth : ∀ b u, b ≠ P → H b = some u → upd H P (.lst (acc ++ [y])) b = some u := fun b u n e => by rw [upd_ne n]; exact e
  refine ⟨acc, h, r.length, ⟨L.len, L.out, ⟨L.e.len, fun j sl e => ?_, L.e.dj⟩, ⟨_, upd_same, (r.append (.cons ry .nil)).mono kD⟩, ⟨fun b u e n => oth b u ?_ (L.tr.f b u e n), L.tr.s⟩, L.nd⟩, kD⟩
  · obtain ⟨x', e2, rr⟩ := L.e.sl j sl e
    refine ⟨x', e2, ?_⟩
    cases sl with
    | un => trivial
    | val d => obtain ⟨v, e3, rr⟩ := rr; exact ⟨v, e3, rr.mono kD⟩
    | own d2 =>
      obtain ⟨p2, e3, rr⟩ := rr
      subst e3
      refine ⟨p2, rfl, rr.keep kD fun u qq => oth p2 u ?_ qq⟩
      rintro rfl
      exact L.nd ⟨j, d2, e, e2⟩
  · rintro rfl; rw [hP] at e; cases e
theorem LSt.kp (L : LSt K τ own H1 e1 P σ H env accD) (E : EnvR K H1 τ e1) : Kp H1 H := L.tr.kp E
end
theorem LSt.rewipe {K : PySem.W.Frag} {σ σ3 : St} {own : List Nat} {H1 H : Hp} {e1 env : Env} {P : Addr} {accD : List D} (L : LSt K (L2.wipe σ own) own H1 e1 P σ3 H env accD) : LSt K (L2.wipe σ own) own H1 e1 P (L2.wipe σ own) H (wipeE env own) accD := by
  have h := L.wipe (vs := own) fun _ h => h
  rwa [wipe_same (by rw [L.len, wipe_length]) L.out] at h
theorem wipeE_two (env : Env) {vs own : List Nat} (hv : ∀ j ∈ vs, j ∈ own) : wipeE (wipeE env vs) own = wipeE env own := by
  apply List.ext_getElem?
  intro j
  rw [wipeE_get, wipeE_get, wipeE_len, wipeE_get]
  by_cases h : j ∈ own ∧ j < env.length
  · rw [if_pos h, if_pos h]
  · rw [if_neg h, if_neg h, if_neg fun z => h ⟨hv j z.1, z.2⟩]
/-- the names of a comprehension as they stood -/
theorem lc_end {K : PySem.W.Frag} {own : List Nat} {σ : St} {H0 H1 H : Hp} {env0 env1 envF : Env} {total : List D} {P : Addr} (E1 : EnvR K H1 σ env1) (t1 : Tr σ H0 env0 σ H1 env1) (hP : H1 P = none)
    (L : LSt K (L2.wipe σ own) own H1 (wipeE env1 own) P (L2.wipe σ own) H (wipeE envF own) total) : Po K σ H0 env0 (.own (.lst total)) (backE env1 envF own) (.ref P) H := by
  obtain ⟨w1, w2⟩ := EnvR.wipe (own := own) E1 rfl (fun _ _ => rfl)
  have EH := L.e
  have nD := L.nd
  have ow := L.tr.s
  have fr := L.tr.f
  obtain ⟨acc, hDa, hacc⟩ := L.acc
  have kp1 : Kp H1 H := L.kp w1
  have nD1 : ¬ OwnA env1 σ P := fun z => by
    obtain ⟨u, e, _⟩ := E1.nfrz z
    rw [hP] at e; cases e
  have hlen : env1.length = envF.length := by
    have a := EH.len
    rw [wipeE_len, wipe_length] at a
    rw [a, E1.len]
  have bget := backE_get env1 envF hlen own
  have kept : ∀ j d p, j ∈ own → env1[j]? = some (.own d) → σ[j]? = some (some (.ref p)) → H p = H1 p := fun j d p hj h1 h2 => by
    have o1 : OwnA env1 σ p := ⟨j, d, h1, h2⟩
    obtain ⟨u, e, _⟩ := E1.nfrz o1
    rw [e]
    refine fr p u e fun ⟨l, b, k1, k2⟩ => ?_
    rw [wipeE_get] at k1
    by_cases hm : l ∈ own
    · by_cases hl' : l < env1.length
      · rw [if_pos ⟨hm, hl'⟩] at k1; cases k1
      · rw [if_neg fun z => hl' z.2, List.getElem?_eq_none (by omega)] at k1; cases k1
    · rw [if_neg fun z => hm z.1] at k1
      rw [wipe_get, if_neg fun z => hm z.1] at k2
      have := E1.dj l j b d p k1 h1 k2 h2
      subst this
      exact hm hj
  have outs : ∀ {j : Nat} {sl : Slot}, j ∉ own → envF[j]? = some sl → (wipeE envF own)[j]? = some sl ∧ (L2.wipe σ own)[j]? = σ[j]? := fun {j sl} hj e => by
    rw [wipeE_get, if_neg fun z => hj z.1, wipe_get, if_neg fun z => hj z.1]
    exact ⟨e, rfl⟩
  have ownB : ∀ p, OwnA (backE env1 envF own) σ p → (∃ j d, j ∈ own ∧ env1[j]? = some (.own d) ∧ σ[j]? = some (some (.ref p))) ∨ OwnA (wipeE envF own) (L2.wipe σ own) p := fun p ⟨j, d, h1, h2⟩ => by
    rw [bget j] at h1
    by_cases hj : j ∈ own
    · rw [if_pos hj] at h1; exact .inl ⟨j, d, hj, h1, h2⟩
    · rw [if_neg hj] at h1
      obtain ⟨k1, k2⟩ := outs hj h1
      exact .inr ⟨j, d, k1, by rw [k2]; exact h2⟩
  -- two owners, one within, one without
  have apart : ∀ {j l : Nat} {a b : D} {p : Addr}, j ∈ own → env1[j]? = some (.own a) → σ[j]? = some (some (.ref p)) → l ∉ own → envF[l]? = some (.own b) → σ[l]? = some (some (.ref p)) → False := fun {j l a b p} hj h1 h3 hl' h2 h4 => by
    obtain ⟨k1, k2⟩ := outs hl' h2
    have o1 : OwnA env1 σ p := ⟨j, a, h1, h3⟩
    rcases ow p ⟨l, b, k1, by rw [k2]; exact h4⟩ with ⟨i', d', z1, z2⟩ | z
    · rw [wipeE_get] at z1
      by_cases hm : i' ∈ own
      · by_cases hx : i' < env1.length
        · rw [if_pos ⟨hm, hx⟩] at z1; cases z1
        · rw [if_neg fun z => hx z.2, List.getElem?_eq_none (by omega)] at z1; cases z1
      · rw [if_neg fun z => hm z.1] at z1
        rw [wipe_get, if_neg fun z => hm z.1] at z2
        have := E1.dj i' j d' a p z1 h1 z2 h3
        subst this
        exact hm hj
    · obtain ⟨u, e, _⟩ := E1.nfrz o1
      rw [z] at e; cases e
  have EB : EnvR K H σ (backE env1 envF own) := by
    refine ⟨by rw [backE_len, ← hlen, E1.len], fun j sl e => ?_, fun j l a b p h1 h2 h3 h4 => ?_⟩
    · rw [bget j] at e
      by_cases hj : j ∈ own
      · rw [if_pos hj] at e
        obtain ⟨x', e2, rr⟩ := E1.sl j sl e
        refine ⟨x', e2, ?_⟩
        cases sl with
        | un => trivial
        | val d => obtain ⟨v, e3, rr⟩ := rr; exact ⟨v, e3, rr.mono kp1⟩
        | own d2 =>
          obtain ⟨p2, e3, rr⟩ := rr
          subst e3
          exact ⟨p2, rfl, rr.keep kp1 fun u qq => by rw [kept j d2 p2 hj e e2]; exact qq⟩
      · rw [if_neg hj] at e
        obtain ⟨k1, k2⟩ := outs hj e
        rw [← k2]
        exact EH.sl j sl k1
    · rw [bget j] at h1
      rw [bget l] at h2
      by_cases hj : j ∈ own
      · rw [if_pos hj] at h1
        by_cases hl' : l ∈ own
        · rw [if_pos hl'] at h2
          exact E1.dj j l a b p h1 h2 h3 h4
        · rw [if_neg hl'] at h2
          exact (apart hj h1 h3 hl' h2 h4).elim
      · rw [if_neg hj] at h1
        by_cases hl' : l ∈ own
        · rw [if_pos hl'] at h2
          exact (apart hl' h2 h4 hj h1 h3).elim
        · rw [if_neg hl'] at h2
          obtain ⟨k1, k2⟩ := outs hj h1
          obtain ⟨k3, k4⟩ := outs hl' h2
          exact EH.dj j l a b p k1 k3 (by rw [k2]; exact h3) (by rw [k4]; exact h4)
  have nDB : ¬ OwnA (backE env1 envF own) σ P := fun z => by
    rcases ownB P z with ⟨j, d, hj, h1, h2⟩ | z
    · exact nD1 ⟨j, d, h1, h2⟩
    · exact nD z
  refine ⟨EB, t1.trans ⟨fun b u e n => fr b u e fun z => n (w2 b z), fun p z => ?_⟩, ⟨P, rfl, ⟨acc, hDa, hacc⟩, nDB⟩, fun d p e1 e2 => ?_⟩
  · rcases ownB p z with ⟨j, d, hj, h1, h2⟩ | z
    · exact .inl ⟨j, d, h1, h2⟩
    · exact (ow p z).imp (w2 p) id
  · cases e2
    exact t1.fresh hP
/-- a turn of the outer clause -/
def lc2F (c : Cl) (own : List Nat) (tg : Tg) (cond : List E) (vs1 : List Nat) (tg1 : Tg) (src1 : E) (cond1 : List E) (elt : E) : D → Env → Option (List D × Env) := fun x env => match bindT (wipeE env own) tg x with
  | none => none
  | some env => match evAnd c cond .t env with
    | some (.dat (.bl true), env) => match PF.ev c src1 .i env with
      | some (.dat (.tup ys), env) => lcLoop (lcF c vs1 tg1 cond1 elt) ys env
      | _ => none
    | some (.dat (.bl false), env) => some ([], env)
    | _ => none
theorem lc2F_inv {own : List Nat} {tg : Tg} {cond : List E} {vs1 : List Nat} {tg1 : Tg} {src1 : E} {cond1 : List E} {elt : E} {x : D} {env : Env} {ds : List D} {env' : Env} (h : lc2F c own tg cond vs1 tg1 src1 cond1 elt x env = some (ds, env')) :
    ∃ env1, bindT (wipeE env own) tg x = some env1 ∧ ((ds = [] ∧ evAnd c cond .t env1 = some (.dat (.bl false), env')) ∨
      ∃ env2 ys env3, evAnd c cond .t env1 = some (.dat (.bl true), env2) ∧ PF.ev c src1 .i env2 = some (.dat (.tup ys), env3) ∧ lcLoop (lcF c vs1 tg1 cond1 elt) ys env3 = some (ds, env')) := by
  unfold lc2F at h
  cases e1 : bindT (wipeE env own) tg x with
  | none => rw [e1] at h; cases h
  | some env1 =>
    rw [e1] at h
    simp only at h
    refine ⟨env1, rfl, ?_⟩
    cases e2 : evAnd c cond .t env1 with
    | none => rw [e2] at h; cases h
    | some oe =>
      obtain ⟨o, env2⟩ := oe
      obtain ⟨b, rfl⟩ := and_bl e2
      rw [e2] at h
      cases b with
      | false => cases h; exact .inl ⟨rfl, rfl⟩
      | true =>
        simp only at h
        cases e3 : PF.ev c src1 .i env2 with
        | none => rw [e3] at h; cases h
        | some oe =>
          obtain ⟨o, env3⟩ := oe
          rw [e3] at h
          cases o with
          | dat d =>
            cases d with
            | tup ys => exact .inr ⟨env2, ys, env3, rfl, e3, h⟩
            | _ => cases h
          | _ => cases h
/-- the reading of a comprehension of two clauses -/
theorem lc2_read {K : PySem.W.Frag} {own : List Nat} {tg : Tg} {cond : List E} {vs1 : List Nat} {tg1 : Tg} {src1 : E} {cond1 : List E} {elt : E} {σ : St} {H0 H1 : Hp} {env0 env1 envF : Env} {xs total : List D} {J : It} {Q : VK}
    (htg : ∀ j ∈ tg.is, j ∈ own) (htg1 : ∀ j ∈ tg1.is, j ∈ vs1) (hv : ∀ j ∈ vs1, j ∈ own)
    (E1 : EnvR K H1 σ env1) (t1 : Tr σ H0 env0 σ H1 env1) (hJ : ItOk K H1 J xs) (hl : lcLoop2 (lc2F c own tg cond vs1 tg1 src1 cond1 elt) xs env1 = some (total, envF)) (hz : total.length ≤ line)
    (q : ∀ v H', Po K σ H0 env0 (.own (.lst total)) (backE env1 envF own) v H' → Q v H') :
    ∀ P, H1 P = none → ∃ W : Nat → Nat → Hp → Prop, (∃ m, W 0 m (upd H1 P (.lst []))) ∧ ∀ i m H, W i m H →
      (J.stop i H ∧ Q (.ref P) H) ∨ (J.go i H ∧ ∃ Nx : Hp → Prop, (∀ H', Nx H' → ∃ m', m' < m ∧ W (i + 1) m' H') ∧ ∀ x H', J.yld i H x H' → gT K tg x (L2.wipe σ own) H' fun σ2 H2 => L2.wipe σ2 own = L2.wipe σ own ∧ tT K (evAnd c cond .t) σ2 H2 fun b H3 =>
        if b = true then tI K (PF.ev c src1 .i) σ2 H3 fun J1 H4 => ∃ W1 : Nat → Nat → Hp → Prop, (∃ m, W1 0 m H4) ∧ ∀ j k H, W1 j k H →
          (J1.stop j H ∧ Nx H) ∨ (J1.go j H ∧ ∃ Nx1 : Hp → Prop, (∀ H', Nx1 H' → ∃ k', k' < k ∧ W1 (j + 1) k' H') ∧ ∀ x H', J1.yld j H x H' → gT K tg1 x (L2.wipe σ2 vs1) H' fun σ3 H5 => L2.wipe σ3 vs1 = L2.wipe σ2 vs1 ∧ tT K (evAnd c cond1 .t) σ3 H5 fun b H6 =>
            if b = true then tD K (fun env => match PF.ev c elt .v env with | none => none | some (o, env) => toD env o) σ3 H6 fun y H7 => ∃ acc, H7 P = some (.lst acc) ∧ acc.length < sizeLine ∧ Nx1 (upd H7 P (.lst (acc ++ [y]))) else Nx1 H6)
        else Nx H3) := by
  intro P hP
  have sD : Same H1 (upd H1 P (.lst [])) := same_new hP
  obtain ⟨w1, w2⟩ := EnvR.wipe (own := own) E1 rfl (fun _ _ => rfl)
  have nD1 : ¬ OwnA env1 σ P := fun z => by
    obtain ⟨u, e, _⟩ := E1.nfrz z
    rw [hP] at e; cases e
  let Z : Nat → Hp → Prop := fun i H => ∃ env accD rest, lcLoop2 (lc2F c own tg cond vs1 tg1 src1 cond1 elt) (xs.drop i) env = some (rest, envF) ∧ LSt K (L2.wipe σ own) own H1 (wipeE env1 own) P (L2.wipe σ own) H (wipeE env own) accD ∧ accD ++ rest = total
  have z0 : Z 0 (upd H1 P (.lst [])) := ⟨env1, [], total, hl, ⟨rfl, fun _ _ => rfl, w1.same sD, ⟨[], upd_same, .nil⟩, ⟨fun b u e _ => sD b u e, fun p z => .inl z⟩, fun z => nD1 (w2 P z)⟩, rfl⟩
  refine ⟨fun i m H => m = xs.length - i ∧ i ≤ xs.length ∧ Z i H, ⟨xs.length, by simp, Nat.zero_le _, z0⟩, ?_⟩
  rintro i m H ⟨rfl, hi, env, accD, rest, hlp, L, htot⟩
  have kp1 : Kp H1 H := L.kp w1
  by_cases hlt : i < xs.length
  · refine .inr ⟨(hJ i H kp1).1 hlt |>.1, Z (i + 1), fun H' p => ⟨xs.length - (i + 1), by omega, rfl, hlt, p⟩, fun x H' y => ?_⟩
    obtain ⟨e, d, hd, rd⟩ := ((hJ i H kp1).1 hlt).2 x H' y
    subst e
    have hdrop : xs.drop i = d :: xs.drop (i + 1) := by
      rw [List.drop_eq_getElem_cons hlt]
      have : xs[i] = d := by rw [List.getElem?_eq_getElem hlt] at hd; exact Option.some.inj hd
      rw [this]
    rw [hdrop] at hlp
    simp only [lcLoop2] at hlp
    cases ef : lc2F c own tg cond vs1 tg1 src1 cond1 elt d env with
    | none => rw [ef] at hlp; cases hlp
    | some re =>
      obtain ⟨ds, envN⟩ := re
      rw [ef] at hlp
      simp only at hlp
      cases er : lcLoop2 (lc2F c own tg cond vs1 tg1 src1 cond1 elt) (xs.drop (i + 1)) envN with
      | none => rw [er] at hlp; cases hlp
      | some rr =>
        obtain ⟨rest', envF'⟩ := rr
        rw [er] at hlp
        simp only [Option.some.injEq, Prod.mk.injEq] at hlp
        obtain ⟨rfl, rfl⟩ := hlp
        obtain ⟨envB, hb, hcase⟩ := lc2F_inv ef
        refine ⟨wipeE env own, d, envB, L.e, rd, hb, fun σ2 E2 l2 s2 o2 => ⟨?_, ?_⟩⟩
        · rw [← wipe_wipe σ own]
          exact wipe_same l2 fun j hj => by rw [wipe_get (L2.wipe σ own), if_neg fun z => hj z.1, s2 j fun z => hj (htg j z)]
        · have hs2 : ∀ j, j ∉ own → σ2[j]? = (L2.wipe σ own)[j]? := fun j hj => s2 j fun z => hj (htg j z)
          have LB := L.bind E2 l2 hs2 o2
          rcases hcase with ⟨rfl, ec⟩ | ⟨envC, ys, envE, ec, ei, el⟩
          · refine ⟨envB, false, envN, E2, ec, fun H3 E3 t3 => ?_⟩
            dsimp only
            rw [if_neg Bool.false_ne_true]
            exact ⟨envN, accD, rest', er, (LB.ev E3 t3).rewipe, by simpa using htot⟩
          · refine ⟨envB, true, envC, E2, ec, fun H3 E3 t3 => ?_⟩
            dsimp only
            rw [if_pos rfl]
            refine ⟨envC, ys, envE, E3, ei, fun J1 H4 E4 t4 hJ1 => ?_⟩
            have LE := (LB.ev E3 t3).ev E4 t4
            let Z1 : Nat → Hp → Prop := fun j H => ∃ env accI rest, lcLoop (lcF c vs1 tg1 cond1 elt) (ys.drop j) env = some (rest, envN) ∧ LSt K (L2.wipe σ own) own H1 (wipeE env1 own) P (L2.wipe σ2 vs1) H (wipeE env vs1) (accD ++ accI) ∧ accI ++ rest = ds ∧ Kp H4 H
            have z1 : Z1 0 H4 := ⟨envE, [], ds, el, by rw [List.append_nil]; exact LE.wipe hv, rfl, .refl _⟩
            refine ⟨fun j k H => k = ys.length - j ∧ j ≤ ys.length ∧ Z1 j H, ⟨ys.length, by simp, Nat.zero_le _, z1⟩, ?_⟩
            rintro j k H5 ⟨rfl, hj, envI, accI, restI, hlI, LI, htI, kI⟩
            by_cases hjl : j < ys.length
            · refine .inr ⟨(hJ1 j H5 kI).1 hjl |>.1, Z1 (j + 1), fun H' p => ⟨ys.length - (j + 1), by omega, rfl, hjl, p⟩, fun x H' y => ?_⟩
              obtain ⟨e, dd, hdd, rdd⟩ := ((hJ1 j H5 kI).1 hjl).2 x H' y
              subst e
              have hdropI : ys.drop j = dd :: ys.drop (j + 1) := by
                rw [List.drop_eq_getElem_cons hjl]
                have : ys[j] = dd := by rw [List.getElem?_eq_getElem hjl] at hdd; exact Option.some.inj hdd
                rw [this]
              rw [hdropI] at hlI
              simp only [lcLoop] at hlI
              cases efI : lcF c vs1 tg1 cond1 elt dd envI with
              | none => rw [efI] at hlI; cases hlI
              | some re =>
                obtain ⟨r, envJ⟩ := re
                rw [efI] at hlI
                obtain ⟨envK, hbI, hcI⟩ := lcF_inv efI
                refine ⟨wipeE envI vs1, dd, envK, LI.e, rdd, hbI, fun σ3 E5 l3 s3 o3 => ?_⟩
                have hs3 : ∀ j, j ∉ vs1 → σ3[j]? = (L2.wipe σ2 vs1)[j]? := fun j hj => s3 j fun z => hj (htg1 j z)
                have hw3 : L2.wipe σ3 vs1 = L2.wipe σ2 vs1 := by
                  rw [← wipe_wipe σ2 vs1]
                  exact wipe_same l3 fun j hj => by rw [wipe_get (L2.wipe σ2 vs1), if_neg fun z => hj z.1, hs3 j hj]
                have LK := LI.bind E5 l3 (fun j hj => hs3 j fun z => hj (hv j z)) o3
                refine ⟨hw3, ?_⟩
                rcases hcI with ⟨rfl, ecI⟩ | ⟨envM, de, rfl, ecI, eeI⟩
                · refine ⟨envK, false, envJ, E5, ecI, fun H6 E6 t6 => ?_⟩
                  dsimp only
                  rw [if_neg Bool.false_ne_true]
                  have L6 := (LK.ev E6 t6).wipe hv
                  rw [hw3] at L6
                  exact ⟨envJ, accI, restI, hlI, L6, htI, kI.trans (t6.kp E5)⟩
                · refine ⟨envK, true, envM, E5, ecI, fun H6 E6 t6 => ?_⟩
                  dsimp only
                  rw [if_pos rfl]
                  refine ⟨envM, de, envJ, E6, eeI, fun y H7 E7 t7 ry => ?_⟩
                  have L7 := (LK.ev E6 t6).ev E7 t7
                  simp only at hlI
                  cases erI : lcLoop (lcF c vs1 tg1 cond1 elt) (ys.drop (j + 1)) envJ with
                  | none => rw [erI] at hlI; cases hlI
                  | some rr =>
                    obtain ⟨restJ, envQ⟩ := rr
                    rw [erI] at hlI
                    simp only [Option.some.injEq, Prod.mk.injEq] at hlI
                    obtain ⟨rfl, rfl⟩ := hlI
                    obtain ⟨acc, hacc, hal, L8, k8⟩ := L7.push hP ry
                    have hla : acc.length < sizeLine := by
                      have h1 : total.length = accD.length + (ds.length + rest'.length) := by rw [← htot, List.length_append, List.length_append]
                      have h2 : ds.length = accI.length + (restJ.length + 1) := by rw [← htI, List.length_append, List.length_cons]
                      rw [List.length_append] at hal
                      rw [hal, ← line_eq]
                      omega
                    refine ⟨acc, hacc, hla, ?_⟩
                    have L9 := L8.wipe hv
                    rw [hw3] at L9
                    exact ⟨envJ, accI ++ [de], restJ, erI, by rw [← List.append_assoc]; exact L9, by rw [← htI]; simp, ((kI.trans (t6.kp E5)).trans (t7.kp E6)).trans k8⟩
            · have e : j = ys.length := by omega
              subst e
              refine .inl ⟨(hJ1 _ H5 kI).2 rfl, ?_⟩
              rw [List.drop_length] at hlI
              simp only [lcLoop, Option.some.injEq, Prod.mk.injEq] at hlI
              obtain ⟨rfl, rfl⟩ := hlI
              rw [List.append_nil] at htI
              subst htI
              have L6 := LI.rewipe
              rw [wipeE_two _ hv] at L6
              exact ⟨envI, accD ++ accI, rest', er, L6, by rw [← htot, List.append_assoc]⟩
  · have e : i = xs.length := by omega
    subst e
    refine .inl ⟨(hJ _ H kp1).2 rfl, ?_⟩
    rw [List.drop_length] at hlp
    simp only [lcLoop2, Option.some.injEq, Prod.mk.injEq] at hlp
    obtain ⟨rfl, rfl⟩ := hlp
    rw [List.append_nil] at htot
    subst htot
    exact q _ H (lc_end E1 t1 hP L)
end
end PF
/-! PF10D: displays of sets and dicts of numbers; list(range(..)), tuple(range(..)). -/
namespace PF
open PySem PySem.Spec PyProof.Rows L2
section
variable {K : PySem.W.Frag} {σ : St} {H H2 : Hp} {env env2 : Env} {p : Addr} {o0 ob : HO} {d : D}
theorem not_own (E : EnvR K H σ env) (hp : H p = none) : ¬ OwnA env σ p := fun z => by
  obtain ⟨u, e, _⟩ := E.nfrz z
  rw [hp] at e; cases e
/-- an object that was laid first and filled last -/
theorem new_end (E : EnvR K H σ env) (hp : H p = none) (t : Tr σ (upd H p o0) env σ H2 env2) (E2 : EnvR K H2 σ env2) (n0 : ∀ o u, o0 ≠ .frz o u) (ho : OwnAt K (upd H2 p ob) d p) : Po K σ H env (.own d) env2 (.ref p) (upd H2 p ob) := by
  have no := not_own E hp
  have h2 : H2 p = some o0 := t.f p _ upd_same no
  have no2 : ¬ OwnA env2 σ p := fun z => by
    rcases t.s p z with z | z
    · exact no z
    · rw [upd_same] at z; cases z
  have kD : Kp H2 (upd H2 p ob) := upd_kp fun o u e => by rw [h2] at e; exact n0 o u (Option.some.inj e)
  have oth : ∀ b u, b ≠ p → H2 b = some u → upd H2 p ob b = some u := fun b u n e => by rw [upd_ne n]; exact e
  have ne : ∀ {b u}, H b = some u → b ≠ p := fun {b u} e z => by subst z; rw [hp] at e; cases e
  refine ⟨⟨E2.len, fun j sl e => ?_, E2.dj⟩, ⟨fun b u e n => oth b u (ne e) (t.f b u (by rw [upd_ne (ne e)]; exact e) n), fun q z => ?_⟩, ⟨p, rfl, ho, no2⟩, fun d' q e1 e2 => by cases e2; exact .inl hp⟩
  · obtain ⟨x', e2, rr⟩ := E2.sl j sl e
    refine ⟨x', e2, ?_⟩
    cases sl with
    | un => trivial
    | val d => obtain ⟨v, e3, rr⟩ := rr; exact ⟨v, e3, rr.mono kD⟩
    | own d2 =>
      obtain ⟨p2, e3, rr⟩ := rr
      subst e3
      refine ⟨p2, rfl, rr.keep kD fun u qq => oth p2 u ?_ qq⟩
      rintro rfl
      exact no2 ⟨j, d2, e, e2⟩
  · rcases t.s q z with z | z
    · exact .inl z
    · by_cases hq : q = p
      · subst hq; exact .inr hp
      · rw [upd_ne hq] at z; exact .inr z
end
section
variable {c : Cl}
theorem se_dnew : SE c .dnew := by
  refine se_of (fun _ => rfl) fun X G O x hx => ?_
  cases x <;> first | (cases hx; done) | skip
  rename_i ks vs pos
  cases ks with
  | cons k ks => cases hx
  | nil =>
    cases vs with
    | cons v vs => cases hx
    | nil =>
      refine ⟨PE.imp pe_dnewK fun σ H Q ⟨env, o, env', E, hf, q⟩ p hp => ?_, fun _ => rfl⟩
      cases hf
      exact q _ _ (po_res E .refl ⟨same_new hp, p, rfl, hp, [], rfl, upd_same, Rps.nil⟩)
/-- {t: v}, t a tuple -/
theorem pe_dspT {X : Cx} {x y : Expr} {pos : Pos} {tx ty : TE} (hu : X.A.units + 65 < cLine) (hx : PE X x tx) (hy : PE X y ty) : PE X (.Dict [some x] [y] pos) (fun σ H Q => ∀ p, H p = none → tx σ (upd H p (.dK [])) fun k H1 => ty σ H1 fun w H2 => H2 p = some (.dK []) ∧
    ∃ (d : PF.D) (q : NestedKey) (dv : PF.D), Rp X.K H2 d k ∧ ckey [] d = some q ∧ isTupD d = true ∧ Rp X.K H2 dv w ∧ ∀ o', (∀ H', H' = upd H2 p o' → OwnAt X.K H' (.dkt [d] [dv]) p) → Q (.ref p) (upd H2 p o')) := by
  refine ⟨fun pins s σ H Q I q => ?_⟩
  have hn := I.hok.fresh (Nat.le_refl s.heap.objs.size)
  have I1 := I.laid (a := s.heap.objs.size) (o := .dK []) (h' := s.heap.push { cls := .type "dict", data := .dict #[] }) (t' := s.toks) (fun _ _ q => Heap.get?_push_of_some _ q) (Nat.le_refl _) (dk_empty s.heap I.big)
  have hlen := pairTrees_length [some x] [y] X.env pos rfl rfl
  rw [arm_eval_Dict, zip_pairTrees [some x] [y] X.env pos rfl rfl, dictDisplay_pairs (pairTrees [some x] [y] X.env pos) (fun he => by rw [he] at hlen; cases hlen) (by rw [hlen]; show 1 < 17; decide)]
  refine wpAny_bind (wpAny_standAt (wpAny_bind (wpAny_subDictH (knd := nestedKind X.prog X.w) (Q := fun d s' => wpAny (model X.prog X.w) X.A (pure (Value.ref d)) (EP X pins σ Q) X.xe s') (by show X.A.units + 8 < cLine; omega) (by rw [hlen]; show 1 ≤ 15; decide) ?_)))
  refine pairTrees_cons_walk (thn (hx.run pins _ σ _ _ I1 (q _ hn)) fun u s1 ⟨k, H1, I2, rk, q1⟩ => thn (hy.run pins s1 σ H1 _ I2 q1) fun w2 s2 ⟨w, H2, I3, rw2, e, d, qq, dv, hd, hc, ht, hdv, q2⟩ => pairTrees_nil_walk ?_)
  have ow : OwnAt X.K H2 (.dct [] []) s.heap.objs.size := ⟨[], rfl, e, Rps.nil⟩
  obtain ⟨p', ep, hs, hr⟩ := dkt_rd I3 (v := .ref s.heap.objs.size) (.inr ⟨_, rfl, ow⟩) (rfl : dkv (.dct [] []) = some ([], []))
  cases ep
  rcases dkt_key I3 hr hc (.inl hd) rk with ⟨a, rfl, rfl, _, hnk, htk, hi, xs, ys, kr, dr, dk, hz, rr⟩ | ⟨b, _, ed, _⟩
  · have hxs : xs = [] := kr
    subst hxs
    cases dr
    refine ⟨[(qq, a, w2)], ⟨rfl, rfl, hi, trivial⟩, dk, fun h' tk dk' sb => wpAny_pure ?_⟩
    obtain ⟨kr', rr'⟩ := put_keys (K := X.K) (H := H2) (ks := []) (xs := []) kr rr hnk hi.2 htk hd hdv
    have dr' : DR (putX [] false qq a w) [(qq, a, w2)] := .cons ⟨rfl, rfl, rw2⟩ .nil
    obtain ⟨ob, es, ep, g, c, dd, ee, _, nd⟩ := dk'
    have ok : DT0 h' s.heap.objs.size (putX [] false qq a w) := ⟨_, dr', ⟨ob, es, ep, g, c, dd, fun w0 => by
      rw [ee]
      refine List.map_congr_left fun z hz => ?_
      show (⟨z.1.hash X.w, _, _⟩ : DictEntry) = _
      rw [keys_hash X.w w0 kr' dr' z hz]⟩, nd, by show 1 ≤ sizeLine; rw [sizeLine_eq]; decide, hs⟩
    refine ⟨.ref s.heap.objs.size, upd H2 s.heap.objs.size (DTO s.heap.objs.size (putX [] false qq a w)), I3.write (e := s.heap.objs.size) (t' := tk) (by rw [e]; trivial) (.inl rfl) (fun c u hc hu => (sb.2 c hc).trans hu) ⟨ob, g⟩ ⟨ok, ⟨ob, g⟩, fun _ _ z k => dt0_stay z k⟩, rfl, q2 _ fun H' eH => ?_⟩
    subst eH
    have hnf : ∀ ob u, H2 s.heap.objs.size ≠ some (.frz ob u) := fun ob u z => by rw [e] at z; cases z
    exact .inl ⟨_, upd_same, kr'.mono (upd_kp hnf), rr'.mono (upd_kp hnf)⟩
  · subst ed; cases ht
theorem pe_or {X : Cx} {e : Expr} {t1 t2 : TE} (h1 : PE X e t1) (h2 : PE X e t2) : PE X e (fun σ H Q => t1 σ H Q ∨ t2 σ H Q) :=
  ⟨fun pins s σ H Q I h => by rcases h with h | h; exact h1.run pins s σ H Q I h; exact h2.run pins s σ H Q I h⟩
theorem se_dsp1 {k v : E} (hk : SE c k) (hv : SE c v) : SE c (.dsp1 k v) := by
  refine se_of (fun _ => rfl) fun X G O x hx => ?_
  cases x <;> first | (cases hx; done) | skip
  rename_i ks vs pos
  match ks, vs, hx with
  | [some x], [y], hx =>
    obtain ⟨h1, h2⟩ := and2 (show (ckE k G x && ckE v G y) = true from hx)
    refine ⟨PE.imp (pe_or (pe_disp (pps_cons (hk X G O x h1).1 (pe_frz (hv X G O y h2).1) pps_nil) rfl rfl (by simp) (by simp)) (pe_dspT O.un (hk X G O x h1).1 (pe_frz (hv X G O y h2).1))) fun σ H Q ⟨env, o, env', E, hf, q⟩ => ?_, fun _ => rfl⟩
    simp only [ev, fin] at hf
    cases e1 : ev c k .v env with
    | none => rw [e1] at hf; cases hf
    | some oe =>
      obtain ⟨ok, env1⟩ := oe
      rw [e1] at hf
      cases ok with
      | dat dk =>
        cases dk with
        | int i =>
          simp only at hf
          cases e2 : ev c v .v env1 with
          | none => rw [e2] at hf; cases hf
          | some oe =>
            obtain ⟨ov, env2⟩ := oe
            rw [e2] at hf
            simp only at hf
            cases e3 : toD env2 ov with
            | none => rw [e3] at hf; cases hf
            | some de =>
              obtain ⟨d, env3⟩ := de
              rw [e3] at hf
              cases hf
              refine .inl fun p hp => ?_
              have E0 := E.same (same_new (o := .dK []) hp)
              refine ⟨env, _, env1, E0, e1, fun u H1 p1 => ?_⟩
              have hu : u = .int i := p1.r
              subst hu
              refine ⟨env1, d, env', p1.e, by dsimp only; rw [e2]; exact e3, fun w H2 E2 t2 rw' => ?_⟩
              have t := p1.t.trans t2
              have h2 : H2 p = some (.dK []) := t.f p _ upd_same (not_own E hp)
              refine ⟨h2, [(Sum.inl i, w)], rfl, by simp, ?_⟩
              have kD : Kp H2 (upd H2 p (.dK (mergeK [] [(Sum.inl i, w)]))) := upd_kp fun o u e => by rw [h2] at e; cases e
              exact q _ _ (new_end E hp t E2 (fun o u z => nomatch z) ⟨[(i, w)], rfl, upd_same, .cons (rw'.mono kD) .nil⟩)
        | tup ts =>
          simp only at hf
          cases ec : ckey [] (.tup ts) with
          | none => rw [ec] at hf; cases hf
          | some qq =>
          rw [ec] at hf
          simp only at hf
          cases e2 : ev c v .v env1 with
          | none => rw [e2] at hf; cases hf
          | some oe =>
            obtain ⟨ov, env2⟩ := oe
            rw [e2] at hf
            simp only at hf
            cases e3 : toD env2 ov with
            | none => rw [e3] at hf; cases hf
            | some de =>
              obtain ⟨d, env3⟩ := de
              rw [e3] at hf
              cases hf
              refine .inr fun p hp => ?_
              have E0 := E.same (same_new (o := .dK []) hp)
              refine ⟨env, _, env1, E0, e1, fun u H1 p1 => ?_⟩
              refine ⟨env1, d, env', p1.e, by dsimp only; rw [e2]; exact e3, fun w H2 E2 t2 rw' => ?_⟩
              have t := p1.t.trans t2
              have h2 : H2 p = some (.dK []) := t.f p _ upd_same (not_own E hp)
              exact ⟨h2, .tup ts, qq, d, Rp.mono (t2.kp p1.e) p1.r, ec, rfl, rw', fun o' ho => q _ _ (new_end E hp t E2 (fun o u z => nomatch z) (ho _ rfl))⟩
        | _ => cases hf
      | _ => cases hf
/-- {z} -/
theorem pe_sdsp {X : Cx} {z : Expr} {te : TE} {pos : Pos} (hz : PE X z te) (hp : PySem.W.kdsPlain z = true) (hcd : PySem.W.kdsCode X.K X.env.code = true) :
    PE X (.Set [z] 0 pos) (fun σ H Q => ∀ p, H p = none → te σ (upd H p (ISet p [])) fun x H1 => ∃ k, x = .int k ∧ H1 p = some (ISet p []) ∧ Q (.ref p) (upd H1 p (ISet p [k]))) := by
  refine ⟨fun pins s σ H Q I h => ?_⟩
  rw [arm_eval_Set]
  refine wpAny_bind (wpAny_standAt ?_); refine wpAny_bind (PySem.W.kds_main I.kIn hcd fun b => ?_)
  rw [PySem.W.kds_star [z] (by simp [hp]), List.map_map]
  refine PySem.W.kds_core (ts := (evalEach [z] X.env).map fun t => do let v ← t; standAt pos; pure v) (road0 [z]) ?_ ?_ ?_ fun led => ?_
  · exact List.findIdx?_eq_none_iff.mpr fun x hx => by obtain ⟨t, _, rfl⟩ := List.mem_map.mp hx; rfl
  · rw [List.length_map, PySem.W.kds_len]; show 1 ≤ 30; decide
  · rw [List.map_map]
    try rfl
  · have fr : H s.heap.objs.size = none := I.hok.fresh (Nat.le_refl _)
    have I1 : L2.Inv X pins σ (upd H s.heap.objs.size (ISet s.heap.objs.size [])) { s with heap := s.heap.push { cls := .type "set", dict := none, data := .set #[] 0 (.fresh 0 0 led) } } :=
      I.laid (t' := s.toks) (fun b u e => Heap.get?_push_of_some _ e) (Nat.le_refl _) (iset_new (SetOf_congr ((setObjOf_fresh (knd := intKind X.prog X.w) led).setOf (Heap.get?_push_size _ rfl) (by decide)) (fun k => by simp) rfl) (by decide))
    refine PySem.W.kds_all pos [z] _ _ ?_
    show wpAny (model X.prog X.w) X.A (eval z X.env) (fun v s' => PySem.W.KdsFill (model X.prog X.w) X.A X.xe (displayRoad 0 [z] == DisplayRoad.unsure) s.heap.objs.size (EP X pins σ Q) [v] s') X.xe _
    refine thn (hz.run pins _ σ _ _ I1 (h _ fr)) fun u s1 ⟨x, H1, I2, r1, k, ex, hs, q⟩ => ?_
    subst ex
    obtain ⟨tk, rfl⟩ := r1
    have road : (displayRoad 0 [z] == DisplayRoad.unsure) = false := rfl
    refine PySem.W.kds_fill_cons ?_
    unfold setAdd
    refine wpAny_holding (wpAny_bind ((intKind X.prog X.w).pyHash (k := k) (intKind_is _ _ _ _) ?_))
    refine wpAny_setAddHashed_of (knd := intKind X.prog X.w) (s := { s1 with toks := s1.toks + 1 }) (intKind_is _ _ k tk) rfl (iset_get (I2.tok (s1.toks + 1)) hs) (by unfold scanBound; simp) fun h' sb new => ?_
    refine PySem.W.kds_fill_nil road ?_
    have R : h'.SetOf (intKind X.prog X.w) s.heap.objs.size (fun j => decide (j ∈ [k])) [k].length := SetOf_congr new (fun j => by simp) (by simp)
    have he : ∃ u, h'.get? s.heap.objs.size = some u := by
      obtain ⟨o, _, _, _, ho, _⟩ := R
      exact ⟨o, ho⟩
    exact ⟨.ref s.heap.objs.size, upd H1 s.heap.objs.size (ISet s.heap.objs.size [k]), I2.write (e := s.heap.objs.size) (t' := s1.toks + 1) (by rw [hs]; trivial) (.inl rfl) (fun b u hb hu => (sb.2 b hb).trans hu) he (iset_new R (by simp)), rfl, q⟩
theorem se_sdsp {a : E} (ha : SE c a) : SE c (.sdsp a) := by
  refine se_of (fun _ => rfl) fun X G O x hx => ?_
  cases x <;> first | (cases hx; done) | skip
  rename_i es k pos
  match es, hx with
  | [z], hx =>
    obtain ⟨h1, h2⟩ := and2 (show (decide (k = 0) && kdsPlainB z && ckE a G z) = true from hx)
    obtain ⟨h3, h4⟩ := and2 h1
    have hk : k = 0 := of_decide_eq_true h3
    subst hk
    refine ⟨PE.imp (pe_sdsp (ha X G O z h2).1 h4 O.cd) fun σ H Q ⟨env, o, env', E, hf, q⟩ p hp => ?_, fun _ => rfl⟩
    simp only [ev, fin] at hf
    cases e1 : ev c a .v env with
    | none => rw [e1] at hf; cases hf
    | some oe =>
      obtain ⟨ok, env1⟩ := oe
      rw [e1] at hf
      cases ok with
      | dat dk =>
        cases dk with
        | int i =>
          cases hf
          have E0 := E.same (same_new (o := ISet p []) hp)
          refine ⟨env, _, env', E0, e1, fun u H1 p1 => ?_⟩
          have hu : u = .int i := p1.r
          subst hu
          have h2 : H1 p = some (ISet p []) := p1.t.f p _ upd_same (not_own E hp)
          exact ⟨i, rfl, h2, q _ _ (new_end E hp p1.t p1.e (fun o u z => nomatch z) ⟨[i], rfl, upd_same⟩)⟩
        | _ => cases hf
      | _ => cases hf
/-! ### ranges as lists -/
theorem rng_rp {K : PySem.W.Frag} {H : Hp} (a b : Int) : Rps K H (rngL a b 1) (rgV a b) := by
  have e : ((b - a + 1 - 1) / 1).toNat = (b - a).toNat := by rw [Int.ediv_one]; congr 1; omega
  have h := Rps.of_ints (K := K) (H := H) ((List.range (b - a).toNat).map fun (k : Nat) => a + 1 * (k : Int))
  rw [List.map_map, List.map_map] at h
  unfold rngL rgV
  rw [if_pos (by decide), e]
  refine cast ?_ h
  congr 1
  refine List.map_congr_left fun i _ => ?_
  show V.int (a + 1 * (i : Int)) = _
  rw [Int.one_mul]
theorem rngL_len (a b : Int) : (rngL a b 1).length = (b - a).toNat := by
  unfold rngL
  rw [if_pos (by decide), List.length_map, List.length_range, Int.ediv_one]
  congr 1; omega
theorem rgOk_of {a b : Int} (h1 : okR a = true) (h2 : okR b = true) (hl : (rngL a b 1).length ≤ line) : RgOk a b := by
  unfold okR at h1 h2
  simp only [Bool.and_eq_true, decide_eq_true_eq] at h1 h2
  rw [rngL_len] at hl
  exact ⟨h1.1, h1.2, h2.1, h2.2, hl⟩
theorem pe_tupRgF {X : Cx} {e : Expr} {te : St → Hp → (Int → Int → Hp → Prop) → Prop} {p pos : Pos} (hc : X.calm = true) (hg : Gl X "tuple") (hm : X.mg "tuple" = none) (he : PRg X e te) (na : starEach [e] X.env = (false, eval e X.env) :: starEach [] X.env := by rfl) :
    PE X (.Call (.Name "tuple" p) [e] [] pos) (fun σ H Q => te σ H fun a b H1 => RgOk a b ∧ ∀ q o, H1 q = none → o.dict = none → Q (.ref q) (upd H1 q (.frz o (.tup (rgV a b))))) := by
  refine ⟨fun pins s σ H Q I h => ?_⟩
  refine Call_ (ld_blt I hg hm boot_tuple (callWith_type1 (args_cons (thn (he pins s σ H _ I h) fun x s1 ⟨r, a, b, t, u, v, H1, ex, hr, I1, ok, q⟩ => args_nil ?_) na) na))
  subst ex; obtain ⟨b1, b2, b3, b4, b5⟩ := ok
  refine call_tuple_range (n := (b - a).toNat) (I1.ok.hd hc) hr (small_one b1 b2 b3 b4) (rangeSize_nat a b) b5 fun h' tk acc hk hi => ?_
  have I2 : L2.Inv X pins σ H1 { s1 with heap := h', toks := tk } := I1.kept hk
  have z : (rgV a b).length ≤ sizeLine := by rw [rgV_length, sizeLine_eq]; omega
  have J := inv_tup (n := 0) (t' := tk) I2 (vals_rg hi) z
  rw [Array.toArray_toList] at J
  exact ⟨.ref h'.objs.size, _, J, rfl, q _ _ (inv_fresh I2) rfl⟩
theorem se_lrng {t : Bool} {es : List E} (hs : ∀ e ∈ es, SE c e) : SE c (.lrng t es) := by
  refine se_of (fun _ => rfl) fun X G O x hx => ?_
  cases x <;> first | (cases hx; done) | skip
  rename_i f args kws pos
  cases f <;> first | (cases hx; done) | skip
  rename_i y p
  match args, kws, hx with
  | [.Call (.Name x px) xs [] pr], [], hx =>
    obtain ⟨h1, h2⟩ := and2 (show (decide (y = (if t then "tuple" else "list" : Str)) && blOk G y && (decide (x = "range") && blOk G x && (decide (es.length = 1) || decide (es.length = 2)) && ckEs es G xs)) = true from hx)
    obtain ⟨h3, h4⟩ := and2 h1
    obtain ⟨h5, h6⟩ := and2 h2
    obtain ⟨h7, h8⟩ := and2 h5
    obtain ⟨h9, h10⟩ := and2 h7
    have ex : x = "range" := of_decide_eq_true h9
    have ey := of_decide_eq_true h3
    subst ex
    obtain ⟨g1, g2, g3⟩ := bl_of O h10
    obtain ⟨k1, k2, k3⟩ := bl_of O h4
    have hlen := len_of h6
    rw [Bool.or_eq_true, decide_eq_true_eq, decide_eq_true_eq] at h8
    -- the range, and what is wanted of it
    have key : ∃ te : St → Hp → (Int → Int → Hp → Prop) → Prop, PRg X (.Call (.Name "range" px) xs [] pr) te ∧ ∀ σ H (R : Int → Int → Hp → Prop) env ds env1 ys, EnvR X.K H σ env → evds c es env = some (ds, env1) → rngD ds = some ys → ys.length ≤ line →
        (∀ a b H1, ys = rngL a b 1 → RgOk a b → EnvR X.K H1 σ env1 → Tr σ H env σ H1 env1 → R a b H1) → te σ H R := by
      match es, xs, h8, hlen, h6, hs with
      | [e], [a], h8, hlen, h6, hs =>
        obtain ⟨m1, m2⟩ := and2 (show (ckE e G a && ckEs [] G []) = true from h6)
        refine ⟨_, prg_1 (p := px) (pos := pr) g1 g2 (pe_frz (hs e List.mem_cons_self X G O a m1).1) (by rw [star_of m1]), fun σ H R env ds env1 ys E he hr hl q => ?_⟩
        simp only [evds] at he
        cases e1 : ev c e .v env with
        | none => rw [e1] at he; cases he
        | some oe =>
          obtain ⟨o, env2⟩ := oe
          rw [e1] at he
          simp only at he
          cases e2 : toD env2 o with
          | none => rw [e2] at he; cases he
          | some de =>
            obtain ⟨d, env3⟩ := de
            rw [e2] at he
            cases he
            refine ⟨env, d, env1, E, by dsimp only; rw [e1]; exact e2, fun v H1 E1 t1 r1 => ?_⟩
            cases d with
            | int b =>
              simp only [rngD] at hr
              split at hr
              · rename_i hk
                cases hr
                have hv : v = .int b := r1
                exact ⟨b, hv, q 0 b H1 rfl (rgOk_of (by decide) hk hl) E1 t1⟩
              · cases hr
            | _ => cases hr
      | [e, f], [a, b], h8, hlen, h6, hs =>
        obtain ⟨m1, m2⟩ := and2 (show (ckE e G a && ckEs [f] G [b]) = true from h6)
        obtain ⟨m3, m4⟩ := and2 (show (ckE f G b && ckEs [] G []) = true from m2)
        refine ⟨_, prg_2 (p := px) (pos := pr) g1 g2 (pe_frz (hs e List.mem_cons_self X G O a m1).1) (pe_frz (hs f (by simp) X G O b m3).1) (by rw [star_of m1]) (by rw [star_of m3]) (by rw [star_of m3]; rfl), fun σ H R env ds env1 ys E he hr hl q => ?_⟩
        simp only [evds] at he
        cases e1 : ev c e .v env with
        | none => rw [e1] at he; cases he
        | some oe =>
          obtain ⟨o, env2⟩ := oe
          rw [e1] at he
          simp only at he
          cases e2 : toD env2 o with
          | none => rw [e2] at he; cases he
          | some de =>
            obtain ⟨d, env3⟩ := de
            rw [e2] at he
            simp only at he
            cases e3 : ev c f .v env3 with
            | none => rw [e3] at he; cases he
            | some oe =>
              obtain ⟨o2, env4⟩ := oe
              rw [e3] at he
              simp only at he
              cases e4 : toD env4 o2 with
              | none => rw [e4] at he; cases he
              | some de =>
                obtain ⟨d2, env5⟩ := de
                rw [e4] at he
                cases he
                refine ⟨env, d, env3, E, by dsimp only; rw [e1]; exact e2, fun v H1 E1 t1 r1 => ⟨env3, d2, env1, E1, by dsimp only; rw [e3]; exact e4, fun w H2 E2 t2 r2 => ?_⟩⟩
                cases d with
                | int i =>
                  cases d2 with
                  | int j =>
                    simp only [rngD] at hr
                    split at hr
                    · rename_i hk
                      cases hr
                      obtain ⟨hk1, hk2⟩ := and2 hk
                      have hv : v = .int i := r1
                      have hw : w = .int j := r2
                      exact ⟨i, j, hv, hw, q i j H2 rfl (rgOk_of hk1 hk2 hl) E2 (t1.trans t2)⟩
                    · cases hr
                  | _ => cases hr
                | _ => cases d2 <;> cases hr
    obtain ⟨te, hr, hte⟩ := key
    have nm : ∀ {env : PySem.Env}, starEach [Expr.Call (.Name "range" px) xs [] pr] env = (false, eval (Expr.Call (.Name "range" px) xs [] pr) env) :: starEach [] env := rfl
    have fin : ∀ {σ : St} {H : Hp} {env : Env} {o : Opd} {env' : Env}, ev c (.lrng t es) .v env = some (o, env') → ∃ ds ys, evds c es env = some (ds, env') ∧ rngD ds = some ys ∧ ys.length ≤ line ∧ o = (if t then .dat (.tup ys) else .own (.lst ys)) := by
      intro σ H env o env' hf
      simp only [ev, fin] at hf
      cases e1 : evds c es env with
      | none => rw [e1] at hf; cases hf
      | some de =>
        obtain ⟨ds, env1⟩ := de
        rw [e1] at hf
        simp only at hf
        cases e2 : rngD ds with
        | none => rw [e2] at hf; cases hf
        | some ys =>
          rw [e2] at hf
          simp only at hf
          by_cases hz : ys.length ≤ line
          · rw [if_pos hz] at hf; cases hf; exact ⟨ds, ys, rfl, e2, hz, rfl⟩
          · rw [if_neg hz] at hf; cases hf
    cases t with
    | true =>
      have ey' : y = "tuple" := ey
      subst ey'
      refine ⟨PE.imp (pe_tupRgF O.calm k1 k2 hr nm) fun σ H Q ⟨env, o, env', E, hf, q⟩ => ?_, fun _ => rfl⟩
      obtain ⟨ds, ys, e1, e2, hz, rfl⟩ := fin (σ := σ) (H := H) hf
      refine hte σ H _ env ds env' ys E e1 e2 hz fun a b H1 ey ok E1 t1 => ⟨ok, fun p o n hd => ?_⟩
      rw [if_pos rfl, ey] at q
      exact q _ _ (po_res E1 t1 (res_tup (rng_rp a b) n hd))
    | false =>
      have ey' : y = "list" := ey
      subst ey'
      refine ⟨PE.imp (pe_listRg O.calm k1 k2 hr nm) fun σ H Q ⟨env, o, env', E, hf, q⟩ => ?_, fun _ => rfl⟩
      obtain ⟨ds, ys, e1, e2, hz, rfl⟩ := fin (σ := σ) (H := H) hf
      refine hte σ H _ env ds env' ys E e1 e2 hz fun a b H1 ey ok E1 t1 => ⟨ok, fun p n => ?_⟩
      rw [if_neg Bool.false_ne_true, ey] at q
      exact q _ _ (po_res E1 t1 (res_lst (rng_rp a b) n))
end
end PF
/-! PF10E: d.get(k, x), d.pop(k, x) of dicts of numbers. -/
namespace PF
open PySem PySem.Spec PyProof.Rows L2
theorem getI_no {K : PySem.W.Frag} {H : Hp} {k : Int} : ∀ {kvs : List (Int × V)} {vs : List D}, Rps K H vs (kvs.map (·.2)) → getI (kvs.map fun q => D.int q.1) vs k = none → valV (dK kvs) (Sum.inl k) = none
  | [], vs, _, h => rfl
  | q :: kvs, [], h, _ => by have := h.length; simp at this
  | q :: kvs, v :: vs, h, e => by
    obtain ⟨z, r', e2, rz, rr⟩ := h
    cases e2
    simp only [List.map_cons, getI] at e
    by_cases hq : q.1 = k
    · rw [if_pos hq] at e; cases e
    · rw [if_neg hq] at e
      rw [← getI_no rr e]
      exact valV_neg (p := (Sum.inl q.1, q.2)) (by simpa using hq)
theorem dropKs_map (k : Int) : ∀ kvs : List (Int × V), dropKs (kvs.map fun q => D.int q.1) k = (kvs.filter fun q => decide (q.1 ≠ k)).map fun q => D.int q.1
  | [] => rfl
  | q :: kvs => by
    simp only [List.map_cons, dropKs]
    by_cases hq : q.1 = k
    · rw [if_pos hq, dropKs_map k kvs, List.filter_cons_of_neg (by simp [hq])]
    · rw [if_neg hq, dropKs_map k kvs, List.filter_cons_of_pos (by simp [hq])]; rfl
theorem dropVs_rp {K : PySem.W.Frag} {H : Hp} (k : Int) : ∀ {kvs : List (Int × V)} {vs : List D}, Rps K H vs (kvs.map (·.2)) → Rps K H (dropVs (kvs.map fun q => D.int q.1) vs k) ((kvs.filter fun q => decide (q.1 ≠ k)).map (·.2))
  | [], vs, _ => by
    have : dropVs (([] : List (Int × V)).map fun q => D.int q.1) vs k = [] := by cases vs <;> rfl
    rw [this]; exact .nil
  | q :: kvs, [], h => by have := h.length; simp at this
  | q :: kvs, v :: vs, h => by
    obtain ⟨z, r', e2, rz, rr⟩ := h
    cases e2
    simp only [List.map_cons, dropVs]
    by_cases hq : q.1 = k
    · rw [if_pos hq, List.filter_cons_of_neg (by simp [hq])]; exact dropVs_rp k rr
    · rw [if_neg hq, List.filter_cons_of_pos (by simp [hq])]; exact .cons rz (dropVs_rp k rr)
theorem dropK_dK (k : Int) (kvs : List (Int × V)) : dropK (dK kvs) (Sum.inl k) = dK (kvs.filter fun q => decide (q.1 ≠ k)) := by
  unfold dropK dK
  rw [List.filter_map]
  congr 1
  refine List.filter_congr fun q _ => ?_
  simp
theorem valV_no {k : Int} {kvs : List (Int × V)} (h : valV (dK kvs) (Sum.inl k) = none) : (kvs.filter fun q => decide (q.1 ≠ k)) = kvs := by
  refine List.filter_eq_self.mpr fun q hq => ?_
  have := valV_not h
  simp only [decide_eq_true_eq]
  intro e
  refine this (List.mem_map.mpr ⟨(Sum.inl q.1, q.2), List.mem_map.mpr ⟨q, hq, rfl⟩, by rw [e]⟩)
section
variable {c : Cl}
theorem m2_of {X : Cx} {o e f : Expr} {m : Str} {apos cpos : Pos} {k z : E} {G : Ck} (hb : attributeBase o m X.env (eval o X.env) = eval o X.env) (hl : (apos.endLine == cpos.line) = true) (h1 : ckE k G e = true) (h2 : ckE z G f = true) : M2 X o m apos e f cpos := by
  refine ⟨hb, ?_, hl, ?_⟩
  · rw [star_of h1, star_of h2]; rfl
  · rw [star_of h1, star_of h2]; rfl
theorem dget_inv {a k x : E} {env : Env} {o : Opd} {env' : Env} (h : ev c (.dget a k x) .v env = some (o, env')) :
    ∃ oa env1 ks0 vs0 kk env2 d ks vs, ev c a .v env = some (oa, env1) ∧ view env1 oa = some (.dct ks0 vs0) ∧ ev c k .v env1 = some (.dat (.int kk), env2) ∧ ev c x .v env2 = some (.dat d, env') ∧ view env' oa = some (.dct ks vs) ∧ o = .dat ((getI ks vs kk).getD d) := by
  simp only [ev, fin] at h
  split at h
  · cases h
  · rename_i oa env1 e1
    split at h
    · rename_i ks0 vs0 e2
      split at h
      · rename_i kk env2 e3
        split at h
        · rename_i d env3 e4
          split at h
          · rename_i ks vs e5
            cases h
            exact ⟨oa, env1, ks0, vs0, kk, env2, d, ks, vs, e1, e2, e3, e4, e5, rfl⟩
          · cases h
        · cases h
      · cases h
    · cases h
theorem se_dget {a k z : E} (ha : SE c a) (hk : SE c k) (hz : SE c z) : SE c (.dget a k z) := by
  refine se_of (fun _ => rfl) fun X G O x hx => ?_
  cases x <;> first | (cases hx; done) | skip
  rename_i f args kws pos
  cases f <;> first | (cases hx; done) | skip
  rename_i o nm apos
  match args, kws, hx with
  | [x, y], [], hx =>
    obtain ⟨h1, h5⟩ := and2 (show (decide (nm = "get") && !isCallO o && (apos.endLine == pos.line) && ckE a G o && ckE k G x && ckE z G y) = true from hx)
    obtain ⟨h2, h4⟩ := and2 h1
    obtain ⟨h6, h3⟩ := and2 h2
    obtain ⟨h7, h8⟩ := and2 h6
    obtain ⟨h9, h10⟩ := and2 h7
    have en : nm = "get" := of_decide_eq_true h9
    subst en
    have hb : isCallO o = false := by simpa using h10
    refine ⟨PE.imp (pe_dget2 (by have := O.un; omega) (ha X G O o h3).1 (hk X G O x h4).1 (hz X G O y h5).1 (m2_of (base_of hb) h8 h4 h5)) fun σ H Q ⟨env, oo, env', E, hf, q⟩ => ?_, fun _ => rfl⟩
    obtain ⟨oa, env1, ks0, vs0, kk, env2, d, ks, vs, e1, e2, e3, e4, e5, rfl⟩ := dget_inv hf
    refine ⟨env, oa, env1, E, e1, fun v H1 p1 => ?_⟩
    obtain ⟨p, kvs0, rfl, _, hp0, _⟩ := (p1.r.view p1.e e2).dct
    refine ⟨p, rfl, .inl ⟨_, hp0⟩, env1, _, env2, p1.e, e3, fun u H2 p2 => ⟨env2, _, env', p2.e, e4, fun w H3 p3 => ?_⟩⟩
    have hu : u = .int kk := p2.r
    subst hu
    have t13 := p2.t.trans p3.t
    obtain ⟨p', kvs, ep, rfl, hp, rd⟩ := ((p1.r.later p1.e t13).view p3.e e5).dct
    cases ep
    refine ⟨valV (dK kvs) (Sum.inl kk), .inl ⟨dK kvs, Sum.inl kk, hp, rfl, rfl⟩, ?_⟩
    refine q _ _ (po_dat p3.e (p1.t.trans t13) ?_)
    cases e6 : getI (kvs.map fun q => D.int q.1) vs kk with
    | none =>
      rw [getI_no rd e6]
      exact p3.r
    | some r =>
      obtain ⟨w', e7, rw'⟩ := getI_dct rd e6
      rw [e7]
      exact rw'
theorem dpop_inv {i : Nat} {k x : E} {env : Env} {o : Opd} {env' : Env} (h : ev c (.dpop i k x) .v env = some (o, env')) :
    ∃ ks0 vs0 kk env2 d env3 ks vs, look env i = .own (.dct ks0 vs0) ∧ ev c k .v env = some (.dat (.int kk), env2) ∧ ev c x .v env2 = some (.dat d, env3) ∧ look env3 i = .own (.dct ks vs) ∧ o = .dat ((getI ks vs kk).getD d) ∧ env' = env3.set i (.own (.dct (dropKs ks kk) (dropVs ks vs kk))) := by
  simp only [ev, fin] at h
  split at h
  · rename_i ks0 vs0 e1
    split at h
    · rename_i kk env2 e3
      split at h
      · rename_i d env3 e4
        split at h
        · rename_i ks vs e5
          cases h
          exact ⟨ks0, vs0, kk, env2, d, env3, ks, vs, e1, e3, e4, e5, rfl, rfl⟩
        · cases h
      · cases h
    · cases h
  · cases h
theorem se_dpop {i : Nat} {k z : E} (hk : SE c k) (hz : SE c z) : SE c (.dpop i k z) := by
  refine se_of (fun _ => rfl) fun X G O x hx => ?_
  cases x <;> first | (cases hx; done) | skip
  rename_i f args kws pos
  cases f <;> first | (cases hx; done) | skip
  rename_i o nm apos
  cases o <;> first | (cases hx; done) | skip
  rename_i w pw
  match args, kws, hx with
  | [x, y], [], hx =>
    obtain ⟨h1, h5⟩ := and2 (show (decide (nm = "pop") && (apos.endLine == pos.line) && ldOk G i w && ckE k G x && ckE z G y) = true from hx)
    obtain ⟨h2, h4⟩ := and2 h1
    obtain ⟨h6, h3⟩ := and2 h2
    obtain ⟨h7, h8⟩ := and2 h6
    have en : nm = "pop" := of_decide_eq_true h7
    subst en
    refine ⟨PE.imp (pe_dpop2 (ld_of O h3) (hk X G O x h4).1 (hz X G O y h5).1 (m2_of base_name h8 h4 h5)) fun σ H Q ⟨env, oo, env', E, hf, q⟩ => ?_, fun _ => rfl⟩
    obtain ⟨ks0, vs0, kk, env2, d, env3, ks, vs, e1, e3, e4, e5, rfl, rfl⟩ := dpop_inv hf
    obtain ⟨p, g1, g2, g3⟩ := E.own e1
    obtain ⟨kvs0, _, hp0, _⟩ := g2
    refine ⟨.ref p, g1, p, rfl, .inl ⟨_, .inl hp0⟩, env, _, env2, E, e3, fun u H2 p2 => ⟨env2, _, env3, p2.e, e4, fun y H3 p3 => ?_⟩⟩
    have hu : u = .int kk := p2.r
    subst hu
    have t13 := p2.t.trans p3.t
    obtain ⟨p', k1, k2, k3⟩ := p3.e.own e5
    rw [g1] at k1
    cases k1
    have k2' := k2
    obtain ⟨kvs, rfl, hp, rd⟩ := k2'
    have kD : Kp H3 (upd H3 p (.dK (dK (kvs.filter fun q => decide (q.1 ≠ kk))))) := upd_kp fun ob u e => by rw [hp] at e; cases e
    refine ⟨dK kvs, Sum.inl kk, hp, rfl, fun v ev' => ?_, fun en => ?_⟩
    · rw [dropK_dK]
      have hv : ∃ r, getI (kvs.map fun q => D.int q.1) vs kk = some r := by
        cases e6 : getI (kvs.map fun q => D.int q.1) vs kk with
        | some r => exact ⟨r, rfl⟩
        | none => rw [getI_no rd e6] at ev'; cases ev'
      obtain ⟨r, e6⟩ := hv
      obtain ⟨w', e7, rw'⟩ := getI_dct rd e6
      rw [ev'] at e7
      cases e7
      rw [e6] at q
      refine q _ _ (mut_end p3.e t13 e5 g1 (fun b n => upd_ne n) ⟨kvs.filter fun q => decide (q.1 ≠ kk), dropKs_map kk kvs, upd_same, (dropVs_rp kk rd).mono kD⟩ k2 (rw'.mono kD))
    · have hv : getI (kvs.map fun q => D.int q.1) vs kk = none := by
        cases e6 : getI (kvs.map fun q => D.int q.1) vs kk with
        | none => rfl
        | some r =>
          obtain ⟨w', e7, _⟩ := getI_dct rd e6
          rw [en] at e7; cases e7
      rw [hv] at q
      have ef := valV_no en
      refine q _ _ (mut_end p3.e t13 e5 g1 (fun b n => rfl) ⟨kvs.filter fun q => decide (q.1 ≠ kk), dropKs_map kk kvs, ?_, dropVs_rp kk rd⟩ k2 p3.r)
      rw [ef]; exact hp
end
end PF
/-! PF11: all expressions. -/
namespace PF
open PySem PySem.Spec PyProof.Rows L2
section
variable {c : Cl}
theorem own_snd (N : List Str) (own : List Nat) : (ownN N own).map (·.2) = own := by
  unfold ownN
  rw [List.map_map]
  have : ((fun x : Str × Nat => x.2) ∘ fun i => (N.getD i "", i)) = id := rfl
  rw [this, List.map_id]
theorem xok_blk {X : Cx} {G : Ck} (O : XOk X G c) {scope : Scope} (hk : scope.kind = .function) (s : Shared) (H : Hp) (C : Addr) (cl : List (Str × Addr)) (fp : List Addr) : XOk (X.blk s H scope (compEnvC scope cl C X.env) fp) (G.blk scope) c := by
  refine ⟨O.n, O.nd, O.calm, ?_, hk, fun x h => h, O.bn, O.un, fun f n h => ?_, PassesOwn.never, O.cd, O.xg, O.xf⟩
  · show relS scope X.env.scope = relS scope G.sc
    rw [O.sc]
  · obtain ⟨a, fdt, ps, k, m⟩ := (O.fns f n h).ok
    exact ⟨a, fdt, ps, k, m⟩
theorem pts_of {X : Cx} {G : Ck} (O : XOk X G c) {cond : List E} (hs : ∀ e ∈ cond, SE c e) (hl : cond.length ≤ 1) {xs : List Expr} (h : ckEs cond G xs = true) : PTs X xs (tT X.K (evAnd c cond .t)) := by
  match cond, xs, h, hs, hl with
  | [], [], h, hs, hl =>
    refine ⟨fun pins s σ H Q I hw => pts_nil.run pins s σ H Q I ?_⟩
    obtain ⟨env, b, env', E, e, q⟩ := hw
    cases e
    exact q H E .refl
  | [], _ :: _, h, hs, hl => cases h
  | _ :: _, [], h, hs, hl => cases h
  | [e], [x], h, hs, hl =>
    obtain ⟨k1, k2⟩ := and2 (show (ckE e G x && ckEs [] G []) = true from h)
    refine ⟨fun pins s σ H Q I hw => (pts_one (hs e List.mem_cons_self X G O x k1).2).run pins s σ H Q I ?_⟩
    obtain ⟨env, b, env', E, e1, q⟩ := hw
    rcases and_cons e1 with ⟨rfl, e2⟩ | ⟨env1, e2, e3⟩
    · exact ⟨env, _, env', E, e2, q⟩
    · cases e3
      exact ⟨env, _, env', E, e2, q⟩
  | [e], _ :: _ :: _, h, hs, hl => cases (and2 h).2
theorem lc_inv {own : List Nat} {tg : Tg} {src : E} {cond : List E} {elt : E} {env : Env} {o : Opd} {env' : Env} (h : ev c (.lc own tg src cond elt) .v env = some (o, env')) :
    ∃ xs env1 ds envF, ev c src .i env = some (.dat (.tup xs), env1) ∧ lcLoop (lcF c own tg cond elt) xs env1 = some (ds, envF) ∧ ds.length ≤ line ∧ o = .own (.lst ds) ∧ env' = backE env1 envF own := by
  simp only [ev, fin] at h
  cases e1 : ev c src .i env with
  | none => rw [e1] at h; cases h
  | some oe =>
    obtain ⟨so, env1⟩ := oe
    rw [e1] at h
    cases so with
    | dat d =>
      cases d with
      | tup xs =>
        have h' : (match lcLoop (lcF c own tg cond elt) xs env1 with
          | some (ds, env') => if ds.length ≤ line then some (Opd.own (.lst ds), backE env1 env' own) else none
          | none => none) = some (o, env') := h
        cases e2 : lcLoop (lcF c own tg cond elt) xs env1 with
        | none => rw [e2] at h'; cases h'
        | some de =>
          obtain ⟨ds, envF⟩ := de
          rw [e2] at h'
          simp only at h'
          by_cases hz : ds.length ≤ line
          · rw [if_pos hz] at h'
            cases h'
            exact ⟨xs, env1, ds, envF, rfl, e2, hz, rfl, rfl⟩
          · rw [if_neg hz] at h'; cases h'
      | _ => cases h
    | _ => cases h
/-- the pieces of a comprehension -/
structure LcOk (X : Cx) (G : Ck) (own : List Nat) (tg : Tg) (src : E) (cond : List E) (elt : E) (elt' t0 i0 : Expr) (ifs0 : List Expr) (scope : Scope) : Prop where
  blk : BlkOk G.N G.sc scope (ownN G.N own)
  tgs : ckTg (G.blk scope) tg t0 = true
  sub : ∀ j ∈ tg.is, j ∈ own
  src : ckI src G i0 = true
  len : cond.length ≤ 1
  cond : ckEs cond (G.blk scope) ifs0 = true
  elt : ckE elt (G.blk scope) elt' = true
theorem lc_parts {X : Cx} {G : Ck} {own : List Nat} {tg : Tg} {src : E} {cond : List E} {elt : E} {x : Expr} (hx : ckE (.lc own tg src cond elt) G x = true) :
    ∃ elt' t0 i0 ifs0 scope pos, x = .ListComp elt' [⟨t0, i0, ifs0, 0⟩] scope pos ∧ LcOk X G own tg src cond elt elt' t0 i0 ifs0 scope := by
  by_cases hq : ∃ es, src = .rng es
  · obtain ⟨es, rfl⟩ := hq
    unfold ckE at hx
    split at hx <;> first | (cases hx; done) | skip
    all_goals first | (rename_i h; cases h; done) | skip
    · rename_i own' tg' es' cond' elt'' G' elt' t0 x p xs pos' ifs0 scope pos heq
      cases heq
      obtain ⟨a1, a2⟩ := and2 hx
      obtain ⟨a3, a4⟩ := and2 a1
      obtain ⟨a5, a6⟩ := and2 a3
      obtain ⟨a7, a8⟩ := and2 a5
      obtain ⟨a9, a10⟩ := and2 a7
      obtain ⟨a11, a12⟩ := and2 a9
      exact ⟨elt', t0, _, ifs0, scope, pos, rfl, blkOk_by a11, a12, fun j hj => by simpa using List.all_eq_true.mp a10 j hj, a8, of_decide_eq_true a6, a4, a2⟩
    · rename_i heq
      cases heq
      obtain ⟨a1, a2⟩ := and2 hx
      obtain ⟨a3, a4⟩ := and2 a1
      obtain ⟨a5, a6⟩ := and2 a3
      obtain ⟨a7, a8⟩ := and2 a5
      obtain ⟨a9, a10⟩ := and2 a8
      exfalso
      rename_i i0 _ _ _ hn
      cases i0 <;> first | (cases a10; done) | skip
      rename_i f xs kws p
      cases f <;> first | (cases a10; done) | skip
      cases kws <;> first | (cases a10; done) | skip
      exact hn _ _ _ _ _ rfl rfl
  · unfold ckE at hx
    split at hx <;> first | (cases hx; done) | skip
    all_goals first | (rename_i h; cases h; done) | skip
    · rename_i heq
      cases heq
      exact absurd ⟨_, rfl⟩ hq
    · rename_i own' tg' src' cond' elt'' elt' t0 i0 ifs0 scope pos hn heq
      cases heq
      obtain ⟨a1, a2⟩ := and2 hx
      obtain ⟨a3, a4⟩ := and2 a1
      obtain ⟨a5, a6⟩ := and2 a3
      obtain ⟨a7, a8⟩ := and2 a5
      obtain ⟨a9, a10⟩ := and2 a7
      obtain ⟨a11, a12⟩ := and2 a9
      refine ⟨elt', t0, _, ifs0, scope, pos, rfl, blkOk_by a11, a12, fun j hj => by simpa using List.all_eq_true.mp a10 j hj, ?_, of_decide_eq_true a6, a4, a2⟩
      unfold ckI
      split
      · exact absurd ⟨_, rfl⟩ hq
      · exact a8
theorem LcOk.pe {X : Cx} {G : Ck} (O : XOk X G c) {own : List Nat} {tg : Tg} {src : E} {cond : List E} {elt : E} {elt' t0 i0 : Expr} {ifs0 : List Expr} {scope : Scope} (L : LcOk X G own tg src cond elt elt' t0 i0 ifs0 scope)
    (h1 : SE c src) (hr : ∀ es, src = .rng es → ∀ e ∈ es, SE c e) (h2 : ∀ e ∈ cond, SE c e) (h3 : SE c elt) :
    PI X t0 i0 (tI X.K (ev c src .i)) ∧ BlkOk X.N X.env.scope scope (ownN G.N own) ∧
    (∀ (s : Shared) (H : Hp) (C : Addr) (cl : List (Str × Addr)) (fp : List Addr), PG (X.blk s H scope (compEnvC scope cl C X.env) fp) t0 (gT X.K tg)) ∧
    (∀ (s : Shared) (H : Hp) (C : Addr) (cl : List (Str × Addr)) (fp : List Addr), PTs (X.blk s H scope (compEnvC scope cl C X.env) fp) ifs0 (tT X.K (evAnd c cond .t))) ∧
    (∀ (s : Shared) (H : Hp) (C : Addr) (cl : List (Str × Addr)) (fp : List Addr), PE (X.blk s H scope (compEnvC scope cl C X.env) fp) elt' (tD X.K fun env => match ev c elt .v env with | none => none | some (o, env) => toD env o)) := by
  have hk := L.blk.kind
  refine ⟨pi_of O h1 hr L.src t0, by rw [O.n, O.sc]; exact L.blk, fun s H C cl fp => pg_of (xok_blk O hk s H C cl fp) L.tgs, fun s H C cl fp => pts_of (xok_blk O hk s H C cl fp) h2 L.len L.cond, fun s H C cl fp => pe_frz (h3 _ _ (xok_blk O hk s H C cl fp) _ L.elt).1⟩
theorem LcOk.read {X : Cx} {G : Ck} {own : List Nat} {tg : Tg} {src : E} {cond : List E} {elt : E} {elt' t0 i0 : Expr} {ifs0 : List Expr} {scope : Scope} (L : LcOk X G own tg src cond elt elt' t0 i0 ifs0 scope)
    {σ : St} {H : Hp} {Q : VK} (h : tE X.K (ev c (.lc own tg src cond elt) .v) σ H Q) :
    tLc (tI X.K (ev c src .i)) (gT X.K tg) (tT X.K (evAnd c cond .t)) (tD X.K fun env => match ev c elt .v env with | none => none | some (o, env) => toD env o) ((ownN G.N own).map (·.2)) σ H Q := by
  obtain ⟨env, o, env', E, hf, q⟩ := h
  obtain ⟨xs, env1, ds, envF, e1, e2, hz, rfl, rfl⟩ := lc_inv hf
  rw [own_snd]
  exact ⟨env, xs, env1, E, e1, fun J H1 E1 t1 hJ => lc_read L.sub E1 t1 hJ e2 hz q⟩
theorem se_lc {own : List Nat} {tg : Tg} {src : E} {cond : List E} {elt : E} (h1 : SE c src) (hr : ∀ es, src = .rng es → ∀ e ∈ es, SE c e) (h2 : ∀ e ∈ cond, SE c e) (h3 : SE c elt) : SE c (.lc own tg src cond elt) := by
  refine se_of (fun _ => rfl) fun X G O x hx => ?_
  obtain ⟨elt', t0, i0, ifs0, scope, pos, rfl, L⟩ := lc_parts (X := X) hx
  obtain ⟨p1, p2, p3, p4, p5⟩ := L.pe O h1 hr h2 h3
  exact ⟨PE.imp (pe_lc O.calm O.nd p1 p2 p3 p4 p5 (fun x => nofold L.src X.env x)) fun σ H Q h => L.read h, fun _ => rfl⟩
/-! ### two clauses -/
theorem lc2_inv {own : List Nat} {tg : Tg} {src : E} {cond : List E} {vs1 : List Nat} {tg1 : Tg} {src1 : E} {cond1 : List E} {elt : E} {env : Env} {o : Opd} {env' : Env} (h : ev c (.lc2 own tg src cond vs1 tg1 src1 cond1 elt) .v env = some (o, env')) :
    ∃ xs env1 ds envF, ev c src .i env = some (.dat (.tup xs), env1) ∧ lcLoop2 (lc2F c own tg cond vs1 tg1 src1 cond1 elt) xs env1 = some (ds, envF) ∧ ds.length ≤ line ∧ o = .own (.lst ds) ∧ env' = backE env1 envF own := by
  simp only [ev, fin] at h
  cases e1 : ev c src .i env with
  | none => rw [e1] at h; cases h
  | some oe =>
    obtain ⟨so, env1⟩ := oe
    rw [e1] at h
    cases so with
    | dat d =>
      cases d with
      | tup xs =>
        have h' : (match lcLoop2 (lc2F c own tg cond vs1 tg1 src1 cond1 elt) xs env1 with
          | some (ds, env') => if ds.length ≤ line then some (Opd.own (.lst ds), backE env1 env' own) else none
          | none => none) = some (o, env') := h
        cases e2 : lcLoop2 (lc2F c own tg cond vs1 tg1 src1 cond1 elt) xs env1 with
        | none => rw [e2] at h'; cases h'
        | some de =>
          obtain ⟨ds, envF⟩ := de
          rw [e2] at h'
          simp only at h'
          by_cases hz : ds.length ≤ line
          · rw [if_pos hz] at h'
            cases h'
            exact ⟨xs, env1, ds, envF, rfl, e2, hz, rfl, rfl⟩
          · rw [if_neg hz] at h'; cases h'
      | _ => cases h
    | _ => cases h
theorem ckI_of {src : E} {G : Ck} {x : Expr} (h1 : isIteE src = false) (h2 : ckE src G x = true) : ckI src G x = true := by
  unfold ckI
  split
  · exact h2
  · rw [h1, h2]; rfl
/-- the pieces of a comprehension of two clauses -/
structure Lc2Ok (X : Cx) (G : Ck) (own : List Nat) (tg : Tg) (src : E) (cond : List E) (vs1 : List Nat) (tg1 : Tg) (src1 : E) (cond1 : List E) (elt : E) (elt' t0 i0 t1 i1 : Expr) (ifs0 ifs1 : List Expr) (scope : Scope) : Prop where
  blk : BlkOk G.N G.sc scope (ownN G.N own)
  tgs : ckTg (G.blk scope) tg t0 = true
  sub : ∀ j ∈ tg.is, j ∈ own
  tgs1 : ckTg (G.blk scope) tg1 t1 = true
  sub1 : ∀ j ∈ tg1.is, j ∈ vs1
  vs : ∀ j ∈ vs1, j ∈ own
  src : ckI src G i0 = true
  src1 : ckI src1 (G.blk scope) i1 = true
  len : cond.length ≤ 1
  len1 : cond1.length ≤ 1
  cond : ckEs cond (G.blk scope) ifs0 = true
  cond1 : ckEs cond1 (G.blk scope) ifs1 = true
  elt : ckE elt (G.blk scope) elt' = true
theorem lc2_parts {X : Cx} {G : Ck} {own : List Nat} {tg : Tg} {src : E} {cond : List E} {vs1 : List Nat} {tg1 : Tg} {src1 : E} {cond1 : List E} {elt : E} {x : Expr} (hx : ckE (.lc2 own tg src cond vs1 tg1 src1 cond1 elt) G x = true) :
    ∃ elt' t0 i0 ifs0 t1 i1 ifs1 scope pos, x = .ListComp elt' [⟨t0, i0, ifs0, 0⟩, ⟨t1, i1, ifs1, 0⟩] scope pos ∧ Lc2Ok X G own tg src cond vs1 tg1 src1 cond1 elt elt' t0 i0 t1 i1 ifs0 ifs1 scope := by
  unfold ckE at hx
  split at hx <;> first | (cases hx; done) | skip
  all_goals first | (rename_i h; cases h; done) | skip
  rename_i heq
  cases heq
  simp only [Bool.and_eq_true, decide_eq_true_eq, Bool.not_eq_true', List.all_eq_true, List.contains_iff_mem] at hx
  obtain ⟨⟨⟨⟨⟨⟨⟨⟨⟨⟨⟨⟨a1, a2⟩, a3⟩, a4⟩, a5⟩, a6⟩, a7, a8⟩, a9, a10⟩, a11⟩, a12⟩, a13⟩, a14⟩, a15⟩ := hx
  exact ⟨_, _, _, _, _, _, _, _, _, rfl, blkOk_by a1, a2, a3, a4, a5, a6, ckI_of a7 a8, ckI_of a9 a10, a11, a12, a13, a14, a15⟩
theorem Lc2Ok.pe {X : Cx} {G : Ck} (O : XOk X G c) {own : List Nat} {tg : Tg} {src : E} {cond : List E} {vs1 : List Nat} {tg1 : Tg} {src1 : E} {cond1 : List E} {elt : E} {elt' t0 i0 t1 i1 : Expr} {ifs0 ifs1 : List Expr} {scope : Scope} (L : Lc2Ok X G own tg src cond vs1 tg1 src1 cond1 elt elt' t0 i0 t1 i1 ifs0 ifs1 scope)
    (h1 : SE c src) (hr : ∀ es, src = .rng es → ∀ e ∈ es, SE c e) (h2 : ∀ e ∈ cond, SE c e) (k1 : SE c src1) (kr : ∀ es, src1 = .rng es → ∀ e ∈ es, SE c e) (k2 : ∀ e ∈ cond1, SE c e) (h3 : SE c elt) :
    PI X t0 i0 (tI X.K (ev c src .i)) ∧ BlkOk X.N X.env.scope scope (ownN G.N own) ∧ (∀ i ∈ vs1, i ∈ (ownN G.N own).map (·.2)) ∧
    (∀ (s : Shared) (H : Hp) (C : Addr) (cl : List (Str × Addr)) (fp : List Addr), PG (X.blk s H scope (compEnvC scope cl C X.env) fp) t0 (gT X.K tg)) ∧ (∀ (s : Shared) (H : Hp) (C : Addr) (cl : List (Str × Addr)) (fp : List Addr), PTs (X.blk s H scope (compEnvC scope cl C X.env) fp) ifs0 (tT X.K (evAnd c cond .t))) ∧ (∀ (s : Shared) (H : Hp) (C : Addr) (cl : List (Str × Addr)) (fp : List Addr), PI (X.blk s H scope (compEnvC scope cl C X.env) fp) t1 i1 (tI X.K (ev c src1 .i))) ∧ (∀ (s : Shared) (H : Hp) (C : Addr) (cl : List (Str × Addr)) (fp : List Addr), PG (X.blk s H scope (compEnvC scope cl C X.env) fp) t1 (gT X.K tg1)) ∧ (∀ (s : Shared) (H : Hp) (C : Addr) (cl : List (Str × Addr)) (fp : List Addr), PTs (X.blk s H scope (compEnvC scope cl C X.env) fp) ifs1 (tT X.K (evAnd c cond1 .t))) ∧
    (∀ (s : Shared) (H : Hp) (C : Addr) (cl : List (Str × Addr)) (fp : List Addr), PE (X.blk s H scope (compEnvC scope cl C X.env) fp) elt' (tD X.K fun env => match ev c elt .v env with | none => none | some (o, env) => toD env o)) := by
  have hk := L.blk.kind
  exact ⟨pi_of O h1 hr L.src t0, by rw [O.n, O.sc]; exact L.blk, by rw [own_snd]; exact L.vs, fun s H C cl fp => pg_of (xok_blk O hk s H C cl fp) L.tgs, fun s H C cl fp => pts_of (xok_blk O hk s H C cl fp) h2 L.len L.cond,
    fun s H C cl fp => pi_of (xok_blk O hk s H C cl fp) k1 kr L.src1 t1, fun s H C cl fp => pg_of (xok_blk O hk s H C cl fp) L.tgs1, fun s H C cl fp => pts_of (xok_blk O hk s H C cl fp) k2 L.len1 L.cond1, fun s H C cl fp => pe_frz (h3 _ _ (xok_blk O hk s H C cl fp) _ L.elt).1⟩
theorem Lc2Ok.read {X : Cx} {G : Ck} {own : List Nat} {tg : Tg} {src : E} {cond : List E} {vs1 : List Nat} {tg1 : Tg} {src1 : E} {cond1 : List E} {elt : E} {elt' t0 i0 t1 i1 : Expr} {ifs0 ifs1 : List Expr} {scope : Scope} (L : Lc2Ok X G own tg src cond vs1 tg1 src1 cond1 elt elt' t0 i0 t1 i1 ifs0 ifs1 scope)
    {σ : St} {H : Hp} {Q : VK} (h : tE X.K (ev c (.lc2 own tg src cond vs1 tg1 src1 cond1 elt) .v) σ H Q) :
    tLc2 (tI X.K (ev c src .i)) (gT X.K tg) (tT X.K (evAnd c cond .t)) (tI X.K (ev c src1 .i)) (gT X.K tg1) (tT X.K (evAnd c cond1 .t)) (tD X.K fun env => match ev c elt .v env with | none => none | some (o, env) => toD env o) ((ownN G.N own).map (·.2)) vs1 σ H Q := by
  obtain ⟨env, o, env', E, hf, q⟩ := h
  obtain ⟨xs, env1, ds, envF, e1, e2, hz, rfl, rfl⟩ := lc2_inv hf
  rw [own_snd]
  exact ⟨env, xs, env1, E, e1, fun J H1 E1 t1 hJ => lc2_read L.sub L.sub1 L.vs E1 t1 hJ e2 hz q⟩
theorem se_lc2 {own : List Nat} {tg : Tg} {src : E} {cond : List E} {vs1 : List Nat} {tg1 : Tg} {src1 : E} {cond1 : List E} {elt : E} (h1 : SE c src) (hr : ∀ es, src = .rng es → ∀ e ∈ es, SE c e) (h2 : ∀ e ∈ cond, SE c e)
    (k1 : SE c src1) (kr : ∀ es, src1 = .rng es → ∀ e ∈ es, SE c e) (k2 : ∀ e ∈ cond1, SE c e) (h3 : SE c elt) : SE c (.lc2 own tg src cond vs1 tg1 src1 cond1 elt) := by
  refine se_of (fun _ => rfl) fun X G O x hx => ?_
  obtain ⟨elt', t0, i0, ifs0, t1, i1, ifs1, scope, pos, rfl, L⟩ := lc2_parts (X := X) hx
  obtain ⟨p1, p2, p3, p4, p5, p6, p7, p8, p9⟩ := L.pe O h1 hr h2 k1 kr k2 h3
  exact ⟨PE.imp (pe_lc2 O.calm O.nd p1 p2 p3 p4 p5 p6 p7 p8 p9 (fun x => nofold L.src X.env x) (fun env x => nofold L.src1 env x)) fun σ H Q h => L.read h, fun _ => rfl⟩
/-! ### all -/
theorem se_rng {es : List E} : SE c (.rng es) := fun X G O x hx => ⟨⟨fun pins s σ H Q I ⟨env, o, env', E, hf, q⟩ => by simp [ev] at hf⟩, ⟨fun pins s σ H Q I ⟨env, o, env', E, hf, q⟩ => by simp [ev] at hf⟩⟩
def SE2 (c : Cl) (e : E) : Prop := SE c e ∧ ∀ es, e = .rng es → ∀ e' ∈ es, SE c e'
mutual
theorem se2 : ∀ e : E, SE2 c e
  | .var i => ⟨se_var i, fun _ h => nomatch h⟩
  | .int i => ⟨se_int i, fun _ h => nomatch h⟩
  | .bl b => ⟨se_bl b, fun _ h => nomatch h⟩
  | .non => ⟨se_non, fun _ h => nomatch h⟩
  | .str s => ⟨se_str s, fun _ h => nomatch h⟩
  | .tup es => ⟨se_tup (ses es), fun _ h => nomatch h⟩
  | .lst es => ⟨se_lst (ses es), fun _ h => nomatch h⟩
  | .bin op a b => ⟨se_bin (se2 a).1 (se2 b).1, fun _ h => nomatch h⟩
  | .neg a => ⟨se_neg (se2 a).1, fun _ h => nomatch h⟩
  | .not a => ⟨se_not (se2 a).1, fun _ h => nomatch h⟩
  | .cmp op a b => ⟨se_cmp (se2 a).1 (se2 b).1, fun _ h => nomatch h⟩
  | .chain op op2 a b d => ⟨se_chain (se2 a).1 (se2 b).1 (se2 d).1, fun _ h => nomatch h⟩
  | .and es => ⟨se_and (ses es), fun _ h => nomatch h⟩
  | .or es => ⟨se_or (ses es), fun _ h => nomatch h⟩
  | .ite t a b => ⟨se_ite (se2 t).1 (se2 a).1 (se2 b).1, fun _ h => nomatch h⟩
  | .idx a i => ⟨se_idx (se2 a).1 (se2 i).1, fun _ h => nomatch h⟩
  | .slc a lo hi => ⟨se_slc (se2 a).1 (se2 lo).1 (se2 hi).1, fun _ h => nomatch h⟩
  | .rev a => ⟨se_rev (se2 a).1, fun _ h => nomatch h⟩
  | .call f es => ⟨se_call (ses es), fun _ h => nomatch h⟩
  | .blt b es => ⟨se_blt (ses es), fun _ h => nomatch h⟩
  | .isi a t => ⟨se_isi (se2 a).1, fun _ h => nomatch h⟩
  | .mut m i es => ⟨se_mut (ses es), fun _ h => nomatch h⟩
  | .mth m a es => ⟨se_mth (se2 a).1 (ses es), fun _ h => nomatch h⟩
  | .lc own tg src cond elt => ⟨se_lc (se2 src).1 (se2 src).2 (ses cond) (se2 elt).1, fun _ h => nomatch h⟩
  | .lc2 own tg src cond vs1 tg1 src1 cond1 elt => ⟨se_lc2 (se2 src).1 (se2 src).2 (ses cond) (se2 src1).1 (se2 src1).2 (ses cond1) (se2 elt).1, fun _ h => nomatch h⟩
  | .sdsp a => ⟨se_sdsp (se2 a).1, fun _ h => nomatch h⟩
  | .dget a k x => ⟨se_dget (se2 a).1 (se2 k).1 (se2 x).1, fun _ h => nomatch h⟩
  | .dpop i k x => ⟨se_dpop (se2 k).1 (se2 x).1, fun _ h => nomatch h⟩
  | .dnew => ⟨se_dnew, fun _ h => nomatch h⟩
  | .dsp1 k v => ⟨se_dsp1 (se2 k).1 (se2 v).1, fun _ h => nomatch h⟩
  | .lrng t es => ⟨se_lrng (ses es), fun _ h => nomatch h⟩
  | .sset a => ⟨se_sset (se2 a).1, fun _ h => nomatch h⟩
  | .rng es => ⟨se_rng, fun es' h => by cases h; exact ses es⟩
theorem ses : ∀ es : List E, ∀ e ∈ es, SE c e
  | [] => fun e h => nomatch h
  | e :: es => List.forall_mem_cons.mpr ⟨(se2 e).1, ses es⟩
end
theorem se (e : E) : SE c e := (se2 e).1
end
end PF
/-! PF12: statements. -/
namespace PF
open PySem PySem.Spec PyProof.Rows L2

def isTupL : Expr → Bool
  | .Tuple vs _ _ => !vs.all (foldedForSure 8)
  | .List _ _ => true
  | _ => false
def isComp : Expr → Bool
  | .ListComp _ _ _ _ => true | .SetComp _ _ _ _ => true | .DictComp _ _ _ _ _ => true | _ => false
/-- stores that are not swapped: more than three, or one to a name that is not plainly local -/
def noSw (G : Ck) (ts : List Expr) : Bool := decide (3 < ts.length) || ts.any fun | .Name x _ => !decide (G.sc.names.lookup x = some .local) | _ => false
/-- the name of an except clause -/
def ckN (G : Ck) : Option Nat → Option Str → Bool
  | none, none => true
  | some i, some n => decide (G.N[i]? = some n) && decide (G.sc.names.lookup n = some .local) && !(n == ("__debug__" : Str)) && !(n == ("__classdict__" : Str))
  | _, _ => false
/-- a class's name, and isinstance's answers -/
def ckC (G : Ck) (all : List Str) (y : Str) (yes : List Str) : Bool :=
  gbOk G y && ((G.xn.contains y && all.all fun g => G.xs.contains (.isn g y (yes.contains g))) || (decide (y = "ValueError") && G.bn.contains y && all.all fun g => G.xs.contains (.isb g (yes.contains g))))
def namesOf : List Expr → Option (List Str)
  | [] => some []
  | .Name y _ :: r => (namesOf r).map (y :: ·)
  | _ :: _ => none
/-- a test of the caught error -/
def ckT1 (G : Ck) (all : List Str) (n : Str) (src yes : List Str) : Expr → Bool
  | .Call (.Name x _) [.Name m _, .Name y _] [] _ => decide (x = "isinstance") && blOk G x && decide (m = n) && decide (src = [y]) && ckC G all y yes
  | .Call (.Name x _) [.Name m _, .Tuple ys _ _] [] _ => decide (x = "isinstance") && blOk G x && decide (m = n) && decide (namesOf ys = some src) && decide (src.length ≤ 100) && decide (yes = []) && src.all fun y => gbOk G y && G.xn.contains y && all.all fun g => G.xs.contains (.isn g y false)
  | _ => false
def ckT (G : Ck) (all : List Str) (n : Str) : Bool × List Str × List Str → Expr → Bool
  | (true, src, yes), x => ckT1 G all n src yes x
  | (false, src, yes), .UnaryOp .Not x _ => ckT1 G all n src yes x
  | _, _ => false
def ckTl (G : Ck) (all : List Str) (n : Str) : List (Bool × List Str × List Str) → List Expr → Bool
  | [], [] => true
  | t :: ts, x :: xs => ckT G all n t x && ckTl G all n ts xs
  | _, _ => false
/-- the suite of an except clause -/
def ckH : Hd → Ck → List Str → Option Str → List Stmt → Bool
  | .ret b, _, _, _, [.Return (some (.Constant (.bool c) _ _)) _] => decide (b = c)
  | .tests false ts, G, all, some n, [.Return (some (.BoolOp .And xs _)) _] => !ts.isEmpty && ckTl G all n ts xs
  | .tests true ts, G, all, some n, [.If (.BoolOp .And xs _) [.Return (some (.Constant (.bool true) _ _)) _] [] _, .Return (some (.Constant .none _ _)) _] => !ts.isEmpty && ckTl G all n ts xs
  | _, _, _, _, _ => false
mutual
def ckS : S → Ck → List Nat → Stmt → Bool
  | .set i e, G, kp, .Assign [.Name x _] v _ => stOk G i x && !kp.contains i && ckE e G v
  | .unp is e, G, kp, .Assign [.Tuple ts _ _] v _ => ckTs G is ts && (is.all fun i => !kp.contains i) && (!isTupL v || noSw G ts) && ckE e G v
  | .par i j a b, G, kp, .Assign [.Tuple [.Name x px, .Name y py] _ _] (.Tuple [a', b'] _ _) _ => decide (G.N[i]? = some x) && decide (G.N[j]? = some y) && decide (i ≠ j) && !kp.contains i && !kp.contains j && decide (G.sc.names.lookup x = some .local) && decide (G.sc.names.lookup y = some .local) &&
      (px.line == py.line) && decide (x ≠ y) && !([a', b'].all (foldedForSure 8)) && !([a', b'].all (constantsAlone 8)) && ckE a G a' && ckE b G b'
  | .sub i ix e, G, _, .Assign [.Subscript (.Name x _) ix' _] v _ => ldOk G i x && ckE ix G ix' && ckE e G v
  | .sub2 i ix jx e, G, _, .Assign [.Tuple [.Subscript (.Name x _) ix' _, .Subscript (.Name y _) jx' _] _ _] v _ => ldOk G i x && ldOk G i y && ckE ix G ix' && ckE jx G jx' && ckE e G v && !isComp v
  | .aug op i e, G, kp, .AugAssign (.Name x _) o v _ => stOk G i x && !kp.contains i && decide (op.py = o) && (decide (op = .add) || decide (op = .sub)) && ckE e G v
  | .expr e, G, _, .Expr v _ => ckE e G v && !isComp v
  | .ret e, G, _, .Return (some v) _ => ckE e G v
  | .ret .non, _, _, .Return none _ => true
  | .ite t a b, G, kp, .If t' a' b' _ => ckE t G t' && ckSs a G kp a' && ckSs b G kp b'
  | .whl t b, G, kp, .While t' b' [] _ => ckE t G t' && ckSs b G kp b'
  | .for tg src b, G, kp, .For tg' src' b' [] _ => ckTg G tg tg' && (tg.is.all fun i => !kp.contains i) && ckI src G src' && ckSs b G kp b'
  | .brk, _, _, .Break _ => true
  | .pass, _, _, .Pass _ => true
  | .stop, _, _, .Raise _ _ _ => true
  | .raise f, G, _, .Raise (some (.Call (.Name x _) [.Constant (.str _) _ _] [] _)) none _ => decide (x = f) && gbOk G x && G.xn.contains f && G.xs.contains (.exc f)
  | .tryc f es x all yes a h, G, _, .Try [.Expr (.Call (.Name f' _) xs [] _) _] [.ExceptHandler (some (.Name x' _)) n suite _] [] [] _ =>
    decide (f' = f) && gbOk G f' && G.fns.contains (f, es.length) && !es.isEmpty && ckEs es G xs && decide (x' = x) && gbOk G x' && G.xn.contains x && (all.all fun g => G.xs.contains (.exc g) && G.xs.contains (.exm g x (yes.contains g))) && ckN G a n && ckH h G all n suite
  | _, _, _, _ => false
def ckSs : List S → Ck → List Nat → List Stmt → Bool
  | [], _, _, [] => true
  | s :: ss, G, kp, t :: ts => ckS s G kp t && ckSs ss G kp ts
  | _, _, _, _ => false
end

structure PoS (K : PySem.W.Frag) (kp : List Nat) (σ : St) (H : Hp) (env : Env) (σ' : St) (H' : Hp) (env' : Env) : Prop where
  e : EnvR K H' σ' env'
  t : Tr σ H env σ' H' env'
  k : ∀ j ∈ kp, σ'[j]? = σ[j]?
/-- what an error of a class wants -/
def XW (X : Cx) (f : Str) (H' : Hp) : Prop := ∀ u s', XE X (fun cls d _ H1 => cls = xvl X.K f ∧ d = none ∧ H1 = H') u s' → X.xe u s'
def W0 (X : Cx) : WX := fun cls d _ H => ∃ f, cls = xvl X.K f ∧ d = none ∧ XW X f H
theorem takes_W0 {X : Cx} : Takes X (W0 X) := fun u s' ⟨a, B, sI, pins, σ, H, cls, d, e, I, nb, up, sky, na, os, ag, f, h1, h2, h3⟩ =>
  h3 u s' ⟨a, B, sI, pins, σ, H, cls, d, e, I, nb, up, sky, na, os, ag, h1, h2, rfl⟩
/-- the frame of a def's body -/
def XTop (X : Cx) : Prop := X.stack = X.env :: X.outer ∧ X.env.frame = some X.env.locals
/-- a block's ends -/
def EndR (X : Cx) (kp : List Nat) (σ : St) (H : Hp) (env : Env) (D : Ends) : R → Prop
  | .nx env' => ∀ σ' H', PoS X.K kp σ H env σ' H' env' → D.nx σ' H'
  | .brk env' => ∀ σ' H', PoS X.K kp σ H env σ' H' env' → D.bk σ' H'
  | .ret o env' => ∀ v σ' H', PoS X.K kp σ H env σ' H' env' → OpdR X.K H' σ' env' o v → (∀ d p, o = .own d → v = .ref p → H p = none ∨ OwnA env σ p) → D.rt v H'
  | .exc f env' => ∀ σ' H', PoS X.K kp σ H env σ' H' env' → XW X f H'
def tS (X : Cx) (kp : List Nat) (f : Env → Option R) : TS := fun D σ H => ∃ env r, EnvR X.K H σ env ∧ f env = some r ∧ EndR X kp σ H env D r
theorem PoS.trans {K : PySem.W.Frag} {kp : List Nat} {σ σ1 σ2 : St} {H H1 H2 : Hp} {env env1 env2 : Env} (a : PoS K kp σ H env σ1 H1 env1) (b : PoS K kp σ1 H1 env1 σ2 H2 env2) : PoS K kp σ H env σ2 H2 env2 :=
  ⟨b.e, a.t.trans b.t, fun j hj => (b.k j hj).trans (a.k j hj)⟩
theorem PoS.refl {K : PySem.W.Frag} {kp : List Nat} {σ : St} {H : Hp} {env : Env} (E : EnvR K H σ env) : PoS K kp σ H env σ H env := ⟨E, .refl, fun _ _ => rfl⟩
theorem PoS.ex {K : PySem.W.Frag} {kp : List Nat} {σ : St} {H H' : Hp} {env env' : Env} (E : EnvR K H' σ env') (t : Tr σ H env σ H' env') : PoS K kp σ H env σ H' env' := ⟨E, t, fun _ _ => rfl⟩
/-- what is shown of a statement -/
def SS (c : Cl) (W : Nat) (s : S) : Prop := ∀ X G kp, XTop X → XOk X G c → ∀ x, ckS s G kp x = true → PS X x (tS X kp (ex c W s))
def SSs (c : Cl) (W : Nat) (ss : List S) : Prop := ∀ X G kp, XTop X → XOk X G c → ∀ xs, ckSs ss G kp xs = true → PSs X xs (tS X kp (exs c W ss))
section
variable {c : Cl} {W : Nat}
theorem sss_nil : SSs c W [] := fun X G kp T O xs hx => by
  cases xs with
  | cons x xs => cases hx
  | nil =>
    refine PSs.imp pss_nil fun D σ H ⟨env, r, E, hf, q⟩ => ?_
    cases hf
    exact q σ H (.refl E)
theorem sss_cons {s : S} {ss : List S} (h1 : SS c W s) (h2 : SSs c W ss) : SSs c W (s :: ss) := fun X G kp T O xs hx => by
  cases xs with
  | nil => cases hx
  | cons x xs =>
    obtain ⟨k1, k2⟩ := and2 (show (ckS s G kp x && ckSs ss G kp xs) = true from hx)
    refine PSs.imp (pss_cons (h1 X G kp T O x k1) (h2 X G kp T O xs k2)) fun D σ H ⟨env, r, E, hf, q⟩ => ?_
    simp only [exs] at hf
    cases e1 : ex c W s env with
    | none => rw [e1] at hf; cases hf
    | some r1 =>
      rw [e1] at hf
      cases r1 with
      | nx env1 =>
        refine ⟨env, .nx env1, E, e1, fun σ1 H1 p1 => ⟨env1, r, p1.e, hf, ?_⟩⟩
        cases r with
        | nx env2 => exact fun σ2 H2 p2 => q σ2 H2 (p1.trans p2)
        | brk env2 => exact fun σ2 H2 p2 => q σ2 H2 (p1.trans p2)
        | exc f env2 => exact fun σ2 H2 p2 => q σ2 H2 (p1.trans p2)
        | ret o env2 =>
          intro v σ2 H2 p2 r n
          refine q v σ2 H2 (p1.trans p2) r fun d p e1 e2 => ?_
          rcases n d p e1 e2 with z | z
          · exact p1.t.fresh z
          · exact (p1.t.s p z).symm
      | brk env1 =>
        cases hf
        exact ⟨env, _, E, e1, q⟩
      | ret o env1 =>
        cases hf
        exact ⟨env, _, E, e1, q⟩
      | exc f env1 =>
        cases hf
        exact ⟨env, _, E, e1, q⟩
/-- an operand stored at a name -/
theorem store_end {K : PySem.W.Frag} {kp : List Nat} {σ : St} {H H1 : Hp} {env env1 env2 : Env} {o : Opd} {v : V} {i : Nat} (hk : kp.contains i = false) (p : Po K σ H env o env1 v H1) (hs : store env1 i o = some env2) (ho : ∀ j, o ≠ .slot j) :
    PoS K kp σ H env (σ.set i (some v)) H1 env2 := by
  have hk' : ∀ j ∈ kp, j ≠ i := fun j hj z => by
    subst z
    rw [List.contains_iff_mem.mpr hj] at hk
    cases hk
  have main : ∀ {s : Slot}, SlotR K H1 s (some v) → (∀ d q, s = .own d → v = .ref q → ¬ OwnA env1 σ q ∧ (H q = none ∨ OwnA env σ q)) → PoS K kp σ H env (σ.set i (some v)) H1 (env1.set i s) := by
    intro s hr hn
    have get : ∀ {j : Nat} {sl : Slot}, (env1.set i s)[j]? = some sl → (j = i ∧ sl = s ∧ i < σ.length) ∨ (j ≠ i ∧ env1[j]? = some sl) := fun {j sl} e => by
      by_cases hj : i = j
      · subst hj
        rw [List.getElem?_set_self'] at e
        cases hh : env1[i]? with
        | none => rw [hh] at e; cases e
        | some w =>
          rw [hh] at e; cases e
          exact .inl ⟨rfl, rfl, by rw [← p.e.len]; exact (List.getElem?_eq_some_iff.mp hh).1⟩
      · rw [List.getElem?_set_ne hj] at e
        exact .inr ⟨Ne.symm hj, e⟩
    have own : ∀ q, OwnA (env1.set i s) (σ.set i (some v)) q → (∃ d, s = .own d ∧ v = .ref q) ∨ OwnA env1 σ q := fun q ⟨j, d, h1, h2⟩ => by
      rcases get h1 with ⟨rfl, e, hl⟩ | ⟨hj, e⟩
      · rw [List.getElem?_set_self hl] at h2
        cases h2
        exact .inl ⟨d, e.symm, rfl⟩
      · rw [List.getElem?_set_ne (Ne.symm hj)] at h2
        exact .inr ⟨j, d, e, h2⟩
    refine ⟨⟨by rw [List.length_set, List.length_set]; exact p.e.len, fun j sl e => ?_, fun j l a b q h1 h2 h3 h4 => ?_⟩, ⟨p.t.f, fun q z => ?_⟩, fun j hj => by rw [List.getElem?_set_ne (Ne.symm (hk' j hj))]⟩
    · rcases get e with ⟨rfl, rfl, hl⟩ | ⟨hj, e⟩
      · exact ⟨some v, by rw [List.getElem?_set_self hl], hr⟩
      · rw [List.getElem?_set_ne (Ne.symm hj)]
        exact p.e.sl j sl e
    · rcases get h1 with ⟨rfl, e, hl⟩ | ⟨hj, e⟩
      · rw [List.getElem?_set_self hl] at h3
        cases h3
        rcases get h2 with ⟨rfl, e', _⟩ | ⟨hj', e'⟩
        · rfl
        · rw [List.getElem?_set_ne (Ne.symm hj')] at h4
          exact ((hn a q e.symm rfl).1 ⟨l, b, e', h4⟩).elim
      · rw [List.getElem?_set_ne (Ne.symm hj)] at h3
        rcases get h2 with ⟨rfl, e', hl⟩ | ⟨hj', e'⟩
        · rw [List.getElem?_set_self hl] at h4
          cases h4
          exact ((hn b q e'.symm rfl).1 ⟨j, a, e, h3⟩).elim
        · rw [List.getElem?_set_ne (Ne.symm hj')] at h4
          exact p.e.dj j l a b q e e' h3 h4
    · rcases own q z with ⟨d, e1, e2⟩ | z
      · exact (hn d q e1 e2).2.symm
      · exact p.t.s q z
  cases o with
  | dat d => cases hs; exact main ⟨v, rfl, p.r⟩ fun d q z => nomatch z
  | own d =>
    cases hs
    obtain ⟨q, e, oa, no⟩ := p.r
    subst e
    exact main ⟨q, rfl, oa⟩ fun d' q' e1 e2 => by
      cases e2
      exact ⟨no, p.n d q rfl rfl⟩
  | slot j => exact (ho j rfl).elim
/-- an expression whose value is taken: an owned name's list is kept as it is -/
def takeO (env : Env) : Opd → Option (Opd × Env)
  | .slot j => match look env j with | .own (.lst xs) => some (.dat (.lst xs), env.set j (.val (.lst xs))) | .own (.dct ks vs) => some (.dat (.dct ks vs), env.set j (.val (.dct ks vs))) | _ => none
  | o => some (o, env)
theorem pe_take {X : Cx} {e : Expr} {f : Ev} (h : PE X e (tE X.K f)) : PE X e (tE X.K fun env => match f env with | none => none | some (o, env) => takeO env o) := by
  refine ⟨fun pins s σ H Q I hw => ?_⟩
  obtain ⟨env, o, env', E, hf, q⟩ := hw
  dsimp only at hf
  cases hfe : f env with
  | none => rw [hfe] at hf; cases hf
  | some oe =>
    obtain ⟨o1, env1⟩ := oe
    rw [hfe] at hf
    have hf : takeO env1 o1 = some (o, env') := hf
    cases o1 with
    | dat d => cases hf; exact h.run pins s σ H Q I ⟨env, _, _, E, hfe, q⟩
    | own d => cases hf; exact h.run pins s σ H Q I ⟨env, _, _, E, hfe, q⟩
    | slot j =>
      cases hl : look env1 j with
      | own d0 =>
        cases d0 with
        | lst xs =>
          simp only [takeO, hl] at hf
          cases hf
          exact (pe_frz h).run pins s σ H Q I ⟨env, .lst xs, _, E, by simp only [hfe, toD, hl], fun v H' E' t' r => q v H' (po_dat E' t' r)⟩
        | dct ks ws =>
          simp only [takeO, hl] at hf
          cases hf
          exact (pe_frz h).run pins s σ H Q I ⟨env, .dct ks ws, _, E, by simp only [hfe, toD, hl], fun v H' E' t' r => q v H' (po_dat E' t' r)⟩
        | _ => simp [takeO, hl] at hf
      | un => simp [takeO, hl] at hf
      | val d0 => simp [takeO, hl] at hf
theorem set_inv {i : Nat} {e : E} {env : Env} {r : R} (h : ex c W (.set i e) env = some r) : ∃ o env1 env2, (match ev c e .v env with | none => none | some (o, env) => takeO env o) = some (o, env1) ∧ store env1 i o = some env2 ∧ r = .nx env2 ∧ ∀ j, o ≠ .slot j := by
  simp only [ex] at h
  cases e1 : ev c e .v env with
  | none => rw [e1] at h; cases h
  | some oe =>
    obtain ⟨o, env1⟩ := oe
    rw [e1] at h
    simp only at h
    cases o with
    | dat d => simp only [store] at h; cases h; exact ⟨.dat d, env1, _, rfl, rfl, rfl, fun _ z => nomatch z⟩
    | own d => simp only [store] at h; cases h; exact ⟨.own d, env1, _, rfl, rfl, rfl, fun _ z => nomatch z⟩
    | slot j =>
      cases hl : look env1 j with
      | own d0 =>
        cases d0 with
        | lst xs =>
          simp only [store, hl] at h
          cases h
          exact ⟨.dat (.lst xs), env1.set j (.val (.lst xs)), _, by simp only [takeO, hl], rfl, rfl, fun _ z => nomatch z⟩
        | dct ks ws =>
          simp only [store, hl] at h
          cases h
          exact ⟨.dat (.dct ks ws), env1.set j (.val (.dct ks ws)), _, by simp only [takeO, hl], rfl, rfl, fun _ z => nomatch z⟩
        | _ => simp [store, hl] at h
      | un => simp [store, hl] at h
      | val d0 => simp [store, hl] at h
theorem loc_of {X : Cx} {G : Ck} (O : XOk X G c) {i : Nat} {x : Str} (h : stOk G i x = true) : X.N[i]? = some x ∧ L2.Loc X.env.scope x ∧ (X.fn x = true ∨ X.env.scope.names.lookup x = some .local) := by
  obtain ⟨k1, k2⟩ := and2 h
  refine ⟨by rw [O.n]; exact of_decide_eq_true k1, ?_⟩
  unfold L2.Loc
  rw [O.sc]
  unfold locB at k2
  split at k2
  · rename_i e; exact ⟨.inl e, .inr e⟩
  · rename_i e; exact ⟨.inr e, .inl (O.fn x k2)⟩
  · cases k2
theorem nocomp {e : E} {G : Ck} {x : Expr} (h : ckE e G x = true) : (∃ elt gs sc pos, x = .ListComp elt gs sc pos) ∨ (isComp x = false) := by
  cases x <;> first | exact .inr rfl | exact .inl ⟨_, _, _, _, rfl⟩ | (exfalso; cases e <;> first | (cases h; done) | (rename_i src _ _; cases src <;> cases h))
theorem sw_none {x : Expr} {t : Option Expr} {l : Nat} {env : PySem.Env} (h : isComp x = false) : swapsWith x t l env = pure false := by
  cases x <;> first | rfl | cases h
theorem ss_set {i : Nat} {e : E} : SS c W (.set i e) := fun X G kp T O x hx => by
  cases x <;> first | (cases hx; done) | skip
  rename_i ts v pos
  match ts, hx with
  | [.Name x p], hx =>
    obtain ⟨k1, k2⟩ := and2 (show (stOk G i x && !kp.contains i && ckE e G v) = true from hx)
    obtain ⟨k3, k4⟩ := and2 k1
    have hk : kp.contains i = false := by simpa using k4
    obtain ⟨n1, n2, n3⟩ := loc_of O k3
    have fin : ∀ {D : Ends} {σ : St} {H : Hp}, tS X kp (ex c W (.set i e)) D σ H → tAsg (tE X.K fun env => match ev c e .v env with | none => none | some (o, env) => takeO env o) (gName i) D σ H := by
      rintro D σ H ⟨env, r, E, hf, q⟩
      obtain ⟨o, env1, env2, e1, e2, rfl, ho⟩ := set_inv hf
      exact ⟨env, o, env1, E, e1, fun v H1 p1 => q _ H1 (store_end hk p1 e2 ho)⟩
    rcases nocomp k2 with ⟨elt, gs, sc, cpos, rfl⟩ | hc
    · have hsw : ∃ b, swapsWith (.ListComp elt gs sc cpos) (some (.Name x p)) pos.line X.env = pure b ∧ (b = true → X.env.scope.names.lookup x = some .local) := by
        refine ⟨X.env.blockKind == .function && X.env.kindOf x == some .local && p.line == cpos.line && !(sc.names.any fun (n, k) => n == x && (k == .local || k == .cell)), rfl, fun h => ?_⟩
        simp only [Bool.and_eq_true, beq_iff_eq] at h
        exact h.1.1.2
      obtain ⟨b, hb, hl⟩ := hsw
      cases b with
      | false => exact PS.imp (ps_set O.nd n1 n2 (pe_take (se e X G O _ k2).1) hb n3) fun D σ H h => fin h
      | true =>
        cases e with
        | lc own tg src cond elt0 =>
          obtain ⟨elt', t0, i0, ifs0, scope, pos', hxe, L⟩ := lc_parts (X := X) k2
          cases hxe
          obtain ⟨p1, p2, p3, p4, p5⟩ := L.pe O (se2 src).1 (se2 src).2 (ses cond) (se2 elt0).1
          refine PS.imp (ps_setLc O.calm O.nd n1 (hl rfl) hb p1 p2 p3 p4 p5 (fun x => nofold L.src X.env x)) fun D σ H ⟨env, r, E, hf, q⟩ => ?_
          obtain ⟨o, env1, env2, e1, e2, rfl, ho⟩ := set_inv hf
          refine L.read ⟨env, o, env1, E, ?_, fun v H1 p1 => q _ H1 (store_end hk p1 e2 ho)⟩
          cases e3 : ev c (.lc own tg src cond elt0) .v env with
          | none => rw [e3] at e1; cases e1
          | some oe =>
            obtain ⟨o', env'⟩ := oe
            obtain ⟨_, _, _, _, _, _, _, rfl, _⟩ := lc_inv e3
            rw [e3] at e1
            cases e1
            rfl
        | lc2 own tg src cond vs1 tg1 src1 cond1 elt0 =>
          obtain ⟨elt', t0, i0, ifs0, t1, i1, ifs1, scope, pos', hxe, L⟩ := lc2_parts (X := X) k2
          cases hxe
          obtain ⟨p1, p2, p3, p4, p5, p6, p7, p8, p9⟩ := L.pe O (se2 src).1 (se2 src).2 (ses cond) (se2 src1).1 (se2 src1).2 (ses cond1) (se2 elt0).1
          refine PS.imp (ps_setLc2 O.calm O.nd n1 (hl rfl) hb p1 p2 p3 p4 p5 p6 p7 p8 p9 (fun x => nofold L.src X.env x) (fun env x => nofold L.src1 env x)) fun D σ H ⟨env, r, E, hf, q⟩ => ?_
          obtain ⟨o, env1, env2, e1, e2, rfl, ho⟩ := set_inv hf
          refine L.read ⟨env, o, env1, E, ?_, fun v H1 p1 => q _ H1 (store_end hk p1 e2 ho)⟩
          cases e3 : ev c (.lc2 own tg src cond vs1 tg1 src1 cond1 elt0) .v env with
          | none => rw [e3] at e1; cases e1
          | some oe =>
            obtain ⟨o', env'⟩ := oe
            obtain ⟨_, _, _, _, _, _, _, rfl, _⟩ := lc2_inv e3
            rw [e3] at e1
            cases e1
            rfl
        | _ => cases k2
    · exact PS.imp (ps_set O.nd n1 n2 (pe_take (se e X G O _ k2).1) (sw_none hc) n3) fun D σ H h => fin h
theorem ss_expr {e : E} : SS c W (.expr e) := fun X G kp T O x hx => by
  cases x <;> first | (cases hx; done) | skip
  rename_i v pos
  obtain ⟨k1, k2⟩ := and2 hx
  refine PS.imp (ps_expr (se e X G O _ k1).1 (sw_none (by simpa using k2))) fun D σ H ⟨env, r, E, hf, q⟩ => ?_
  simp only [ex] at hf
  cases e1 : ev c e .v env with
  | none => rw [e1] at hf; cases hf
  | some oe =>
    obtain ⟨o, env1⟩ := oe
    rw [e1] at hf
    cases hf
    exact ⟨env, o, _, E, e1, fun v H1 p1 => q σ H1 (.ex p1.e p1.t)⟩
theorem give_inv {env : Env} {o o' : Opd} {env' : Env} (h : giveOut env o = some (o', env')) : (o' = o ∧ env' = env ∧ ∀ j, o ≠ .slot j) ∨ ∃ i d, o = .slot i ∧ look env i = .own d ∧ o' = .own d ∧ env' = env.set i .un := by
  cases o with
  | dat d => cases h; exact .inl ⟨rfl, rfl, fun _ z => nomatch z⟩
  | own d => cases h; exact .inl ⟨rfl, rfl, fun _ z => nomatch z⟩
  | slot i =>
    simp only [giveOut] at h
    cases hl : look env i with
    | own d => rw [hl] at h; cases h; exact .inr ⟨i, d, rfl, hl, rfl, rfl⟩
    | un => rw [hl] at h; cases h
    | val d => rw [hl] at h; cases h
theorem ret_read {X : Cx} {kp : List Nat} {e : E} {D : Ends} {σ : St} {H : Hp} (h : tS X kp (ex c W (.ret e)) D σ H) : tE X.K (ev c e .v) σ H D.rt := by
  obtain ⟨env, r, E, hf, q⟩ := h
  simp only [ex] at hf
  cases e1 : ev c e .v env with
  | none => rw [e1] at hf; cases hf
  | some oe =>
    obtain ⟨o, env1⟩ := oe
    rw [e1] at hf
    simp only at hf
    cases e2 : giveOut env1 o with
    | none => rw [e2] at hf; cases hf
    | some oe2 =>
      obtain ⟨o2, env2⟩ := oe2
      rw [e2] at hf
      cases hf
      refine ⟨env, o, env1, E, e1, fun v H1 p1 => ?_⟩
      rcases give_inv e2 with ⟨rfl, rfl, _⟩ | ⟨i, d, rfl, hl, rfl, rfl⟩
      · exact q v σ H1 (.ex p1.e p1.t) p1.r p1.n
      · obtain ⟨p, g1, g2, g3⟩ := p1.e.own hl
        have g4 : σ[i]? = some (some v) := p1.r
        rw [g1] at g4
        cases g4
        obtain ⟨u1, u2, u3⟩ := p1.e.un i
        refine q _ σ H1 ⟨u1, p1.t.trans ⟨fun b u e _ => e, fun p z => .inl (u2 p z)⟩, fun _ _ => rfl⟩ ⟨p, rfl, g2, u3 p g1 ⟨d, look_own hl⟩⟩ fun d' p' e1 e2 => ?_
        cases e2
        exact (p1.t.s _ g3).symm
theorem ss_ret {e : E} : SS c W (.ret e) := fun X G kp T O x hx => by
  cases x <;> first | (cases hx; done) | skip
  rename_i v pos
  cases v with
  | some v => exact PS.imp (ps_ret (se e X G O _ hx).1) fun D σ H h => ret_read h
  | none =>
    cases e <;> first | (cases hx; done) | skip
    refine PS.imp ps_retN fun D σ H h => ?_
    obtain ⟨env, o, env', E, hf, q⟩ := ret_read h
    cases hf
    exact q .non H (po_dat E .refl rfl)
theorem ss_brk : SS c W .brk := fun X G kp T O x hx => by
  cases x <;> first | (cases hx; done) | skip
  exact PS.imp ps_break fun D σ H ⟨env, r, E, hf, q⟩ => by cases hf; exact q σ H (.refl E)
theorem ss_pass : SS c W .pass := fun X G kp T O x hx => by
  cases x <;> first | (cases hx; done) | skip
  exact PS.imp ps_pass fun D σ H ⟨env, r, E, hf, q⟩ => by cases hf; exact q σ H (.refl E)
theorem ss_stop : SS c W .stop := fun X G kp T O x hx => by
  exact PS.imp ps_never fun D σ H ⟨env, r, E, hf, q⟩ => by cases hf
/-- a block behind a step -/
theorem tS_from {X : Cx} {kp : List Nat} {f : Env → Option R} {σ σ1 : St} {H H1 : Hp} {env env1 : Env} {r : R} {D : Ends} (p1 : PoS X.K kp σ H env σ1 H1 env1) (hf : f env1 = some r)
    (q : EndR X kp σ H env D r) : tS X kp f D σ1 H1 := by
  refine ⟨env1, r, p1.e, hf, ?_⟩
  cases r with
  | nx env2 => exact fun σ2 H2 p2 => q σ2 H2 (p1.trans p2)
  | brk env2 => exact fun σ2 H2 p2 => q σ2 H2 (p1.trans p2)
  | exc f env2 => exact fun σ2 H2 p2 => q σ2 H2 (p1.trans p2)
  | ret o env2 =>
    intro v σ2 H2 p2 r n
    refine q v σ2 H2 (p1.trans p2) r fun d p e1 e2 => ?_
    rcases n d p e1 e2 with z | z
    · exact p1.t.fresh z
    · exact (p1.t.s p z).symm
theorem ss_ite {t : E} {a b : List S} (ha : SSs c W a) (hb : SSs c W b) : SS c W (.ite t a b) := fun X G kp T O x hx => by
  cases x <;> first | (cases hx; done) | skip
  rename_i t' a' b' pos
  obtain ⟨k1, k2⟩ := and2 hx
  obtain ⟨k3, k4⟩ := and2 k1
  refine PS.imp (ps_if (se t X G O _ k3).2 (ha X G kp T O _ k4) (hb X G kp T O _ k2)) fun D σ H ⟨env, r, E, hf, q⟩ => ?_
  simp only [ex] at hf
  cases e1 : ev c t .t env with
  | none => rw [e1] at hf; cases hf
  | some oe =>
    obtain ⟨o, env1⟩ := oe
    rw [e1] at hf
    cases o with
    | dat d =>
      cases d with
      | bl k =>
        refine ⟨env, k, env1, E, e1, fun H1 E1 t1 => ?_⟩
        dsimp only
        cases k with
        | true => rw [if_pos rfl]; exact tS_from (.ex E1 t1) hf q
        | false => rw [if_neg Bool.false_ne_true]; exact tS_from (.ex E1 t1) hf q
      | _ => cases hf
    | _ => cases hf
/-! ### stores -/
theorem fm_short {α β : Type} {f : α → Option β} : ∀ {l : List α} {x : α}, x ∈ l → f x = none → (l.filterMap f).length < l.length
  | y :: l, x, hx, h => by
    rcases List.mem_cons.mp hx with rfl | hx
    · rw [List.filterMap_cons, h, List.length_cons]
      exact Nat.lt_succ_of_le (List.length_filterMap_le _ _)
    · have ih := fm_short hx h
      rw [List.filterMap_cons, List.length_cons]
      cases f y with
      | none => exact Nat.lt_succ_of_lt ih
      | some z => exact Nat.succ_lt_succ ih
theorem sw_no {ts : List Expr} {k : Nat} {tp : Pos} {v : Expr} {env : PySem.Env} (h : (decide (3 < ts.length) || ts.any fun | .Name x _ => !decide (env.scope.names.lookup x = some .local) | _ => false) = true) : swappedStores [.Tuple ts k tp] v env = pure none := by
  cases v with
  | Tuple vs k' p' =>
    unfold swappedStores
    simp only
    split
    · rfl
    · rename_i h1
      split
      · rfl
      · split
        · rfl
        · rename_i h3
          exfalso
          rcases (Bool.or_eq_true _ _).mp h with h | h
          · have := of_decide_eq_true h
            have e2 : (ts.length == 2) = false := beq_eq_false_iff_ne.mpr (by omega)
            have e3 : (ts.length == 3) = false := beq_eq_false_iff_ne.mpr (by omega)
            rw [e2, e3] at h1
            exact h1 (by simp)
          · obtain ⟨x, hx, hy⟩ := List.any_eq_true.mp h
            refine h3 ?_
            rw [Bool.or_eq_true]
            left
            refine bne_iff_ne.mpr (Nat.ne_of_lt (fm_short hx ?_))
            cases x with
            | Name x px =>
              have hn : ¬ env.scope.names.lookup x = some .local := by simpa using hy
              have hb : (env.kindOf x == some .local) = false := by
                unfold Env.kindOf
                exact beq_eq_false_iff_ne.mpr hn
              simp [hb]
            | _ => rfl
  | _ => rfl
theorem ss_unp {is : List Nat} {e : E} : SS c W (.unp is e) := fun X G kp T O x hx => by
  cases x <;> first | (cases hx; done) | skip
  rename_i ts v pos
  match ts, hx with
  | [.Tuple ts k tp], hx =>
    obtain ⟨k1, k2⟩ := and2 (show (ckTs G is ts && (is.all fun i => !kp.contains i) && (!isTupL v || noSw G ts) && ckE e G v) = true from hx)
    obtain ⟨k3, k4⟩ := and2 k1
    obtain ⟨k5, k6⟩ := and2 k3
    have hs : swapsWithSole [.Tuple ts k tp] v pos.line X.env = pure false := by
      rcases nocomp k2 with ⟨elt, gs, sc, cpos, rfl⟩ | hc
      · rfl
      · unfold swapsWithSole
        exact sw_none hc
    have hw : swappedStores [.Tuple ts k tp] v X.env = pure none := by
      rcases (Bool.or_eq_true _ _).mp k4 with k4 | k4
      · have hv : isTupL v = false := by simpa using k4
        cases v with
        | Tuple vs k' p' =>
          have hall : vs.all (foldedForSure 8) = true := by
            unfold isTupL at hv
            simpa using hv
          unfold swappedStores
          simp only [hall]
          split
          · rfl
          · split
            · rfl
            · split
              · rfl
              · rfl
        | List _ _ => cases hv
        | _ => rfl
      · exact sw_no (by rw [O.sc]; exact k4)
    refine PS.imp (ps_asg (pe_frz (se e X G O _ k2).1) (pg_of O (tg := .tp is) (show ckTg G (.tp is) (.Tuple ts k tp) = true from k5)) hs hw rfl) fun D σ H ⟨env, r, E, hf, q⟩ => ?_
    simp only [ex] at hf
    cases e1 : ev c e .v env with
    | none => rw [e1] at hf; cases hf
    | some oe =>
      obtain ⟨o, env1⟩ := oe
      rw [e1] at hf
      simp only at hf
      cases e2 : toD env1 o with
      | none => rw [e2] at hf; cases hf
      | some de =>
        obtain ⟨d, env2⟩ := de
        rw [e2] at hf
        cases d with
        | tup ds =>
          simp only at hf
          cases e3 : setAll env2 is ds with
          | none => rw [e3] at hf; cases hf
          | some env3 =>
            rw [e3] at hf
            cases hf
            refine ⟨env, .tup ds, env2, E, by simp only [e1, e2], fun v H1 E1 t1 r1 => ⟨env2, .tup ds, env3, E1, r1, e3, fun σ' E' l' s' o' => q σ' H1 ⟨E', t1.trans ⟨fun b u e _ => e, fun p z => .inl (o' p z)⟩, fun j hj => s' j fun z => ?_⟩⟩⟩
            have := List.all_eq_true.mp k6 j z
            rw [List.contains_iff_mem.mpr hj] at this
            cases this
        | _ => cases hf
theorem sub_inv {i : Nat} {ix e : E} {env : Env} {r : R} (h : ex c W (.sub i ix e) env = some r) :
    ∃ d env1 k env2 l l' l0, (match ev c e .v env with | none => none | some (o, env) => toD env o) = some (d, env1) ∧ look env1 i = .own l0 ∧ ev c ix .v env1 = some (.dat k, env2) ∧ look env2 i = .own l ∧ setL l k d = some l' ∧ r = .nx (env2.set i (.own l')) := by
  simp only [ex] at h
  cases e1 : ev c e .v env with
  | none => rw [e1] at h; cases h
  | some oe =>
    obtain ⟨o, env1⟩ := oe
    rw [e1] at h
    simp only at h
    cases e2 : toD env1 o with
    | none => rw [e2] at h; cases h
    | some de =>
      obtain ⟨d, env2⟩ := de
      rw [e2] at h
      simp only at h
      cases e0 : look env2 i with
      | un => rw [e0] at h; cases h
      | val _ => rw [e0] at h; cases h
      | own l0 =>
        rw [e0] at h
        simp only at h
        cases e3 : ev c ix .v env2 with
        | none => rw [e3] at h; cases h
        | some ke =>
          obtain ⟨k, env3⟩ := ke
          rw [e3] at h
          cases k with
          | dat k =>
            simp only at h
            cases e4 : look env3 i with
            | own l =>
              rw [e4] at h
              simp only at h
              cases e5 : setL l k d with
              | none => rw [e5] at h; cases h
              | some l' =>
                rw [e5] at h
                cases h
                exact ⟨d, env2, k, env3, l, l', l0, e2, e0, e3, e4, e5, rfl⟩
            | un => rw [e4] at h; cases h
            | val _ => rw [e4] at h; cases h
          | _ => cases h
theorem noslice {e : E} {G : Ck} {l h st : Option Expr} {p : Pos} (k : ckE e G (.Slice l h st p) = true) : False := by
  cases e <;> first | (cases k; done) | (rename_i src _ _; cases src <;> cases k)
theorem set_both {X : Cx} (hu : X.A.units + 65 < cLine) : PSet X (fun o i v H Q => rSetL o i v H Q ∨ (∃ a H', o = .ref a ∧ DPut H a i v H' ∧ Q H') ∨ rSetT X.K o i v H Q) := by
  intro pins s σ H o i v ov iv u Q I ro ri rv h
  rcases h with h | ⟨a, H', e, g, q⟩ | h
  · exact set_list pins s σ H o i v ov iv u Q I ro ri rv h
  · subst e
    cases ro
    exact d_setItem (by omega) I g ri rv fun s' I' => ⟨H', I', q⟩
  · exact set_dkt hu pins s σ H o i v ov iv u Q I ro ri rv h
theorem ss_sub {i : Nat} {ix e : E} : SS c W (.sub i ix e) := fun X G kp T O x hx => by
  cases x <;> first | (cases hx; done) | skip
  rename_i ts v pos
  match ts, hx with
  | [.Subscript (.Name x p) ix' sp], hx =>
    obtain ⟨k1, k2⟩ := and2 (show (ldOk G i x && ckE ix G ix' && ckE e G v) = true from hx)
    obtain ⟨k3, k4⟩ := and2 k1
    have hs : swapsWithSole [.Subscript (.Name x p) ix' sp] v pos.line X.env = pure false := by
      rcases nocomp k2 with ⟨elt, gs, sc, cpos, rfl⟩ | hc
      · rfl
      · unfold swapsWithSole
        exact sw_none hc
    have ha : ∀ v, assign (.Subscript (.Name x p) ix' sp) X.env v = (do
        let ov ← holding [v] (eval (.Name x p) X.env)
        let iv ← holding [v, ov] (eval ix' X.env)
        standAt sp
        holding [v, ov, iv] (setItem ov iv v)
        release [v, ov, iv] []) := by
      intro v
      cases ix' <;> first | rfl | exact (noslice k4).elim
    refine PS.imp (ps_asg (pe_frz (se e X G O _ k2).1) (pg_sub (ld_of O k3) (se ix X G O _ k4).1 (set_both (by have := O.un; omega)) ha) hs rfl rfl) fun D σ H ⟨env, r, E, hf, q⟩ => ?_
    obtain ⟨d, env1, k, env2, l, l', l0, e1, e0, e2, e3, e4, rfl⟩ := sub_inv hf
    refine ⟨env, d, env1, E, e1, fun v H1 E1 t1 r1 => ?_⟩
    -- the name's object, at its reading
    have key : ∀ {H2 : Hp}, EnvR X.K H2 σ env2 → Tr σ H1 env1 σ H2 env2 → ∃ p0, σ[i]? = some (some (.ref p0)) ∧ OwnAt X.K H2 l p0 := fun E2 t2 => by
      obtain ⟨p0, g1, g2, _⟩ := E2.own e3
      exact ⟨p0, g1, g2⟩
    have hσ : ∃ x0, σ[i]? = some (some x0) := by
      obtain ⟨p0, g1, _⟩ := E1.own e0
      exact ⟨_, g1⟩
    obtain ⟨x0, hx0⟩ := hσ
    refine ⟨x0, hx0, env1, _, env2, E1, e2, fun kv H2 p2 => ?_⟩
    obtain ⟨p0, g1, g2⟩ := key p2.e p2.t
    rw [hx0] at g1
    cases g1
    have tkt : (match dkv l with
        | some (ks, vs) => match ckey ks k with
          | some q => if ks.length < line then some (PF.D.dkt (addT k q ks) (putT ks vs q d)) else none
          | none => none
        | none => none) = some l' → rSetT X.K (.ref p0) kv v H2 (fun H3 => D.nx σ H3) := fun e4 => by
      split at e4
      · rename_i ks vs h1
        split at e4
        · rename_i qq h2
          split at e4
          · rename_i hz
            cases e4
            have r2 : Rp X.K H2 d v := r1.mono (p2.t.kp E1)
            refine ⟨p0, l, ks, vs, k, qq, d, rfl, g2, h1, p2.r, h2, r2, hz, fun o' ow => ?_⟩
            have pe := mut_end (d' := .dkt (addT k qq ks) (putT ks vs qq d)) (r := .non) (v := .non) p2.e (t1.trans p2.t) e3 hx0 (fun b n => upd_ne n) (ow _ rfl) g2 rfl
            exact q σ _ (.ex pe.e pe.t)
          · cases e4
        · cases e4
      · cases e4
    cases l with
    | lst ds =>
      cases k with
      | int kk =>
        obtain ⟨j, ej, rfl⟩ := Option.map_eq_some_iff.mp e4
        obtain ⟨vs, hv, rv⟩ := g2
        have hkv : kv = .int kk := p2.r
        have r2 : Rp X.K H2 d v := r1.mono (p2.t.kp E1)
        refine .inl ⟨p0, vs, kk, j, rfl, hkv, hv, by rw [rv.length]; exact ej, ?_⟩
        obtain ⟨kq, oq⟩ := upd_own (p := p0) hv (rv.set r2 j)
        have pe := mut_end (r := .non) (v := .non) p2.e (t1.trans p2.t) e3 hx0 (fun b n => upd_ne n) oq ⟨vs, hv, rv⟩ rfl
        exact q σ _ (.ex pe.e pe.t)
      | _ => cases e4
    | dct ks ds =>
      cases k with
      | int kk =>
        simp only [setL] at e4
        by_cases hz : ks.length < line
        · rw [if_pos hz] at e4
          cases e4
          have g2' := g2
          obtain ⟨kvs, rfl, hv, rv⟩ := g2'
          have hkv : kv = .int kk := p2.r
          have r2 : Rp X.K H2 d v := r1.mono (p2.t.kp E1)
          have hz2 : (dK kvs).length < sizeLine := by rw [← line_eq]; simpa using hz
          have kD : Kp H2 (upd H2 p0 (.dK (putK (dK kvs) (Sum.inl kk) v))) := upd_kp fun ob u e => by rw [hv] at e; cases e
          refine .inr (.inl ⟨p0, _, rfl, by rw [hkv]; exact DPut.k (k := Sum.inl kk) hv hz2, ?_⟩)
          obtain ⟨kvs', e5, e6, e7⟩ := put_dct kk rv r2
          rw [e5]
          rw [e5] at kD
          have pe := mut_end (d' := .dct (addI kk (kvs.map fun q => PF.D.int q.1)) (putI (kvs.map fun q => PF.D.int q.1) ds kk d)) (r := .non) (v := .non) p2.e (t1.trans p2.t) e3 hx0 (fun b n => upd_ne n) ⟨kvs', e6, upd_same, e7.mono kD⟩ g2 rfl
          exact q σ _ (.ex pe.e pe.t)
        · rw [if_neg hz] at e4; cases e4
      | _ => exact .inr (.inr (tkt (by rw [← e4]; rfl)))
    | dkt ks ds => exact .inr (.inr (tkt (by rw [← e4]; cases k <;> rfl)))
    | set ds => cases k <;> cases e4
    | _ => exact g2.elim
end
end PF
/-! PF12E: errors: raise; try around one call. -/
namespace PF
open PySem PySem.Spec PyProof.Rows L2
abbrev More (H H' : Hp) : Prop := ∀ b u, H b = some u → H' b = some u
theorem kept_env {K : PySem.W.Frag} {σ : St} {H H' : Hp} {env : Env} (E : EnvR K H σ env) (k : More H H') : EnvR K H' σ env := by
  refine ⟨E.len, fun j sl e => ?_, E.dj⟩
  obtain ⟨x, e2, rr⟩ := E.sl j sl e
  refine ⟨x, e2, ?_⟩
  have kp : Kp H H' := fun a o u e => k _ _ e
  cases sl with
  | un => trivial
  | val d => obtain ⟨v, e3, rr⟩ := rr; exact ⟨v, e3, rr.mono kp⟩
  | own d2 =>
    obtain ⟨p2, e3, rr⟩ := rr
    subst e3
    exact ⟨p2, rfl, rr.keep kp fun u qq => k p2 u qq⟩
theorem dats_lend : ∀ {os : List Opd} {ss : List Slot} {env : Env}, dats os = some ss → lend os env = some (ss, env)
  | [], ss, env, h => by cases h; rfl
  | .dat d :: r, ss, env, h => by
    obtain ⟨s1, h1, rfl⟩ := Option.map_eq_some_iff.mp h
    simp only [lend, dats_lend h1]
  | .own d :: r, ss, env, h => by cases h
  | .slot i :: r, ss, env, h => by cases h
theorem dats_give : ∀ {os : List Opd} {ss fs : List Slot} {env : Env}, dats os = some ss → giveBack os fs env = env
  | [], ss, fs, env, h => by simp [giveBack]
  | .dat d :: r, ss, fs, env, h => by
    obtain ⟨s1, h1, rfl⟩ := Option.map_eq_some_iff.mp h
    cases fs with
    | nil => simp [giveBack]
    | cons f fs => simp only [giveBack]; exact dats_give h1
  | .own d :: r, ss, fs, env, h => by cases h
  | .slot i :: r, ss, fs, env, h => by cases h
theorem dats_own : ∀ {os : List Opd} {ss : List Slot}, dats os = some ss → noOwn ss = true
  | [], ss, h => by cases h; rfl
  | .dat d :: r, ss, h => by
    obtain ⟨s1, h1, rfl⟩ := Option.map_eq_some_iff.mp h
    have := dats_own h1
    unfold noOwn at this ⊢
    simpa using this
  | .own d :: r, ss, h => by cases h
  | .slot i :: r, ss, h => by cases h
section
variable {c : Cl} {W : Nat} {X : Cx} {G : Ck}
/-! ### raise -/
theorem ss_raise {f : Str} : SS c W (.raise f) := fun X G kp T O x hx => by
  cases x <;> first | (cases hx; done) | skip
  rename_i e cs pos
  match e, cs, hx with
  | some (.Call (.Name x p) [.Constant (.str m) j p2] [] pos'), none, hx =>
    obtain ⟨k1, k2⟩ := and2 (show (decide (x = f) && gbOk G x && G.xn.contains f && G.xs.contains (.exc f)) = true from hx)
    obtain ⟨k3, k4⟩ := and2 k1
    obtain ⟨k5, k6⟩ := and2 k3
    have ex : x = f := of_decide_eq_true k5
    subst ex
    obtain ⟨g1, g2⟩ := gl_of O k6
    obtain ⟨C, e1, e2⟩ := exc_ref (O.xf _ (List.contains_iff_mem.mp k2))
    obtain ⟨b1, b2, b3, b4⟩ := excB_ok e2
    have hm := O.xg _ (List.contains_iff_mem.mp k4)
    rw [e1] at hm
    refine PS.imp (ps_raise O.calm takes_W0 (pmk_own PySem.F.excBase_ValueError b1 hm b2 (raises_own b4.hs b3) g1 g2)) fun D σ H ⟨env, r, E, hf, q⟩ => ?_
    cases hf
    exact ⟨x, e1.symm, rfl, q σ H (.refl E)⟩
/-! ### tests of a caught error -/
/-- isinstance(e, (A, B)) -/
def rIsT (K : PySem.W.Frag) (D a : Addr) : List V → Hp → VK → Prop := fun xs H Q => ∃ (tp : Addr) (cs : List V) (b : Bool), xs = [.ref a, .ref tp] ∧ H tp = some (.tup cs) ∧ (∀ us, Vals cs us → PySem.W.kitAny K (.ref D) us = some b) ∧ Q (.bl b) H
theorem call_isT {a D : Addr} {oe : Obj} {pn : List (Addr × Obj)} (C : ExcC X.K D) (hz : Zc (.ref D) none oe) (hf : ∃ vs, oe.data = .fields vs) : CallR (X.suite a ((a, oe) :: pn)) (.builtin "isinstance") (rIsT X.K D a) := by
  intro pins s σ H xs us Q I r h
  obtain ⟨tp, cs, b, rfl, ht, e, q⟩ := h
  cases r with
  | cons rx rr =>
    cases rr with
    | cons rt rr =>
      cases rr
      cases rx
      cases rt
      obtain ⟨_, its, hv, ot, h1, h2, n, h3⟩ := I.hok tp _ ht
      obtain ⟨oc, od, oda, osl⟩ := ot
      dsimp only at h2 h3
      subst h2 h3
      obtain ⟨hget, _⟩ := I.pin (a, oe) (List.mem_append.mpr (.inl List.mem_cons_self))
      obtain ⟨vs, hv2⟩ := hf
      have J : PySem.W.InstAt s.heap a oe D none := by
        obtain ⟨oc, od, oda, osl⟩ := oe
        obtain ⟨h1, h2⟩ := hz
        dsimp only at h1 h2 hv2
        subst h1 h2 hv2
        exact ⟨hget, rfl, rfl, trivial⟩
      exact PySem.W.kia_tup (PySem.W.handS_kitx_exc C.hg C.hk C.hs C.hd C.ha C.hn C.ht C.hm) I.kIn J h1 (e _ hv) (fun z => nomatch z) fun tk => ⟨.bl b, H, I.kept (t' := tk) fun _ _ z => z, rfl, q⟩
def tTst (i : Nat) (a : Addr) (v : V) : TE := fun σ H Q => σ[i]? = some (some (.ref a)) ∧ ∀ H', More H H' → Q v H'
def tTsT (i : Nat) (a : Addr) (b : Bool) : TT := fun σ H Q => σ[i]? = some (some (.ref a)) ∧ ∀ H', More H H' → Q b H'
/-- the setting of a suite -/
structure Su (X : Cx) (G : Ck) (all : List Str) (i : Nat) (n g : Str) (D : Addr) (oe : Obj) : Prop where
  gm : g ∈ all
  v : xvl X.K g = .ref D
  c : ExcC X.K D
  z : Zc (.ref D) none oe
  f : ∃ vs, oe.data = .fields vs
  nm : X.N[i]? = some n
  l : X.env.scope.names.lookup n = some .local
  d : (n == ("__debug__" : Str)) = false
  e : (n == ("__classdict__" : Str)) = false
section
variable {all : List Str} {i : Nat} {n g : Str} {D a : Addr} {oe : Obj} {pn : List (Addr × Obj)}
theorem su_var (S : Su X G all i n g D oe) {pos : Pos} : PE (X.suite a ((a, oe) :: pn)) (.Name n pos) (tVar i) :=
  pe_var (X := X.suite a ((a, oe) :: pn)) S.nm (by unfold Vis; exact .inl S.l) S.d S.e
/-- names of classes that stand in a tuple -/
theorem su_names (O : XOk X G c) : ∀ {ys : List Expr} {src : List Str}, namesOf ys = some src → (src.all fun y => gbOk G y && G.xn.contains y && all.all fun g => G.xs.contains (.isn g y false)) = true → g ∈ all → (xvl X.K g = .ref D) →
    ∃ cs, cs.length = src.length ∧ PA (X.suite a ((a, oe) :: pn)) ys (fun _ H Q => Q cs H) ∧ ∀ us, Vals cs us → PySem.W.kitAny X.K (.ref D) us = some false
  | [], src, h, _, _, _ => ⟨[], by cases h; rfl, PA.imp pa_nil fun _ _ _ h => h, fun us r => by cases r; rfl⟩
  | y :: ys, src, h, hs, hg, hv => by
    cases y <;> first | (cases h; done) | skip
    rename_i y p
    obtain ⟨src', h', rfl⟩ := Option.map_eq_some_iff.mp h
    obtain ⟨k1, k2⟩ := and2 (show ((gbOk G y && G.xn.contains y && all.all fun g => G.xs.contains (.isn g y false)) && (src'.all fun y => gbOk G y && G.xn.contains y && all.all fun g => G.xs.contains (.isn g y false))) = true from hs)
    obtain ⟨cs, h0, h1, h2⟩ := su_names O h' k2 hg hv
    obtain ⟨k3, k4⟩ := and2 k1
    obtain ⟨k5, k6⟩ := and2 k3
    obtain ⟨g1, g2⟩ := gl_of O k5
    have hm := O.xg _ (List.contains_iff_mem.mp k6)
    have hq := O.xf _ (List.contains_iff_mem.mp (List.all_eq_true.mp k4 g hg))
    obtain ⟨q1, q2⟩ := and2 (show (decide (PySem.W.kitOne X.K (xvl X.K g) (xvl X.K y) = some false) && (match xvl X.K y with | .ref _ => true | _ => false)) = true from hq)
    have q1 := of_decide_eq_true q1
    rw [hv] at q1
    cases ey : xvl X.K y with
    | ref A =>
      rw [ey] at hm q1
      have py : PE (X.suite a ((a, oe) :: pn)) (.Name y p) (tC (.ref A)) := pe_glob (X := X.suite a ((a, oe) :: pn)) g1 hm rfl g2
      refine ⟨.ref A :: cs, by simp [h0], PA.imp (pa_cons py h1) fun σ H Q h => h, fun us r => ?_⟩
      cases r with
      | cons r1 r2 =>
        cases r1
        unfold PySem.W.kitAny
        rw [q1]
        exact h2 _ r2
    | _ => rw [ey] at q2; cases q2
theorem su_t1 (O : XOk X G c) (S : Su X G all i n g D oe) {src yes : List Str} {x : Expr} (h : ckT1 G all n src yes x = true) : PE (X.suite a ((a, oe) :: pn)) x (tTst i a (.bl (yes.contains g))) ∧ PT (X.suite a ((a, oe) :: pn)) x (tTsT i a (yes.contains g)) := by
  suffices H : PE (X.suite a ((a, oe) :: pn)) x (tTst i a (.bl (yes.contains g))) ∧ ∀ whole, isTrue x (X.suite a ((a, oe) :: pn)).env whole = (do let v ← whole; standAt x.pos; holding [v] (truthy v)) by
    exact ⟨H.1, PT.imp (pt_truth H.1 H.2) fun σ H Q ⟨h1, h2⟩ => ⟨h1, fun H' m => ⟨_, rfl, h2 H' m⟩⟩⟩
  cases x <;> first | (cases h; done) | skip
  rename_i fe args kws pos
  cases fe <;> first | (cases h; done) | skip
  rename_i x p
  refine ⟨?_, fun _ => rfl⟩
  match args, kws, h with
  | [.Name m mp, .Name y yp], [], h =>
    obtain ⟨k1, k2⟩ := and2 (show (decide (x = "isinstance") && blOk G x && decide (m = n) && decide (src = [y]) && ckC G all y yes) = true from h)
    obtain ⟨k3, k4⟩ := and2 k1
    obtain ⟨k5, k6⟩ := and2 k3
    obtain ⟨k7, k8⟩ := and2 k5
    have ex : x = "isinstance" := of_decide_eq_true k7
    have em : m = n := of_decide_eq_true k6
    subst ex em
    obtain ⟨g1, g2, g3⟩ := bl_of O k8
    obtain ⟨b1, b2⟩ := and2 k2
    obtain ⟨y1, y2⟩ := gl_of O b1
    have fin : ∀ {cv : V} {u : Value}, PE (X.suite a ((a, oe) :: pn)) (.Name y yp) (tC cv) → (∀ w, RelV cv w → w = u) → PySem.W.kitOne X.K (.ref D) u = some (yes.contains g) → PE (X.suite a ((a, oe) :: pn)) (.Call (.Name "isinstance" p) [.Name m mp, .Name y yp] [] pos) (tTst i a (.bl (yes.contains g))) := by
      intro cv u pc hr hk
      refine PE.imp (pe_callB (X := X.suite a ((a, oe) :: pn)) (call_isE S.c S.z S.f) g1 g2 boot_isi (pa_cons (su_var S) (pa_cons pc pa_nil)) (by decide) g3) fun σ H Q ⟨h1, h2⟩ => ?_
      exact ⟨.ref a, h1, cv, u, _, rfl, hr, hk, h2 H fun _ _ z => z⟩
    rcases Bool.or_eq_true_iff.mp b2 with b | b
    · obtain ⟨c1, c2⟩ := and2 b
      have hm := O.xg _ (List.contains_iff_mem.mp c1)
      have hq := O.xf _ (List.contains_iff_mem.mp (List.all_eq_true.mp c2 g S.gm))
      obtain ⟨q1, q2⟩ := and2 (show (decide (PySem.W.kitOne X.K (xvl X.K g) (xvl X.K y) = some (yes.contains g)) && (match xvl X.K y with | .ref _ => true | _ => false)) = true from hq)
      have q1 := of_decide_eq_true q1
      rw [S.v] at q1
      cases ey : xvl X.K y with
      | ref A =>
        rw [ey] at hm q1
        exact fin (pe_glob (X := X.suite a ((a, oe) :: pn)) (v := .ref A) y1 hm rfl y2) (fun w r => r) q1
      | _ => rw [ey] at q2; cases q2
    · obtain ⟨c1, c2⟩ := and2 b
      obtain ⟨c3, c4⟩ := and2 c1
      have ey : y = "ValueError" := of_decide_eq_true c3
      subst ey
      have hq := O.xf _ (List.contains_iff_mem.mp (List.all_eq_true.mp c2 g S.gm))
      have q1 : PySem.W.kitOne X.K (xvl X.K g) (.type "ValueError") = some (yes.contains g) := of_decide_eq_true hq
      rw [S.v] at q1
      exact fin (pe_bltn (X := X.suite a ((a, oe) :: pn)) (v := .ty "ValueError") y1 (O.bn _ (List.contains_iff_mem.mp c4)) (by decide +kernel) rfl (by decide) y2) (fun w r => r) q1
  | [.Name m mp, .Tuple ys tc tp], [], h =>
    obtain ⟨k1, k2⟩ := and2 (show (decide (x = "isinstance") && blOk G x && decide (m = n) && decide (namesOf ys = some src) && decide (src.length ≤ 100) && decide (yes = []) && src.all fun y => gbOk G y && G.xn.contains y && all.all fun g => G.xs.contains (.isn g y false)) = true from h)
    obtain ⟨k3, k4⟩ := and2 k1
    obtain ⟨k5, k6⟩ := and2 k3
    obtain ⟨k7, k8⟩ := and2 k5
    obtain ⟨k9, k10⟩ := and2 k7
    obtain ⟨k11, k12⟩ := and2 k9
    have ex : x = "isinstance" := of_decide_eq_true k11
    have em : m = n := of_decide_eq_true k10
    have ey : yes = [] := of_decide_eq_true k4
    subst ex em ey
    obtain ⟨g1, g2, g3⟩ := bl_of O k12
    obtain ⟨cs, h0, h1, h2⟩ := su_names (a := a) (oe := oe) (pn := pn) O (of_decide_eq_true k8) k2 S.gm S.v
    refine PE.imp (pe_callB (X := X.suite a ((a, oe) :: pn)) (call_isT S.c S.z S.f) g1 g2 boot_isi (pa_cons (su_var S) (pa_cons (pe_tup h1) pa_nil)) (by decide) g3) fun σ H Q ⟨e1, e2⟩ => ?_
    refine ⟨.ref a, e1, ?_⟩
    refine ⟨?_, fun q hq => ⟨q, cs, false, rfl, upd_same, h2, e2 _ fun b u z => ?_⟩⟩
    · have := of_decide_eq_true k6
      rw [h0, sizeLine_eq]; omega
    · have nb : b ≠ q := fun w => by rw [w, hq] at z; cases z
      rw [upd_ne nb]; exact z
theorem su_t (O : XOk X G c) (S : Su X G all i n g D oe) {t : Bool × List Str × List Str} {x : Expr} (h : ckT G all n t x = true) : PE (X.suite a ((a, oe) :: pn)) x (tTst i a (.bl (decide (t.2.2.contains g = t.1)))) ∧ PT (X.suite a ((a, oe) :: pn)) x (tTsT i a (decide (t.2.2.contains g = t.1))) := by
  obtain ⟨b, src, yes⟩ := t
  cases b with
  | true =>
    have := su_t1 (a := a) (pn := pn) O S (show ckT1 G all n src yes x = true by cases x <;> exact h)
    simpa using this
  | false =>
    cases x <;> first | (cases h; done) | skip
    rename_i op x pos
    cases op <;> first | (cases h; done) | skip
    have ht : ckT1 G all n src yes x = true := h
    obtain ⟨h1, h2⟩ := su_t1 (a := a) (pn := pn) O S ht
    have e : (!(yes.contains g)) = decide (yes.contains g = false) := by cases yes.contains g <;> rfl
    refine ⟨PE.imp (pe_notT h1) fun σ H Q ⟨e1, e2⟩ => ⟨e1, fun H' m => ⟨_, rfl, ?_⟩⟩, PT.imp (pt_not h2) fun σ H Q ⟨e1, e2⟩ => ⟨e1, fun H' m => ?_⟩⟩
    · rw [e]; exact e2 H' m
    · show Q (!(yes.contains g)) H'
      rw [e]; exact e2 H' m
theorem su_ts (O : XOk X G c) (S : Su X G all i n g D oe) {pos : Pos} : ∀ {ts : List (Bool × List Str × List Str)} {xs : List Expr}, ts ≠ [] → ckTl G all n ts xs = true →
    PE (X.suite a ((a, oe) :: pn)) (.BoolOp .And xs pos) (tTst i a (.bl (ts.all fun t => decide (t.2.2.contains g = t.1)))) ∧ PW (X.suite a ((a, oe) :: pn)) (.BoolOp .And xs pos) (tTsT i a (ts.all fun t => decide (t.2.2.contains g = t.1)))
  | [], _, hn, _ => absurd rfl hn
  | t :: ts, [], _, h => by cases h
  | [t], [x], _, h => by
    obtain ⟨k1, k2⟩ := and2 (show (ckT G all n t x && ckTl G all n [] []) = true from h)
    obtain ⟨h1, h2⟩ := su_t (a := a) (pn := pn) O S k1
    rw [List.all_cons, List.all_nil, Bool.and_true]
    exact ⟨pe_one h1, pw_and1 h2⟩
  | [t], x :: y :: xs, _, h => by
    obtain ⟨k1, k2⟩ := and2 (show (ckT G all n t x && ckTl G all n [] (y :: xs)) = true from h)
    cases k2
  | t :: t2 :: ts, [x], _, h => by
    obtain ⟨k1, k2⟩ := and2 (show (ckT G all n t x && ckTl G all n (t2 :: ts) []) = true from h)
    cases k2
  | t :: t2 :: ts, x :: y :: xs, _, h => by
    obtain ⟨k1, k2⟩ := and2 (show (ckT G all n t x && ckTl G all n (t2 :: ts) (y :: xs)) = true from h)
    obtain ⟨h1, h2⟩ := su_t (a := a) (pn := pn) O S k1
    obtain ⟨h3, h4⟩ := su_ts O S (pos := pos) (ts := t2 :: ts) (by simp) k2
    rw [List.all_cons]
    refine ⟨PE.imp (pe_and h1 h3) fun σ H Q ⟨e1, e2⟩ => ⟨e1, fun H' m => ⟨_, rfl, ?_⟩⟩, ⟨fun wh pins s σ H Q I hw => (pw_and h2 h4).run wh pins s σ H Q I ⟨hw.1, fun H' m => ?_⟩⟩⟩
    · cases hb : decide (t.2.2.contains g = t.1) with
      | true => rw [if_pos rfl]; rw [hb, Bool.true_and] at e2; exact ⟨e1, fun H2 m2 => e2 H2 fun b u z => m2 b u (m b u z)⟩
      | false => rw [if_neg Bool.false_ne_true]; rw [hb, Bool.false_and] at e2; exact e2 H' m
    · obtain ⟨e1, e2⟩ := hw
      cases hb : decide (t.2.2.contains g = t.1) with
      | true => rw [if_pos rfl]; rw [hb, Bool.true_and] at e2; exact ⟨e1, fun H2 m2 => e2 H2 fun b u z => m2 b u (m b u z)⟩
      | false => rw [if_neg Bool.false_ne_true]; rw [hb, Bool.false_and] at e2; exact e2 H' m
end
/-! ### suites -/
def hdW : Hd → Str → V
  | .ret b, _ => .bl b
  | .tests nn ts, g => if nn then (if ts.all fun t => decide (t.2.2.contains g = t.1) then .bl true else .non) else .bl (ts.all fun t => decide (t.2.2.contains g = t.1))
theorem hd_rp {K : PySem.W.Frag} {H : Hp} {h : Hd} {g : Str} : Rp K H (hdV h g) (hdW h g) := by
  cases h with
  | ret b => rfl
  | tests nn ts =>
    cases nn with
    | false => rfl
    | true =>
      unfold hdV hdW
      simp only [if_true]
      by_cases e : (ts.all fun t => decide (t.2.2.contains g = t.1)) = true
      · rw [if_pos e, if_pos e]; rfl
      · rw [if_neg e, if_neg e]; rfl
def tsH (X : Cx) (all : List Str) (i : Option Nat) (h : Hd) (a : Addr) (cls : Value) (d : Option Addr) : TS := fun D σ H => ∃ g, g ∈ all ∧ cls = xvl X.K g ∧ d = none ∧ (∀ j, i = some j → σ[j]? = some (some (.ref a))) ∧ ∀ H', More H H' → D.rt (hdW h g) H'
theorem ckH_ret {b : Bool} {G : Ck} {all : List Str} {n : Option Str} {su : List Stmt} (hh : ckH (.ret b) G all n su = true) : ∃ j p1 p2, su = [.Return (some (.Constant (.bool b) j p1)) p2] := by
  unfold ckH at hh
  split at hh
  · rename_i b' c j p1 p2 e1
    cases e1
    have e : b = c := of_decide_eq_true hh
    subst e
    exact ⟨j, p1, p2, rfl⟩
  · rename_i e1; cases e1
  · rename_i e1; cases e1
  · cases hh
theorem ckH_f {ts : List (Bool × List Str × List Str)} {G : Ck} {all : List Str} {n : Option Str} {su : List Stmt} (hh : ckH (.tests false ts) G all n su = true) : ∃ m xs p1 p2, n = some m ∧ su = [.Return (some (.BoolOp .And xs p1)) p2] ∧ ts ≠ [] ∧ ckTl G all m ts xs = true := by
  unfold ckH at hh
  split at hh
  · rename_i e1; cases e1
  · rename_i ts' m xs p1 p2 e1
    cases e1
    obtain ⟨k1, k2⟩ := and2 hh
    exact ⟨m, xs, p1, p2, rfl, rfl, (by intro z; rw [z] at k1; cases k1), k2⟩
  · rename_i e1; cases e1
  · cases hh
theorem ckH_t {ts : List (Bool × List Str × List Str)} {G : Ck} {all : List Str} {n : Option Str} {su : List Stmt} (hh : ckH (.tests true ts) G all n su = true) : ∃ m xs p1 p2 p3 p4 p5 p6 j1 j2, n = some m ∧ su = [.If (.BoolOp .And xs p1) [.Return (some (.Constant (.bool true) j1 p2)) p3] [] p4, .Return (some (.Constant .none j2 p5)) p6] ∧ ts ≠ [] ∧ ckTl G all m ts xs = true := by
  unfold ckH at hh
  split at hh
  · rename_i e1; cases e1
  · rename_i e1; cases e1
  · rename_i e1
    cases e1
    obtain ⟨k1, k2⟩ := and2 hh
    exact ⟨_, _, _, _, _, _, _, _, _, _, rfl, rfl, (by intro z; rw [z] at k1; cases k1), k2⟩
  · cases hh
theorem ckH_nil {h : Hd} {G : Ck} {all : List Str} {n : Option Str} (hh : ckH h G all n [] = true) : False := by
  cases h with
  | ret b => obtain ⟨_, _, _, z⟩ := ckH_ret hh; cases z
  | tests nn ts =>
    cases nn with
    | false => obtain ⟨_, _, _, _, _, z, _⟩ := ckH_f hh; cases z
    | true => obtain ⟨_, _, _, _, _, _, _, _, _, _, _, z, _⟩ := ckH_t hh; cases z
theorem ckN_ok (O : XOk X G c) {i : Option Nat} {n : Str} (hn : ckN G i (some n) = true) : ∃ j, i = some j ∧ X.N[j]? = some n ∧ X.env.scope.names.lookup n = some .local ∧ (n == ("__debug__" : Str)) = false ∧ (n == ("__classdict__" : Str)) = false := by
  cases i with
  | none => cases hn
  | some j =>
    obtain ⟨m1, m2⟩ := and2 (show (decide (G.N[j]? = some n) && decide (G.sc.names.lookup n = some .local) && !(n == ("__debug__" : Str)) && !(n == ("__classdict__" : Str))) = true from hn)
    obtain ⟨m3, m4⟩ := and2 m1
    obtain ⟨m5, m6⟩ := and2 m3
    exact ⟨j, rfl, by rw [O.n]; exact of_decide_eq_true m5, by rw [O.sc]; exact of_decide_eq_true m6, by simpa using m4, by simpa using m2⟩
theorem suite_ok (O : XOk X G c) {all : List Str} {i : Option Nat} {n : Option Str} {h : Hd} {su : List Stmt} (hn : ckN G i n = true) (hh : ckH h G all n su = true) (hx : (all.all fun g => G.xs.contains (.exc g)) = true)
    {a : Addr} {oe : Obj} {cls : Value} {d : Option Addr} {pn : List (Addr × Obj)} (hz : Zc cls d oe) (hf : ∃ vs, oe.data = .fields vs) : PSs (X.suite a ((a, oe) :: pn)) su (tsH X all i h a cls d) := by
  refine ⟨fun pins s σ H D I hw => ?_⟩
  obtain ⟨g, hg, rfl, rfl, hi, q⟩ := hw
  obtain ⟨C, e1, e2⟩ := exc_ref (O.xf _ (List.contains_iff_mem.mp (List.all_eq_true.mp hx g hg)))
  obtain ⟨b1, b2, b3, b4⟩ := excB_ok e2
  rw [e1] at hz
  cases h with
  | ret b =>
    obtain ⟨j, p1, p2, rfl⟩ := ckH_ret hh
    exact (pss_cons (ps_ret pe_bl) pss_nil).run pins s σ H D I (q H fun _ _ z => z)
  | tests nn ts =>
    cases nn with
    | false =>
      obtain ⟨m, xs, p1, p2, rfl, rfl, hts, hck⟩ := ckH_f hh
      obtain ⟨j, rfl, m1, m2, m3, m4⟩ := ckN_ok O hn
      have S : Su X G all j m g C oe := ⟨hg, e1, b4, hz, hf, m1, m2, m3, m4⟩
      exact (pss_cons (ps_ret (su_ts (a := a) (pn := pn) O S hts hck).1) pss_nil).run pins s σ H D I ⟨hi j rfl, q⟩
    | true =>
      obtain ⟨m, xs, p1, p2, p3, p4, p5, p6, j1, j2, rfl, rfl, hts, hck⟩ := ckH_t hh
      obtain ⟨j, rfl, m1, m2, m3, m4⟩ := ckN_ok O hn
      have S : Su X G all j m g C oe := ⟨hg, e1, b4, hz, hf, m1, m2, m3, m4⟩
      refine (pss_cons (ps_if (su_ts (a := a) (pn := pn) O S hts hck).2.pt (pss_cons (ps_ret pe_bl) pss_nil) pss_nil) (pss_cons (ps_ret pe_non) pss_nil)).run pins s σ H D I ⟨hi j rfl, fun H' m => ?_⟩
      have q2 := q H' m
      unfold hdW at q2
      simp only [if_true] at q2
      generalize (ts.all fun t => decide (t.2.2.contains g = t.1)) = v at q2 ⊢
      cases v with
      | true => exact q2
      | false => exact q2
/-! ### try -/
theorem try_inv {f x : Str} {es : List E} {all yes : List Str} {a : Option Nat} {h : Hd} {env : Env} {r : R} (e : ex c W (.tryc f es x all yes a h) env = some r) : ∃ os env1 ss, evs c es env = some (os, env1) ∧ dats os = some ss ∧
    ((∃ o fs, c f ss = some (o, fs) ∧ r = .nx env1) ∨ ∃ g, c f (mark :: ss) = some (.dat (.str g), []) ∧ g ∈ all ∧ okI env1 a = true ∧ ((yes.contains g = true ∧ r = .ret (.dat (hdV h g)) env1) ∨ (yes.contains g = false ∧ r = .exc g env1))) := by
  simp only [ex] at e
  cases e1 : evs c es env with
  | none => rw [e1] at e; cases e
  | some oe =>
    obtain ⟨os, env1⟩ := oe
    rw [e1] at e
    simp only at e
    cases e2 : dats os with
    | none => rw [e2] at e; cases e
    | some ss =>
      rw [e2] at e
      simp only at e
      refine ⟨os, env1, ss, rfl, e2, ?_⟩
      cases e3 : c f ss with
      | some of =>
        rw [e3] at e
        cases e
        exact .inl ⟨of.1, of.2, rfl, rfl⟩
      | none =>
        rw [e3] at e
        simp only at e
        split at e
        · rename_i g e4
          split at e
          · rename_i e5
            obtain ⟨e6, e7⟩ := Bool.and_eq_true_iff.mp e5
            refine .inr ⟨g, e4, List.contains_iff_mem.mp e6, e7, ?_⟩
            split at e
            · rename_i e8; cases e; exact .inl ⟨e8, rfl⟩
            · rename_i e8; cases e; exact .inr ⟨by simpa using e8, rfl⟩
          · cases e
        · cases e
/-- the body of a try -/
def tTb (X : Cx) (c : Cl) (kp : List Nat) (f : Str) (es : List E) (all : List Str) (a : Option Nat) (W : WX) : TS := fun D σ H => ∃ env os env1 ss, EnvR X.K H σ env ∧ evs c es env = some (os, env1) ∧ dats os = some ss ∧
  ((∃ o fs, c f ss = some (o, fs) ∧ ∀ H', PoS X.K kp σ H env σ H' env1 → D.nx σ H') ∨ ∃ g, c f (mark :: ss) = some (.dat (.str g), []) ∧ ∀ H', PoS X.K kp σ H env σ H' env1 → W (xvl X.K g) none σ H')
theorem ss_tryc {f x : Str} {es : List E} {all yes : List Str} {a : Option Nat} {h : Hd} : SS c W (.tryc f es x all yes a h) := fun X G kp T O st hx => by
  cases st <;> first | (cases hx; done) | skip
  rename_i body hands orelse fin pos
  match body, hands, orelse, fin, hx with
  | [.Expr (.Call (.Name f' fp) xs [] cpos) epos], [.ExceptHandler (some (.Name x' np)) n suite hpos], [], [], hx =>
    obtain ⟨k1, h11⟩ := and2 (show (decide (f' = f) && gbOk G f' && G.fns.contains (f, es.length) && !es.isEmpty && ckEs es G xs && decide (x' = x) && gbOk G x' && G.xn.contains x && (all.all fun g => G.xs.contains (.exc g) && G.xs.contains (.exm g x (yes.contains g))) && ckN G a n && ckH h G all n suite) = true from hx)
    obtain ⟨k2, h10⟩ := and2 k1
    obtain ⟨k3, h9⟩ := and2 k2
    obtain ⟨k4, h8⟩ := and2 k3
    obtain ⟨k5, h7⟩ := and2 k4
    obtain ⟨k6, h6⟩ := and2 k5
    obtain ⟨k7, h5⟩ := and2 k6
    obtain ⟨k8, h4⟩ := and2 k7
    obtain ⟨k9, h3⟩ := and2 k8
    obtain ⟨h1, h2⟩ := and2 k9
    have ef : f' = f := of_decide_eq_true h1
    have ex' : x' = x := of_decide_eq_true h6
    subst ef ex'
    obtain ⟨g1, g2⟩ := gl_of O h2
    obtain ⟨y1, y2⟩ := gl_of O h7
    have hm := O.xg _ (List.contains_iff_mem.mp h8)
    obtain ⟨ad, fdt, ps, k, m1, m2, m3, m4, m5, m6⟩ := (O.fns f' es.length (by simpa using h3)).ok
    have names : Names X x' (xvl X.K x') := ⟨y1, y2, .inl hm⟩
    have hb : ∀ (W : WX) (pn : List (Addr × Obj)) (xe : Value → Shared → Prop), Takes (X.tr pn xe) W → PassesOwn (model X.prog X.w) X.A X.env xe → PSs (X.tr pn xe) [.Expr (.Call (.Name f' fp) xs [] cpos) epos] (tTb X c kp f' es all a W) := by
      intro W pn xe tk px
      have O' : XOk (X.tr pn xe) G c := ⟨O.n, O.nd, O.calm, O.sc, O.kd, O.fn, O.bn, O.un, fun f n h => ⟨(O.fns f n h).ok⟩, px, O.cd, O.xg, O.xf⟩
      have key : ∀ {D : Ends} {σ : St} {H : Hp}, tTb X c kp f' es all a W D σ H → tCallS (spC X.K c f') (WE W) (tAs X.K (evs c es)) σ H fun _ H1 => D.nx σ H1 := by
        rintro D σ H ⟨env, os, env1, ss, E, e1, e2, hc⟩
        refine ⟨env, os, env1, E, e1, fun vs H1 E1 t1 r1 => ?_⟩
        dsimp only
        obtain ⟨l1, l2, l3, l4⟩ := lend_ok E1 r1 (dats_lend e2)
        rcases hc with ⟨o, fs, e3, q⟩ | ⟨g, e3, q⟩
        · refine .inl ⟨ss, o, fs, l3, e3, fun v H2 F tc ro ns nr => ?_⟩
          have p := call_end E1 t1 r1 (dats_lend e2) F tc ro ns nr
          rw [dats_give e2] at p
          exact q H2 (.ex p.e p.t)
        · refine .inr ⟨ss, g, l3, dats_own e2, e3, fun H2 more => ?_⟩
          exact q H2 (.ex (kept_env E1 more) (t1.trans ⟨fun b u e _ => more b u e, fun p z => .inl z⟩))
      cases es with
      | nil => cases h4
      | cons e es =>
      cases xs with
      | nil => cases h5
      | cons y ys =>
        obtain ⟨k1, k2⟩ := and2 (show (ckE e G y && ckEs es G ys) = true from h5)
        have pc := pe_callS (X := X.tr pn xe) (E := WE W) (p := fp) (pos := cpos) m4 m5 g1 m1 m2 m3 (passAt tk) (pa_os O' (ses (e :: es)) h5) g2 (star_of k1 _) (any_star k2)
        exact PSs.imp (pss_cons (ps_expr pc rfl) pss_nil) fun D σ H h => key h
    have main : ∀ {D : Ends} {σ : St} {H : Hp} (WB : WX), tS X kp (ex c W (.tryc f' es x' all yes a h)) D σ H →
        (∀ g H' , g ∈ all → (∀ j, a = some j → j < σ.length) → (yes.contains g = true → D.rt (hdW h g) H' ∧ ∀ H2, More H' H2 → D.rt (hdW h g) H2) → (yes.contains g = false → XW X g H') → WB (xvl X.K g) none σ H') → tTb X c kp f' es all a WB D σ H := by
      rintro D σ H WB ⟨env, r, E, hf, q⟩ hw
      obtain ⟨os, env1, ss, e1, e2, hc⟩ := try_inv hf
      refine ⟨env, os, env1, ss, E, e1, e2, ?_⟩
      rcases hc with ⟨o, fs, e3, rfl⟩ | ⟨g, e3, hg, hi, hr⟩
      · exact .inl ⟨o, fs, e3, fun H' p => q σ H' p⟩
      · refine .inr ⟨g, e3, fun H' p => hw g H' hg (fun j hj => ?_) (fun hy => ?_) fun hy => ?_⟩
        · subst hj
          have : j < env1.length := of_decide_eq_true hi
          rw [← p.e.len]; exact this
        · rcases hr with ⟨_, rfl⟩ | ⟨z, _⟩
          · have go : ∀ H2, More H' H2 → D.rt (hdW h g) H2 := fun H2 more =>
              q _ σ H2 (p.trans (.ex (kept_env p.e more) ⟨fun b u e _ => more b u e, fun p z => .inl z⟩)) hd_rp fun _ _ z => nomatch z
            exact ⟨go H' fun _ _ z => z, go⟩
          · rw [hy] at z; cases z
        · rcases hr with ⟨z, _⟩ | ⟨_, rfl⟩
          · rw [hy] at z; cases z
          · exact q σ H' p
    have hexc : (all.all fun g => G.xs.contains (.exc g)) = true := List.all_eq_true.mpr fun g hg => (and2 (List.all_eq_true.mp h9 g hg)).1
    have hexm : ∀ g ∈ all, PySem.W.exmOne X.K (xvl X.K g) (xvl X.K x') = some (yes.contains g) := fun g hg => of_decide_eq_true (O.xf _ (List.contains_iff_mem.mp (and2 (List.all_eq_true.mp h9 g hg)).2))
    cases suite with
    | nil => exact (ckH_nil h11).elim
    | cons b0 suite =>
    cases n with
    | some n =>
      obtain ⟨i, rfl, w1, w2, _, _⟩ := ckN_ok O h10
      refine PS.imp (ps_try_as T.1 T.2 O.nd w1 w2 names takes_W0 hb
        (fun a' oe cls d pn hz hf => suite_ok O h10 h11 hexc hz hf)) fun D σ H hw => main _ hw fun g H' hg hj hy hno => ?_
      refine ⟨_, hexm g hg, fun e a' na => ⟨g, hg, rfl, rfl, fun j hj' => ?_, (hy e).2⟩, fun e => ⟨g, rfl, rfl, hno e⟩⟩
      cases hj'
      rw [List.getElem?_set_self (hj i rfl)]
    | none =>
      cases a with
      | some i => cases h10
      | none =>
      refine PS.imp (ps_try_only T.1 T.2 names takes_W0 hb (fun a' oe cls d pn hz hf => suite_ok O h10 h11 hexc hz hf)) fun D σ H hw => main _ hw fun g H' hg hj hy hno => ?_
      exact ⟨_, hexm g hg, fun e a' na => ⟨g, hg, rfl, rfl, fun j hj' => (nomatch hj'), (hy e).2⟩, fun e => ⟨g, rfl, rfl, hno e⟩⟩
end
end PF
/-! PF13: the other statements; loops. -/
namespace PF
open PySem PySem.Spec PyProof.Rows L2
section
variable {c : Cl} {W : Nat}
theorem ss_aug {op : Op2} {i : Nat} {e : E} : SS c W (.aug op i e) := fun X G kp T O x hx => by
  cases x <;> first | (cases hx; done) | skip
  rename_i tg o v pos
  cases tg <;> first | (cases hx; done) | skip
  rename_i x p
  obtain ⟨k1, k2⟩ := and2 hx
  obtain ⟨k3, k4⟩ := and2 k1
  obtain ⟨k5, k6⟩ := and2 k3
  obtain ⟨k7, k8⟩ := and2 k5
  have hk : kp.contains i = false := by simpa using k8
  have eo : op.py = o := of_decide_eq_true k6
  subst eo
  obtain ⟨n1, n2, n3⟩ := loc_of O k7
  have inv : ∀ {env : Env} {r : R}, ex c W (.aug op i e) env = some r → ∃ o env1 y x z x1, look env i = .val x1 ∧ ev c e .v env = some (o, env1) ∧ view env1 o = some y ∧ look env1 i = .val x ∧ aug2 op x y = some z ∧ r = .nx (env1.set i (.val z)) := by
    intro env r h
    simp only [ex] at h
    cases e0 : look env i with
    | un => rw [e0] at h; cases h
    | own _ => rw [e0] at h; cases h
    | val x1 =>
      rw [e0] at h
      simp only at h
      cases e1 : ev c e .v env with
      | none => rw [e1] at h; cases h
      | some oe =>
        obtain ⟨o, env1⟩ := oe
        rw [e1] at h
        simp only at h
        cases e2 : view env1 o with
        | none => rw [e2] at h; cases h
        | some y =>
          cases e3 : look env1 i with
          | un => rw [e2, e3] at h; cases h
          | own _ => rw [e2, e3] at h; cases h
          | val x =>
            rw [e2, e3] at h
            simp only at h
            cases e4 : aug2 op x y with
            | none => rw [e4] at h; cases h
            | some z => rw [e4] at h; cases h; exact ⟨o, env1, y, x, z, x1, rfl, rfl, e2, e3, e4, rfl⟩
  have back : ∀ {D : Ends} {σ : St} {H : Hp} {f : Int → Int → Int}, (∀ a b z, aug2 op a b = some z → ∃ m n, a = .int m ∧ b = .int n ∧ z = .int (f m n)) → tS X kp (ex c W (.aug op i e)) D σ H → tAug i (tE X.K (ev c e .v)) (ipI f) D σ H := by
    intro D σ H f hf0 h
    obtain ⟨env, r, E, hf, q⟩ := h
    obtain ⟨o, env1, y, x, z, x1, e0, e1, e2, e3, e4, rfl⟩ := inv hf
    obtain ⟨m, n, rfl, rfl, rfl⟩ := hf0 _ _ _ e4
    obtain ⟨x0, hx0, _⟩ := E.val e0
    refine ⟨x0, hx0, env, o, env1, E, e1, fun v H1 p1 => ?_⟩
    obtain ⟨v0, g1, g2⟩ := p1.e.val e3
    rw [hx0] at g1
    cases g1
    refine ⟨m, n, g2, (p1.r.view p1.e e2).int, ?_⟩
    exact q _ _ (store_end hk (po_dat (d := .int (f m n)) p1.e p1.t rfl) rfl fun _ z => nomatch z)
  rw [Bool.or_eq_true, decide_eq_true_eq, decide_eq_true_eq] at k4
  rcases k4 with rfl | rfl
  · refine PS.imp (ps_aug O.nd n1 n2 (se e X G O _ k2).1 ip_add n3) fun D σ H h => back (fun a b z hz => ?_) h
    cases a <;> cases b <;> first | (cases hz; done) | (cases hz; exact ⟨_, _, rfl, rfl, rfl⟩)
  · refine PS.imp (ps_aug O.nd n1 n2 (se e X G O _ k2).1 ip_sub n3) fun D σ H h => back (fun a b z hz => ?_) h
    cases a <;> cases b <;> first | (cases hz; done) | (cases hz; exact ⟨_, _, rfl, rfl, rfl⟩)
def isStar : Expr → Bool
  | .Starred .. => true
  | _ => false
theorem sw_par {env : PySem.Env} {x y : Str} {px py : Pos} {kt k2 : Nat} {pt pt2 : Pos} {a' b' : Expr} (kx : env.kindOf x = some .local) (ky : env.kindOf y = some .local) (hb : env.blockKind = .function) (l1 : (py.line == px.line) = true) (hxy : x ≠ y)
    (s1 : isStar a' = false) (s2 : isStar b' = false) (f0 : ([a', b'].all (foldedForSure 8)) = false) (f1 : ([a', b'].all (constantsAlone 8)) = false) :
    swappedStores [.Tuple [.Name x px, .Name y py] kt pt] (.Tuple [a', b'] k2 pt2) env = pure (some [x, y]) := by
  have e1 : ([a', b'].any fun | .Starred .. => true | _ => false) = false := by
    show (isStar a' || (isStar b' || false)) = false
    rw [s1, s2]; rfl
  have l1' : py.line = px.line := eq_of_beq l1
  have hyx : (y == x) = false := beq_eq_false_iff_ne.mpr (Ne.symm hxy)
  unfold swappedStores
  simp only [hb, f0, f1]
  refine (if_neg (by simp)).trans ?_
  refine (if_neg (fun z => Bool.false_ne_true (e1.symm.trans z))).trans ?_
  simp [kx, ky, l1', Expr.pos, List.eraseDups_cons, hyx]
theorem nostar {e : E} {G : Ck} {x : Expr} (h : ckE e G x = true) : isStar x = false := by
  cases x <;> first | rfl | (exfalso; cases e <;> first | (cases h; done) | (rename_i src _ _; cases src <;> cases h))
theorem ss_par {i j : Nat} {a b : E} : SS c W (.par i j a b) := fun X G kp T O x hx => by
  cases x <;> first | (cases hx; done) | skip
  rename_i ts v pos
  match ts, v, hx with
  | [.Tuple [.Name x px, .Name y py] kt pt], .Tuple [a', b'] k2 pt2, hx =>
    obtain ⟨h1, c1⟩ := and2 (show (decide (G.N[i]? = some x) && decide (G.N[j]? = some y) && decide (i ≠ j) && !kp.contains i && !kp.contains j && decide (G.sc.names.lookup x = some .local) && decide (G.sc.names.lookup y = some .local) &&
      (px.line == py.line) && decide (x ≠ y) && !([a', b'].all (foldedForSure 8)) && !([a', b'].all (constantsAlone 8)) && ckE a G a' && ckE b G b') = true from hx)
    obtain ⟨h2, c2⟩ := and2 h1
    obtain ⟨h3, c3⟩ := and2 h2
    obtain ⟨h4, c4⟩ := and2 h3
    obtain ⟨h5, c5⟩ := and2 h4
    obtain ⟨h6, c6⟩ := and2 h5
    obtain ⟨h7, c7⟩ := and2 h6
    obtain ⟨h8, c8⟩ := and2 h7
    obtain ⟨h9, c9⟩ := and2 h8
    obtain ⟨h10, c10⟩ := and2 h9
    obtain ⟨h11, c11⟩ := and2 h10
    obtain ⟨c13, c12⟩ := and2 h11
    have hi : X.N[i]? = some x := by rw [O.n]; exact of_decide_eq_true c13
    have hj : X.N[j]? = some y := by rw [O.n]; exact of_decide_eq_true c12
    have hij : i ≠ j := of_decide_eq_true c11
    have lx : X.env.scope.names.lookup x = some .local := by rw [O.sc]; exact of_decide_eq_true c8
    have ly : X.env.scope.names.lookup y = some .local := by rw [O.sc]; exact of_decide_eq_true c7
    have hxy : x ≠ y := of_decide_eq_true c5
    have hpa : PA X [a', b'] (tDs X.K (evds c [a, b])) := pa_ds O (ses [a, b]) (show ckEs [a, b] G [a', b'] = true by
      show (ckE a G a' && (ckE b G b' && true)) = true
      rw [c2, c1]; rfl)
    have hb : X.env.blockKind = .function := by unfold Env.blockKind; rw [O.sc, O.kd]; rfl
    have l1 : (py.line == px.line) = true := by
      have e : px.line = py.line := eq_of_beq c6
      rw [e]; exact beq_self_eq_true _
    have hw : swappedStores [.Tuple [.Name x px, .Name y py] kt pt] (.Tuple [a', b'] k2 pt2) X.env = pure (some [x, y]) :=
      sw_par lx ly hb l1 hxy (nostar c2) (nostar c1) ((Bool.not_eq_true' _).mp c4) ((Bool.not_eq_true' _).mp c3)
    refine PS.imp (ps_par O.calm O.nd hi hj hij lx ly hpa hw rfl) fun D σ H ⟨env, r, E, hf, q⟩ => ?_
    simp only [ex] at hf
    cases e1 : evds c [a, b] env with
    | none => rw [e1] at hf; cases hf
    | some de =>
      obtain ⟨ds, env1⟩ := de
      rw [e1] at hf
      match ds, hf, e1 with
      | [d, e], hf, e1 =>
        cases hf
        refine ⟨env, [d, e], env1, E, e1, fun vs H1 E1 t1 r1 => ?_⟩
        obtain ⟨v, r, rfl, rv, rr⟩ := r1
        obtain ⟨w, r', rfl, rw', rr'⟩ := rr
        have : r' = [] := rr'
        subst this
        refine ⟨v, w, rfl, q _ H1 ?_⟩
        have p1 := store_end (kp := kp) (i := i) (by simpa using c10) (po_dat E1 t1 rv) rfl fun _ z => nomatch z
        have p2 := store_end (kp := kp) (i := j) (by simpa using c9) (po_dat p1.e .refl rw') rfl fun _ z => nomatch z
        exact p1.trans p2
theorem sub2_inv {i : Nat} {ix jx e : E} {env : Env} {r : R} (h : ex c W (.sub2 i ix jx e) env = some r) :
    ∃ d d2 env1 l0 k env2 xs j k2 env3 ys j2, ev c e .v env = some (.dat (.tup [d, d2]), env1) ∧ look env1 i = .own l0 ∧ ev c ix .v env1 = some (.dat (.int k), env2) ∧ look env2 i = .own (.lst xs) ∧ ixn xs.length k = some j ∧
      ev c jx .v (env2.set i (.own (.lst (xs.set j d)))) = some (.dat (.int k2), env3) ∧ look env3 i = .own (.lst ys) ∧ ixn ys.length k2 = some j2 ∧ r = .nx (env3.set i (.own (.lst (ys.set j2 d2)))) := by
  simp only [ex] at h
  split at h
  · rename_i d d2 env1 f1
    split at h
    · rename_i l0 f2
      split at h
      · rename_i k env2 f3
        split at h
        · rename_i xs f4
          split at h
          · rename_i j f5
            split at h
            · rename_i k2 env3 f6
              split at h
              · rename_i ys f7
                split at h
                · rename_i j2 f8
                  cases h
                  exact ⟨d, d2, env1, l0, k, env2, xs, j, k2, env3, ys, j2, f1, f2, f3, f4, f5, f6, f7, f8, rfl⟩
                · cases h
              · cases h
            · cases h
          · cases h
        · cases h
      · cases h
    · cases h
  · cases h
theorem ss_sub2 {i : Nat} {ix jx e : E} : SS c W (.sub2 i ix jx e) := fun X G kp T O x hx => by
  cases x <;> first | (cases hx; done) | skip
  rename_i ts v pos
  match ts, hx with
  | [.Tuple [.Subscript (.Name x p) ix' sp, .Subscript (.Name y p') jx' sp'] kt pt], hx =>
    obtain ⟨h1, k6⟩ := and2 (show (ldOk G i x && ldOk G i y && ckE ix G ix' && ckE jx G jx' && ckE e G v && !isComp v) = true from hx)
    obtain ⟨h2, k5⟩ := and2 h1
    obtain ⟨h3, k4⟩ := and2 h2
    obtain ⟨h4, k3⟩ := and2 h3
    obtain ⟨k1, k2⟩ := and2 h4
    have hs : swapsWithSole [.Tuple [.Subscript (.Name x p) ix' sp, .Subscript (.Name y p') jx' sp'] kt pt] v pos.line X.env = pure false := by
      unfold swapsWithSole
      exact sw_none (by simpa using k6)
    have ha : ∀ v, assign (.Subscript (.Name x p) ix' sp) X.env v = (do
        let ov ← holding [v] (eval (.Name x p) X.env)
        let iv ← holding [v, ov] (eval ix' X.env)
        standAt sp
        holding [v, ov, iv] (setItem ov iv v)
        release [v, ov, iv] []) := by
      intro v
      cases ix' <;> first | rfl | exact (noslice k3).elim
    have ha' : ∀ v, assign (.Subscript (.Name y p') jx' sp') X.env v = (do
        let ov ← holding [v] (eval (.Name y p') X.env)
        let iv ← holding [v, ov] (eval jx' X.env)
        standAt sp'
        holding [v, ov, iv] (setItem ov iv v)
        release [v, ov, iv] []) := by
      intro v
      cases jx' <;> first | rfl | exact (noslice k4).elim
    have g2 := pg_tup (pos := pt) (k := kt) O.calm (pgs_cons (pg_sub (ld_of O k1) (se ix X G O _ k3).1 set_list ha) (pgs_cons (pg_sub (ld_of O k2) (se jx X G O _ k4).1 set_list ha') pgs_nil))
    have hw : swappedStores [.Tuple [.Subscript (.Name x p) ix' sp, .Subscript (.Name y p') jx' sp'] kt pt] v X.env = pure none := by
      cases v <;> first | rfl | skip
      unfold swappedStores
      simp
    refine PS.imp (ps_asg (se e X G O _ k5).1 g2 hs hw rfl) fun D σ H ⟨env, r, E, hf, q⟩ => ?_
    obtain ⟨d, d2, env1, l0, k, env2, xs, j, k2', env3, ys, j2, f1, f2, f3, f4, f5, f6, f7, f8, rfl⟩ := sub2_inv hf
    refine ⟨env, _, env1, E, f1, fun v H1 p1 => ?_⟩
    obtain ⟨a, vs, rfl, tp, rd⟩ := p1.r
    have hl := rd.length
    obtain ⟨v1, r1, rfl, q1, rd⟩ := rd
    obtain ⟨v2, r2, rfl, q2, rd⟩ := rd
    have : r2 = [] := rd
    subst this
    obtain ⟨x0, hx0⟩ : ∃ x0, σ[i]? = some (some x0) := by
      obtain ⟨p0, g1, _⟩ := p1.e.own f2
      exact ⟨_, g1⟩
    refine ⟨a, _, rfl, tp.sq, rfl, v1, _, rfl, x0, hx0, env1, _, env2, p1.e, f3, fun kv H2 p2 => ?_⟩
    obtain ⟨p0, g1, g2, _⟩ := p2.e.own f4
    rw [hx0] at g1
    cases g1
    obtain ⟨us, hv, rv⟩ := g2
    have hkv : kv = .int k := p2.r
    have w1 : Rp X.K H2 d v1 := q1.mono (p2.t.kp p1.e)
    have w2 : Rp X.K H2 d2 v2 := q2.mono (p2.t.kp p1.e)
    obtain ⟨kq, oq⟩ := upd_own (p := p0) hv (rv.set w1 j)
    have pe := mut_end (r := .non) (v := .non) p2.e (p1.t.trans p2.t) f4 hx0 (fun b n => upd_ne n) oq ⟨us, hv, rv⟩ rfl
    refine ⟨p0, us, k, j, rfl, hkv, hv, by rw [rv.length]; exact f5, v2, _, rfl, _, hx0, _, _, env3, pe.e, f6, fun kv2 H4 p4 => ?_⟩
    obtain ⟨p0', g1, g3, _⟩ := p4.e.own f7
    rw [hx0] at g1
    cases g1
    obtain ⟨us', hv', rv'⟩ := g3
    have hkv2 : kv2 = .int k2' := p4.r
    have w3 : Rp X.K H4 d2 v2 := (w2.mono kq).mono (p4.t.kp pe.e)
    obtain ⟨kq', oq'⟩ := upd_own (p := p0) hv' (rv'.set w3 j2)
    have pe' := mut_end (r := .non) (v := .non) p4.e (pe.t.trans p4.t) f7 hx0 (fun b n => upd_ne n) oq' ⟨us', hv', rv'⟩ rfl
    exact ⟨p0, us', k2', j2, rfl, hkv2, hv', by rw [rv'.length]; exact f8, rfl, q σ _ (.ex pe'.e pe'.t)⟩
end
end PF
/-! PF14: loops; all statements; defs. -/
namespace PF
open PySem PySem.Spec PyProof.Rows L2
section
variable {c : Cl} {W : Nat}
/-- a turn of a while -/
def whlF (c : Cl) (W : Nat) (t : E) (b : List S) : Env → Option (Option R × Env) := fun env => match ev c t .t env with
  | some (.dat (.bl false), env) => some (some (.nx env), env)
  | some (.dat (.bl true), env) => match exs c W b env with
    | none => none
    | some (.nx env) => some (none, env)
    | some (.brk env) => some (some (.nx env), env)
    | some (.ret o env) => some (some (.ret o env), env)
    | some (.exc f env) => some (some (.exc f env), env)
  | _ => none
theorem whl_inv {t : E} {b : List S} {m : Nat} {env : Env} {r : R} (h : whlLoop (whlF c W t b) m env = some r) : ∃ m' env1, m = m' + 1 ∧
    ((ev c t .t env = some (.dat (.bl false), env1) ∧ r = .nx env1) ∨ (ev c t .t env = some (.dat (.bl true), env1) ∧ ∃ rb, exs c W b env1 = some rb ∧
      ((∃ env2, rb = .nx env2 ∧ whlLoop (whlF c W t b) m' env2 = some r) ∨ (∃ env2, rb = .brk env2 ∧ r = .nx env2) ∨ (∃ o env2, rb = .ret o env2 ∧ r = .ret o env2) ∨ ∃ f env2, rb = .exc f env2 ∧ r = .exc f env2))) := by
  cases m with
  | zero => cases h
  | succ m =>
    unfold whlLoop at h
    cases e1 : ev c t .t env with
    | none => simp only [whlF, e1] at h; cases h
    | some oe =>
      obtain ⟨o, env1⟩ := oe
      cases o with
      | dat d =>
        cases d with
        | bl k =>
          cases k with
          | false =>
            simp only [whlF, e1] at h
            cases h
            exact ⟨m, env1, rfl, .inl ⟨rfl, rfl⟩⟩
          | true =>
            cases e2 : exs c W b env1 with
            | none => simp only [whlF, e1, e2] at h; cases h
            | some rb =>
              refine ⟨m, env1, rfl, .inr ⟨rfl, rb, e2, ?_⟩⟩
              cases rb with
              | nx env2 =>
                simp only [whlF, e1, e2] at h
                exact .inl ⟨env2, rfl, h⟩
              | brk env2 =>
                simp only [whlF, e1, e2] at h
                cases h
                exact .inr (.inl ⟨env2, rfl, rfl⟩)
              | ret o env2 =>
                simp only [whlF, e1, e2] at h
                cases h
                exact .inr (.inr (.inl ⟨o, env2, rfl, rfl⟩))
              | exc f env2 =>
                simp only [whlF, e1, e2] at h
                cases h
                exact .inr (.inr (.inr ⟨f, env2, rfl, rfl⟩))
        | _ => simp only [whlF, e1] at h; cases h
      | _ => simp only [whlF, e1] at h; cases h
theorem EndR.ret' {X : Cx} {kp : List Nat} {σ σ1 σ2 : St} {H H1 H2 : Hp} {env env1 env2 : Env} {o : Opd} {D : Ends} (q : EndR X kp σ H env D (.ret o env2)) (p1 : PoS X.K kp σ H env σ1 H1 env1) {v : V} (p2 : PoS X.K kp σ1 H1 env1 σ2 H2 env2) (r : OpdR X.K H2 σ2 env2 o v)
    (n : ∀ d p, o = .own d → v = .ref p → H1 p = none ∨ OwnA env1 σ1 p) : D.rt v H2 :=
  q v σ2 H2 (p1.trans p2) r fun d p e1 e2 => by
    rcases n d p e1 e2 with z | z
    · exact p1.t.fresh z
    · exact (p1.t.s p z).symm
theorem ss_whl {t : E} {b : List S} (hb : SSs c W b) : SS c W (.whl t b) := fun X G kp T O x hx => by
  cases x <;> first | (cases hx; done) | skip
  rename_i t' b' el pos
  cases el <;> first | (cases hx; done) | skip
  obtain ⟨k1, k2⟩ := and2 hx
  refine PS.imp (ps_while O.px (se t X G O _ k1).2 (hb X G kp T O _ k2)) fun D σ H ⟨env, r, E, hf, q⟩ => ?_
  have hf' : whlLoop (whlF c W t b) W env = some r := hf
  refine ⟨fun m σ1 H1 => ∃ env1, whlLoop (whlF c W t b) m env1 = some r ∧ PoS X.K kp σ H env σ1 H1 env1, ⟨W, env, hf', .refl E⟩, ?_⟩
  rintro m σ1 H1 ⟨env1, hl, p1⟩
  obtain ⟨m', env2, rfl, hcase⟩ := whl_inv hl
  rcases hcase with ⟨e1, rfl⟩ | ⟨e1, rb, e2, hcase⟩
  · refine ⟨env1, false, env2, p1.e, e1, fun H2 E2 t2 => ?_⟩
    dsimp only
    rw [if_neg Bool.false_ne_true]
    exact q σ1 H2 (p1.trans (.ex E2 t2))
  · refine ⟨env1, true, env2, p1.e, e1, fun H2 E2 t2 => ?_⟩
    dsimp only
    rw [if_pos rfl]
    have p2 := p1.trans (PoS.ex (kp := kp) E2 t2)
    refine ⟨fun σ' H' => ∃ env', whlLoop (whlF c W t b) m' env' = some r ∧ PoS X.K kp σ H env σ' H' env', fun σ' H' n => ⟨m', Nat.lt_succ_self _, n⟩, env2, rb, E2, e2, ?_⟩
    rcases hcase with ⟨env3, rfl, hl'⟩ | ⟨env3, rfl, rfl⟩ | ⟨o, env3, rfl, rfl⟩ | ⟨f, env3, rfl, rfl⟩
    · exact fun σ' H' p3 => ⟨env3, hl', p2.trans p3⟩
    · exact fun σ' H' p3 => q σ' H' (p2.trans p3)
    · exact fun v σ' H' p3 r n => EndR.ret' q p2 p3 r n
    · exact fun σ' H' p3 => q σ' H' (p2.trans p3)
/-- a turn of a for -/
def forF (c : Cl) (W : Nat) (tg : Tg) (b : List S) : D → Env → Option R := fun x env => match bindT env tg x with
  | none => none
  | some env => exs c W b env
theorem for_inv {tg : Tg} {b : List S} {x : D} {xs : List D} {env : Env} {r : R} (h : forLoop (forF c W tg b) (x :: xs) env = some r) :
    ∃ env1 rb, bindT env tg x = some env1 ∧ exs c W b env1 = some rb ∧ ((∃ env2, rb = .nx env2 ∧ forLoop (forF c W tg b) xs env2 = some r) ∨ (∃ env2, rb = .brk env2 ∧ r = .nx env2) ∨ (∃ o env2, rb = .ret o env2 ∧ r = .ret o env2) ∨ ∃ f env2, rb = .exc f env2 ∧ r = .exc f env2) := by
  unfold forLoop at h
  cases e1 : bindT env tg x with
  | none => simp only [forF, e1] at h; cases h
  | some env1 =>
    cases e2 : exs c W b env1 with
    | none => simp only [forF, e1, e2] at h; cases h
    | some rb =>
      refine ⟨env1, rb, rfl, e2, ?_⟩
      cases rb with
      | nx env2 =>
        simp only [forF, e1, e2] at h
        exact .inl ⟨env2, rfl, h⟩
      | brk env2 =>
        simp only [forF, e1, e2] at h
        cases h
        exact .inr (.inl ⟨env2, rfl, rfl⟩)
      | ret o env2 =>
        simp only [forF, e1, e2] at h
        cases h
        exact .inr (.inr (.inl ⟨o, env2, rfl, rfl⟩))
      | exc f env2 =>
        simp only [forF, e1, e2] at h
        cases h
        exact .inr (.inr (.inr ⟨f, env2, rfl, rfl⟩))
theorem ss_for {tg : Tg} {src : E} {b : List S} (hb : SSs c W b) : SS c W (.for tg src b) := fun X G kp T O x hx => by
  cases x <;> first | (cases hx; done) | skip
  rename_i tg' src' b' el pos
  cases el <;> first | (cases hx; done) | skip
  obtain ⟨k1, k2⟩ := and2 hx
  obtain ⟨k3, k4⟩ := and2 k1
  obtain ⟨k5, k6⟩ := and2 k3
  refine PS.imp (ps_for O.px O.calm (pi_of O (se2 src).1 (se2 src).2 k4 tg') (pg_of O k5) (hb X G kp T O _ k2) (fun x => nofold k4 X.env x)) fun D σ H ⟨env, r, E, hf, q⟩ => ?_
  have hkp : ∀ j ∈ kp, j ∉ tg.is := fun j hj z => by
    have := List.all_eq_true.mp k6 j z
    rw [List.contains_iff_mem.mpr hj] at this
    cases this
  simp only [ex] at hf
  cases e1 : ev c src .i env with
  | none => rw [e1] at hf; cases hf
  | some oe =>
    obtain ⟨o, env1⟩ := oe
    rw [e1] at hf
    cases o with
    | dat d =>
      cases d with
      | tup xs =>
        have hf' : forLoop (forF c W tg b) xs env1 = some r := hf
        refine ⟨env, xs, env1, E, e1, fun J H1 E1 t1 hJ => ?_⟩
        refine ⟨fun i m σ2 H2 => m = xs.length - i ∧ i ≤ xs.length ∧ ∃ env2, forLoop (forF c W tg b) (xs.drop i) env2 = some r ∧ PoS X.K kp σ H env σ2 H2 env2 ∧ Kp H1 H2, ⟨xs.length, by simp, Nat.zero_le _, env1, hf', .ex E1 t1, Kp.refl _⟩, ?_⟩
        rintro i m σ2 H2 ⟨rfl, hi, env2, hl, p2, kp2⟩
        by_cases hlt : i < xs.length
        · have hdrop : xs.drop i = xs[i] :: xs.drop (i + 1) := List.drop_eq_getElem_cons hlt
          rw [hdrop] at hl
          obtain ⟨env3, rb, e2, e3, hcase⟩ := for_inv hl
          refine .inr ⟨((hJ i H2 kp2).1 hlt).1, fun σ' H' => ∃ env', forLoop (forF c W tg b) (xs.drop (i + 1)) env' = some r ∧ PoS X.K kp σ H env σ' H' env' ∧ Kp H1 H', fun σ' H' ⟨env', n1, n2, n3⟩ => ⟨xs.length - (i + 1), by omega, rfl, hlt, env', n1, n2, n3⟩, fun x H' y => ?_⟩
          obtain ⟨e, d, hd, rd⟩ := ((hJ i H2 kp2).1 hlt).2 x H' y
          subst e
          have ed : xs[i] = d := by rw [List.getElem?_eq_getElem hlt] at hd; exact Option.some.inj hd
          rw [ed] at e2
          refine ⟨env2, d, env3, p2.e, rd, e2, fun σ3 E3 l3 s3 o3 => ?_⟩
          have p3 := p2.trans (⟨E3, ⟨fun b u e _ => e, fun p z => .inl (o3 p z)⟩, fun j hj => s3 j (hkp j hj)⟩ : PoS X.K kp σ2 H' env2 σ3 H' env3)
          refine ⟨env3, rb, E3, e3, ?_⟩
          rcases hcase with ⟨env4, rfl, hl'⟩ | ⟨env4, rfl, rfl⟩ | ⟨o, env4, rfl, rfl⟩ | ⟨f, env4, rfl, rfl⟩
          · exact fun σ' H' p4 => ⟨env4, hl', p3.trans p4, kp2.trans (p4.t.kp E3)⟩
          · exact fun σ' H' p4 => q σ' H' (p3.trans p4)
          · exact fun v σ' H' p4 r n => EndR.ret' q p3 p4 r n
          · exact fun σ' H' p4 => q σ' H' (p3.trans p4)
        · have e : i = xs.length := by omega
          subst e
          rw [List.drop_length] at hl
          cases hl
          exact .inl ⟨(hJ _ H2 kp2).2 rfl, q σ2 H2 p2⟩
      | _ => cases hf
    | _ => cases hf
mutual
theorem ss : ∀ s : S, SS c W s
  | .set i e => ss_set
  | .unp is e => ss_unp
  | .par i j a b => ss_par
  | .sub2 i ix jx e => ss_sub2
  | .sub i ix e => ss_sub
  | .aug op i e => ss_aug
  | .expr e => ss_expr
  | .ret e => ss_ret
  | .ite t a b => ss_ite (sss a) (sss b)
  | .whl t b => ss_whl (sss b)
  | .for tg src b => ss_for (sss b)
  | .brk => ss_brk
  | .pass => ss_pass
  | .stop => ss_stop
  | .raise f => ss_raise
  | .tryc f es x all yes a h => ss_tryc
theorem sss : ∀ l : List S, SSs c W l
  | [] => sss_nil
  | s :: l => sss_cons (ss s) (sss l)
end
end

/-! ### defs -/
/-- what the text says of a def: its statement, its names by slot -/
structure Sg where
  fd : Fd
  N : List Str
  ps : List Str
  st : Stmt
def sgs (l : List Sg) : List (Str × Nat) := l.map fun g => (g.fd.name, g.fd.ps)
def ckOf (bn xn : List Str) (xs : List XF) (l : List Sg) (g : Sg) : Ck := { N := g.N, sc := defScope g.st, st := fun _ => true, bn := bn, fns := sgs l, xn := xn, xs := xs }
/-- a def's body is what is told -/
def ckF (bn xn : List Str) (xs : List XF) (l : List Sg) (g : Sg) : Bool :=
  ckSs g.fd.body (ckOf bn xn xs l g) g.fd.keep (defBody g.st) && decide (g.ps.length = g.fd.ps) && decide (g.N.length = g.fd.n) && (g.fd.keep.all fun j => decide (j < g.fd.ps)) && decide (g.fd.ps ≤ g.fd.n)
/-- a def as it stands behind the top -/
structure FnAt (K : PySem.W.Frag) (mg : Str → Option Value) (g : Sg) : Prop where
  ok : ∃ (f : Addr) (fdt : FuncData), Fun K g.fd.name g.fd.name g.st f fdt ∧ mg g.fd.name = some (.ref f) ∧ Binds K fdt g.ps []
theorem finals_len (fd : Fd) (env : Env) : (finals fd env).length = fd.ps := by
  unfold finals; rw [List.length_map, List.length_range]
theorem callL_inv {prog : List Fd} {W k : Nat} {f : Str} {ss : List Slot} {o : Opd} {fs : List Slot} (h : callL prog W (k + 1) f ss = some (o, fs)) (hm : ∀ g r, ss ≠ .val (.fn g) :: r) :
    ∃ fd, prog.find? (fun d => d.name == f) = some fd ∧ ss.length = fd.ps ∧ fd.ps ≤ fd.n ∧ ∃ env', fs = finals fd env' ∧ (∀ i, o ≠ .slot i) ∧
      ((o = .dat .non ∧ exs (callL prog W k) W fd.body (ss ++ List.replicate (fd.n - fd.ps) .un) = some (.nx env')) ∨ exs (callL prog W k) W fd.body (ss ++ List.replicate (fd.n - fd.ps) .un) = some (.ret o env')) := by
  simp only [callL] at h
  cases e1 : prog.find? (fun d => d.name == f) with
  | none => rw [e1] at h; cases h
  | some fd =>
    rw [e1] at h
    simp only at h
    by_cases hc : ss.length = fd.ps ∧ fd.ps ≤ fd.n
    · rw [if_pos hc] at h
      refine ⟨fd, rfl, hc.1, hc.2, ?_⟩
      cases e2 : exs (callL prog W k) W fd.body (ss ++ List.replicate (fd.n - fd.ps) .un) with
      | none => rw [e2] at h; cases h
      | some r =>
        rw [e2] at h
        cases r with
        | nx env' => cases h; exact ⟨env', rfl, (fun _ z => nomatch z), .inl ⟨rfl, rfl⟩⟩
        | brk env' => cases h
        | exc g env' => cases h
        | ret o' env' =>
          cases o' with
          | dat d => cases h; exact ⟨env', rfl, (fun _ z => nomatch z), .inr rfl⟩
          | own d => cases h; exact ⟨env', rfl, (fun _ z => nomatch z), .inr rfl⟩
          | slot i => cases h
    · rw [if_neg hc] at h
      cases h
theorem callL_xinv {prog : List Fd} {W k : Nat} {f g : Str} {ss : List Slot} (h : callL prog W (k + 1) f (mark :: ss) = some (.dat (.str g), [])) :
    ∃ fd, prog.find? (fun d => d.name == f) = some fd ∧ ss.length = fd.ps ∧ fd.ps ≤ fd.n ∧ ∃ env', exs (callL prog W k) W fd.body (ss ++ List.replicate (fd.n - fd.ps) .un) = some (.exc g env') := by
  simp only [callL] at h
  cases e1 : prog.find? (fun d => d.name == f) with
  | none => rw [e1] at h; cases h
  | some fd =>
    rw [e1] at h
    simp only at h
    by_cases hc : (mark :: ss).length = fd.ps ∧ fd.ps ≤ fd.n
    · rw [if_pos hc] at h
      have no : ∀ env', finals fd env' ≠ [] := fun env' z => by
        have h1 := finals_len fd env'
        rw [z, ← hc.1] at h1
        simp at h1
      split at h
      all_goals first
        | (cases h; done)
        | exact absurd (Prod.mk.inj (Option.some.inj h)).2 (no _)
    · rw [if_neg hc] at h
      have h' : (if ss.length = fd.ps ∧ fd.ps ≤ fd.n ∧ noOwn ss = true then
            match exs (callL prog W k) W fd.body (ss ++ List.replicate (fd.n - fd.ps) .un) with
            | some (.exc g _) => some (Opd.dat (.str g), ([] : List Slot))
            | _ => none
          else none) = some (.dat (.str g), []) := h
      by_cases hd : ss.length = fd.ps ∧ fd.ps ≤ fd.n ∧ noOwn ss = true
      · rw [if_pos hd] at h'
        refine ⟨fd, rfl, hd.1, hd.2.1, ?_⟩
        cases e2 : exs (callL prog W k) W fd.body (ss ++ List.replicate (fd.n - fd.ps) .un) with
        | none => rw [e2] at h'; cases h'
        | some r =>
          rw [e2] at h'
          cases r with
          | exc g' env' => cases h'; exact ⟨env', rfl⟩
          | nx _ => cases h'
          | brk _ => cases h'
          | ret _ _ => cases h'
      · rw [if_neg hd] at h'; cases h'
end PF
/-! PF15: the defs of a text keep what the evaluator tells. -/
namespace PF
open PySem PySem.Spec PyProof.Rows L2
section
variable {K : PySem.W.Frag} {H : Hp} {σ : St} {ss : Env}
theorem pad_get {m i : Nat} {s : Slot} (h : (ss ++ List.replicate m Slot.un)[i]? = some s) : (i < ss.length ∧ ss[i]? = some s) ∨ (ss.length ≤ i ∧ i < ss.length + m ∧ s = .un) := by
  by_cases hi : i < ss.length
  · rw [List.getElem?_append_left hi] at h; exact .inl ⟨hi, h⟩
  · rw [List.getElem?_append_right (by omega), List.getElem?_replicate] at h
    split at h
    · cases h; exact .inr ⟨by omega, by omega, rfl⟩
    · cases h
theorem pad_own {m : Nat} (hl : ss.length = σ.length) {p : Addr} : OwnA (ss ++ List.replicate m .un) (σ ++ List.replicate m none) p ↔ OwnA ss σ p := by
  constructor
  · rintro ⟨i, d, h1, h2⟩
    rcases pad_get h1 with ⟨hi, e⟩ | ⟨_, _, e⟩
    · rw [List.getElem?_append_left (by omega)] at h2
      exact ⟨i, d, e, h2⟩
    · cases e
  · rintro ⟨i, d, h1, h2⟩
    have hi : i < ss.length := (List.getElem?_eq_some_iff.mp h1).1
    exact ⟨i, d, by rw [List.getElem?_append_left hi]; exact h1, by rw [List.getElem?_append_left (by omega)]; exact h2⟩
theorem EnvR.pad (E : EnvR K H σ ss) (m : Nat) : EnvR K H (σ ++ List.replicate m none) (ss ++ List.replicate m .un) := by
  refine ⟨by rw [List.length_append, List.length_append, List.length_replicate, List.length_replicate, E.len], fun i s e => ?_, fun i j d e p h1 h2 h3 h4 => ?_⟩
  · rcases pad_get e with ⟨hi, e⟩ | ⟨h1, h2, rfl⟩
    · obtain ⟨x, e2, r⟩ := E.sl i s e
      exact ⟨x, by rw [List.getElem?_append_left (by rw [← E.len]; exact hi)]; exact e2, r⟩
    · have hl := E.len
      exact ⟨none, by rw [List.getElem?_append_right (by omega), List.getElem?_replicate, if_pos (by omega)], trivial⟩
  · have hl := E.len
    rcases pad_get h1 with ⟨hi, e1⟩ | ⟨_, _, e1⟩
    · rcases pad_get h2 with ⟨hj, e2⟩ | ⟨_, _, e2⟩
      · rw [List.getElem?_append_left (by omega)] at h3 h4
        exact E.dj i j d e p e1 e2 h3 h4
      · cases e2
    · cases e1
end
/-- the parameters at the end -/
theorem fin_ok {K : PySem.W.Frag} {fd : Fd} {vs : List V} {m : Nat} {H H' : Hp} {env0 env' : Env} {σ' : St} (hl : vs.length = fd.ps) (hk : ∀ j ∈ fd.keep, j < fd.ps) (p : PoS K fd.keep (vs.map some ++ List.replicate m none) H env0 σ' H' env') :
    EnvR K H' (vs.map some) (finals fd env') ∧ ∀ q, OwnA (finals fd env') (vs.map some) q → OwnA env' σ' q := by
  have get : ∀ {j : Nat} {s : Slot}, (finals fd env')[j]? = some s → j < fd.ps ∧ (s = .un ∨ (j ∈ fd.keep ∧ s = look env' j)) := fun {j s} e => by
    unfold finals at e
    rw [List.getElem?_map] at e
    cases h : (List.range fd.ps)[j]? with
    | none => rw [h] at e; cases e
    | some k =>
      rw [h] at e
      have hlt : j < fd.ps := by
        obtain ⟨q, _⟩ := List.getElem?_eq_some_iff.mp h
        rw [List.length_range] at q; exact q
      have hk' : k = j := by rw [List.getElem?_range hlt] at h; exact (Option.some.inj h).symm
      subst hk'
      refine ⟨hlt, ?_⟩
      simp only [Option.map_some, Option.some.injEq] at e
      by_cases hc : fd.keep.contains k = true
      · rw [if_pos hc] at e
        exact .inr ⟨List.contains_iff_mem.mp hc, e.symm⟩
      · rw [if_neg hc] at e
        exact .inl e.symm
  have kept : ∀ {j : Nat}, j ∈ fd.keep → σ'[j]? = (vs.map some)[j]? := fun {j} hj => by
    rw [p.k j hj, List.getElem?_append_left (by rw [List.length_map, hl]; exact hk j hj)]
  have own : ∀ {j : Nat} {d : D}, (finals fd env')[j]? = some (.own d) → j ∈ fd.keep ∧ env'[j]? = some (.own d) := fun {j d} e => by
    rcases (get e).2 with z | ⟨z1, z2⟩
    · cases z
    · exact ⟨z1, look_own z2.symm⟩
  refine ⟨⟨by rw [finals_len, List.length_map, hl], fun j s e => ?_, fun i j d e q h1 h2 h3 h4 => ?_⟩, fun q ⟨j, d, h1, h2⟩ => ?_⟩
  · obtain ⟨hlt, hs⟩ := get e
    have hv : j < (vs.map some).length := by rw [List.length_map, hl]; exact hlt
    rcases hs with rfl | ⟨hj, rfl⟩
    · exact ⟨_, List.getElem?_eq_getElem hv, trivial⟩
    · refine ⟨_, List.getElem?_eq_getElem hv, ?_⟩
      have e2 : σ'[j]? = some (vs.map some)[j] := by rw [kept hj]; exact List.getElem?_eq_getElem hv
      cases hs : look env' j with
      | un => trivial
      | val d =>
        obtain ⟨v, g1, g2⟩ := p.e.val hs
        rw [e2] at g1
        exact ⟨v, Option.some.inj g1, g2⟩
      | own d =>
        obtain ⟨v, g1, g2, _⟩ := p.e.own hs
        rw [e2] at g1
        exact ⟨v, Option.some.inj g1, g2⟩
  · obtain ⟨a1, a2⟩ := own h1
    obtain ⟨b1, b2⟩ := own h2
    rw [← kept a1] at h3
    rw [← kept b1] at h4
    exact p.e.dj i j d e q a2 b2 h3 h4
  · obtain ⟨a1, a2⟩ := own h1
    rw [← kept a1] at h2
    exact ⟨j, d, a2, h2⟩
section
variable {P : Program} {w : World} {K : PySem.W.Frag} {mg : Str → Option Value} {base : Heap}
/-- all that is asked of a text -/
structure TxtOk (K : PySem.W.Frag) (mg : Str → Option Value) (bn xn : List Str) (xs : List XF) (l : List Sg) : Prop where
  at_ : ∀ g ∈ l, FnAt K mg g
  sc : ∀ g ∈ l, FnScope g.N g.ps (defScope g.st)
  ck : ∀ g ∈ l, ckF bn xn xs l g = true
  nm : ∀ g ∈ l, (l.map (·.fd)).find? (fun d => d.name == g.fd.name) = some g.fd
  bn : ∀ x ∈ bn, mg x = none
  xg : ∀ x ∈ xn, mg x = some (xvl K x)
  xf : ∀ φ ∈ xs, φ.ok K = true
theorem start_eq {N : List Str} {vs : List V} : L2.start N vs = vs.map some ++ List.replicate (N.length - vs.length) none := rfl
/-- a def by its body, its code known -/
theorem fun_code {x qual : Str} {st : Stmt} {f : Addr} {fd : FuncData} {N ps : List Str} {k : Nat} {sp : Sp} (F : Fun K x qual st f fd) (S : FnScope N ps (defScope st)) (len : ∀ vs H Q E, sp vs H Q E → vs.length = ps.length)
    (body : ∀ (cdv : Value), PySem.W.codeIn K cdv qual = true → ∀ (A : Around) (outer : List PySem.Env) (s : Shared) (H : Hp) (vs : List V) (Q : VK) (E : XK), Room k (A.deeper (envOfC qual (defScope st) s.heap.objs.size f cdv)) → sp vs H Q E →
      ∃ t, PSs (cxOf (L2.CX P w) P w K mg base N qual (defScope st) f cdv A outer s H E) (defBody st) t ∧ t { nx := fun _ H' => Q .non H', rt := Q } (L2.start N vs) H) : FnOk P w K mg base (L2.CX P w) (k + 1) f fd ps sp := by
  obtain ⟨oc, od, kV, doc, pm, an, cdv, ct, osl, rfl, lk, hcd⟩ := F.ex
  exact fn_of lk hcd S len fun A outer s H vs Q E hr hsp => body cdv hcd A outer s H vs Q E hr hsp
theorem no_mark {K : PySem.W.Frag} {H : Hp} {vs : List V} {ss : List Slot} (E : EnvR K H (vs.map some) ss) (g : Str) (r : List Slot) : ss ≠ .val (.fn g) :: r := fun z => by
  subst z
  obtain ⟨v, _, h⟩ := E.val (i := 0) rfl
  exact h
theorem own_pad {σ : St} {ss : List Slot} {m : Nat} (h : noOwn ss = true) {b : Addr} : ¬ OwnA (ss ++ List.replicate m .un) σ b := by
  rintro ⟨i, d, h1, h2⟩
  rcases pad_get h1 with ⟨hi, e⟩ | ⟨_, _, e⟩
  · have := List.all_eq_true.mp h _ (List.mem_of_getElem? e)
    cases this
  · cases e
theorem fns_ok {bn xn : List Str} {xs : List XF} {l : List Sg} {W : Nat} (T : TxtOk K mg bn xn xs l) : ∀ (k : Nat), ∀ g ∈ l, ∃ (f : Addr) (fdt : FuncData), Fun K g.fd.name g.fd.name g.st f fdt ∧ mg g.fd.name = some (.ref f) ∧ PySem.W.keepIn K (.ref f) = true ∧ Binds K fdt g.ps [] ∧
    FnOk P w K mg base (L2.CX P w) k f fdt g.ps (spC K (callL (l.map (·.fd)) W k) g.fd.name)
  | 0, g, hg => by
    obtain ⟨f, fdt, F, m, b⟩ := (T.at_ g hg).ok
    refine ⟨f, fdt, F, m, F.kp, b, ⟨fun vs H Q E h => ?_, fun A outer s H args us vs Q E hr e0 hb hv h => ?_⟩⟩
    · rcases h with ⟨ss, r, fs, _, e, _⟩ | ⟨ss, r, _, _, e, _⟩ <;> cases e
    · rcases h with ⟨ss, r, fs, _, e, _⟩ | ⟨ss, r, _, _, e, _⟩ <;> cases e
  | k + 1, g, hg => by
    obtain ⟨f, fdt, F, m, b⟩ := (T.at_ g hg).ok
    have S := T.sc g hg
    have hck := T.ck g hg
    obtain ⟨c1, c2⟩ := and2 hck
    obtain ⟨c3, c4⟩ := and2 c1
    obtain ⟨c5, c6⟩ := and2 c3
    obtain ⟨c7, c8⟩ := and2 c5
    have hps : g.ps.length = g.fd.ps := of_decide_eq_true c8
    have hN : g.N.length = g.fd.n := of_decide_eq_true c6
    have hkeep : ∀ j ∈ g.fd.keep, j < g.fd.ps := fun j hj => of_decide_eq_true (List.all_eq_true.mp c4 j hj)
    have hle : g.fd.ps ≤ g.fd.n := of_decide_eq_true c2
    refine ⟨f, fdt, F, m, F.kp, b, fun_code F S (fun vs H Q E h => ?_) fun cdv hcd A outer s H vs Q E hr h => ?_⟩
    · rcases h with ⟨ss, r, fs, E0, e, _⟩ | ⟨ss, r, E0, _, e, _⟩
      · obtain ⟨fd, e1, e2, _⟩ := callL_inv e (no_mark E0)
        rw [T.nm g hg] at e1
        cases e1
        have := E0.len
        rw [List.length_map] at this
        omega
      · obtain ⟨fd, e1, e2, _⟩ := callL_xinv e
        rw [T.nm g hg] at e1
        cases e1
        have := E0.len
        rw [List.length_map] at this
        omega
    · have O : XOk (cxOf (L2.CX P w) P w K mg base g.N g.fd.name (defScope g.st) f cdv A outer s H E) (ckOf bn xn xs l g) (callL (l.map (·.fd)) W k) := by
        refine ⟨rfl, S.nd, rfl, rfl, S.kind, fun _ _ => rfl, T.bn, ?_, fun f' n hf => ?_, passes_of rfl, kdsCode_of hcd, T.xg, T.xf⟩
        · have := hr.un
          show (A.deeper (envOfC g.fd.name (defScope g.st) s.heap.objs.size f cdv)).units + 65 < cLine
          omega
        · obtain ⟨g', hg', eg⟩ := List.mem_map.mp hf
          cases eg
          obtain ⟨f2, fdt2, _, m2, k2, b2, ok2⟩ := fns_ok T k g' hg'
          have hck' := T.ck g' hg'
          have hps' : g'.ps.length = g'.fd.ps := of_decide_eq_true (and2 (and2 (and2 (and2 hck').1).1).1).2
          exact ⟨f2, fdt2, g'.ps, k, m2, k2, b2, ok2, hr, hps'⟩
      refine ⟨_, sss (W := W) g.fd.body _ (ckOf bn xn xs l g) g.fd.keep ⟨rfl, rfl⟩ O (defBody g.st) c7, ?_⟩
      rcases h with h | h
      case inr =>
        obtain ⟨ss, gn, E0, hno, e, q⟩ := h
        obtain ⟨fd, e1, e2, e3, env', hend⟩ := callL_xinv e
        rw [T.nm g hg] at e1
        cases e1
        have hvl : vs.length = g.fd.ps := by
          have := E0.len
          rw [List.length_map] at this
          omega
        have hm : g.N.length - vs.length = g.fd.n - g.fd.ps := by omega
        have E1 := E0.pad (g.fd.n - g.fd.ps)
        have st : L2.start g.N vs = vs.map some ++ List.replicate (g.fd.n - g.fd.ps) none := by rw [start_eq, hm]
        rw [st]
        refine ⟨_, _, E1, hend, fun σ' H' p => ?_⟩
        have hE := q H' fun b u z => p.t.f b u z (own_pad hno)
        exact Takes.imp (takes_of (X := cxOf (L2.CX P w) P w K mg base g.N g.fd.name (defScope g.st) f cdv A outer s H E) (E := E) rfl rfl rfl rfl) (W' := fun cls d _ H1 => cls = xvl K gn ∧ d = none ∧ H1 = H') fun c d σ H1 ⟨z1, z2, z3⟩ => by
          subst z1 z2 z3; exact hE
      obtain ⟨ss, r, fs, E0, e, q⟩ := h
      obtain ⟨fd, e1, e2, e3, env', rfl, hns, hend⟩ := callL_inv e (no_mark E0)
      rw [T.nm g hg] at e1
      cases e1
      have hvl : vs.length = g.fd.ps := by
        have := E0.len
        rw [List.length_map] at this
        omega
      have hm : g.N.length - vs.length = g.fd.n - g.fd.ps := by omega
      have E1 := E0.pad (g.fd.n - g.fd.ps)
      have st : L2.start g.N vs = vs.map some ++ List.replicate (g.fd.n - g.fd.ps) none := by rw [start_eq, hm]
      rw [st]
      have hl0 : ss.length = (vs.map some).length := E0.len
      have tr : ∀ {σ' : St} {H' : Hp}, PoS K g.fd.keep (vs.map some ++ List.replicate (g.fd.n - g.fd.ps) none) H (ss ++ List.replicate (g.fd.n - g.fd.ps) .un) σ' H' env' →
          EnvR K H' (vs.map some) (finals g.fd env') ∧ Tr (vs.map some) H ss (vs.map some) H' (finals g.fd env') ∧ ∀ q, OwnA (finals g.fd env') (vs.map some) q → OwnA env' σ' q := fun {σ' H'} p => by
        obtain ⟨f1, f2⟩ := fin_ok hvl hkeep p
        refine ⟨f1, ⟨fun b u e n => p.t.f b u e fun z => n ((pad_own hl0).mp z), fun q z => (p.t.s q (f2 q z)).imp (pad_own hl0).mp id⟩, f2⟩
      rcases hend with ⟨rfl, hend⟩ | hend
      · refine ⟨_, _, E1, hend, fun σ' H' p => ?_⟩
        obtain ⟨f1, f2, _⟩ := tr p
        exact q .non H' f1 f2 rfl hns fun _ _ z => nomatch z
      · refine ⟨_, _, E1, hend, fun v σ' H' p ro nr => ?_⟩
        obtain ⟨f1, f2, f3⟩ := tr p
        refine q v H' f1 f2 ?_ hns fun d p' e1 e2 => (nr d p' e1 e2).imp id (pad_own hl0).mp
        cases r with
        | dat d => exact ro
        | own d =>
          obtain ⟨p', e, oa, no⟩ := ro
          exact ⟨p', e, oa, fun z => no (f3 p' z)⟩
        | slot i => exact (hns i rfl).elim
end
end PF
/-! PF16: the head by data, the law's end. -/
namespace PF
open PySem PySem.Spec PyProof.Rows L2
/-! ### no list stands in the written part -/
def noList (K : PySem.W.Frag) : Bool := K.all fun p => match p.2.cls with
  | .type c => !decide (c = "list")
  | _ => true
theorem look_mem : ∀ {K : PySem.W.Frag} {a : Addr} {o : Obj}, K.lookup a = some o → (a, o) ∈ K
  | [], _, _, e => nomatch e
  | (b, p) :: r, a, o, e => by
    rw [List.lookup_cons] at e
    split at e
    · rename_i h
      cases e
      rw [show a = b from beq_iff_eq.mp h]
      exact List.mem_cons_self
    · exact List.mem_cons_of_mem _ (look_mem e)
theorem noList_no {K : PySem.W.Frag} (h : noList K = true) {a : Addr} {o : Obj} (e : K.lookup a = some o) (c : o.cls = .type "list") : False := by
  have h2 := List.all_eq_true.mp h _ (look_mem e)
  dsimp only at h2
  rw [c] at h2
  simp at h2
/-- what is looked at besides: no lists; classes' names; facts of classes -/
def moreOk (xn : List Str) (xs : List XF) (K : PySem.W.Frag) : Bool := noList K && ((xn.all fun x => decide (PySem.W.nsIn K mainGlobals x = some (some (xvl K x)))) && xs.all fun φ => φ.ok K)
open He in
def hookN (n : Nat) (xn : List Str) (xs : List XF) (fa : List Fa) (fn : List DefD) : PySem.W.Hook where
  α := Bool × AlD
  obs := fun s => (moreOk xn xs (frG s.heap.get? (asD s.heap.get? n)), obsDG n fa fn s.heap.get?)
  val := fun _ => (true, valD fn)
  says := fun _ h => ∃ K : PySem.W.Frag, K.In h ∧ moreOk xn xs K = true ∧ SaysD fa fn K
  of := fun _ _ e => ⟨_, frG_in, congrArg (fun z : Bool × AlD => z.1) e, congrArg (fun z : Bool × AlD => z.2) e⟩
  keeps := fun _ _ _ ⟨K, hK, c⟩ k => ⟨K, PySem.W.Frag.In.keeps hK k, c⟩
open He in
def obN (n : Nat) (xn : List Str) (xs : List XF) (fa : List Fa) (fn : List DefD) (s : PySem.W.SharedT) : Bool × AlD := (moreOk xn xs (frG (HandSHeadRun.getT s) (asD (HandSHeadRun.getT s) n)), obsDG n fa fn (HandSHeadRun.getT s))
open He in
theorem obN_eq (n : Nat) (xn : List Str) (xs : List XF) (fa : List Fa) (fn : List DefD) (s : PySem.W.SharedT) : obN n xn xs fa fn s = (hookN n xn xs fa fn).obs s.abs := by
  have e : HandSHeadRun.getT s = s.abs.heap.get? := funext (HandSHeadRun.getT_eq s)
  unfold obN
  rw [e] <;> rfl
/-! ### the data of a text -/
def Sg.dfd (g : Sg) : He.DefD := ⟨(g.fd.name, none), g.fd.name, g.fd.name, defArgs g.st, defBody g.st, defScope g.st, [], []⟩
def fnL (l : List Sg) : List He.DefD := l.map Sg.dfd
def faL (bn : List Str) (l : List Sg) : List He.Fa := (l.map fun g => .glo g.fd.name) ++ bn.map .free
def BindH (g : Sg) : Prop := ∀ (kV doc pm : Value) (an : Option Addr) (cdv ct : Value) (us : List Value), us.length = g.ps.length →
  bindArgs (PySem.W.fnOf g.fd.name g.fd.name (defArgs g.st) (defBody g.st) (defScope g.st) .none kV doc pm an cdv ct) ⟨us, []⟩ = pure (g.ps.zip us)
structure GOk (bn xn : List Str) (xs : List XF) (l : List Sg) (g : Sg) : Prop where
  sc : FnScope g.N g.ps (defScope g.st)
  ck : ckF bn xn xs l g = true
  nm : (l.map (·.fd)).find? (fun d => d.name == g.fd.name) = some g.fd
  bd : BindH g
section
variable {K : PySem.W.Frag} {h : Heap} {mg : Str → Option Value} {bn : List Str} {l : List Sg}
theorem fnAt_of (X : K.In h) (G : h.Ns mainGlobals mg) (c : He.SaysD (faL bn l) (fnL l) K) (B : ∀ g ∈ l, BindH g) {g : Sg} (hg : g ∈ l) : FnAt K mg g := by
  obtain ⟨i, hi⟩ := List.mem_iff_getElem?.mp hg
  have lt : i < l.length := (List.getElem?_eq_some_iff.mp hi).1
  obtain ⟨fdt, F⟩ := c.def_ i (d := g.dfd) (by unfold fnL; rw [List.getElem?_map, hi]; rfl)
  have gl := He.glo_ok X G (c.fact i (f := .glo g.fd.name) (by unfold faL; rw [List.getElem?_append_left (by rw [List.length_map]; exact lt), List.getElem?_map, hi]; rfl))
  obtain ⟨oc, od, dV, kV, doc, pm, an, cdv, ct, osl, e, lk, hcd, hD, hK⟩ := F.ex
  have e0 : dV = .none := by
    rcases hD with ⟨_, z⟩ | ⟨z, _⟩
    · exact z
    · exact absurd rfl z
  subst e0
  exact ⟨_, fdt, ⟨⟨oc, od, kV, doc, pm, an, cdv, ct, osl, e, lk, hcd⟩, F.kp⟩, gl, F.bindsN (B g hg)⟩
theorem bn_of (X : K.In h) (G : h.Ns mainGlobals mg) (c : He.SaysD (faL bn l) (fnL l) K) {x : Str} (hx : x ∈ bn) : mg x = none := by
  obtain ⟨i, hi⟩ := List.mem_iff_getElem?.mp hx
  exact He.free_ok X G (c.fact (l.length + i) (f := .free x) (by unfold faL; rw [List.getElem?_append_right (by rw [List.length_map]; omega), List.length_map, Nat.add_sub_cancel_left, List.getElem?_map, hi]; rfl))
end
/-- a promise with nothing raised -/
theorem fn_cx0 {P : Program} {w : World} {K : PySem.W.Frag} {mg : Str → Option Value} {base : Heap} {k : Nat} {f : Addr} {fd : FuncData} {ps : List Str} {sp : Sp} (F : FnOk P w K mg base (L2.CX P w) k f fd ps sp) :
    FnOk P w K mg base CX0 k f fd ps (fun vs H Q _ => sp vs H Q E0) :=
  ⟨fun vs H Q E h => F.len vs H Q E0 h, fun A outer s H args us vs Q E hr e0 hb hv h => codeAny_mono (F.run A outer s H args us vs Q E0 hr e0 hb hv h) fun r s' hq => by
    cases r with
    | error e =>
      obtain ⟨_, _, _, _, _, _, _, _, _, _, _, _, z⟩ := hq
      exact z.elim
    | ok fl =>
      cases fl with
      | ret u => exact hq
      | next => exact hq
      | brk => exact hq
      | cont => exact hq⟩
/-- THE END: the law answers True wherever the evaluator does -/
theorem pf_walk {rl : PySem.W.OpenLaw} {n k W : Nat} {q : Program} {loose : List Str} {XP : (Str → Option Value) → Heap → Prop} {d : DefRec} {bn xn : List Str} {xs : List XF} {l : List Sg} {law : Sg} {x : Str}
    (hn : rl.most = some n) (hn2 : n ≤ sizeLine) (hdf : d.params.defaults = []) (hr : Room k callerA) (T : ∀ g ∈ l, GOk bn xn xs l g) (hl : law ∈ l) (hx : law.ps = [x]) (hd : d.name = law.fd.name)
    (main : ∀ ns : List Int, ns.length ≤ n → ∃ fs, callL (l.map (·.fd)) W k law.fd.name [.val (.lst (ns.map .int))] = some (.dat (.bl true), fs)) :
    PySem.W.WalkO q loose XP (hookN 4 xn xs (faL bn l) (fnL l)).says rl.row.toRowW d [] (fun f vs => PySem.call f vs) := by
  refine L2.walk_ofE (n := n) (k := k) (x := x) (CX := L2.CX0) hn hn2 hdf hr ?F (fun _ _ _ _ z => z)
  intro w mg fa h Y G hmg0
  obtain ⟨K, KX, nl0, c⟩ := Y
  obtain ⟨nl, nx⟩ := and2 nl0
  obtain ⟨nx1, nx2⟩ := and2 nx
  have hmg : mg law.fd.name = some (.ref fa) := by rw [← hd]; exact hmg0
  obtain ⟨f, fdt, F, m, _⟩ := fnAt_of KX G c (fun g hg => (T g hg).bd) hl
  have hf : f = fa := by rw [m] at hmg; cases hmg; rfl
  subst hf
  obtain ⟨oc, od, kV, doc, pm, an, cdv, ct, osl, e, lk, hcd⟩ := F.ex
  refine ⟨K, fdt, fun vs H Q _ => spC K (callL (l.map (·.fd)) W k) law.fd.name vs H Q E0, KX, fun s u => ?_, fun H a ns hlen hO hS => ?_, fun base hK hN => ?_⟩
  · subst e
    have := (T law hl).bd kV doc pm an cdv ct [u] (by rw [hx]; rfl)
    rw [hx] at this
    exact .of_eq this
  · obtain ⟨fs, hc⟩ := main ns hlen
    have ha : ∃ o, H a = some (.frz o (.lst (ns.map V.int))) := by
      rcases hS with (h1 | h1) | ⟨o, its, n, h1, h2, _⟩
      · rcases hO a with z | ⟨o, xs, z⟩
        · rw [z] at h1; cases h1
        · rw [z] at h1; cases h1
      · exact h1
      · exact (noList_no nl h1 h2).elim
    obtain ⟨o, ha⟩ := ha
    refine .inl ⟨_, _, _, ⟨rfl, fun i s e => ?_, fun i j d e p h1 _ _ _ => ?_⟩, hc, fun v H' _ _ r _ _ => r⟩
    · cases i with
      | zero =>
        cases e
        exact ⟨_, rfl, .ref a, rfl, a, o, _, rfl, ha, Rps.of_ints ns⟩
      | succ i => cases i <;> cases e
    · cases i with
      | zero => cases h1
      | succ i => cases i <;> cases h1
  · obtain ⟨f2, fdt2, F2, m2, k2, b2, ok⟩ := fns_ok (P := rl.prog) (w := w) (base := base) (bn := bn) (xn := xn) (xs := xs) (W := W) (K := K) (mg := mg) (l := l)
      ⟨fun g hg => fnAt_of hK hN c (fun g hg => (T g hg).bd) hg, fun g hg => (T g hg).sc, fun g hg => (T g hg).ck, fun g hg => (T g hg).nm, fun x hx => bn_of hK hN c hx, fun x hx => PySem.W.mg_of hK hN (of_decide_eq_true (List.all_eq_true.mp nx1 x hx)), fun φ hφ => List.all_eq_true.mp nx2 φ hφ⟩ k law hl
    have e1 : f2 = f := by rw [m] at m2; cases m2; rfl
    subst e1
    obtain ⟨oc', od', kV', doc', pm', an', cdv', ct', osl', e', lk', hcd'⟩ := F2.ex
    have e2 : fdt2 = fdt := by rw [lk] at lk'; cases lk'; rfl
    subst e2
    rw [hx] at ok
    exact fn_cx0 ok
end PF
/-! PFX: tools for reasoning over the evaluator. -/
namespace PF
open PySem
theorem shp_int (i : Int) : shp (.int i) = true := by rfl
theorem shp_bl (i : Bool) : shp (.bl i) = true := by rfl
theorem shp_non : shp .non = true := by rfl
theorem deq_int (i j : Int) : deq (.int i) (.int j) = decide (i = j) := by
  simp only [deq, D.py, PyData.eqv]; by_cases h : i = j <;> simp [h]
theorem deq_bl (i j : Bool) : deq (.bl i) (.bl j) = decide (i = j) := by
  cases i <;> cases j <;> rfl
theorem ev_rng {c : Cl} {es : List E} {ds xs : List D} {env env1 : Env} (h : evds c es env = some (ds, env1)) (hr : rngD ds = some xs) : ev c (.rng es) .i env = some (.dat (.tup xs), env1) := by
  simp only [ev, h, hr]
theorem ln1 : (1 ≤ line) = True := by simp [line]
theorem ln2 : (2 ≤ line) = True := by simp [line]
theorem ln3 : (3 ≤ line) = True := by simp [line]
theorem ln4 : (4 ≤ line) = True := by simp [line]
theorem rg1 : List.range 1 = [0] := rfl
theorem rg2 : List.range 2 = [0, 1] := rfl
theorem rg3 : List.range 3 = [0, 1, 2] := rfl
theorem rg4 : List.range 4 = [0, 1, 2, 3] := rfl
/-- a suite comes to an end that is wanted -/
@[irreducible] def Goes (c : Cl) (W : Nat) (ss : List S) (env : Env) (Φ : R → Prop) : Prop := match exs c W ss env with | some r => Φ r | none => False
def Turn (P B : Env → Prop) (Φ : R → Prop) : R → Prop
  | .nx env => P env
  | .brk env => B env
  | .ret o env => Φ (.ret o env)
  | .exc f env => Φ (.exc f env)
def outR (fd : Fd) : R → Option (Opd × List Slot)
  | .ret (.dat d) env => some (Opd.dat d, finals fd env)
  | .ret (.own d) env => some (Opd.own d, finals fd env)
  | .nx env => some (Opd.dat .non, finals fd env)
  | _ => none
theorem callL_at {prog : List Fd} {W k : Nat} {f : Str} {ss : List Slot} (fd : Fd) (h : prog.find? (fun d => d.name == f) = some fd) (hl : (decide (ss.length = fd.ps) && decide (fd.ps ≤ fd.n)) = true) {Ψ : Opd → List Slot → Prop}
    (hb : Goes (callL prog W k) W fd.body (ss ++ List.replicate (fd.n - fd.ps) .un) (fun r => match outR fd r with | some (o, fs) => Ψ o fs | none => False)) : ∃ o fs, callL prog W (k + 1) f ss = some (o, fs) ∧ Ψ o fs := by
  simp only [Bool.and_eq_true, decide_eq_true_eq] at hl
  simp only [callL, h, if_pos hl]
  unfold Goes at hb
  cases e : exs (callL prog W k) W fd.body (ss ++ List.replicate (fd.n - fd.ps) .un) with
  | none => rw [e] at hb; exact hb.elim
  | some r =>
    rw [e] at hb
    dsimp only at hb
    cases r with
    | nx env => exact ⟨_, _, rfl, hb⟩
    | brk env => exact hb.elim
    | exc f env => exact hb.elim
    | ret o env => cases o with
      | dat d => exact ⟨_, _, rfl, hb⟩
      | own d => exact ⟨_, _, rfl, hb⟩
      | slot i => exact hb.elim
theorem callL_eq {prog : List Fd} {W k : Nat} {f : Str} {ss : List Slot} (fd : Fd) (h : prog.find? (fun d => d.name == f) = some fd) (hl : (decide (ss.length = fd.ps) && decide (fd.ps ≤ fd.n)) = true) {o : Opd} {fs : List Slot}
    (hb : Goes (callL prog W k) W fd.body (ss ++ List.replicate (fd.n - fd.ps) .un) (fun r => outR fd r = some (o, fs))) : callL prog W (k + 1) f ss = some (o, fs) := by
  obtain ⟨o', fs', e, h1, h2⟩ := callL_at (W := W) (k := k) (prog := prog) (ss := ss) (Ψ := fun o' fs' => o' = o ∧ fs' = fs) fd h hl (by
    unfold Goes at hb ⊢
    split at hb
    · rename_i r er
      show match outR fd r with | some (o_1, fs_1) => o_1 = o ∧ fs_1 = fs | none => False
      rw [show outR fd r = some (o, fs) from hb]; exact ⟨rfl, rfl⟩
    · exact hb.elim)
  rw [e, h1, h2]
/-- a def that raises -/
theorem callL_x {prog : List Fd} {W k : Nat} {f g : Str} {ss : List Slot} (fd : Fd) (h : prog.find? (fun d => d.name == f) = some fd) (hl : (decide (ss.length = fd.ps) && decide (fd.ps ≤ fd.n) && noOwn ss) = true)
    (hb : Goes (callL prog W k) W fd.body (ss ++ List.replicate (fd.n - fd.ps) .un) (fun r => ∃ env, r = .exc g env)) : callL prog W (k + 1) f ss = none ∧ callL prog W (k + 1) f (mark :: ss) = some (.dat (.str g), []) := by
  simp only [Bool.and_eq_true, decide_eq_true_eq] at hl
  unfold Goes at hb
  cases e : exs (callL prog W k) W fd.body (ss ++ List.replicate (fd.n - fd.ps) .un) with
  | none => rw [e] at hb; exact hb.elim
  | some r =>
    rw [e] at hb
    obtain ⟨env, rfl⟩ := hb
    constructor
    · simp only [callL, h, if_pos hl.1, e]
    · have h1 : ¬ ((mark :: ss).length = fd.ps ∧ fd.ps ≤ fd.n) := fun z => by have := z.1; rw [List.length_cons, hl.1.1] at this; omega
      simp only [callL, h]
      rw [if_neg h1]
      have h2 : ss.length = fd.ps ∧ fd.ps ≤ fd.n ∧ noOwn ss = true := ⟨hl.1.1, hl.1.2, hl.2⟩
      show (if ss.length = fd.ps ∧ fd.ps ≤ fd.n ∧ noOwn ss = true then _ else none) = _
      rw [if_pos h2, e]
section
variable {c : Cl} {W : Nat} {ss : List S} {env : Env} {Φ : R → Prop}
theorem go_raise {f : Str} (h : Φ (.exc f env)) : Goes c W (.raise f :: ss) env Φ := by
  unfold Goes; simp only [exs, ex]; exact h
/-- a try whose call ends well; whose call raises what is caught -/
theorem go_try_ok {f x : Str} {es : List E} {all yes : List Str} {a : Option Nat} {h : Hd} {os : List Opd} {env1 : Env} {sl : List Slot} {r : Opd × List Slot} (e : evs c es env = some (os, env1)) (hd : dats os = some sl) (hc : c f sl = some r) (q : Goes c W ss env1 Φ) : Goes c W (.tryc f es x all yes a h :: ss) env Φ := by
  unfold Goes at q ⊢; simp only [exs, ex, e, hd, hc]; exact q
theorem go_try_x {f x g : Str} {es : List E} {all yes : List Str} {a : Option Nat} {h : Hd} {os : List Opd} {env1 : Env} {sl : List Slot} (e : evs c es env = some (os, env1)) (hd : dats os = some sl) (h0 : c f sl = none) (hc : c f (mark :: sl) = some (.dat (.str g), []))
    (h1 : (all.contains g && okI env1 a) = true) (h2 : yes.contains g = true) (q : Φ (.ret (.dat (hdV h g)) env1)) : Goes c W (.tryc f es x all yes a h :: ss) env Φ := by
  unfold Goes; simp only [exs, ex, e, hd, h0, hc, h1, if_true, h2]; exact q
theorem go_nil (h : Φ (.nx env)) : Goes c W [] env Φ := by
  unfold Goes; simp only [exs]; exact h
theorem go_step {s : S} (env1 : Env) (e : ex c W s env = some (.nx env1)) (h : Goes c W ss env1 Φ) : Goes c W (s :: ss) env Φ := by
  unfold Goes at h ⊢; simp only [exs, e]; exact h
theorem Goes.imp {Ψ : R → Prop} (h : Goes c W ss env Ψ) (i : ∀ r, Ψ r → Φ r) : Goes c W ss env Φ := by
  unfold Goes at h ⊢
  split at h
  · exact i _ h
  · exact h
theorem exs_app {c : Cl} {W : Nat} : ∀ (a b : List S) (env : Env), exs c W (a ++ b) env = match exs c W a env with | some (.nx env) => exs c W b env | r => r
  | [], b, env => by simp only [List.nil_append, exs]
  | s :: a, b, env => by
    simp only [List.cons_append, exs]
    cases e : ex c W s env with
    | none => rfl
    | some r => cases r with
      | nx env1 => simp only; exact exs_app a b env1
      | brk env1 => rfl
      | exc f env1 => rfl
      | ret o env1 => rfl
theorem go_ite {t : E} {a b : List S} (bb : Bool) (env1 : Env) (e : ev c t .t env = some (.dat (.bl bb), env1)) (h1 : bb = true → Goes c W (a ++ ss) env1 Φ) (h2 : bb = false → Goes c W (b ++ ss) env1 Φ) : Goes c W (.ite t a b :: ss) env Φ := by
  unfold Goes at h1 h2 ⊢
  simp only [exs, ex, e]
  rw [exs_app] at h1 h2
  cases bb with
  | true => exact h1 rfl
  | false => exact h2 rfl
/-- a suite in a loop's turn -/
theorem goes_turn {b : List S} {P B : Env → Prop} (h : Goes c W b env (Turn P B Φ)) : (∃ env', exs c W b env = some (.nx env') ∧ P env') ∨ (∃ env', exs c W b env = some (.brk env') ∧ B env') ∨ (∃ o env', exs c W b env = some (.ret o env') ∧ Φ (.ret o env')) ∨ ∃ f env', exs c W b env = some (.exc f env') ∧ Φ (.exc f env') := by
  unfold Goes at h
  cases e : exs c W b env with
  | none => rw [e] at h; exact h.elim
  | some r =>
    rw [e] at h
    cases r with
    | nx env' => exact .inl ⟨env', rfl, h⟩
    | brk env' => exact .inr (.inl ⟨env', rfl, h⟩)
    | ret o env' => exact .inr (.inr (.inl ⟨o, env', rfl, h⟩))
    | exc f env' => exact .inr (.inr (.inr ⟨f, env', rfl, h⟩))
theorem go_for {tg : Tg} {src : E} {b : List S} (xs : List D) (env0 : Env) (P : Nat → Env → Prop) (e : ev c src .i env = some (.dat (.tup xs), env0)) (h0 : P 0 env0)
    (hs : ∀ i x env, xs[i]? = some x → P i env → ∃ env1, bindT env tg x = some env1 ∧ Goes c W b env1 (Turn (P (i + 1)) (fun env => Goes c W ss env Φ) Φ)) (hq : ∀ env, P xs.length env → Goes c W ss env Φ) : Goes c W (.for tg src b :: ss) env Φ := by
  have H : ∀ (xs : List D) (P : Nat → Env → Prop) (env0 : Env), P 0 env0 → (∀ i x env, xs[i]? = some x → P i env → ∃ env1, bindT env tg x = some env1 ∧ Goes c W b env1 (Turn (P (i + 1)) (fun env => Goes c W ss env Φ) Φ)) → (∀ env, P xs.length env → Goes c W ss env Φ) →
      match forLoop (fun x env => match bindT env tg x with | none => none | some env => exs c W b env) xs env0 with
      | some (.nx env) => Goes c W ss env Φ
      | some (.brk _) => False
      | some (.ret o env) => Φ (.ret o env)
      | some (.exc f env) => Φ (.exc f env)
      | none => False := by
    intro xs
    induction xs with
    | nil => intro P env0 h0 _ hq; exact hq _ h0
    | cons x xs ih =>
      intro P env0 h0 hs hq
      obtain ⟨env1, e1, h1⟩ := hs 0 x env0 rfl h0
      rcases goes_turn h1 with ⟨env', e2, p⟩ | ⟨env', e2, p⟩ | ⟨o, env', e2, p⟩ | ⟨f, env', e2, p⟩
      · simp only [forLoop, e1, e2]
        exact ih (fun i => P (i + 1)) env' p (fun i y env hy hp => hs (i + 1) y env (by simpa using hy) hp) hq
      · simp only [forLoop, e1, e2]; exact p
      · simp only [forLoop, e1, e2]; exact p
      · simp only [forLoop, e1, e2]; exact p
  have := H xs P env0 h0 hs hq
  unfold Goes
  simp only [exs, ex, e]
  cases e2 : forLoop (fun x env => match bindT env tg x with | none => none | some env => exs c W b env) xs env0 with
  | none => rw [e2] at this; exact this.elim
  | some r =>
    rw [e2] at this
    cases r with
    | nx env' =>
      have t2 : Goes c W ss env' Φ := this
      unfold Goes at t2
      exact t2
    | brk env' => exact this.elim
    | ret o env' => exact this
    | exc f env' => exact this
def wF (c : Cl) (W : Nat) (t : E) (b : List S) : Env → Option (Option R × Env) := fun env => match ev c t .t env with
  | some (.dat (.bl false), env) => some (some (.nx env), env)
  | some (.dat (.bl true), env) => match exs c W b env with
    | none => none
    | some (.nx env) => some (none, env)
    | some (.brk env) => some (some (.nx env), env)
    | some (.ret o env) => some (some (.ret o env), env)
    | some (.exc f env) => some (some (.exc f env), env)
  | _ => none
theorem ex_whl {t : E} {b : List S} : ex c W (.whl t b) env = whlLoop (wF c W t b) W env := by
  simp only [ex]; rfl
theorem go_whl {t : E} {b : List S} (P : Nat → Env → Prop) (m : Nat) (hm : m < W) (h0 : P m env)
    (hs : ∀ m env, P m env → ∃ bb env1, ev c t .t env = some (.dat (.bl bb), env1) ∧ (bb = true → Goes c W b env1 (Turn (fun env' => ∃ m', m' < m ∧ P m' env') (fun env => Goes c W ss env Φ) Φ)) ∧ (bb = false → Goes c W ss env1 Φ)) : Goes c W (.whl t b :: ss) env Φ := by
  have H : ∀ (V m : Nat) (env : Env), m < V → P m env →
      match whlLoop (wF c W t b) V env with
      | some (.nx env) => Goes c W ss env Φ
      | some (.brk _) => False
      | some (.ret o env) => Φ (.ret o env)
      | some (.exc f env) => Φ (.exc f env)
      | none => False := by
    intro V
    induction V with
    | zero => intro m env h; omega
    | succ V ih =>
      intro m env hV hp
      obtain ⟨bb, env1, e1, h1, h2⟩ := hs m env hp
      cases bb with
      | false => simp only [whlLoop, wF, e1]; exact h2 rfl
      | true =>
        rcases goes_turn (h1 rfl) with ⟨env', e2, m', lt, p⟩ | ⟨env', e2, p⟩ | ⟨o, env', e2, p⟩ | ⟨f, env', e2, p⟩
        · simp only [whlLoop, wF, e1, e2]; exact ih m' env' (by omega) p
        · simp only [whlLoop, wF, e1, e2]; exact p
        · simp only [whlLoop, wF, e1, e2]; exact p
        · simp only [whlLoop, wF, e1, e2]; exact p
  have := H W m env hm h0
  unfold Goes
  simp only [exs, ex_whl]
  split at this
  · rename_i e2; rw [e2]; unfold Goes at this; exact this
  · exact this.elim
  · rename_i e2; rw [e2]; exact this
  · rename_i e2; rw [e2]; exact this
  · exact this.elim
end
theorem lcT_inv {f : D → Env → Option (Option D × Env)} (P : Nat → List D → Env → Prop) : ∀ {xs : List D} {env : Env}, P 0 [] env → (∀ i x ds env, xs[i]? = some x → P i ds env → ∃ r env', f x env = some (r, env') ∧ P (i + 1) (ds ++ r.toList) env') →
    ∃ ds env', lcLoop f xs env = some (ds, env') ∧ P xs.length ds env' := by
  suffices H : ∀ (xs : List D) (P : Nat → List D → Env → Prop) (env : Env), P 0 [] env → (∀ i x ds env, xs[i]? = some x → P i ds env → ∃ r env', f x env = some (r, env') ∧ P (i + 1) (ds ++ r.toList) env') →
    ∃ ds env', lcLoop f xs env = some (ds, env') ∧ P xs.length ds env' from fun {xs env} => H xs P env
  intro xs
  induction xs with
  | nil => intro P env h0 _; exact ⟨[], env, rfl, h0⟩
  | cons x xs ih =>
    intro P env h0 hs
    obtain ⟨r, env1, e1, h1⟩ := hs 0 x [] env rfl h0
    rw [List.nil_append] at h1
    obtain ⟨ds, env2, e2, h2⟩ := ih (fun i ds env => P (i + 1) (r.toList ++ ds) env) env1 (by simpa using h1) fun i y ds env hy hp => by
      obtain ⟨r2, env', e, q⟩ := hs (i + 1) y (r.toList ++ ds) env (by simpa using hy) hp
      exact ⟨r2, env', e, by simpa using q⟩
    refine ⟨r.toList ++ ds, env2, ?_, by simpa using h2⟩
    cases r with
    | none => simp only [lcLoop, e1]; simpa using e2
    | some d => simp only [lcLoop, e1, e2]; rfl
/-- a comprehension's turn -/
def lcT (c : Cl) (own : List Nat) (tg : Tg) (cond : List E) (elt : E) : D → Env → Option (Option D × Env) := fun x env => match bindT (wipeE env own) tg x with
  | none => none
  | some env => match evAnd c cond .t env with
    | some (.dat (.bl true), env) => match ev c elt .v env with
      | none => none
      | some (o, env) => match toD env o with
        | some (d, env) => some (some d, env)
        | none => none
    | some (.dat (.bl false), env) => some (none, env)
    | _ => none
theorem ev_lc0 {c : Cl} {own : List Nat} {tg : Tg} {src elt : E} {cond : List E} {env : Env} : ev c (.lc own tg src cond elt) .v env = match ev c src .i env with
    | some (.dat (.tup xs), env) => match lcLoop (lcT c own tg cond elt) xs env with
      | some (ds, env') => if ds.length ≤ line then some (.own (.lst ds), backE env env' own) else none
      | none => none
    | _ => none := by
  simp only [ev, fin]; rfl
theorem ev_lc {c : Cl} {own : List Nat} {tg : Tg} {src elt : E} {cond : List E} {env : Env} (xs : List D) (env0 : Env) (P : Nat → List D → Env → Prop) (e : ev c src .i env = some (.dat (.tup xs), env0)) (h0 : P 0 [] env0)
    (hs : ∀ i x ds env, xs[i]? = some x → P i ds env → ∃ r env', lcT c own tg cond elt x env = some (r, env') ∧ P (i + 1) (ds ++ r.toList) env') :
    ∃ ds env', P xs.length ds env' ∧ (ds.length ≤ line → ev c (.lc own tg src cond elt) .v env = some (.own (.lst ds), backE env0 env' own)) := by
  obtain ⟨ds, env', h1, h2⟩ := lcT_inv P h0 hs
  refine ⟨ds, env', h2, fun hl => ?_⟩
  rw [ev_lc0]
  simp only [e, h1, if_pos hl]
end PF
/-! PFY: put together what expressions give. -/
namespace PF
open PySem
section
variable {c : Cl} {W : Nat} {ss : List S} {env env1 env2 : Env} {Φ : R → Prop} {e : E} {d : D}
theorem go_ret (h : ev c e .v env = some (.dat d, env1)) (q : Φ (.ret (.dat d) env1)) : Goes c W (.ret e :: ss) env Φ := by
  unfold Goes; simp only [exs, ex, h, giveOut]; exact q
theorem go_retO (h : ev c e .v env = some (.own d, env1)) (q : Φ (.ret (.own d) env1)) : Goes c W (.ret e :: ss) env Φ := by
  unfold Goes; simp only [exs, ex, h, giveOut]; exact q
theorem go_setD {i : Nat} (h : ev c e .v env = some (.dat d, env1)) (q : Goes c W ss (env1.set i (.val d)) Φ) : Goes c W (.set i e :: ss) env Φ :=
  go_step _ (by simp only [ex, h, store]) q
theorem go_setO {i : Nat} (h : ev c e .v env = some (.own d, env1)) (q : Goes c W ss (env1.set i (.own d)) Φ) : Goes c W (.set i e :: ss) env Φ :=
  go_step _ (by simp only [ex, h, store]) q
/-- a test that raises no alarm -/
theorem go_pass {t : E} {a : List S} (h : ev c t .t env = some (.dat (.bl false), env1)) (q : Goes c W ss env1 Φ) : Goes c W (.ite t a [] :: ss) env Φ :=
  go_ite false env1 h (fun z => nomatch z) fun _ => q
theorem ev_tuple {xs : List D} (h : ev c e .v env = some (.own (.lst xs), env1)) : ev c (.blt .tuple [e]) .v env = some (.dat (.tup xs), env1) := by
  simp only [ev, evs, h, fin, views, view, bltD]
theorem ev_list {xs : List D} (h : ev c e .v env = some (.dat (.tup xs), env1)) : ev c (.blt .list [e]) .v env = some (.own (.lst xs), env1) := by
  simp only [ev, evs, h, fin, views, view, bltD]
theorem ev_sum {xs : List D} {ns : List Int} (h : ev c e .v env = some (.own (.lst xs), env1)) (hn : intsD xs = some ns) : ev c (.blt .sum [e]) .v env = some (.dat (.int ns.sum), env1) := by
  simp only [ev, evs, h, fin, views, view, bltD, hn, Option.map_some]
theorem ev_max {xs : List D} {n : Int} {ns : List Int} (h : ev c e .v env = some (.own (.lst xs), env1)) (hn : intsD xs = some (n :: ns)) : ev c (.blt .max [e]) .v env = some (.dat (.int (maxI n ns)), env1) := by
  simp only [ev, evs, h, fin, views, view, bltD, hn]
theorem ev_len {xs : List D} (h : ev c e .v env = some (.dat (.tup xs), env1)) : ev c (.blt .len [e]) .v env = some (.dat (.int xs.length), env1) := by
  simp only [ev, evs, h, fin, views, view, bltD]
theorem ev_lenO {xs : List D} (h : ev c e .v env = some (.own (.lst xs), env1)) : ev c (.blt .len [e]) .v env = some (.dat (.int xs.length), env1) := by
  simp only [ev, evs, h, fin, views, view, bltD]
/-- [0] + a list -/
theorem ev_cons0 {xs : List D} {i : Int} (h : ev c e .v env = some (.own (.lst xs), env1)) (hl : xs.length + 1 ≤ line) : ev c (.bin .add (.lst [.int i]) e) .v env = some (.own (.lst (.int i :: xs)), env1) := by
  have l1 : 1 ≤ line := by unfold line; omega
  have l2 : 1 + xs.length ≤ line := by omega
  simp [ev, evds, fin, h, view, op2, toD, l1, l2]
theorem ev_call1 {f : Str} {o : Opd} {fs : List Slot} (h : ev c e .v env = some (.dat d, env1)) (hc : c f [.val d] = some (o, fs)) : ev c (.call f [e]) .v env = some (o, env1) := by
  simp only [ev, evs, h, lend, hc, fin]
  cases fs <;> rfl
theorem ev_call1O {f : Str} {o : Opd} {fs : List Slot} (h : ev c e .v env = some (.own d, env1)) (hc : c f [.own d] = some (o, fs)) : ev c (.call f [e]) .v env = some (o, env1) := by
  simp only [ev, evs, h, lend, hc, fin]
  cases fs <;> rfl
theorem ev_call2 {f : Str} {e' : E} {d' : D} {o : Opd} {fs : List Slot} (h : ev c e .v env = some (.dat d, env1)) (h' : ev c e' .v env1 = some (.dat d', env2)) (hc : c f [.val d, .val d'] = some (o, fs)) : ev c (.call f [e, e']) .v env = some (o, env2) := by
  simp only [ev, evs, h, h', lend, hc, fin]
  match fs with
  | [] => rfl
  | [_] => rfl
  | _ :: _ :: _ => rfl
theorem ev_call3 {f : Str} {e' e2 : E} {d' d2 : D} {env3 : Env} {o : Opd} {fs : List Slot} (h : ev c e .v env = some (.dat d, env1)) (h' : ev c e' .v env1 = some (.dat d', env2)) (h2 : ev c e2 .v env2 = some (.dat d2, env3)) (hc : c f [.val d, .val d', .val d2] = some (o, fs)) : ev c (.call f [e, e', e2]) .v env = some (o, env3) := by
  simp only [ev, evs, h, h', h2, lend, hc, fin]
  match fs with
  | [] => rfl
  | [_] => rfl
  | [_, _] => rfl
  | _ :: _ :: _ :: _ => rfl
/-- a call that is lent the list of a name -/
theorem ev_callS2 {f : Str} {i : Nat} {d d' : D} {o : Opd} {s : Slot} {fs : List Slot} (hi : look env i = .own d) (h' : ev c e .v env = some (.dat d', env1)) (hi1 : look env1 i = .own d) (hc : c f [.own d, .val d'] = some (o, s :: fs)) : ev c (.call f [.var i, e]) .v env = some (o, (env1.set i .un).set i s) := by
  simp only [ev, evs, hi, h', lend, hi1, hc, fin]
  cases fs <;> rfl
theorem ev_not {b : Bool} (h : ev c e .t env = some (.dat (.bl b), env1)) : ev c (.not e) .t env = some (.dat (.bl (!b)), env1) := by
  simp [ev, fin, h, view, truth]
theorem ev_tv (hv : ev c e .v env = some (.dat (.bl true), env1)) (ht : ev c e .t env = fin .t (ev c e .v env)) : ev c e .t env = some (.dat (.bl true), env1) := by
  rw [ht, hv]; rfl
theorem call_t {f : Str} {es : List E} (h : ev c (.call f es) .v env = some (.dat (.bl true), env1)) : ev c (.call f es) .t env = some (.dat (.bl true), env1) := by
  have : ev c (.call f es) .t env = fin .t (ev c (.call f es) .v env) := by simp only [ev, fin]
  rw [this, h]; rfl
theorem call_n {f : Str} {es : List E} (h : ev c (.call f es) .v env = some (.dat (.bl true), env1)) : ev c (.not (.call f es)) .t env = some (.dat (.bl false), env1) := ev_not (call_t h)
theorem or_two {a b : E} (ha : ev c a .t env = some (.dat (.bl false), env1)) (hb : ev c b .t env1 = some (.dat (.bl false), env2)) : ev c (.or [a, b]) .t env = some (.dat (.bl false), env2) := by
  simp [ev, evOr, ha, hb, fin, view, truth, Md.tv]
theorem or_three {a b g : E} {env3 : Env} (ha : ev c a .t env = some (.dat (.bl false), env1)) (hb : ev c b .t env1 = some (.dat (.bl false), env2)) (hg : ev c g .t env2 = some (.dat (.bl false), env3)) : ev c (.or [a, b, g]) .t env = some (.dat (.bl false), env3) := by
  simp [ev, evOr, ha, hb, hg, fin, view, truth, Md.tv]
end
section
variable {c : Cl} {env env1 env2 : Env}
theorem ev_var {i : Nat} {d : D} (h : look env i = .val d) : ev c (.var i) .v env = some (.dat d, env) := by simp only [ev, fin, h]
theorem ev_ci {i : Int} : ev c (.int i) .v env = some (.dat (.int i), env) := by simp only [ev, fin]
theorem ev_bin {op : Op2} {a b : E} {d d' : D} {r : Opd} (ha : ev c a .v env = some (.dat d, env1)) (hb : ev c b .v env1 = some (.dat d', env2)) (ho : op2 op d d' = some r) : ev c (.bin op a b) .v env = some (r, env2) := by
  simp only [ev, fin, ha, hb, view, ho]
theorem ev_cmp {op : Cm} {a b : E} {d d' : D} {r : Bool} (ha : ev c a .v env = some (.dat d, env1)) (hb : ev c b .v env1 = some (.dat d', env2)) (ho : cm op d d' = some r) : ev c (.cmp op a b) .v env = some (.dat (.bl r), env2) := by
  simp only [ev, fin, ha, hb, view, ho]
theorem ev_cmpT {op : Cm} {a b : E} {d d' : D} {r : Bool} (ha : ev c a .v env = some (.dat d, env1)) (hb : ev c b .v env1 = some (.dat d', env2)) (ho : cm op d d' = some r) : ev c (.cmp op a b) .t env = some (.dat (.bl r), env2) := by
  simp only [ev, fin, ha, hb, view, ho, truth]
theorem ev_andV {a b : E} {p q : Bool} (ha : ev c a .v env = some (.dat (.bl p), env)) (hb : ev c b .v env = some (.dat (.bl q), env)) : ev c (.and [a, b]) .v env = some (.dat (.bl (p && q)), env) := by
  cases p <;> cases q <;> simp [ev, evAnd, ha, hb, fin, Md.tv]
theorem ev_orV {a b : E} {p q : Bool} (ha : ev c a .v env = some (.dat (.bl p), env)) (hb : ev c b .v env = some (.dat (.bl q), env)) : ev c (.or [a, b]) .v env = some (.dat (.bl (p || q)), env) := by
  cases p <;> cases q <;> simp [ev, evOr, ha, hb, fin, Md.tv]
theorem ev_idx {a b : E} {d d' r : D} (ha : ev c a .v env = some (.dat d, env1)) (hb : ev c b .v env1 = some (.dat d', env2)) (ho : idxD d d' = some r) : ev c (.idx a b) .v env = some (.dat r, env2) := by
  simp only [ev, fin, ha, hb, view, ho]
theorem ev_int1 {a : E} {i : Int} (ha : ev c a .v env = some (.dat (.int i), env1)) : ev c (.blt .int [a]) .v env = some (.dat (.int i), env1) := by
  simp only [ev, evs, fin, ha, views, view, bltD]
theorem ev_walk {i : Nat} {xs : List D} (h : look env i = .val (.lst xs)) : ev c (.var i) .i env = some (.dat (.tup xs), env) := by simp only [ev, fin, h, itemsOf, toD]
theorem ev_walkT {i : Nat} {xs : List D} (h : look env i = .val (.tup xs)) : ev c (.var i) .i env = some (.dat (.tup xs), env) := by simp only [ev, fin, h, itemsOf, toD]
theorem ev_walkO {i : Nat} {xs : List D} (h : look env i = .own (.lst xs)) : ev c (.var i) .i env = some (.dat (.tup xs), env.set i (.val (.lst xs))) := by simp only [ev, fin, h, itemsOf, toD]
end
/-! ### comprehensions -/
theorem lcT_wipe {c : Cl} {own : List Nat} {tg : Tg} {cond : List E} {elt : E} {x : D} {env env0 : Env} (h : wipeE env own = wipeE env0 own) : lcT c own tg cond elt x env = lcT c own tg cond elt x env0 := by
  unfold lcT; rw [h]
theorem back1 {env0 env' : Env} {i : Nat} (h : wipeE env' [i] = wipeE env0 [i]) : backE env0 env' [i] = env0 := by
  simp only [wipeE, backE] at h ⊢
  have e : env'.set i (look env0 i) = (env'.set i .un).set i (look env0 i) := by rw [List.set_set]
  rw [e, h, List.set_set]
  apply List.ext_getElem?
  intro j
  rw [List.getElem?_set]
  by_cases hj : i = j
  · subst hj
    by_cases hl : i < env0.length
    · simp [hl, look]
    · simp [hl]
  · simp [hj]
/-- a comprehension over one name that changes nothing else -/
theorem ev_lc1 {c : Cl} {i : Nat} {src elt : E} {cond : List E} {env : Env} (xs : List D) (env0 : Env) (g : D → Option D) (e : ev c src .i env = some (.dat (.tup xs), env0)) (hl : xs.length ≤ line)
    (h : ∀ x ∈ xs, lcT c [i] (.nm i) cond elt x env0 = some (g x, env0.set i (.val x))) : ev c (.lc [i] (.nm i) src cond elt) .v env = some (.own (.lst (xs.filterMap g)), env0) := by
  have key : ∀ (ys : List D) (env1 : Env), (∀ x ∈ ys, x ∈ xs) → wipeE env1 [i] = wipeE env0 [i] → ∃ env', lcLoop (lcT c [i] (.nm i) cond elt) ys env1 = some (ys.filterMap g, env') ∧ wipeE env' [i] = wipeE env0 [i] := by
    intro ys
    induction ys with
    | nil => intro env1 _ hw; exact ⟨env1, rfl, hw⟩
    | cons y ys ih =>
      intro env1 hm hw
      have e1 := (lcT_wipe (x := y) hw).trans (h y (hm y List.mem_cons_self))
      obtain ⟨env', h1, h2⟩ := ih (env0.set i (.val y)) (fun x hx => hm x (List.mem_cons_of_mem _ hx)) (by simp [wipeE])
      refine ⟨env', ?_, h2⟩
      cases hg : g y with
      | none => rw [hg] at e1; simp only [lcLoop, e1, h1, List.filterMap_cons, hg]
      | some d => rw [hg] at e1; simp only [lcLoop, e1, h1, List.filterMap_cons, hg]
  obtain ⟨env', h1, h2⟩ := key xs env0 (fun _ h => h) rfl
  rw [ev_lc0]
  simp only [e, h1, if_pos (Nat.le_trans (List.length_filterMap_le _ _) hl), back1 h2]
theorem ev_lcm {c : Cl} {i : Nat} {src elt : E} {env : Env} {α : Type} (as : List α) (enc f : α → D) (env0 : Env) (e : ev c src .i env = some (.dat (.tup (as.map enc)), env0)) (hl : as.length ≤ line)
    (h : ∀ a ∈ as, lcT c [i] (.nm i) [] elt (enc a) env0 = some (some (f a), env0.set i (.val (enc a)))) : ev c (.lc [i] (.nm i) src [] elt) .v env = some (.own (.lst (as.map f)), env0) := by
  have key : ∀ (ys : List α) (env1 : Env), (∀ x ∈ ys, x ∈ as) → wipeE env1 [i] = wipeE env0 [i] → ∃ env', lcLoop (lcT c [i] (.nm i) [] elt) (ys.map enc) env1 = some (ys.map f, env') ∧ wipeE env' [i] = wipeE env0 [i] := by
    intro ys
    induction ys with
    | nil => intro env1 _ hw; exact ⟨env1, rfl, hw⟩
    | cons y ys ih =>
      intro env1 hm hw
      have e1 := (lcT_wipe (x := enc y) hw).trans (h y (hm y List.mem_cons_self))
      obtain ⟨env', h1, h2⟩ := ih (env0.set i (.val (enc y))) (fun x hx => hm x (List.mem_cons_of_mem _ hx)) (by simp [wipeE])
      exact ⟨env', by simp only [List.map_cons, lcLoop, e1, h1], h2⟩
  obtain ⟨env', h1, h2⟩ := key as env0 (fun _ h => h) rfl
  rw [ev_lc0]
  simp only [e, h1, List.length_map, if_pos hl, back1 h2]
/-- a comprehension with a state -/
theorem ev_lcP {c : Cl} {i : Nat} {src elt : E} {env : Env} {α : Type} (as : List α) (enc f : α → D) (env0 : Env) (P : Env → Prop) (e : ev c src .i env = some (.dat (.tup (as.map enc)), env0)) (hl : as.length ≤ line) (h0 : P env0)
    (h : ∀ a ∈ as, ∀ env, P env → ∃ env', lcT c [i] (.nm i) [] elt (enc a) env = some (some (f a), env') ∧ P env') : ∃ env', P env' ∧ ev c (.lc [i] (.nm i) src [] elt) .v env = some (.own (.lst (as.map f)), backE env0 env' [i]) := by
  have key : ∀ (ys : List α) (env1 : Env), (∀ x ∈ ys, x ∈ as) → P env1 → ∃ env', lcLoop (lcT c [i] (.nm i) [] elt) (ys.map enc) env1 = some (ys.map f, env') ∧ P env' := by
    intro ys
    induction ys with
    | nil => intro env1 _ hw; exact ⟨env1, rfl, hw⟩
    | cons y ys ih =>
      intro env1 hm hw
      obtain ⟨env2, e1, p2⟩ := h y (hm y List.mem_cons_self) env1 hw
      obtain ⟨env', h1, h2⟩ := ih env2 (fun x hx => hm x (List.mem_cons_of_mem _ hx)) p2
      exact ⟨env', by simp only [List.map_cons, lcLoop, e1, h1], h2⟩
  obtain ⟨env', h1, h2⟩ := key as env0 (fun _ h => h) h0
  refine ⟨env', h2, ?_⟩
  rw [ev_lc0]
  simp only [e, h1, List.length_map, if_pos hl]
/-- one turn with no test -/
theorem lcT1 {c : Cl} {i : Nat} {elt : E} {x d : D} {env0 : Env} (h : ev c elt .v (env0.set i (.val x)) = some (.dat d, env0.set i (.val x))) : lcT c [i] (.nm i) [] elt x env0 = some (some d, env0.set i (.val x)) := by
  simp only [lcT, wipeE, bindT, List.set_set, evAnd, h, toD]
theorem lcT_t {c : Cl} {i : Nat} {t elt : E} {x d : D} {env env1 env' : Env} (hc : ev c t .t (env.set i (.val x)) = some (.dat (.bl true), env1)) (h : ev c elt .v env1 = some (.dat d, env')) : lcT c [i] (.nm i) [t] elt x env = some (some d, env') := by
  simp only [lcT, wipeE, bindT, List.set_set, evAnd, hc, h, toD]
theorem lcT_f {c : Cl} {i : Nat} {t elt : E} {x : D} {env env1 : Env} (hc : ev c t .t (env.set i (.val x)) = some (.dat (.bl false), env1)) : lcT c [i] (.nm i) [t] elt x env = some (none, env1) := by
  simp only [lcT, wipeE, bindT, List.set_set, evAnd, hc]
theorem lcT2 {c : Cl} {i : Nat} {elt : E} {x d : D} {env env' : Env} (h : ev c elt .v (env.set i (.val x)) = some (.dat d, env')) : lcT c [i] (.nm i) [] elt x env = some (some d, env') := by
  simp only [lcT, wipeE, bindT, List.set_set, evAnd, h, toD]
theorem ev_lc2_0 {c : Cl} {own vs1 : List Nat} {tg tg1 : Tg} {src src1 elt : E} {cond cond1 : List E} {env : Env} : ev c (.lc2 own tg src cond vs1 tg1 src1 cond1 elt) .v env = match ev c src .i env with
    | some (.dat (.tup xs), env) => match lcLoop2 (fun x env => match bindT (wipeE env own) tg x with
        | none => none
        | some env => match evAnd c cond .t env with
          | some (.dat (.bl true), env) => match ev c src1 .i env with
            | some (.dat (.tup ys), env) => lcLoop (lcT c vs1 tg1 cond1 elt) ys env
            | _ => none
          | some (.dat (.bl false), env) => some ([], env)
          | _ => none) xs env with
      | some (ds, env') => if ds.length ≤ line then some (.own (.lst ds), backE env env' own) else none
      | none => none
    | _ => none := by
  simp only [ev, fin]; rfl
end PF
/-! PFZ: more of what expressions give; numbers, rows of numbers. -/
namespace PF
open PySem
variable {W : Nat}
abbrev nt (n : Nat) : D := .int (n : Int)
abbrev bits (ds : List Nat) : List D := ds.map nt
theorem atD_bits {ds : List Nat} {p : Nat} (h : p < ds.length) : atD (bits ds) (p : Int) = some (nt (ds[p]?.getD 0)) := by
  simp [atD, L2.atI, L2.ixN, h]
theorem ints_bits (ds : List Nat) : intsD (bits ds) = some (ds.map Int.ofNat) := by
  induction ds with
  | nil => rfl
  | cons d ds ih => simp only [bits, List.map_cons, intsD]; rw [show intsD (List.map nt ds) = _ from ih]; rfl
theorem sum_nat (ds : List Nat) : (ds.map Int.ofNat).sum = (ds.sum : Nat) := by
  induction ds with
  | nil => rfl
  | cons d ds ih => simp [ih]
theorem ge_bits {ds : List Nat} {p : Nat} (h : p < ds.length) : ds[p]?.getD 0 = ds[p] := by simp [h]
theorem rng_nat (n : Nat) (h : n < 2 ^ 60) : rngD [.int (n : Int)] = some ((List.range n).map nt) := by
  have e1 : okR (n : Int) = true := by
    have : (n : Int) < 2 ^ 62 := by omega
    have h2 : -(2 ^ 62) ≤ (n : Int) := by omega
    simp only [okR, Bool.and_eq_true, decide_eq_true_eq]
    exact ⟨h2, this⟩
  have e2 : (((n : Int) - 0 + 1 - 1) / 1).toNat = n := by simp
  simp only [rngD, e1, if_true, rngL]
  rw [if_pos (by decide), e2]
  refine congrArg some (List.map_congr_left fun k _ => ?_)
  show D.int _ = D.int _
  refine congrArg D.int ?_
  omega
theorem xs_at {n i : Nat} {x : D} (h : ((List.range n).map nt)[i]? = some x) : i < n ∧ x = nt i := by
  rw [List.getElem?_map] at h
  by_cases hi : i < n
  · rw [List.getElem?_range hi] at h; simp at h; exact ⟨hi, h.symm⟩
  · rw [List.getElem?_eq_none (by simpa using hi)] at h; simp at h
theorem lt60 {n : Nat} (h : n < 100000) : n < 2 ^ 60 := Nat.lt_trans h (by decide)
abbrev zs (l : List Int) : List D := l.map .int
theorem atD_zs {l : List Int} {j : Nat} (h : j < l.length) : atD (zs l) (j : Int) = some (.int (l[j]?.getD 0)) := by simp [atD, L2.atI, L2.ixN, h]
theorem setL_zs {l : List Int} {j : Nat} (h : j < l.length) (v : Int) : setL (.lst (zs l)) (.int (j : Int)) (.int v) = some (.lst (zs (l.set j v))) := by simp [setL, ixn, L2.ixN, h, List.map_set]
theorem small_mod (v : Int) : small64 (v % 2147483647) = true := by
  have h1 := Int.emod_lt_of_pos v (show (0 : Int) < 2147483647 by decide)
  have h2 := Int.emod_nonneg v (show (2147483647 : Int) ≠ 0 by decide)
  simp only [small64, Bool.and_eq_true, decide_eq_true_eq]
  omega
theorem ex8 (c : Cl) (p q r m cv iv jv : Int) (C : List D) (s0 s1 s3 s4 s5 x8 : Slot) (hp : small64 p = true) (hq : small64 q = true) (hm : 0 < m) (a1 : atD C jv = some (.int cv)) :
    ex c W (.set 8 (.bin .mod (.blt .int [(.bin .add (.bin .add (.bin .mul (.idx (.var 2) (.var 7)) (.int p)) (.bin .mul (.var 6) (.int q))) (.int r))]) (.int m))) [s0, s1, .own (.lst C), s3, s4, s5, .val (.int iv), .val (.int jv), x8] =
      some (.nx [s0, s1, .own (.lst C), s3, s4, s5, .val (.int iv), .val (.int jv), .val (.int ((cv * p + iv * q + r) % m))]) := by
  simp [exs, ex, ev, evds, evs, evAnd, evOr, look, fin, view, views, cm, D.plain, wantsM, isSeq, sameQ, truth, mutD, toD, op2, store, aug2, giveOut, finals, lend, PF.giveBack, bltD, isiD, kd, isK, idxD, mthD, b2i, itemsOf, bindT, Md.tv, setAll, revD, part, slcD, shp_int, shp_bl, deq_int, deq_bl, shp_non, rg1, rg2, rg3, rg4, ln1, ln2, ln3, ln4, a1, hp, hq, hm]
theorem shr_nt (n j : Nat) : op2 .shr (nt n) (nt j) = some (.dat (nt (n / 2 ^ j))) := by simp [op2, nt]
theorem mod_nt (n m : Nat) (h : 0 < m) : op2 .mod (nt n) (nt m) = some (.dat (nt (n % m))) := by simp [op2, nt, h]
theorem fdiv_nt (n m : Nat) (h : 0 < m) (h2 : m < 1073741824) : op2 .fdiv (nt n) (nt m) = some (.dat (nt (n / m))) := by
  simp only [op2, nt]; rw [if_pos ⟨by omega, .inl (by omega)⟩]; simp
theorem add_nt (n m : Nat) : op2 .add (nt n) (nt m) = some (.dat (nt (n + m))) := by simp [op2, nt]
theorem ln_of {n : Nat} (h : n < 100000) : n ≤ line := by unfold line; omega
theorem ev_range {c : Cl} {env env1 : Env} {e : E} {n : Nat} (hn : n < 100000) (h : ev c e .v env = some (.dat (nt n), env1)) : ev c (.rng [e]) .i env = some (.dat (.tup ((List.range n).map nt)), env1) :=
  ev_rng (ds := [nt n]) (by simp only [evds, h, toD]) (rng_nat n (lt60 hn))
section
variable {c : Cl} {env env1 env2 : Env} {a b : E}
theorem ev_nlen {c : Cl} {ds : List Nat} (h : ev c a .v env = some (.dat (.tup (bits ds)), env1)) : ev c (.blt .len [a]) .v env = some (.dat (nt ds.length), env1) := by
  have := ev_len h
  rwa [show ((bits ds).length : Int) = (ds.length : Int) by simp] at this
theorem ev_slot {i : Nat} {d : D} (h : look env i = .own d) : ev c (.var i) .v env = some (.slot i, env) := by simp only [ev, fin, h]
theorem ev_lenS {i : Nat} {xs : List D} (h : look env i = .own (.lst xs)) : ev c (.blt .len [.var i]) .v env = some (.dat (.int xs.length), env) := by
  simp only [ev, evs, fin, h, views, view, bltD]
theorem ev_idxS {i : Nat} {l d r : D} (h : look env i = .own l) (hb : ev c b .v env = some (.dat d, env)) (ho : idxD l d = some r) : ev c (.idx (.var i) b) .v env = some (.dat r, env) := by
  simp only [ev, fin, h, hb, view, ho]
theorem ev_idx_i {xs : List D} (h : ev c (.idx a b) .v env = some (.dat (.tup xs), env1)) : ev c (.idx a b) .i env = some (.dat (.tup xs), env1) := by
  have : ev c (.idx a b) .i env = fin .i (ev c (.idx a b) .v env) := by simp only [ev, fin]
  rw [this, h]; rfl
theorem ev_cmpS {op : Cm} {i : Nat} {d l : D} {r : Bool} (ha : ev c a .v env = some (.dat d, env)) (h : look env i = .own l) (ho : cm op d l = some r) : ev c (.cmp op a (.var i)) .t env = some (.dat (.bl r), env) := by
  simp only [ev, fin, ha, h, view, ho, truth]
theorem ev_mut1 {m : Mt} {i : Nat} {l l' d r : D} (h : look env i = .own l) (hw : wantsM m l = true) (ha : ev c a .v env = some (.dat d, env1)) (h1 : look env1 i = .own l) (hm : mutD m l [d] = some (r, l')) : ev c (.mut m i [a]) .v env = some (.dat r, env1.set i (.own l')) := by
  simp only [ev, evds, fin, h, hw, if_true, ha, toD, h1, hm]
theorem ex_sub {W : Nat} {i : Nat} {ix e : E} {d k l l' : D} (he : ev c e .v env = some (.dat d, env)) (h : look env i = .own l) (hi : ev c ix .v env = some (.dat k, env)) (hs : setL l k d = some l') : ex c W (.sub i ix e) env = some (.nx (env.set i (.own l'))) := by
  simp only [ex, he, toD, h, hi, hs]
theorem go_expr {c : Cl} {W : Nat} {ss : List S} {env env1 : Env} {Φ : R → Prop} {e : E} {o : Opd} (h : ev c e .v env = some (o, env1)) (q : Goes c W ss env1 Φ) : Goes c W (.expr e :: ss) env Φ := go_step _ (by simp only [ex, h]) q
theorem go_retS {c : Cl} {W : Nat} {ss : List S} {env : Env} {Φ : R → Prop} {i : Nat} {d : D} (h : look env i = .own d) (q : Φ (.ret (.own d) (env.set i .un))) : Goes c W (.ret (.var i) :: ss) env Φ := by
  unfold Goes; simp only [exs, ex, ev, fin, h, giveOut]; exact q
theorem go_augI {c : Cl} {W : Nat} {ss : List S} {env : Env} {Φ : R → Prop} {i : Nat} {n : Nat} (h : look env i = .val (nt n)) (q : Goes c W ss (env.set i (.val (nt (n + 1)))) Φ) : Goes c W (.aug .add i (.int 1) :: ss) env Φ :=
  go_step _ (by simp only [ex, h, ev, fin, view, aug2, nt]; simp) q
theorem at_bits {ds : List Nat} {p : Nat} (h : p < ds.length) : idxD (.tup (bits ds)) (nt p) = some (nt (ds[p]?.getD 0)) := atD_bits h
theorem at_bitsL {ds : List Nat} {p : Nat} (h : p < ds.length) : idxD (.lst (bits ds)) (nt p) = some (nt (ds[p]?.getD 0)) := atD_bits h
theorem ev_tlen {xs : List D} {n : Nat} (h : ev c a .v env = some (.dat (.tup xs), env)) (hn : xs.length = n) : ev c (.blt .len [a]) .v env = some (.dat (nt n), env) := by
  have := ev_len h
  rwa [hn] at this
theorem ev_lrT {c : Cl} {env env1 : Env} {a : E} {d : D} {xs : List D} (h : ev c a .v env = some (.dat d, env1)) (hr : rngD [d] = some xs) (hl : xs.length ≤ line) : ev c (.lrng true [a]) .v env = some (.dat (.tup xs), env1) := by
  simp only [ev, evds, fin, h, toD, hr]
  rw [if_pos hl]
  rfl
theorem ev_lrL {c : Cl} {env env1 env2 : Env} {a b : E} {d d' : D} {xs : List D} (h : ev c a .v env = some (.dat d, env1)) (h' : ev c b .v env1 = some (.dat d', env2)) (hr : rngD [d, d'] = some xs) (hl : xs.length ≤ line) : ev c (.lrng false [a, b]) .v env = some (.own (.lst xs), env2) := by
  simp only [ev, evds, fin, h, h', toD, hr]
  rw [if_pos hl]
  rfl
theorem ev_l1 {c : Cl} {env : Env} {a : E} {d : D} (h : ev c a .v env = some (.dat d, env)) : ev c (.lst [a]) .v env = some (.own (.lst [d]), env) := by
  have l1 : 1 ≤ line := by decide
  simp [ev, evds, fin, h, toD, l1]
theorem ev_binV {c : Cl} {env env1 env2 : Env} {op : Op2} {a b : E} {x y r : Opd} {d d' : D} (ha : ev c a .v env = some (x, env1)) (hb : ev c b .v env1 = some (y, env2)) (vx : view env2 x = some d) (vy : view env2 y = some d') (ho : op2 op d d' = some r) : ev c (.bin op a b) .v env = some (r, env2) := by
  simp only [ev, fin, ha, hb, vx, vy, ho]
theorem go_setS {c : Cl} {W : Nat} {ss : List S} {env : Env} {Φ : R → Prop} {i j : Nat} {xs : List D} (h : look env j = .own (.lst xs)) (q : Goes c W ss ((env.set j (.val (.lst xs))).set i (.val (.lst xs))) Φ) : Goes c W (.set i (.var j) :: ss) env Φ :=
  go_step _ (by simp only [ex, ev, fin, h, store]) q
theorem ev_non : ev c .non .v env = some (.dat .non, env) := by simp only [ev, fin]
theorem ev_idxL {l d r : D} (ha : ev c a .v env = some (.own l, env1)) (hb : ev c b .v env1 = some (.dat d, env2)) (ho : idxD l d = some r) : ev c (.idx a b) .v env = some (.dat r, env2) := by
  simp only [ev, fin, ha, hb, view, ho]
theorem ev_callI {f : Str} {es : List E} {xs : List D} (h : ev c (.call f es) .v env = some (.own (.lst xs), env1)) : ev c (.call f es) .i env = some (.dat (.tup xs), env1) := by
  have : ev c (.call f es) .i env = fin .i (ev c (.call f es) .v env) := by simp only [ev, fin]
  rw [this, h]; rfl
theorem and_f1 (ha : ev c a .t env = some (.dat (.bl false), env1)) : ev c (.and [a, b]) .t env = some (.dat (.bl false), env1) := by
  simp [ev, evAnd, ha, fin, view, truth, Md.tv]
theorem and_f2 (ha : ev c a .t env = some (.dat (.bl true), env1)) (hb : ev c b .t env1 = some (.dat (.bl false), env2)) : ev c (.and [a, b]) .t env = some (.dat (.bl false), env2) := by
  simp [ev, evAnd, ha, hb, fin, view, truth, Md.tv]
theorem go_mid {c : Cl} {W : Nat} {a b : List S} {env env1 : Env} {Φ : R → Prop} (h : exs c W a env = some (.nx env1)) (q : Goes c W b env1 Φ) : Goes c W (a ++ b) env Φ := by
  unfold Goes at q ⊢; rw [exs_app, h]; exact q
theorem ev_callS2g {c : Cl} {env env1 : Env} {e : E} {f : Str} {i : Nat} {d0 d d' : D} {o : Opd} {s : Slot} {fs : List Slot} (hi : look env i = .own d0) (h' : ev c e .v env = some (.dat d', env1)) (hi1 : look env1 i = .own d) (hc : c f [.own d, .val d'] = some (o, s :: fs)) : ev c (.call f [.var i, e]) .v env = some (o, (env1.set i .un).set i s) := by
  simp only [ev, evs, hi, h', lend, hi1, hc, fin]
  cases fs <;> rfl
theorem ev_callS3g {c : Cl} {env env1 env2 : Env} {e e2 : E} {f : Str} {i : Nat} {d0 d d' d2 : D} {o : Opd} {s : Slot} {fs : List Slot} (hi : look env i = .own d0) (h' : ev c e .v env = some (.dat d', env1)) (h2 : ev c e2 .v env1 = some (.dat d2, env2)) (hi1 : look env2 i = .own d) (hc : c f [.own d, .val d', .val d2] = some (o, s :: fs)) : ev c (.call f [.var i, e, e2]) .v env = some (o, (env2.set i .un).set i s) := by
  simp only [ev, evs, hi, h', h2, lend, hi1, hc, fin]
  match fs with
  | [] => rfl
  | [_] => rfl
  | _ :: _ :: _ => rfl
end
section
variable {c : Cl} {env env0 env1 env2 : Env} {a b : E}
theorem ev_neg {i : Int} (h : ev c a .v env = some (.dat (.int i), env1)) : ev c (.neg a) .v env = some (.dat (.int (-i)), env1) := by simp only [ev, fin, h]
theorem ev_abs {i : Int} (h : ev c a .v env = some (.dat (.int i), env1)) : ev c (.blt .abs [a]) .v env = some (.dat (.int (if i < 0 then -i else i)), env1) := by simp only [ev, evs, fin, h, views, view, bltD]
theorem ev_tup1 {d : D} (h : ev c a .v env = some (.dat d, env1)) : ev c (.tup [a]) .v env = some (.dat (.tup [d]), env1) := by
  have l1 : 1 ≤ line := by unfold line; omega
  simp [ev, evds, fin, h, toD, l1]
theorem ev_tup2 {d d' : D} (h : ev c a .v env = some (.dat d, env1)) (h' : ev c b .v env1 = some (.dat d', env2)) : ev c (.tup [a, b]) .v env = some (.dat (.tup [d, d']), env2) := by
  have l2 : 2 ≤ line := by unfold line; omega
  simp [ev, evds, fin, h, h', toD, l2]
theorem ev_lst2 {d d' : D} (h : ev c a .v env = some (.dat d, env1)) (h' : ev c b .v env1 = some (.dat d', env2)) : ev c (.lst [a, b]) .v env = some (.own (.lst [d, d']), env2) := by
  have l2 : 2 ≤ line := by unfold line; omega
  simp [ev, evds, fin, h, h', toD, l2]
theorem ev_t0 : ev c (.tup []) .v env = some (.dat (.tup []), env) := by simp [ev, evds, fin]
theorem ev_tupO {xs : List D} (h : ev c a .v env = some (.own (.lst xs), env1)) : ev c (.blt .tuple [a]) .v env = some (.dat (.tup xs), env1) := ev_tuple h
/-! ### comprehensions over two names -/
theorem wipeZ_len : ∀ (own : List Nat) (env : Env), (wipeE env own).length = env.length
  | [], env => rfl
  | i :: is, env => by rw [wipeE, List.length_set, wipeZ_len is env]
theorem backZ_len (old : Env) : ∀ (own : List Nat) (env : Env), (backE old env own).length = env.length
  | [], env => rfl
  | i :: is, env => by rw [backE, List.length_set, backZ_len old is env]
theorem wipeZ_get : ∀ (own : List Nat) (env : Env) (j : Nat), (wipeE env own)[j]? = if j ∈ own then (if j < env.length then some .un else none) else env[j]?
  | [], env, j => by simp [wipeE]
  | i :: is, env, j => by
    rw [wipeE, List.getElem?_set, wipeZ_len, wipeZ_get is env j]
    by_cases h : i = j
    · subst h; simp
    · have h' : ¬ j = i := fun z => h z.symm
      simp [h, h']
theorem backZ_get (old : Env) : ∀ (own : List Nat) (env : Env) (j : Nat), (backE old env own)[j]? = if j ∈ own then (if j < env.length then some (look old j) else none) else env[j]?
  | [], env, j => by simp [backE]
  | i :: is, env, j => by
    rw [backE, List.getElem?_set, backZ_len, backZ_get old is env j]
    by_cases h : i = j
    · subst h; simp
    · have h' : ¬ j = i := fun z => h z.symm
      simp [h, h']
theorem backZ_all {env' : Env} {own : List Nat} (h : wipeE env' own = wipeE env0 own) : backE env0 env' own = env0 := by
  have hl : env'.length = env0.length := by rw [← wipeZ_len own env', h, wipeZ_len]
  apply List.ext_getElem?
  intro j
  rw [backZ_get, hl]
  by_cases hj : j ∈ own
  · rw [if_pos hj]
    by_cases hk : j < env0.length
    · rw [if_pos hk]; unfold look; rw [List.getElem?_eq_getElem hk]; rfl
    · rw [if_neg hk, List.getElem?_eq_none (by omega)]
  · rw [if_neg hj]
    have e := congrArg (fun z : Env => z[j]?) h
    simp only [wipeZ_get, if_neg hj] at e
    exact e
/-- a comprehension that changes nothing but its own names -/
theorem ev_lcG {own : List Nat} {tg : Tg} {src elt : E} {cond : List E} {α : Type} (as : List α) (enc : α → D) (g : α → Option D) (e : ev c src .i env = some (.dat (.tup (as.map enc)), env0)) (hl : as.length ≤ line)
    (h : ∀ x ∈ as, ∃ env', lcT c own tg cond elt (enc x) env0 = some (g x, env') ∧ wipeE env' own = wipeE env0 own) : ev c (.lc own tg src cond elt) .v env = some (.own (.lst (as.filterMap g)), env0) := by
  have key : ∀ (ys : List α) (env1 : Env), (∀ x ∈ ys, x ∈ as) → wipeE env1 own = wipeE env0 own → ∃ env', lcLoop (lcT c own tg cond elt) (ys.map enc) env1 = some (ys.filterMap g, env') ∧ wipeE env' own = wipeE env0 own := by
    intro ys
    induction ys with
    | nil => intro env1 _ hw; exact ⟨env1, rfl, hw⟩
    | cons y ys ih =>
      intro env1 hm hw
      obtain ⟨env2, e1, w2⟩ := h y (hm y List.mem_cons_self)
      rw [← lcT_wipe (x := enc y) hw] at e1
      obtain ⟨env', h1, h2⟩ := ih env2 (fun x hx => hm x (List.mem_cons_of_mem _ hx)) w2
      refine ⟨env', ?_, h2⟩
      cases hg : g y with
      | none => rw [hg] at e1; simp only [List.map_cons, lcLoop, e1, h1, List.filterMap_cons, hg]
      | some d => rw [hg] at e1; simp only [List.map_cons, lcLoop, e1, h1, List.filterMap_cons, hg]
  obtain ⟨env', h1, h2⟩ := key as env0 (fun _ h => h) rfl
  rw [ev_lc0]
  simp only [e, h1, if_pos (Nat.le_trans (List.length_filterMap_le _ _) hl), backZ_all h2]
theorem fm_some {α β : Type} (f : α → β) (as : List α) : as.filterMap (fun x => some (f x)) = as.map f := by
  induction as with
  | nil => rfl
  | cons a as ih => simp [ih]
/-- .. over pairs of numbers, no test -/
theorem ev_lcp {i j : Nat} {own : List Nat} {src elt : E} (P : List (Int × Int)) (f : Int × Int → D) (e : ev c src .i env = some (.dat (.tup (P.map fun p => .tup [.int p.1, .int p.2])), env0)) (hl : P.length < 100000)
    (ho : (own = [i, j] ∨ own = [j, i]) ∧ i ≠ j) (h : ∀ p ∈ P, ev c elt .v ((env0.set i (.val (.int p.1))).set j (.val (.int p.2))) = some (.dat (f p), (env0.set i (.val (.int p.1))).set j (.val (.int p.2)))) :
    ev c (.lc own (.tp [i, j]) src [] elt) .v env = some (.own (.lst (P.map f)), env0) := by
  obtain ⟨ho, hij⟩ := ho
  rw [← fm_some f P]
  refine ev_lcG P (fun p => .tup [.int p.1, .int p.2]) (fun p => some (f p)) e (ln_of hl) fun p hp => ⟨(env0.set i (.val (.int p.1))).set j (.val (.int p.2)), ?_, ?_⟩
  · have hw : ((wipeE env0 own).set i (.val (.int p.1))).set j (.val (.int p.2)) = (env0.set i (.val (.int p.1))).set j (.val (.int p.2)) := by
      apply List.ext_getElem?
      intro n
      simp only [List.getElem?_set, List.length_set, wipeZ_len, wipeZ_get]
      by_cases h1 : j = n
      · simp [h1]
      · by_cases h2 : i = n
        · simp [h1, h2]
        · have : ¬ n ∈ own := by
            rcases ho with rfl | rfl <;> simp [Ne.symm, show ¬ n = i from fun z => h2 z.symm, show ¬ n = j from fun z => h1 z.symm]
          simp [h1, h2, this]
    simp only [lcT, bindT, setAll, hw, evAnd, h p hp, toD]
  · apply List.ext_getElem?
    intro n
    simp only [wipeZ_get, List.getElem?_set, List.length_set]
    by_cases hn : n ∈ own
    · simp [hn]
    · have h1 : ¬ j = n := by rintro rfl; rcases ho with rfl | rfl <;> simp at hn
      have h2 : ¬ i = n := by rintro rfl; rcases ho with rfl | rfl <;> simp at hn
      simp [hn, h1, h2]
end
end PF
namespace K17
open PF
/-! ### plain: parts of sums over numbered variables -/
/-- the parts of the coefficients F, the first one's variable being i -/
def cn : Nat → List Int → List (Int × Int)
  | _, [] => []
  | i, a :: F => if a = 0 then cn (i + 1) F else ((i : Int), a) :: cn (i + 1) F
def dot : List Int → List Int → Int
  | a :: F, s :: S => a * s + dot F S
  | _, _ => 0
def val (S : List Int) (P : List (Int × Int)) : Int := (P.map fun p => p.2 * (S[p.1.toNat]?.getD 0)).sum
def vadd : List Int → List Int → List Int
  | a :: F, b :: G => (a + b) :: vadd F G
  | _, _ => []
theorem val_cn (S : List Int) : ∀ (F : List Int) (i : Nat), i + F.length ≤ S.length → val S (cn i F) = dot F (S.drop i)
  | [], i, _ => by simp [cn, val, dot]
  | a :: F, i, h => by
    have hi : i < S.length := by simp at h; omega
    have e : S.drop i = S[i] :: S.drop (i + 1) := List.drop_eq_getElem_cons hi
    have ih := val_cn S F (i + 1) (by simp at h; omega)
    rw [e]
    unfold cn dot
    split
    · rename_i h0; rw [ih, h0]; simp
    · rw [← ih]; simp [val, hi]
theorem dot_add : ∀ (F G S : List Int), F.length = G.length → dot (vadd F G) S = dot F S + dot G S
  | [], [], S, _ => by simp [vadd, dot]
  | [], _ :: _, S, h => by simp at h
  | _ :: _, [], S, h => by simp at h
  | a :: F, b :: G, [], h => by simp [vadd, dot]
  | a :: F, b :: G, s :: S, h => by
    simp only [vadd, dot]
    rw [dot_add F G S (by simpa using h), Int.add_mul]
    omega
theorem dot_sc (a : Int) : ∀ (F S : List Int), dot (F.map (a * ·)) S = a * dot F S
  | [], S => by simp [dot]
  | b :: F, [] => by simp [dot]
  | b :: F, s :: S => by
    simp only [List.map_cons, dot]
    rw [dot_sc a F S, Int.mul_add, Int.mul_assoc]
theorem dot_set : ∀ (F S : List Int) (v : Nat), v < F.length → v < S.length → dot (F.set v 0) S = dot F S - (F[v]?.getD 0) * (S[v]?.getD 0)
  | [], S, v, h, _ => by simp at h
  | b :: F, [], v, _, h => by simp at h
  | b :: F, s :: S, 0, _, _ => by simp [dot]; omega
  | b :: F, s :: S, v + 1, h, h2 => by
    simp only [List.set_cons_succ, dot]
    rw [dot_set F S v (by simpa using h) (by simpa using h2)]
    simp; omega
theorem dot_div (g : Int) (S : List Int) : ∀ (F S : List Int), (∀ x ∈ F, g ∣ x) → dot (F.map (· / g)) S * g = dot F S
  | [], S, _ => by simp [dot]
  | b :: F, [], _ => by simp [dot]
  | b :: F, s :: S, h => by
    simp only [List.map_cons, dot]
    have e := Int.ediv_mul_cancel (h b List.mem_cons_self)
    rw [Int.add_mul, dot_div g S F S (fun x hx => h x (List.mem_cons_of_mem _ hx)), Int.mul_right_comm, e]
theorem vadd_len : ∀ (F G : List Int), F.length = G.length → (vadd F G).length = F.length
  | [], [], _ => rfl
  | [], _ :: _, h => by simp at h
  | _ :: _, [], h => by simp at h
  | a :: F, b :: G, h => by simp [vadd, vadd_len F G (by simpa using h)]
theorem vadd_comm : ∀ (F G : List Int), vadd F G = vadd G F
  | [], [] => rfl
  | [], _ :: _ => rfl
  | _ :: _, [] => rfl
  | a :: F, b :: G => by simp [vadd, vadd_comm F G, Int.add_comm]
theorem vadd_get : ∀ (F G : List Int) (v : Nat), F.length = G.length → (vadd F G)[v]?.getD 0 = F[v]?.getD 0 + G[v]?.getD 0
  | [], [], v, _ => by simp [vadd]
  | [], _ :: _, v, h => by simp at h
  | _ :: _, [], v, h => by simp at h
  | a :: F, b :: G, 0, h => by simp [vadd]
  | a :: F, b :: G, v + 1, h => by simpa [vadd] using vadd_get F G v (by simpa using h)
theorem cn_mem {p : Int × Int} : ∀ {F : List Int} {i : Nat}, p ∈ cn i F → ∃ j, j < F.length ∧ p = (((i + j : Nat) : Int), F[j]?.getD 0) ∧ p.2 ≠ 0
  | [], i, h => by simp [cn] at h
  | a :: F, i, h => by
    unfold cn at h
    split at h
    · obtain ⟨j, h1, h2, h3⟩ := cn_mem h
      exact ⟨j + 1, by simp; omega, by rw [h2]; simp; omega, h3⟩
    · rename_i h0
      rcases List.mem_cons.mp h with rfl | h
      · exact ⟨0, by simp, by simp, h0⟩
      · obtain ⟨j, h1, h2, h3⟩ := cn_mem h
        exact ⟨j + 1, by simp; omega, by rw [h2]; simp; omega, h3⟩
theorem cn_asc : ∀ (F : List Int) (i : Nat), (cn i F).Pairwise fun p q => p.1 < q.1
  | [], i => .nil
  | a :: F, i => by
    unfold cn
    split
    · exact cn_asc F (i + 1)
    · refine List.pairwise_cons.mpr ⟨fun q hq => ?_, cn_asc F (i + 1)⟩
      obtain ⟨j, _, rfl, _⟩ := cn_mem hq
      show (i : Int) < ((i + 1 + j : Nat) : Int)
      omega
theorem cn_len : ∀ (F : List Int) (i : Nat), (cn i F).length ≤ F.length
  | [], i => by simp [cn]
  | a :: F, i => by
    have := cn_len F (i + 1)
    unfold cn; split <;> simp <;> omega
theorem cn_map {f : Int → Int} (hf : ∀ a, f a = 0 ↔ a = 0) : ∀ (F : List Int) (i : Nat), (cn i F).map (fun p => (p.1, f p.2)) = cn i (F.map f)
  | [], i => rfl
  | a :: F, i => by
    simp only [cn, List.map_cons]
    by_cases h : a = 0
    · rw [if_pos h, if_pos ((hf a).mpr h)]; exact cn_map hf F (i + 1)
    · rw [if_neg h, if_neg (fun z => h ((hf a).mp z)), List.map_cons, cn_map hf F (i + 1)]
theorem cn_mapD {f : Int → Int} : ∀ (F : List Int) (i : Nat), (∀ a ∈ F, (f a = 0 ↔ a = 0)) → (cn i F).map (fun p => (p.1, f p.2)) = cn i (F.map f)
  | [], i, _ => rfl
  | a :: F, i, hf => by
    have ih := cn_mapD F (i + 1) fun b hb => hf b (List.mem_cons_of_mem _ hb)
    simp only [cn, List.map_cons]
    by_cases h : a = 0
    · rw [if_pos h, if_pos ((hf a List.mem_cons_self).mpr h)]; exact ih
    · rw [if_neg h, if_neg (fun z => h ((hf a List.mem_cons_self).mp z)), List.map_cons, ih]
theorem cn_zero : ∀ (F : List Int) (i : Nat), (∀ a ∈ F, a = 0) → cn i F = []
  | [], i, _ => rfl
  | a :: F, i, h => by
    unfold cn; rw [if_pos (h a List.mem_cons_self)]; exact cn_zero F _ fun b hb => h b (List.mem_cons_of_mem _ hb)
/-! ### a dict of numbers -/
def co : List (Int × Int) → Int → Int
  | [], _ => 0
  | p :: K, v => if p.1 = v then p.2 else co K v
def pt (K : List (Int × Int)) (v x : Int) : List (Int × Int) := if v ∈ K.map (·.1) then K.map (fun p => if p.1 = v then (p.1, x) else p) else K ++ [(v, x)]
theorem co_no {v : Int} : ∀ {K : List (Int × Int)}, ¬ v ∈ K.map (·.1) → co K v = 0
  | [], _ => rfl
  | p :: K, h => by
    simp only [List.map_cons, List.mem_cons, not_or] at h
    unfold co
    rw [if_neg (fun z => h.1 z.symm)]
    exact co_no h.2
theorem co_app {v : Int} {p : Int × Int} : ∀ {K : List (Int × Int)}, co (K ++ [p]) v = if v ∈ K.map (·.1) then co K v else if p.1 = v then p.2 else 0
  | [] => by simp [co]
  | q :: K => by
    simp only [List.cons_append, co, List.map_cons, List.mem_cons]
    by_cases h : q.1 = v
    · simp [h]
    · have h' : ¬ v = q.1 := fun z => h z.symm
      simp only [if_neg h, co_app (K := K), h', false_or]
theorem co_rep {v x u : Int} : ∀ {K : List (Int × Int)}, v ∈ K.map (·.1) → co (K.map fun p => if p.1 = v then (p.1, x) else p) u = if u = v then x else co K u
  | [], h => by simp at h
  | q :: K, h => by
    have ih : ∀ K : List (Int × Int), co (K.map fun p => if p.1 = v then (p.1, x) else p) u = if u = v ∧ v ∈ K.map (·.1) then x else co K u := by
      intro K
      induction K with
      | nil => simp [co]
      | cons r K ih =>
        simp only [List.map_cons, co, List.mem_cons]
        by_cases h1 : r.1 = v
        · subst h1
          simp only [if_true, true_or, and_true]
          by_cases h2 : r.1 = u
          · subst h2; simp
          · have h3 : ¬ u = r.1 := fun z => h2 z.symm
            simp only [if_neg h2, ih, h3, false_and, if_false]
        · have h1' : ¬ v = r.1 := fun z => h1 z.symm
          simp only [if_neg h1, h1', false_or]
          by_cases h2 : r.1 = u
          · have h3 : ¬ u = v := fun z => h1 (h2.trans z)
            simp [h2, h3]
          · rw [if_neg h2, ih, if_neg h2]
    rw [ih (q :: K)]
    by_cases hu : u = v
    · rw [if_pos ⟨hu, h⟩, if_pos hu]
    · rw [if_neg (fun z => hu z.1), if_neg hu]
theorem co_pt (K : List (Int × Int)) (v x u : Int) : co (pt K v x) u = if u = v then x else co K u := by
  unfold pt
  split
  · rename_i h; exact co_rep h
  · rename_i h
    rw [co_app]
    by_cases hu : u = v
    · subst hu; rw [if_neg h, if_pos rfl, if_pos rfl]
    · rw [if_neg hu]
      by_cases hm : u ∈ K.map (·.1)
      · rw [if_pos hm]
      · rw [if_neg hm, if_neg (fun z => hu z.symm), co_no hm]
theorem pt_keys (K : List (Int × Int)) (v x : Int) : (pt K v x).map (·.1) = if v ∈ K.map (·.1) then K.map (·.1) else K.map (·.1) ++ [v] := by
  unfold pt
  split
  · rw [List.map_map]
    refine List.map_congr_left fun p _ => ?_
    simp only [Function.comp]
    split <;> rfl
  · simp
theorem pt_nodup {K : List (Int × Int)} (v x : Int) (h : (K.map (·.1)).Nodup) : ((pt K v x).map (·.1)).Nodup := by
  rw [pt_keys]
  split
  · exact h
  · rename_i hv
    rw [List.nodup_append]
    refine ⟨h, by simp, fun a ha b hb => ?_⟩
    rw [List.mem_singleton.mp hb]
    rintro rfl; exact hv ha
theorem pt_mem {K : List (Int × Int)} {v x u : Int} (h : u ∈ (pt K v x).map (·.1)) : u ∈ K.map (·.1) ∨ u = v := by
  rw [pt_keys] at h
  split at h
  · exact .inl h
  · rcases List.mem_append.mp h with h | h
    · exact .inl h
    · exact .inr (by simpa using h)
theorem co_cn (F : List Int) : ∀ (i v : Nat), co (cn i F) ((i + v : Nat) : Int) = F[v]?.getD 0 := by
  induction F with
  | nil => intro i v; simp [cn, co]
  | cons a F ih =>
    intro i v
    have out : ∀ i v : Nat, v < i → co (cn i F) (v : Int) = 0 := fun i v h => co_no fun hm => by
      obtain ⟨p, hp, e⟩ := List.mem_map.mp hm
      obtain ⟨j, _, rfl, _⟩ := cn_mem hp
      simp at e; omega
    unfold cn
    cases v with
    | zero =>
      split
      · rename_i h; rw [show i + 0 = i from rfl, out (i + 1) i (by omega), h]; simp
      · simp [co]
    | succ v =>
      have e : i + (v + 1) = (i + 1) + v := by omega
      split
      · rw [e, ih]; simp
      · unfold co
        rw [if_neg (by simp; omega), e, ih]; simp
theorem cn_nodup (F : List Int) (i : Nat) : ((cn i F).map (·.1)).Nodup := by
  have h : ((cn i F).map (·.1)).Pairwise (· < ·) := List.pairwise_map.mpr (cn_asc F i)
  exact h.imp fun {a b} lt e => by rw [e] at lt; exact Int.lt_irrefl _ lt
/-! ### sorted -/
theorem insI_p (x : Int) : ∀ l : List Int, (insI x l).Perm (x :: l)
  | [] => .refl _
  | y :: ys => by
    unfold insI
    split
    · exact .refl _
    · exact ((insI_p x ys).cons y).trans (.swap x y ys)
theorem sortI_p : ∀ l : List Int, (sortI l).Perm l
  | [] => .refl _
  | x :: xs => (insI_p x _).trans ((sortI_p xs).cons x)
theorem insI_s (x : Int) : ∀ l : List Int, l.Pairwise (· ≤ ·) → (insI x l).Pairwise (· ≤ ·)
  | [], _ => List.pairwise_singleton _ _
  | y :: ys, h => by
    obtain ⟨h1, h2⟩ := List.pairwise_cons.mp h
    unfold insI
    split
    · rename_i le
      refine List.pairwise_cons.mpr ⟨fun z hz => ?_, h⟩
      rcases List.mem_cons.mp hz with rfl | hz
      · exact le
      · exact Int.le_trans le (h1 z hz)
    · rename_i nle
      refine List.pairwise_cons.mpr ⟨fun z hz => ?_, insI_s x ys h2⟩
      rcases List.mem_cons.mp ((insI_p x ys).mem_iff.mp hz) with rfl | hz
      · omega
      · exact h1 z hz
theorem sortI_s : ∀ l : List Int, (sortI l).Pairwise (· ≤ ·)
  | [] => .nil
  | x :: xs => insI_s x _ (sortI_s xs)
theorem sort_eq {xs ys : List Int} (p : ys.Perm xs) (s : ys.Pairwise (· ≤ ·)) : ys = sortI xs :=
  List.Perm.eq_of_pairwise (le := (· ≤ ·)) (fun _ _ _ _ h1 h2 => Int.le_antisymm h1 h2) s (sortI_s xs) (p.trans (sortI_p xs).symm)
theorem ded_mem {z : Int} : ∀ {l : List Int}, z ∈ dedI l ↔ z ∈ l
  | [] => by simp [dedI]
  | y :: ys => by
    unfold dedI
    rw [List.mem_cons, List.mem_filter, ded_mem, List.mem_cons]
    by_cases h : z = y
    · simp [h]
    · simp [h]
theorem ded_nd : ∀ l : List Int, (dedI l).Nodup
  | [] => .nil
  | y :: ys => by
    unfold dedI
    refine List.nodup_cons.mpr ⟨fun h => ?_, (ded_nd ys).filter _⟩
    have := (List.mem_filter.mp h).2
    simp at this
/-- just ascending ones are as their sorted set -/
theorem asc_iff (vs : List Int) : vs = sortI (dedI vs) ↔ vs.Pairwise (· < ·) := by
  constructor
  · intro h
    have h1 := sortI_s (dedI vs)
    have h2 : (sortI (dedI vs)).Nodup := (sortI_p _).nodup_iff.mpr (ded_nd vs)
    rw [h]
    exact h1.imp₂ (fun {a b} le ne => by have : a ≠ b := ne; omega) h2
  · intro h
    have nd : vs.Nodup := h.imp fun {a b} lt e => by rw [e] at lt; exact Int.lt_irrefl _ lt
    exact sort_eq ((List.perm_ext_iff_of_nodup nd (ded_nd vs)).mpr fun z => ded_mem.symm) (h.imp fun {a b} lt => Int.le_of_lt lt)
abbrev rg (n : Nat) : List Int := (List.range n).map Int.ofNat
theorem rg_asc (n : Nat) : (rg n).Pairwise (· < ·) := by
  refine List.pairwise_map.mpr (List.pairwise_lt_range.imp fun {a b} h => ?_)
  show (a : Int) < (b : Int); omega
theorem sort_sub {ks : List Int} {n : Nat} (nd : ks.Nodup) (h : ∀ v : Int, v ∈ ks → 0 ≤ v ∧ v < (n : Int)) : sortI ks = (rg n).filter fun v => decide (v ∈ ks) := by
  refine (sort_eq ((List.perm_ext_iff_of_nodup (((rg_asc n).imp fun {a b} lt e => by rw [e] at lt; exact Int.lt_irrefl _ lt).filter _) nd).mpr fun z => ?_) (((rg_asc n).imp fun {a b} lt => Int.le_of_lt lt).filter _)).symm
  rw [List.mem_filter]
  simp only [decide_eq_true_eq]
  constructor
  · exact fun z => z.2
  · intro hz
    obtain ⟨h1, h2⟩ := h z hz
    refine ⟨List.mem_map.mpr ⟨z.toNat, List.mem_range.mpr (by omega), ?_⟩, hz⟩
    show ((z.toNat : Nat) : Int) = z
    omega
/-- the parts of a dict -/
def pf (K : List (Int × Int)) : List (Int × Int) := (sortI (K.map (·.1))).filterMap fun v => if co K v ≠ 0 then some (v, co K v) else none
theorem cn_fm (f : Nat → Int) : ∀ (m i : Nat), cn i ((List.range' i m).map f) = (List.range' i m).filterMap fun v => if f v ≠ 0 then some ((v : Int), f v) else none
  | 0, i => rfl
  | m + 1, i => by
    rw [List.range'_succ, List.map_cons, List.filterMap_cons]
    unfold cn
    by_cases h : f i = 0
    · rw [if_pos h, if_neg (by simp [h])]; exact cn_fm f m (i + 1)
    · rw [if_neg h, if_pos h, cn_fm f m (i + 1)]
theorem fm_congr {α β : Type} {f g : α → Option β} : ∀ {l : List α}, (∀ x ∈ l, f x = g x) → l.filterMap f = l.filterMap g
  | [], _ => rfl
  | x :: l, h => by
    rw [List.filterMap_cons, List.filterMap_cons, h x List.mem_cons_self, fm_congr fun y hy => h y (List.mem_cons_of_mem _ hy)]
theorem pf_cn {K : List (Int × Int)} {n : Nat} (nd : (K.map (·.1)).Nodup) (h : ∀ v : Int, v ∈ K.map (·.1) → 0 ≤ v ∧ v < (n : Int)) : pf K = cn 0 ((List.range n).map fun v => co K (v : Nat)) := by
  unfold pf
  rw [sort_sub nd h, List.filterMap_filter, List.range_eq_range', cn_fm (fun v => co K (v : Nat)) n 0, ← List.range_eq_range', List.filterMap_map]
  refine fm_congr fun v _ => ?_
  show (if decide ((v : Int) ∈ K.map (·.1)) = true then _ else none) = _
  by_cases hm : (v : Int) ∈ K.map (·.1)
  · rw [if_pos (by simpa using hm)]; rfl
  · rw [if_neg (by simpa using hm), co_no hm]; simp
theorem get_map {F : List Int} {n : Nat} (h : F.length = n) : (List.range n).map (fun v => F[v]?.getD 0) = F := by
  subst h
  apply List.ext_getElem
  · simp
  · intro i h1 h2
    simp at h1
    simp [h1]
/-- found[v] = found.get(v, 0) + a, for all parts -/
def mrg (K P : List (Int × Int)) : List (Int × Int) := P.foldl (fun K p => pt K p.1 (co K p.1 + p.2)) K
theorem mrg_ok : ∀ (P K : List (Int × Int)) (n : Nat), (K.map (·.1)).Nodup → (∀ v : Int, v ∈ K.map (·.1) → 0 ≤ v ∧ v < (n : Int)) → (P.map (·.1)).Nodup → (∀ v : Int, v ∈ P.map (·.1) → 0 ≤ v ∧ v < (n : Int)) →
    ((mrg K P).map (·.1)).Nodup ∧ (∀ v : Int, v ∈ (mrg K P).map (·.1) → 0 ≤ v ∧ v < (n : Int)) ∧ ∀ v, co (mrg K P) v = co K v + co P v
  | [], K, n, h1, h2, _, _ => ⟨h1, h2, fun v => by simp [mrg, co]⟩
  | p :: P, K, n, h1, h2, h3, h4 => by
    simp only [List.map_cons, List.nodup_cons] at h3
    obtain ⟨a, b, c⟩ := mrg_ok P (pt K p.1 (co K p.1 + p.2)) n (pt_nodup _ _ h1) (fun v hv => by
      rcases pt_mem hv with hv | rfl
      · exact h2 v hv
      · exact h4 _ (by simp)) h3.2 (fun v hv => h4 v (by simp only [List.map_cons, List.mem_cons]; exact .inr hv))
    refine ⟨a, b, fun v => ?_⟩
    show co (mrg (pt K p.1 (co K p.1 + p.2)) P) v = _
    rw [c v, co_pt]
    show _ = co K v + (if p.1 = v then p.2 else co P v)
    by_cases hv : v = p.1
    · subst hv
      rw [if_pos rfl, if_pos rfl, co_no h3.1]
      omega
    · rw [if_neg hv, if_neg (fun z => hv z.symm)]
theorem cn_keys {F : List Int} {n : Nat} (h : F.length = n) : ∀ v : Int, v ∈ (cn 0 F).map (·.1) → 0 ≤ v ∧ v < (n : Int) := fun v hv => by
  obtain ⟨p, hp, rfl⟩ := List.mem_map.mp hv
  obtain ⟨j, hj, rfl, _⟩ := cn_mem hp
  simp; omega
theorem co_cn0 (F : List Int) (v : Nat) : co (cn 0 F) (v : Int) = F[v]?.getD 0 := by
  have := co_cn F 0 v
  rwa [Nat.zero_add] at this
theorem together {F G : List Int} {n : Nat} (hF : F.length = n) (hG : G.length = n) : pf (mrg (cn 0 F) (cn 0 G)) = cn 0 (vadd F G) := by
  obtain ⟨a, b, c⟩ := mrg_ok (cn 0 G) (cn 0 F) n (cn_nodup F 0) (cn_keys hF) (cn_nodup G 0) (cn_keys hG)
  rw [pf_cn a b, ← get_map (F := vadd F G) (n := n) (by rw [vadd_len F G (hF.trans hG.symm)]; exact hF)]
  congr 1
  refine List.map_congr_left fun v _ => ?_
  rw [c, co_cn0, co_cn0, vadd_get F G v (hF.trans hG.symm)]
/-- found.pop(v, 0) -/
def dr (K : List (Int × Int)) (v : Int) : List (Int × Int) := K.filter fun p => decide (p.1 ≠ v)
theorem co_dr (v u : Int) : ∀ K : List (Int × Int), co (dr K v) u = if u = v then 0 else co K u
  | [] => by simp [dr, co]
  | p :: K => by
    unfold dr
    by_cases h : p.1 = v
    · rw [List.filter_cons_of_neg (by simp [h])]
      have := co_dr v u K
      unfold dr at this
      rw [this]
      show _ = if u = v then 0 else (if p.1 = u then p.2 else co K u)
      by_cases hu : u = v
      · rw [if_pos hu, if_pos hu]
      · rw [if_neg hu, if_neg hu, if_neg (by rw [h]; exact fun z => hu z.symm)]
    · rw [List.filter_cons_of_pos (by simp [h])]
      have := co_dr v u K
      unfold dr at this
      show (if p.1 = u then p.2 else co (K.filter _) u) = if u = v then 0 else (if p.1 = u then p.2 else co K u)
      rw [this]
      by_cases hp : p.1 = u
      · rw [if_pos hp, if_pos hp, if_neg (by rw [← hp]; exact h)]
      · rw [if_neg hp, if_neg hp]
theorem dr_keys (K : List (Int × Int)) (v : Int) : (dr K v).map (·.1) = (K.map (·.1)).filter fun u => decide (u ≠ v) := by
  unfold dr
  rw [List.filter_map]; rfl
theorem without {F : List Int} {n v : Nat} (hF : F.length = n) : pf (dr (cn 0 F) v) = cn 0 (F.set v 0) := by
  have a : ((dr (cn 0 F) (v : Int)).map (·.1)).Nodup := by rw [dr_keys]; exact (cn_nodup F 0).filter _
  have b : ∀ u : Int, u ∈ (dr (cn 0 F) (v : Int)).map (·.1) → 0 ≤ u ∧ u < (n : Int) := fun u hu => by
    rw [dr_keys] at hu
    exact cn_keys hF u (List.mem_filter.mp hu).1
  have hl : (F.set v 0).length = n := by simp [hF]
  rw [pf_cn a b, ← get_map (F := F.set v 0) (n := n) hl]
  congr 1
  refine List.map_congr_left fun u hu => ?_
  rw [co_dr, co_cn0, List.getElem?_set]
  have hu' := List.mem_range.mp hu
  by_cases h : u = v
  · subst h; simp [hF, hu']
  · rw [if_neg (by omega), if_neg (fun z => h z.symm)]
/-! ### common divisors -/
def cd (l : List Int) : Nat := l.foldl (fun g n => Nat.gcd g n.natAbs) 0
theorem cd_dvd' {m : Nat} : ∀ {l : List Int} {g : Nat}, m ∣ l.foldl (fun g n => Nat.gcd g n.natAbs) g ↔ m ∣ g ∧ ∀ x ∈ l, m ∣ x.natAbs
  | [], g => by simp
  | y :: l, g => by
    show m ∣ l.foldl _ (Nat.gcd g y.natAbs) ↔ _
    rw [cd_dvd', Nat.dvd_gcd_iff]
    simp only [List.mem_cons]
    constructor
    · rintro ⟨⟨h1, h2⟩, h3⟩
      exact ⟨h1, fun x hx => hx.elim (fun e => by rw [e]; exact h2) (h3 x)⟩
    · rintro ⟨h1, h2⟩
      exact ⟨⟨h1, h2 y (.inl rfl)⟩, fun x hx => h2 x (.inr hx)⟩
theorem cd_dvd {m : Nat} {l : List Int} : m ∣ cd l ↔ ∀ x ∈ l, m ∣ x.natAbs := by
  unfold cd; rw [cd_dvd']; simp
theorem cd_of {l : List Int} {x : Int} (h : x ∈ l) : (cd l : Int) ∣ x := by
  have := cd_dvd.mp (Nat.dvd_refl (cd l)) x h
  exact Int.ofNat_dvd_left.mpr this
theorem cd_low {l : List Int} (h : cd l ≠ 0) : cd (l.map (· / (cd l : Int))) = 1 := by
  refine Nat.dvd_one.mp ?_
  have h1 := cd_dvd.mp (Nat.dvd_refl (cd (l.map (· / (cd l : Int)))))
  have h2 : cd l * cd (l.map (· / (cd l : Int))) ∣ cd l := cd_dvd.mpr fun x hx => by
    have h3 := h1 (x / (cd l : Int)) (List.mem_map.mpr ⟨x, hx, rfl⟩)
    have e : x.natAbs = cd l * (x / (cd l : Int)).natAbs := by
      have := Int.ediv_mul_cancel (cd_of hx)
      rw [← this, Int.natAbs_mul, Int.natAbs_natCast, Nat.mul_comm, this]
    rw [e]; exact Nat.mul_dvd_mul_left _ h3
  obtain ⟨c, hc⟩ := h2
  refine ⟨c, ?_⟩
  have : cd l * 1 = cd l * (cd (l.map (· / (cd l : Int))) * c) := by rw [← Nat.mul_assoc, ← hc]; omega
  exact Nat.eq_of_mul_eq_mul_left (by omega) this
theorem cd_zero {l : List Int} (h : cd l = 0) : ∀ x ∈ l, x = 0 := fun x hx => by
  have := cd_of hx; rw [h] at this
  obtain ⟨c, hc⟩ := this
  simpa using hc
theorem cd_le {l : List Int} {B : Nat} (h : ∀ x ∈ l, x.natAbs ≤ B) : cd l ≤ B := by
  by_cases h0 : ∀ x ∈ l, x = 0
  · have : cd l = 0 := Nat.eq_zero_of_zero_dvd (cd_dvd.mpr fun x hx => by rw [h0 x hx]; exact Nat.dvd_refl 0)
    omega
  · obtain ⟨x, hx, hne⟩ : ∃ x, x ∈ l ∧ x ≠ 0 := by
      apply Classical.byContradiction
      intro hn
      exact h0 fun x hx => Classical.byContradiction fun hne => hn ⟨x, hx, hne⟩
    have h1 := cd_dvd.mp (Nat.dvd_refl (cd l)) x hx
    have h2 := Nat.le_of_dvd (by omega) h1
    exact Nat.le_trans h2 (h x hx)
/-! ### bounds -/
def bd (n : Nat) (x : Int) : Prop := x.natAbs < 2 ^ n
theorem bd_mono {n m : Nat} {x : Int} (h : bd n x) (l : n ≤ m) : bd m x := Nat.lt_of_lt_of_le h (Nat.pow_le_pow_right (by decide) l)
theorem bd_add {n : Nat} {x y : Int} (h : bd n x) (h2 : bd n y) : bd (n + 1) (x + y) := by
  unfold bd at *
  have := Int.natAbs_add_le x y
  rw [Nat.pow_succ]; omega
theorem bd_mul {n m : Nat} {x y : Int} (h : bd n x) (h2 : bd m y) : bd (n + m) (x * y) := by
  unfold bd at *
  rw [Int.natAbs_mul, Nat.pow_add]
  exact Nat.mul_lt_mul'' h h2
theorem bd_neg {n : Nat} {x : Int} (h : bd n x) : bd n (-x) := by unfold bd at *; rwa [Int.natAbs_neg]
theorem bd_sub {n : Nat} {x y : Int} (h : bd n x) (h2 : bd n y) : bd (n + 1) (x - y) := by rw [Int.sub_eq_add_neg]; exact bd_add h (bd_neg h2)
theorem bd_zero (n : Nat) : bd n 0 := Nat.two_pow_pos n
theorem bd_dot {n m : Nat} : ∀ {F S : List Int}, (∀ a ∈ F, bd n a) → (∀ s ∈ S, bd m s) → bd (n + m + F.length) (dot F S)
  | [], S, _, _ => by simp only [dot]; exact bd_zero _
  | a :: F, [], _, _ => by simp only [dot]; exact bd_zero _
  | a :: F, s :: S, h1, h2 => by
    have i := bd_dot (F := F) (S := S) (fun a ha => h1 a (List.mem_cons_of_mem _ ha)) (fun a ha => h2 a (List.mem_cons_of_mem _ ha))
    have j := bd_mul (h1 a List.mem_cons_self) (h2 s List.mem_cons_self)
    have := bd_add (bd_mono j (show n + m ≤ n + m + F.length by omega)) i
    exact bd_mono this (by simp; omega)
theorem bd_get {n : Nat} {F : List Int} (h : ∀ a ∈ F, bd n a) (v : Nat) : bd n (F[v]?.getD 0) := by
  cases e : F[v]? with
  | none => exact bd_zero n
  | some a => exact h a (List.mem_of_getElem? e)
theorem bd_vadd {n : Nat} : ∀ {F G : List Int}, (∀ a ∈ F, bd n a) → (∀ a ∈ G, bd n a) → ∀ a ∈ vadd F G, bd (n + 1) a
  | [], [], _, _ => fun a h => nomatch h
  | [], _ :: _, _, _ => fun a h => nomatch h
  | _ :: _, [], _, _ => fun a h => nomatch h
  | x :: F, y :: G, h1, h2 => fun a h => by
    rcases List.mem_cons.mp h with rfl | h
    · exact bd_add (h1 x List.mem_cons_self) (h2 y List.mem_cons_self)
    · exact bd_vadd (fun a ha => h1 a (List.mem_cons_of_mem _ ha)) (fun a ha => h2 a (List.mem_cons_of_mem _ ha)) a h
theorem bd_ten {x : Int} (h1 : -(10 ^ 60) < x) (h2 : x < 10 ^ 60) : bd 200 x := by
  unfold bd
  have : (10 : Nat) ^ 60 < 2 ^ 200 := by decide
  have : x.natAbs < 10 ^ 60 := by omega
  omega
theorem mul_ok {n m : Nat} {x y : Int} (h : bd n x) (h2 : bd m y) (l : n + m < 900000) : op2 .mul (.int x) (.int y) = some (.dat (.int (x * y))) := by
  have lg : ∀ {n : Nat} {x : Int}, bd n x → x.natAbs.log2 ≤ n := fun {n x} h => by
    by_cases h0 : x.natAbs = 0
    · rw [h0]; simp
    · exact Nat.le_of_lt ((Nat.log2_lt h0).mpr h)
  have h3 := lg h
  have h4 := lg h2
  have h5 : decide (x.natAbs.log2 + y.natAbs.log2 < 1000000) = true := by simp; omega
  simp [op2, h5]
theorem fdiv_ok {n : Nat} {x y : Int} (hy : 0 < y) (h : bd n y) (l : n < 8000) : op2 .fdiv (.int x) (.int y) = some (.dat (.int (x / y))) := by
  have : y.natAbs.log2 < 9000 := by
    have h0 : y.natAbs ≠ 0 := by omega
    have := (Nat.log2_lt h0).mpr h
    omega
  simp [op2, hy, this]
end K17
namespace K62
open PF
/-! ### plain: letter codes -/
inductive Ins where
  | rd (ws : List Int) (e : Int) | pt (n e : Int) | tk (ps : List (Int × Int)) (e : Int) | wr (d e : Int) | gv | nn
def ways : Ins → List Int
  | .rd ws e => ws ++ [e] | .pt _ e => [e] | .tk ps e => ps.map (·.2) ++ [e] | .wr _ e => [e] | .gv => [] | .nn => []
def putOf : Ins → Option Int
  | .pt n _ => some n | _ => none
def puts (c : List Ins) : List Int := c.filterMap putOf
def inr (n : Nat) (w : Int) : Bool := decide (0 ≤ w) && decide (w < n)
def told (ps : List (Int × Int)) (ns : List Int) : Bool := decide (ps.map (·.1) = sortI (dedI (ps.map (·.1)))) && ns.all fun n => decide (n ∈ ps.map (·.1))
def ownOk (m : Nat) (ns : List Int) : Ins → Bool
  | .rd ws _ => decide (ws.length = m)
  | .tk ps _ => told ps ns
  | .wr d _ => decide (d = 0 ∨ d = 1)
  | _ => true
def insOk (m n : Nat) (ns : List Int) (i : Ins) : Bool := (ways i).all (inr n) && ownOk m ns i
def sound (m : Nat) (c : List Ins) : Bool := decide (0 < c.length) && c.all (insOk m c.length (puts c))
theorem told_congr {ps : List (Int × Int)} {ns ks : List Int} (h : ∀ n, n ∈ ns ↔ n ∈ ks) : told ps ns = told ps ks := by
  unfold told
  congr 1
  rw [Bool.eq_iff_iff, List.all_eq_true, List.all_eq_true]
  exact ⟨fun g n hn => g n ((h n).mpr hn), fun g n hn => g n ((h n).mp hn)⟩
theorem mem_sset {n : Int} {ns : List Int} : n ∈ sortI (dedI ns) ↔ n ∈ ns := by
  rw [(K17.sortI_p _).mem_iff, K17.ded_mem]
/-- ascending, place by place -/
theorem asc_adj : ∀ (l : List Int), (List.range' 1 (l.length - 1)).all (fun k => decide (l[k - 1]?.getD 0 < l[k]?.getD 0)) = decide (l = sortI (dedI l)) := fun l => by
  rw [Bool.eq_iff_iff, decide_eq_true_iff, K17.asc_iff, List.all_eq_true]
  constructor
  · intro h
    rw [List.pairwise_iff_getElem]
    have key : ∀ d i (hi : i + d + 1 < l.length), l[i]'(by omega) < l[i + d + 1] := by
      intro d
      induction d with
      | zero =>
        intro i hi
        have := h (i + 1) (List.mem_range'_1.mpr ⟨by omega, by omega⟩)
        rw [decide_eq_true_eq] at this
        have h1 : i < l.length := by omega
        have h2 : i + 1 < l.length := by omega
        simpa [h1, h2] using this
      | succ d ih =>
        intro i hi
        have h1 := ih i (by omega)
        have := h (i + d + 2) (List.mem_range'_1.mpr ⟨by omega, by omega⟩)
        rw [decide_eq_true_eq] at this
        have h2 : i + d + 1 < l.length := by omega
        have h3 : i + d + 2 < l.length := by omega
        simp only [show i + d + 2 - 1 = i + d + 1 by omega, List.getElem?_eq_getElem h2, List.getElem?_eq_getElem h3, Option.getD_some] at this
        exact Int.lt_trans h1 this
    intro i j hi hj hij
    have := key (j - i - 1) i (by omega)
    simpa [show i + (j - i - 1) + 1 = j by omega] using this
  · intro h k hk
    have hk := List.mem_range'_1.mp hk
    rw [decide_eq_true_eq]
    have h1 : k - 1 < l.length := by omega
    have h2 : k < l.length := by omega
    have := (List.pairwise_iff_getElem.mp h) (k - 1) k h1 h2 (by omega)
    simpa [h1, h2] using this
/-! ### steps -/
def dval : List Nat → Nat
  | [] => 0 | d :: r => d + 2 * dval r
structure St where
  a : Nat
  ls : List Nat
  pl : List Int
  dg : List Nat
def lkp (ps : List (Int × Int)) (n : Int) : Int := (((ps.filter fun p => decide (p.1 = n)).map (·.2))[0]?).getD 0
def insAt (c : List Ins) (s : St) : Ins := c[s.a]?.getD .gv
def stI (s : St) : Ins → St
  | .rd ws e => match s.ls with | [] => { s with a := e.toNat } | l :: r => { s with a := (ws[l]?.getD 0).toNat, ls := r }
  | .pt n e => { s with a := e.toNat, pl := s.pl ++ [n] }
  | .tk ps e => match s.pl.getLast? with | none => { s with a := e.toNat } | some n => { s with a := (lkp ps n).toNat, pl := s.pl.dropLast }
  | .wr d e => { s with a := e.toNat, dg := d.toNat :: s.dg }
  | _ => s
def stp (c : List Ins) (s : St) : St := stI s (insAt c s)
def endI (s : St) : Ins → Option (Option Nat)
  | .gv => some (some (dval s.dg)) | .nn => some none | _ => none
def isEnd (c : List Ins) (s : St) : Option (Option Nat) := endI s (insAt c s)
structure Inv (m : Nat) (c : List Ins) (s : St) : Prop where
  a : s.a < c.length
  ls : ∀ l ∈ s.ls, l < m
  pl : ∀ n ∈ s.pl, n ∈ puts c
  dg : ∀ d ∈ s.dg, d < 2
theorem lkp_mem {ps : List (Int × Int)} {n : Int} (h : n ∈ ps.map (·.1)) : ∃ w, w ∈ ps.map (·.2) ∧ lkp ps n = w ∧ ((ps.filter fun p => decide (p.1 = n)).map (·.2))[0]? = some w := by
  obtain ⟨p, hp, rfl⟩ := List.mem_map.mp h
  have hm : p ∈ ps.filter fun q => decide (q.1 = p.1) := List.mem_filter.mpr ⟨hp, decide_eq_true rfl⟩
  cases e : ps.filter fun q => decide (q.1 = p.1) with
  | nil => rw [e] at hm; cases hm
  | cons q r =>
    have hq : q ∈ ps := (List.mem_filter.mp (e ▸ List.mem_cons_self : q ∈ ps.filter fun q => decide (q.1 = p.1))).1
    refine ⟨q.2, List.mem_map.mpr ⟨q, hq, rfl⟩, ?_, rfl⟩
    unfold lkp
    rw [e]; rfl
theorem snd_at {m : Nat} {c : List Ins} (h : sound m c = true) {s : St} (ha : s.a < c.length) : (∀ w ∈ ways (insAt c s), 0 ≤ w ∧ w < c.length) ∧ ownOk m (puts c) (insAt c s) = true := by
  unfold sound at h
  rw [Bool.and_eq_true, List.all_eq_true] at h
  have hi := h.2 (insAt c s) (by unfold insAt; rw [List.getElem?_eq_getElem ha]; exact List.getElem_mem ha)
  unfold insOk at hi
  rw [Bool.and_eq_true, List.all_eq_true] at hi
  refine ⟨fun w hw => ?_, hi.2⟩
  have := hi.1 w hw
  unfold inr at this
  rw [Bool.and_eq_true, decide_eq_true_eq, decide_eq_true_eq] at this
  exact this
theorem inv_stp {m : Nat} {c : List Ins} (h : sound m c = true) {s : St} (I : Inv m c s) : Inv m c (stp c s) := by
  obtain ⟨hw, ho⟩ := snd_at h I.a
  have ok : ∀ w : Int, 0 ≤ w ∧ w < c.length → w.toNat < c.length := fun w hw => by omega
  have hput : ∀ n e, insAt c s = .pt n e → n ∈ puts c := fun n e hi => by
    unfold puts
    refine List.mem_filterMap.mpr ⟨insAt c s, ?_, by rw [hi]; rfl⟩
    unfold insAt
    rw [List.getElem?_eq_getElem I.a]; exact List.getElem_mem I.a
  unfold stp
  cases hi : insAt c s with
  | rd ws e =>
    rw [hi] at hw ho
    have hlen : ws.length = m := of_decide_eq_true ho
    simp only [stI]
    cases hl : s.ls with
    | nil => exact ⟨ok _ (hw e (by simp [ways])), (fun l hx => nomatch hx), I.pl, I.dg⟩
    | cons l r =>
      have hlm : l < ws.length := by rw [hlen]; exact I.ls l (by rw [hl]; exact List.mem_cons_self)
      refine ⟨ok _ (hw _ ?_), fun x hx => I.ls x (by rw [hl]; exact List.mem_cons_of_mem _ hx), I.pl, I.dg⟩
      rw [List.getElem?_eq_getElem hlm]
      simp [ways]
  | pt n e =>
    rw [hi] at hw
    refine ⟨ok _ (hw e (by simp [ways])), I.ls, fun x hx => ?_, I.dg⟩
    rcases List.mem_append.mp hx with h | h
    · exact I.pl x h
    · rw [List.mem_singleton.mp h]; exact hput n e hi
  | tk ps e =>
    rw [hi] at hw ho
    simp only [stI]
    cases hl : s.pl.getLast? with
    | none => exact ⟨ok _ (hw e (by simp [ways])), I.ls, I.pl, I.dg⟩
    | some n =>
      have hn := I.pl n (List.mem_of_getLast? hl)
      have hn2 : n ∈ ps.map (·.1) := by
        have ho' : told ps (puts c) = true := ho
        unfold told at ho'
        rw [Bool.and_eq_true, List.all_eq_true] at ho'
        exact of_decide_eq_true (ho'.2 n hn)
      obtain ⟨w, h1, h2, _⟩ := lkp_mem hn2
      refine ⟨ok _ (by rw [h2]; exact hw w (List.mem_append_left _ h1)), I.ls, fun x hx => I.pl x (List.dropLast_subset _ hx), I.dg⟩
  | wr d e =>
    rw [hi] at hw ho
    have hd : d = 0 ∨ d = 1 := of_decide_eq_true ho
    refine ⟨ok _ (hw e (by simp [ways])), I.ls, I.pl, fun x hx => ?_⟩
    rcases List.mem_cons.mp hx with rfl | hx
    · omega
    · exact I.dg x hx
  | gv => exact I
  | nn => exact I
def q (c : List Ins) (s : St) : Nat → St
  | 0 => s
  | k + 1 => stp c (q c s k)
theorem inv_q {m : Nat} {c : List Ins} (h : sound m c = true) {s : St} (I : Inv m c s) : ∀ k, Inv m c (q c s k)
  | 0 => I
  | k + 1 => inv_stp h (inv_q h I k)
/-- it ends first at the turn K -/
structure Ends (c : List Ins) (s : St) (K : Nat) (v : Option Nat) : Prop where
  e : isEnd c (q c s K) = some v
  b : ∀ j, j < K → isEnd c (q c s j) = none
end K62
namespace K62
open PySem PF
def d_digits_of : Fd := { name := Str.ofString "digits_of", ps := 1, n := 2, keep := [], body := [.set 1 (.lst []), .whl (.cmp .gt (.var 0) (.int 0)) [.expr (.mut .append 1 [(.bin .mod (.var 0) (.int 2))]), .set 0 (.bin .fdiv (.var 0) (.int 2))], .ret (.blt .tuple [(.var 1)])] }
def d_number_of : Fd := { name := Str.ofString "number_of", ps := 1, n := 3, keep := [0], body := [.set 1 (.int 0), .for (.nm 2) (.rev (.var 0)) [.set 1 (.bin .add (.bin .mul (.int 2) (.var 1)) (.var 2))], .ret (.var 1)] }
def d_digit_there : Fd := { name := Str.ofString "digit_there", ps := 2, n := 2, keep := [0, 1], body := [.ret (.ite (.cmp .lt (.var 1) (.blt .len [(.var 0)])) (.idx (.var 0) (.var 1)) (.int 0))] }
def d_letter_of : Fd := { name := Str.ofString "letter_of", ps := 1, n := 2, keep := [0], body := [.ret (.blt .sum [(.lc [1] (.nm 1) (.rng [(.blt .len [(.var 0)])]) [] (.bin .shl (.idx (.var 0) (.var 1)) (.var 1)))])] }
def d_word_of : Fd := { name := Str.ofString "word_of", ps := 1, n := 6, keep := [0], body := [.set 1 (.lc [2] (.nm 2) (.var 0) [] (.call (Str.ofString "digits_of") [(.var 2)])), .set 3 (.blt .max [(.bin .add (.lst [(.int 0)]) (.lc [4] (.nm 4) (.var 1) [] (.blt .len [(.var 4)])))]), .ret (.blt .tuple [(.lc [5] (.nm 5) (.rng [(.var 3)]) [] (.call (Str.ofString "letter_of") [(.blt .tuple [(.lc [4] (.nm 4) (.var 1) [] (.call (Str.ofString "digit_there") [(.var 4), (.var 5)]))])]))])] }
def d_code_begun : Fd := { name := Str.ofString "code_begun", ps := 1, n := 1, keep := [0], body := [.ret (.tup [(.int 0), (.blt .tuple [(.var 0)]), (.tup []), (.tup [])])] }
def d_way_for : Fd := { name := Str.ofString "way_for", ps := 2, n := 4, keep := [0, 1], body := [.ret (.idx (.lc [2, 3] (.tp [2, 3]) (.var 0) [(.cmp .eq (.var 2) (.var 1))] (.var 3)) (.int 0))] }
def d_code_step : Fd := { name := Str.ofString "code_step", ps := 2, n := 7, keep := [0, 1], body := [.ite (.cmp .eq (.idx (.var 1) (.int 0)) (.str (Str.ofString "ended"))) [.ret (.var 1)] [], .unp [2, 3, 4, 5] (.var 1), .set 6 (.idx (.idx (.var 0) (.var 2)) (.int 0)), .ite (.cmp .eq (.var 6) (.str (Str.ofString "read"))) [.ite (.cmp .eq (.blt .len [(.var 3)]) (.int 0)) [.ret (.tup [(.idx (.idx (.var 0) (.var 2)) (.int 2)), (.var 3), (.var 4), (.var 5)])] [], .ret (.tup [(.idx (.idx (.idx (.var 0) (.var 2)) (.int 1)) (.idx (.var 3) (.int 0))), (.slc (.var 3) (.int 1) .non), (.var 4), (.var 5)])] [], .ite (.cmp .eq (.var 6) (.str (Str.ofString "put"))) [.ret (.tup [(.idx (.idx (.var 0) (.var 2)) (.int 2)), (.var 3), (.bin .add (.var 4) (.tup [(.idx (.idx (.var 0) (.var 2)) (.int 1))])), (.var 5)])] [], .ite (.cmp .eq (.var 6) (.str (Str.ofString "take"))) [.ite (.cmp .eq (.blt .len [(.var 4)]) (.int 0)) [.ret (.tup [(.idx (.idx (.var 0) (.var 2)) (.int 2)), (.var 3), (.var 4), (.var 5)])] [], .ret (.tup [(.call (Str.ofString "way_for") [(.idx (.idx (.var 0) (.var 2)) (.int 1)), (.idx (.var 4) (.neg (.int 1)))]), (.var 3), (.slc (.var 4) .non (.neg (.int 1))), (.var 5)])] [], .ite (.cmp .eq (.var 6) (.str (Str.ofString "write"))) [.ret (.tup [(.idx (.idx (.var 0) (.var 2)) (.int 2)), (.var 3), (.var 4), (.bin .add (.tup [(.idx (.idx (.var 0) (.var 2)) (.int 1))]) (.var 5))])] [], .ret (.tup [(.str (Str.ofString "ended")), (.ite (.cmp .eq (.var 6) (.str (Str.ofString "give"))) (.call (Str.ofString "number_of") [(.var 5)]) .non)])] }
def d_run_letter_code : Fd := { name := Str.ofString "run_letter_code", ps := 3, n := 5, keep := [0, 1, 2], body := [.set 3 (.call (Str.ofString "code_begun") [(.var 1)]), .for (.nm 4) (.rng [(.var 2)]) [.set 3 (.call (Str.ofString "code_step") [(.var 0), (.var 3)]), .ite (.cmp .eq (.idx (.var 3) (.int 0)) (.str (Str.ofString "ended"))) [.ret (.tup [(.str (Str.ofString "ended")), (.bin .add (.var 4) (.int 1)), (.idx (.var 3) (.int 1))])] []], .ret (.tup [(.str (Str.ofString "open")), (.var 2)])] }
def d_code_number : Fd := { name := Str.ofString "code_number", ps := 3, n := 4, keep := [0, 1, 2], body := [.set 3 (.call (Str.ofString "code_begun") [(.call (Str.ofString "word_of") [(.var 2)])]), .whl (.cmp .ne (.idx (.var 3) (.int 0)) (.str (Str.ofString "ended"))) [.set 3 (.call (Str.ofString "code_step") [(.var 0), (.var 3)])], .ret (.idx (.var 3) (.int 1))] }
def d_ways_in_place : Fd := { name := Str.ofString "ways_in_place", ps := 1, n := 4, keep := [0], body := [.set 1 (.idx (.var 0) (.int 0)), .ite (.cmp .eq (.var 1) (.str (Str.ofString "read"))) [.ret (.bin .add (.idx (.var 0) (.int 1)) (.tup [(.idx (.var 0) (.int 2))]))] [], .ite (.cmp .eq (.var 1) (.str (Str.ofString "take"))) [.ret (.bin .add (.blt .tuple [(.lc [2, 3] (.tp [2, 3]) (.idx (.var 0) (.int 1)) [] (.var 3))]) (.tup [(.idx (.var 0) (.int 2))]))] [], .ret (.ite (.cmp .isin (.var 1) (.tup [(.str (Str.ofString "put")), (.str (Str.ofString "write"))])) (.tup [(.idx (.var 0) (.int 2))]) (.tup []))] }
def d_ways_of_instruction : Fd := { name := Str.ofString "ways_of_instruction", ps := 1, n := 1, keep := [0], body := [.ret (.blt .tuple [(.sset (.call (Str.ofString "ways_in_place") [(.var 0)]))])] }
def d_numbers_put : Fd := { name := Str.ofString "numbers_put", ps := 1, n := 2, keep := [0], body := [.ret (.blt .tuple [(.sset (.lc [1] (.nm 1) (.var 0) [(.cmp .eq (.idx (.var 1) (.int 0)) (.str (Str.ofString "put")))] (.idx (.var 1) (.int 1))))])] }
def d_does_tell : Fd := { name := Str.ofString "does_tell", ps := 2, n := 6, keep := [0, 1], body := [.set 2 (.lc [3, 4] (.tp [3, 4]) (.var 0) [] (.var 3)), .ite (.not (.blt .all [(.lc [5] (.nm 5) (.rng [(.int 1), (.blt .len [(.var 2)])]) [] (.cmp .lt (.idx (.var 2) (.bin .sub (.var 5) (.int 1))) (.idx (.var 2) (.var 5))))])) [.ret (.bl false)] [], .ret (.blt .all [(.lc [3] (.nm 3) (.var 1) [] (.cmp .isin (.var 3) (.var 2)))])] }
def d_is_instruction_sound : Fd := { name := Str.ofString "is_instruction_sound", ps := 3, n := 4, keep := [0, 1, 2], body := [.set 3 (.idx (.var 0) (.int 0)), .ite (.cmp .eq (.var 3) (.str (Str.ofString "read"))) [.ret (.cmp .eq (.blt .len [(.idx (.var 0) (.int 1))]) (.var 1))] [], .ite (.cmp .eq (.var 3) (.str (Str.ofString "take"))) [.ret (.call (Str.ofString "does_tell") [(.idx (.var 0) (.int 1)), (.var 2)])] [], .ret (.or [(.cmp .ne (.var 3) (.str (Str.ofString "write"))), (.cmp .isin (.idx (.var 0) (.int 1)) (.tup [(.int 0), (.int 1)]))])] }
def d_are_ways_there : Fd := { name := Str.ofString "are_ways_there", ps := 1, n := 3, keep := [0], body := [.ret (.blt .all [(.lc2 [1, 2] (.nm 1) (.var 0) [] [2] (.nm 2) (.call (Str.ofString "ways_in_place") [(.var 1)]) [] (.chain .le .lt (.int 0) (.var 2) (.blt .len [(.var 0)])))])] }
def d_check_letter_code : Fd := { name := Str.ofString "check_letter_code", ps := 2, n := 4, keep := [0, 1], body := [.ite (.or [(.cmp .eq (.blt .len [(.var 0)]) (.int 0)), (.not (.call (Str.ofString "are_ways_there") [(.var 0)]))]) [.raise (Str.ofString "InvalidCode")] [], .set 2 (.call (Str.ofString "numbers_put") [(.var 0)]), .ite (.not (.blt .all [(.lc [3] (.nm 3) (.var 0) [] (.call (Str.ofString "is_instruction_sound") [(.var 3), (.var 1), (.var 2)]))])) [.raise (Str.ofString "InvalidCode")] []] }
def d__law_draws : Fd := { name := Str.ofString "_law_draws", ps := 2, n := 9, keep := [0, 1], body := [.set 2 (.lc [3] (.nm 3) (.var 0) [] (.blt .int [(.var 3)])), .ite (.cmp .eq (.blt .len [(.var 2)]) (.int 0)) [.expr (.mut .append 2 [(.int 0)])] [], .set 4 (.blt .list [(.var 2)]), .set 5 (.lst []), .for (.nm 6) (.rng [(.var 1)]) [.set 7 (.bin .mod (.var 6) (.blt .len [(.var 2)])), .ite (.and [(.cmp .ge (.idx (.var 2) (.var 7)) (.bin .pow (.int 10) (.int 18))), (.cmp .gt (.idx (.var 4) (.var 7)) (.int 0))]) [.expr (.mut .append 5 [(.bin .mod (.blt .int [(.idx (.var 4) (.var 7))]) (.int 1000))]), .sub 4 (.var 7) (.bin .fdiv (.idx (.var 4) (.var 7)) (.int 1000))] [.set 8 (.bin .mod (.blt .int [(.bin .add (.bin .add (.bin .mul (.idx (.var 2) (.var 7)) (.int 48271)) (.bin .mul (.var 6) (.int 69621))) (.int 11))]) (.int 2147483647)), .expr (.mut .append 5 [(.bin .mod (.blt .int [(.bin .add (.bin .add (.bin .mul (.var 8) (.var 8)) (.bin .mul (.int 3) (.var 8))) (.var 6))]) (.int 1000003))])]], .expr (.mut .reverse 5 []), .ret (.var 5)] }
def d__law_take : Fd := { name := Str.ofString "_law_take", ps := 2, n := 2, keep := [0, 1], body := [.ite (.cmp .eq (.blt .len [(.var 0)]) (.int 0)) [.ret (.int 0)] [], .ret (.bin .mod (.blt .int [(.mut .pop 0 [])]) (.var 1))] }
def d__law_same : Fd := { name := Str.ofString "_law_same", ps := 2, n := 3, keep := [0, 1], body := [.ite (.isi (.var 1) .bool) [.ret (.and [(.isi (.var 0) .bool), (.cmp .eq (.var 0) (.var 1))])] [], .ite (.isi (.var 1) .int) [.ret (.and [(.isi (.var 0) .int), (.not (.isi (.var 0) .bool)), (.cmp .eq (.var 0) (.var 1))])] [], .ite (.isi (.var 1) .str) [.ret (.and [(.isi (.var 0) .str), (.cmp .eq (.var 0) (.var 1))])] [], .ite (.cmp .is (.var 1) .non) [.ret (.cmp .is (.var 0) .non)] [], .ite (.or [(.not (.isi (.var 0) .tuple)), (.cmp .ne (.blt .len [(.var 0)]) (.blt .len [(.var 1)]))]) [.ret (.bl false)] [], .for (.nm 2) (.rng [(.blt .len [(.var 1)])]) [.ite (.not (.call (Str.ofString "_law_same") [(.idx (.var 0) (.var 2)), (.idx (.var 1) (.var 2))])) [.ret (.bl false)] []], .ret (.bl true)] }
def d__law_long : Fd := { name := Str.ofString "_law_long", ps := 1, n := 2, keep := [0], body := [.for (.nm 1) (.rng [(.int 900)]) [.ite (.cmp .eq (.bin .shr (.var 0) (.var 1)) (.int 0)) [.ret (.var 1)] []], .ret (.int 900)] }
def d__law_letter : Fd := { name := Str.ofString "_law_letter", ps := 2, n := 3, keep := [0, 1], body := [.ret (.blt .sum [(.bin .add (.lst [(.int 0)]) (.lc [2] (.nm 2) (.rng [(.blt .len [(.var 0)])]) [] (.bin .shl (.bin .mod (.blt .int [(.bin .shr (.idx (.var 0) (.var 2)) (.var 1))]) (.int 2)) (.var 2))))])] }
def d__law_word : Fd := { name := Str.ofString "_law_word", ps := 1, n := 4, keep := [0], body := [.set 1 (.blt .max [(.bin .add (.lst [(.int 0)]) (.lc [2] (.nm 2) (.var 0) [] (.call (Str.ofString "_law_long") [(.var 2)])))]), .ret (.blt .tuple [(.lc [3] (.nm 3) (.rng [(.var 1)]) [] (.call (Str.ofString "_law_letter") [(.var 0), (.var 3)]))])] }
def d__law_drawn_code : Fd := { name := Str.ofString "_law_drawn_code", ps := 3, n := 11, keep := [0, 1, 2], body := [.set 3 (.lc [4] (.nm 4) (.rng [(.var 2)]) [] (.call (Str.ofString "_law_take") [(.var 0), (.int 4)])), .set 5 (.sset (.var 3)), .set 6 (.lst []), .for (.nm 4) (.rng [(.bin .sub (.var 2) (.int 1))]) [.set 7 (.call (Str.ofString "_law_take") [(.var 0), (.int 5)]), .set 8 (.ite (.cmp .gt (.call (Str.ofString "_law_take") [(.var 0), (.int 4)]) (.int 0)) (.bin .mod (.bin .add (.bin .add (.var 4) (.int 1)) (.call (Str.ofString "_law_take") [(.var 0), (.int 3)])) (.var 2)) (.call (Str.ofString "_law_take") [(.var 0), (.var 2)])), .ite (.cmp .eq (.var 7) (.int 0)) [.expr (.mut .append 6 [(.tup [(.str (Str.ofString "read")), (.blt .tuple [(.lc [9] (.nm 9) (.rng [(.var 1)]) [] (.call (Str.ofString "_law_take") [(.var 0), (.var 2)]))]), (.var 8)])])] [.ite (.cmp .eq (.var 7) (.int 1)) [.expr (.mut .append 6 [(.tup [(.str (Str.ofString "put")), (.idx (.var 3) (.var 4)), (.var 8)])])] [.ite (.cmp .eq (.var 7) (.int 2)) [.expr (.mut .append 6 [(.tup [(.str (Str.ofString "take")), (.blt .tuple [(.lc [10] (.nm 10) (.var 5) [] (.tup [(.var 10), (.call (Str.ofString "_law_take") [(.var 0), (.var 2)])]))]), (.var 8)])])] [.ite (.cmp .eq (.var 7) (.int 3)) [.expr (.mut .append 6 [(.tup [(.str (Str.ofString "write")), (.call (Str.ofString "_law_take") [(.var 0), (.int 2)]), (.var 8)])])] [.expr (.mut .append 6 [(.idx (.lst [(.tup [(.str (Str.ofString "give"))]), (.tup [(.str (Str.ofString "none"))]), (.tup [(.str (Str.ofString "put")), (.idx (.var 3) (.var 4)), (.var 8)])]) (.call (Str.ofString "_law_take") [(.var 0), (.int 3)]))])]]]]], .ret (.bin .add (.blt .tuple [(.var 6)]) (.tup [(.tup [(.str (Str.ofString "give"))])]))] }
def d__law_ways_in : Fd := { name := Str.ofString "_law_ways_in", ps := 1, n := 2, keep := [0], body := [.ite (.cmp .eq (.idx (.var 0) (.int 0)) (.str (Str.ofString "read"))) [.ret (.bin .add (.blt .list [(.idx (.var 0) (.int 1))]) (.lst [(.idx (.var 0) (.int 2))]))] [], .ite (.cmp .eq (.idx (.var 0) (.int 0)) (.str (Str.ofString "take"))) [.ret (.bin .add (.lc [1] (.nm 1) (.idx (.var 0) (.int 1)) [] (.idx (.var 1) (.int 1))) (.lst [(.idx (.var 0) (.int 2))]))] [], .ret (.ite (.cmp .isin (.idx (.var 0) (.int 0)) (.tup [(.str (Str.ofString "put")), (.str (Str.ofString "write"))])) (.lst [(.idx (.var 0) (.int 2))]) (.lst []))] }
def d__law_code_states : Fd := { name := Str.ofString "_law_code_states", ps := 3, n := 12, keep := [0, 1, 2], body := [.unp [3, 4, 5, 6] (.tup [(.int 0), (.blt .tuple [(.var 1)]), (.tup []), (.tup [])]), .set 7 (.lst [(.tup [(.var 3), (.var 4), (.var 5), (.var 6)])]), .for (.nm 8) (.rng [(.var 2)]) [.set 9 (.idx (.var 0) (.var 3)), .ite (.cmp .eq (.idx (.var 9) (.int 0)) (.str (Str.ofString "give"))) [.ret (.tup [(.var 7), (.tup [(.bin .add (.var 8) (.int 1)), (.blt .sum [(.bin .add (.lst [(.int 0)]) (.lc [11] (.nm 11) (.rng [(.blt .len [(.var 6)])]) [] (.bin .shl (.idx (.var 6) (.var 11)) (.var 11))))])])])] [], .ite (.cmp .eq (.idx (.var 9) (.int 0)) (.str (Str.ofString "none"))) [.ret (.tup [(.var 7), (.tup [(.bin .add (.var 8) (.int 1)), .non])])] [], .ite (.and [(.cmp .eq (.idx (.var 9) (.int 0)) (.str (Str.ofString "read"))), (.cmp .gt (.blt .len [(.var 4)]) (.int 0))]) [.par 3 4 (.idx (.idx (.var 9) (.int 1)) (.idx (.var 4) (.int 0))) (.slc (.var 4) (.int 1) .non)] [.ite (.and [(.cmp .eq (.idx (.var 9) (.int 0)) (.str (Str.ofString "take"))), (.cmp .gt (.blt .len [(.var 5)]) (.int 0))]) [.unp [3, 5] (.tup [(.idx (.lc [10] (.nm 10) (.idx (.var 9) (.int 1)) [(.cmp .eq (.idx (.var 10) (.int 0)) (.idx (.var 5) (.neg (.int 1))))] (.idx (.var 10) (.int 1))) (.int 0)), (.slc (.var 5) .non (.neg (.int 1)))])] [.set 5 (.ite (.cmp .eq (.idx (.var 9) (.int 0)) (.str (Str.ofString "put"))) (.bin .add (.var 5) (.tup [(.idx (.var 9) (.int 1))])) (.var 5)), .set 6 (.ite (.cmp .eq (.idx (.var 9) (.int 0)) (.str (Str.ofString "write"))) (.bin .add (.tup [(.idx (.var 9) (.int 1))]) (.var 6)) (.var 6)), .set 3 (.idx (.var 9) (.int 2))]], .expr (.mut .append 7 [(.tup [(.var 3), (.var 4), (.var 5), (.var 6)])])], .ret (.tup [(.var 7), .non])] }
def d__law_is_refused : Fd := { name := Str.ofString "_law_is_refused", ps := 2, n := 3, keep := [0, 1], body := [.tryc (Str.ofString "check_letter_code") [(.var 0), (.var 1)] (Str.ofString "NumberError") [(Str.ofString "InvalidCode")] [(Str.ofString "InvalidCode")] (some 2) (.tests false [(true, [(Str.ofString "InvalidCode")], [(Str.ofString "InvalidCode")]), (true, [(Str.ofString "ValueError")], [(Str.ofString "InvalidCode")]), (false, [(Str.ofString "InvalidCell"), (Str.ofString "InvalidGates")], [])]), .ret (.bl false)] }
def d__law_is_sound : Fd := { name := Str.ofString "_law_is_sound", ps := 2, n := 8, keep := [0, 1], body := [.set 2 (.lc [3] (.nm 3) (.var 0) [(.cmp .eq (.idx (.var 3) (.int 0)) (.str (Str.ofString "put")))] (.idx (.var 3) (.int 1))), .for (.nm 3) (.var 0) [.ite (.or [(.cmp .gt (.blt .len [(.lc [6] (.nm 6) (.call (Str.ofString "_law_ways_in") [(.var 3)]) [(.or [(.cmp .lt (.var 6) (.int 0)), (.cmp .ge (.var 6) (.blt .len [(.var 0)]))])] (.var 6))]) (.int 0)), (.and [(.cmp .eq (.idx (.var 3) (.int 0)) (.str (Str.ofString "read"))), (.cmp .ne (.blt .len [(.idx (.var 3) (.int 1))]) (.var 1))])]) [.ret (.bl false)] [], .set 4 (.ite (.cmp .eq (.idx (.var 3) (.int 0)) (.str (Str.ofString "take"))) (.lc [5] (.nm 5) (.idx (.var 3) (.int 1)) [] (.idx (.var 5) (.int 0))) (.lst [])), .ite (.or [(.cmp .ne (.var 4) (.sset (.var 4))), (.and [(.cmp .eq (.idx (.var 3) (.int 0)) (.str (Str.ofString "take"))), (.cmp .gt (.blt .len [(.lc [7] (.nm 7) (.var 2) [(.cmp .notin (.var 7) (.var 4))] (.var 7))]) (.int 0))]), (.and [(.cmp .eq (.idx (.var 3) (.int 0)) (.str (Str.ofString "write"))), (.cmp .notin (.idx (.var 3) (.int 1)) (.tup [(.int 0), (.int 1)]))])]) [.ret (.bl false)] []], .ret (.cmp .gt (.blt .len [(.var 0)]) (.int 0))] }
def d__law_altered : Fd := { name := Str.ofString "_law_altered", ps := 2, n := 6, keep := [0, 1], body := [.par 2 3 (.call (Str.ofString "_law_take") [(.var 0), (.blt .len [(.var 1)])]) (.blt .len [(.var 1)]), .set 4 (.idx (.var 1) (.var 2)), .set 5 (.idx (.lst [(.tup [(.str (Str.ofString "put")), (.int 9), (.int 0)]), (.tup [(.str (Str.ofString "write")), (.int 2), (.int 0)]), (.tup [(.str (Str.ofString "put")), (.int 0), (.var 3)]), (.tup [(.str (Str.ofString "write")), (.int 1), (.neg (.int 1))]), (.tup [(.str (Str.ofString "read")), (.tup [(.int 0)]), (.int 0)]), (.tup [(.str (Str.ofString "take")), (.tup []), (.int 0)]), (.tup [(.str (Str.ofString "take")), (.tup [(.tup [(.int 1), (.int 0)]), (.tup [(.int 0), (.int 0)])]), (.int 0)])]) (.call (Str.ofString "_law_take") [(.var 0), (.int 7)])), .ite (.and [(.cmp .eq (.idx (.var 4) (.int 0)) (.str (Str.ofString "take"))), (.cmp .eq (.call (Str.ofString "_law_take") [(.var 0), (.int 2)]) (.int 0))]) [.set 5 (.tup [(.str (Str.ofString "take")), (.slc (.idx (.var 4) (.int 1)) (.int 1) .non), (.idx (.var 4) (.int 2))])] [], .ret (.bin .add (.bin .add (.slc (.var 1) .non (.var 2)) (.tup [(.var 5)])) (.slc (.var 1) (.bin .add (.var 2) (.int 1)) .non))] }
def d__law_is_run : Fd := { name := Str.ofString "_law_is_run", ps := 2, n := 6, keep := [0, 1], body := [.unp [2, 3] (.call (Str.ofString "_law_code_states") [(.var 0), (.var 1), (.int 40)]), .set 4 (.call (Str.ofString "code_begun") [(.var 1)]), .for (.nm 5) (.var 2) [.ite (.not (.call (Str.ofString "_law_same") [(.var 4), (.var 5)])) [.ret (.bl false)] [], .set 4 (.call (Str.ofString "code_step") [(.var 0), (.var 4)])], .ite (.cmp .is (.var 3) .non) [.ret (.and [(.call (Str.ofString "_law_same") [(.call (Str.ofString "run_letter_code") [(.var 0), (.var 1), (.int 40)]), (.tup [(.str (Str.ofString "open")), (.int 40)])]), (.call (Str.ofString "_law_same") [(.call (Str.ofString "run_letter_code") [(.var 0), (.var 1), (.int 3)]), (.tup [(.str (Str.ofString "open")), (.int 3)])])])] [], .ite (.or [(.not (.call (Str.ofString "_law_same") [(.var 4), (.tup [(.str (Str.ofString "ended")), (.idx (.var 3) (.int 1))])])), (.not (.call (Str.ofString "_law_same") [(.call (Str.ofString "code_step") [(.var 0), (.var 4)]), (.tup [(.str (Str.ofString "ended")), (.idx (.var 3) (.int 1))])]))]) [.ret (.bl false)] [], .ite (.and [(.cmp .gt (.idx (.var 3) (.int 0)) (.int 1)), (.not (.call (Str.ofString "_law_same") [(.call (Str.ofString "run_letter_code") [(.var 0), (.var 1), (.bin .sub (.idx (.var 3) (.int 0)) (.int 1))]), (.tup [(.str (Str.ofString "open")), (.bin .sub (.idx (.var 3) (.int 0)) (.int 1))])]))]) [.ret (.bl false)] [], .ret (.call (Str.ofString "_law_same") [(.call (Str.ofString "run_letter_code") [(.var 0), (.var 1), (.idx (.var 3) (.int 0))]), (.tup [(.str (Str.ofString "ended")), (.idx (.var 3) (.int 0)), (.idx (.var 3) (.int 1))])])] }
def d_law : Fd := { name := Str.ofString "law", ps := 1, n := 13, keep := [0], body := [.set 1 (.call (Str.ofString "_law_draws") [(.var 0), (.int 160)]), .set 2 (.bin .add (.int 1) (.call (Str.ofString "_law_take") [(.var 1), (.int 2)])), .set 3 (.bin .shl (.int 1) (.var 2)), .set 4 (.call (Str.ofString "_law_drawn_code") [(.var 1), (.var 3), (.bin .add (.int 2) (.call (Str.ofString "_law_take") [(.var 1), (.int 7)]))]), .ite (.or [(.cmp .isnot (.call (Str.ofString "check_letter_code") [(.var 4), (.var 3)]) .non), (.not (.call (Str.ofString "_law_is_sound") [(.var 4), (.var 3)]))]) [.ret (.bl false)] [], .ite (.not (.call (Str.ofString "_law_same") [(.call (Str.ofString "numbers_put") [(.var 4)]), (.blt .tuple [(.sset (.lc [5] (.nm 5) (.var 4) [(.cmp .eq (.idx (.var 5) (.int 0)) (.str (Str.ofString "put")))] (.idx (.var 5) (.int 1))))])])) [.ret (.bl false)] [], .ite (.not (.call (Str.ofString "_law_same") [(.blt .tuple [(.lc [5] (.nm 5) (.var 4) [] (.call (Str.ofString "ways_of_instruction") [(.var 5)]))]), (.blt .tuple [(.lc [5] (.nm 5) (.var 4) [] (.blt .tuple [(.sset (.call (Str.ofString "_law_ways_in") [(.var 5)]))]))])])) [.ret (.bl false)] [], .for (.nm 6) (.rng [(.int 3)]) [.set 7 (.blt .tuple [(.lc [9] (.nm 9) (.rng [(.var 2)]) [] (.call (Str.ofString "_law_take") [(.var 1), (.int 20)]))]), .ite (.not (.call (Str.ofString "_law_is_run") [(.var 4), (.call (Str.ofString "_law_word") [(.var 7)])])) [.ret (.bl false)] [], .set 8 (.idx (.call (Str.ofString "_law_code_states") [(.var 4), (.call (Str.ofString "_law_word") [(.var 7)]), (.int 40)]) (.int 1)), .ite (.and [(.cmp .isnot (.var 8) .non), (.not (.call (Str.ofString "_law_same") [(.call (Str.ofString "code_number") [(.var 4), (.var 2), (.var 7)]), (.idx (.var 8) (.int 1))]))]) [.ret (.bl false)] []], .for (.nm 6) (.rng [(.int 5)]) [.set 10 (.call (Str.ofString "_law_altered") [(.var 1), (.var 4)]), .ite (.or [(.and [(.call (Str.ofString "_law_is_sound") [(.var 10), (.var 3)]), (.cmp .isnot (.call (Str.ofString "check_letter_code") [(.var 10), (.var 3)]) .non)]), (.and [(.not (.call (Str.ofString "_law_is_sound") [(.var 10), (.var 3)])), (.not (.call (Str.ofString "_law_is_refused") [(.var 10), (.var 3)]))])]) [.ret (.bl false)] []], .set 11 (.blt .len [(.lc [5] (.nm 5) (.var 4) [(.cmp .eq (.idx (.var 5) (.int 0)) (.str (Str.ofString "read")))] (.var 5))]), .ite (.or [(.not (.call (Str.ofString "_law_same") [(.call (Str.ofString "_law_is_refused") [(.var 4), (.bin .add (.var 3) (.int 1))]), (.cmp .gt (.var 11) (.int 0))])), (.not (.call (Str.ofString "_law_is_refused") [(.tup []), (.int 2)]))]) [.ret (.bl false)] [], .set 12 (.tup [(.tup [(.str (Str.ofString "read")), (.tup [(.int 1), (.int 2)]), (.int 3)]), (.tup [(.str (Str.ofString "put")), (.int 0), (.int 0)]), (.tup [(.str (Str.ofString "put")), (.int 1), (.int 0)]), (.tup [(.str (Str.ofString "take")), (.tup [(.tup [(.int 0), (.int 4)]), (.tup [(.int 1), (.int 5)])]), (.int 6)]), (.tup [(.str (Str.ofString "write")), (.int 0), (.int 3)]), (.tup [(.str (Str.ofString "write")), (.int 1), (.int 3)]), (.tup [(.str (Str.ofString "give"))])]), .ite (.or [(.not (.call (Str.ofString "_law_same") [(.call (Str.ofString "run_letter_code") [(.var 12), (.tup [(.int 0), (.int 1), (.int 1)]), (.int 20)]), (.tup [(.str (Str.ofString "ended")), (.int 15), (.int 6)])])), (.not (.call (Str.ofString "_law_same") [(.call (Str.ofString "code_number") [(.var 12), (.int 1), (.tup [(.int 11)])]), (.int 11)]))]) [.ret (.bl false)] [], .ret (.and [(.call (Str.ofString "_law_same") [(.call (Str.ofString "code_step") [(.var 12), (.tup [(.int 3), (.tup []), (.tup [(.int 0), (.int 1)]), (.tup [(.int 1)])])]), (.tup [(.int 5), (.tup []), (.tup [(.int 0)]), (.tup [(.int 1)])])]), (.call (Str.ofString "_law_same") [(.call (Str.ofString "run_letter_code") [(.tup [(.tup [(.str (Str.ofString "none"))])]), (.tup []), (.int 1)]), (.tup [(.str (Str.ofString "ended")), (.int 1), .non])])])] }
def prog : List Fd := [d_digits_of, d_number_of, d_digit_there, d_letter_of, d_word_of, d_code_begun, d_way_for, d_code_step, d_run_letter_code, d_code_number, d_ways_in_place, d_ways_of_instruction, d_numbers_put, d_does_tell, d_is_instruction_sound, d_are_ways_there, d_check_letter_code, d__law_draws, d__law_take, d__law_same, d__law_long, d__law_letter, d__law_word, d__law_drawn_code, d__law_ways_in, d__law_code_states, d__law_is_refused, d__law_is_sound, d__law_altered, d__law_is_run, d_law]
theorem f_digits_of : prog.find? (fun d => d.name == Str.ofString "digits_of") = some d_digits_of := by rfl
theorem c_digits_of {W k : Nat} {x0 : Slot} {o : Opd} {fs : List Slot} (hb : Goes (callL prog W k) W [.set 1 (.lst []), .whl (.cmp .gt (.var 0) (.int 0)) [.expr (.mut .append 1 [(.bin .mod (.var 0) (.int 2))]), .set 0 (.bin .fdiv (.var 0) (.int 2))], .ret (.blt .tuple [(.var 1)])] [x0, .un] (fun r => outR d_digits_of r = some (o, fs))) : callL prog W (k + 1) (Str.ofString "digits_of") [x0] = some (o, fs) := callL_eq d_digits_of f_digits_of rfl hb
theorem e_digits_of {W k : Nat} {x0 : Slot} {Ψ : Opd → List Slot → Prop} (hb : Goes (callL prog W k) W [.set 1 (.lst []), .whl (.cmp .gt (.var 0) (.int 0)) [.expr (.mut .append 1 [(.bin .mod (.var 0) (.int 2))]), .set 0 (.bin .fdiv (.var 0) (.int 2))], .ret (.blt .tuple [(.var 1)])] [x0, .un] (fun r => match outR d_digits_of r with | some (o, fs) => Ψ o fs | none => False)) : ∃ o fs, callL prog W (k + 1) (Str.ofString "digits_of") [x0] = some (o, fs) ∧ Ψ o fs := callL_at d_digits_of f_digits_of rfl hb
theorem f_number_of : prog.find? (fun d => d.name == Str.ofString "number_of") = some d_number_of := by rfl
theorem c_number_of {W k : Nat} {x0 : Slot} {o : Opd} {fs : List Slot} (hb : Goes (callL prog W k) W [.set 1 (.int 0), .for (.nm 2) (.rev (.var 0)) [.set 1 (.bin .add (.bin .mul (.int 2) (.var 1)) (.var 2))], .ret (.var 1)] [x0, .un, .un] (fun r => outR d_number_of r = some (o, fs))) : callL prog W (k + 1) (Str.ofString "number_of") [x0] = some (o, fs) := callL_eq d_number_of f_number_of rfl hb
theorem e_number_of {W k : Nat} {x0 : Slot} {Ψ : Opd → List Slot → Prop} (hb : Goes (callL prog W k) W [.set 1 (.int 0), .for (.nm 2) (.rev (.var 0)) [.set 1 (.bin .add (.bin .mul (.int 2) (.var 1)) (.var 2))], .ret (.var 1)] [x0, .un, .un] (fun r => match outR d_number_of r with | some (o, fs) => Ψ o fs | none => False)) : ∃ o fs, callL prog W (k + 1) (Str.ofString "number_of") [x0] = some (o, fs) ∧ Ψ o fs := callL_at d_number_of f_number_of rfl hb
theorem f_digit_there : prog.find? (fun d => d.name == Str.ofString "digit_there") = some d_digit_there := by rfl
theorem c_digit_there {W k : Nat} {x0 x1 : Slot} {o : Opd} {fs : List Slot} (hb : Goes (callL prog W k) W [.ret (.ite (.cmp .lt (.var 1) (.blt .len [(.var 0)])) (.idx (.var 0) (.var 1)) (.int 0))] [x0, x1] (fun r => outR d_digit_there r = some (o, fs))) : callL prog W (k + 1) (Str.ofString "digit_there") [x0, x1] = some (o, fs) := callL_eq d_digit_there f_digit_there rfl hb
theorem e_digit_there {W k : Nat} {x0 x1 : Slot} {Ψ : Opd → List Slot → Prop} (hb : Goes (callL prog W k) W [.ret (.ite (.cmp .lt (.var 1) (.blt .len [(.var 0)])) (.idx (.var 0) (.var 1)) (.int 0))] [x0, x1] (fun r => match outR d_digit_there r with | some (o, fs) => Ψ o fs | none => False)) : ∃ o fs, callL prog W (k + 1) (Str.ofString "digit_there") [x0, x1] = some (o, fs) ∧ Ψ o fs := callL_at d_digit_there f_digit_there rfl hb
theorem f_letter_of : prog.find? (fun d => d.name == Str.ofString "letter_of") = some d_letter_of := by rfl
theorem c_letter_of {W k : Nat} {x0 : Slot} {o : Opd} {fs : List Slot} (hb : Goes (callL prog W k) W [.ret (.blt .sum [(.lc [1] (.nm 1) (.rng [(.blt .len [(.var 0)])]) [] (.bin .shl (.idx (.var 0) (.var 1)) (.var 1)))])] [x0, .un] (fun r => outR d_letter_of r = some (o, fs))) : callL prog W (k + 1) (Str.ofString "letter_of") [x0] = some (o, fs) := callL_eq d_letter_of f_letter_of rfl hb
theorem e_letter_of {W k : Nat} {x0 : Slot} {Ψ : Opd → List Slot → Prop} (hb : Goes (callL prog W k) W [.ret (.blt .sum [(.lc [1] (.nm 1) (.rng [(.blt .len [(.var 0)])]) [] (.bin .shl (.idx (.var 0) (.var 1)) (.var 1)))])] [x0, .un] (fun r => match outR d_letter_of r with | some (o, fs) => Ψ o fs | none => False)) : ∃ o fs, callL prog W (k + 1) (Str.ofString "letter_of") [x0] = some (o, fs) ∧ Ψ o fs := callL_at d_letter_of f_letter_of rfl hb
theorem f_word_of : prog.find? (fun d => d.name == Str.ofString "word_of") = some d_word_of := by rfl
theorem c_word_of {W k : Nat} {x0 : Slot} {o : Opd} {fs : List Slot} (hb : Goes (callL prog W k) W [.set 1 (.lc [2] (.nm 2) (.var 0) [] (.call (Str.ofString "digits_of") [(.var 2)])), .set 3 (.blt .max [(.bin .add (.lst [(.int 0)]) (.lc [4] (.nm 4) (.var 1) [] (.blt .len [(.var 4)])))]), .ret (.blt .tuple [(.lc [5] (.nm 5) (.rng [(.var 3)]) [] (.call (Str.ofString "letter_of") [(.blt .tuple [(.lc [4] (.nm 4) (.var 1) [] (.call (Str.ofString "digit_there") [(.var 4), (.var 5)]))])]))])] [x0, .un, .un, .un, .un, .un] (fun r => outR d_word_of r = some (o, fs))) : callL prog W (k + 1) (Str.ofString "word_of") [x0] = some (o, fs) := callL_eq d_word_of f_word_of rfl hb
theorem e_word_of {W k : Nat} {x0 : Slot} {Ψ : Opd → List Slot → Prop} (hb : Goes (callL prog W k) W [.set 1 (.lc [2] (.nm 2) (.var 0) [] (.call (Str.ofString "digits_of") [(.var 2)])), .set 3 (.blt .max [(.bin .add (.lst [(.int 0)]) (.lc [4] (.nm 4) (.var 1) [] (.blt .len [(.var 4)])))]), .ret (.blt .tuple [(.lc [5] (.nm 5) (.rng [(.var 3)]) [] (.call (Str.ofString "letter_of") [(.blt .tuple [(.lc [4] (.nm 4) (.var 1) [] (.call (Str.ofString "digit_there") [(.var 4), (.var 5)]))])]))])] [x0, .un, .un, .un, .un, .un] (fun r => match outR d_word_of r with | some (o, fs) => Ψ o fs | none => False)) : ∃ o fs, callL prog W (k + 1) (Str.ofString "word_of") [x0] = some (o, fs) ∧ Ψ o fs := callL_at d_word_of f_word_of rfl hb
theorem f_code_begun : prog.find? (fun d => d.name == Str.ofString "code_begun") = some d_code_begun := by rfl
theorem c_code_begun {W k : Nat} {x0 : Slot} {o : Opd} {fs : List Slot} (hb : Goes (callL prog W k) W [.ret (.tup [(.int 0), (.blt .tuple [(.var 0)]), (.tup []), (.tup [])])] [x0] (fun r => outR d_code_begun r = some (o, fs))) : callL prog W (k + 1) (Str.ofString "code_begun") [x0] = some (o, fs) := callL_eq d_code_begun f_code_begun rfl hb
theorem e_code_begun {W k : Nat} {x0 : Slot} {Ψ : Opd → List Slot → Prop} (hb : Goes (callL prog W k) W [.ret (.tup [(.int 0), (.blt .tuple [(.var 0)]), (.tup []), (.tup [])])] [x0] (fun r => match outR d_code_begun r with | some (o, fs) => Ψ o fs | none => False)) : ∃ o fs, callL prog W (k + 1) (Str.ofString "code_begun") [x0] = some (o, fs) ∧ Ψ o fs := callL_at d_code_begun f_code_begun rfl hb
theorem f_way_for : prog.find? (fun d => d.name == Str.ofString "way_for") = some d_way_for := by rfl
theorem c_way_for {W k : Nat} {x0 x1 : Slot} {o : Opd} {fs : List Slot} (hb : Goes (callL prog W k) W [.ret (.idx (.lc [2, 3] (.tp [2, 3]) (.var 0) [(.cmp .eq (.var 2) (.var 1))] (.var 3)) (.int 0))] [x0, x1, .un, .un] (fun r => outR d_way_for r = some (o, fs))) : callL prog W (k + 1) (Str.ofString "way_for") [x0, x1] = some (o, fs) := callL_eq d_way_for f_way_for rfl hb
theorem e_way_for {W k : Nat} {x0 x1 : Slot} {Ψ : Opd → List Slot → Prop} (hb : Goes (callL prog W k) W [.ret (.idx (.lc [2, 3] (.tp [2, 3]) (.var 0) [(.cmp .eq (.var 2) (.var 1))] (.var 3)) (.int 0))] [x0, x1, .un, .un] (fun r => match outR d_way_for r with | some (o, fs) => Ψ o fs | none => False)) : ∃ o fs, callL prog W (k + 1) (Str.ofString "way_for") [x0, x1] = some (o, fs) ∧ Ψ o fs := callL_at d_way_for f_way_for rfl hb
theorem f_code_step : prog.find? (fun d => d.name == Str.ofString "code_step") = some d_code_step := by rfl
theorem c_code_step {W k : Nat} {x0 x1 : Slot} {o : Opd} {fs : List Slot} (hb : Goes (callL prog W k) W [.ite (.cmp .eq (.idx (.var 1) (.int 0)) (.str (Str.ofString "ended"))) [.ret (.var 1)] [], .unp [2, 3, 4, 5] (.var 1), .set 6 (.idx (.idx (.var 0) (.var 2)) (.int 0)), .ite (.cmp .eq (.var 6) (.str (Str.ofString "read"))) [.ite (.cmp .eq (.blt .len [(.var 3)]) (.int 0)) [.ret (.tup [(.idx (.idx (.var 0) (.var 2)) (.int 2)), (.var 3), (.var 4), (.var 5)])] [], .ret (.tup [(.idx (.idx (.idx (.var 0) (.var 2)) (.int 1)) (.idx (.var 3) (.int 0))), (.slc (.var 3) (.int 1) .non), (.var 4), (.var 5)])] [], .ite (.cmp .eq (.var 6) (.str (Str.ofString "put"))) [.ret (.tup [(.idx (.idx (.var 0) (.var 2)) (.int 2)), (.var 3), (.bin .add (.var 4) (.tup [(.idx (.idx (.var 0) (.var 2)) (.int 1))])), (.var 5)])] [], .ite (.cmp .eq (.var 6) (.str (Str.ofString "take"))) [.ite (.cmp .eq (.blt .len [(.var 4)]) (.int 0)) [.ret (.tup [(.idx (.idx (.var 0) (.var 2)) (.int 2)), (.var 3), (.var 4), (.var 5)])] [], .ret (.tup [(.call (Str.ofString "way_for") [(.idx (.idx (.var 0) (.var 2)) (.int 1)), (.idx (.var 4) (.neg (.int 1)))]), (.var 3), (.slc (.var 4) .non (.neg (.int 1))), (.var 5)])] [], .ite (.cmp .eq (.var 6) (.str (Str.ofString "write"))) [.ret (.tup [(.idx (.idx (.var 0) (.var 2)) (.int 2)), (.var 3), (.var 4), (.bin .add (.tup [(.idx (.idx (.var 0) (.var 2)) (.int 1))]) (.var 5))])] [], .ret (.tup [(.str (Str.ofString "ended")), (.ite (.cmp .eq (.var 6) (.str (Str.ofString "give"))) (.call (Str.ofString "number_of") [(.var 5)]) .non)])] [x0, x1, .un, .un, .un, .un, .un] (fun r => outR d_code_step r = some (o, fs))) : callL prog W (k + 1) (Str.ofString "code_step") [x0, x1] = some (o, fs) := callL_eq d_code_step f_code_step rfl hb
theorem e_code_step {W k : Nat} {x0 x1 : Slot} {Ψ : Opd → List Slot → Prop} (hb : Goes (callL prog W k) W [.ite (.cmp .eq (.idx (.var 1) (.int 0)) (.str (Str.ofString "ended"))) [.ret (.var 1)] [], .unp [2, 3, 4, 5] (.var 1), .set 6 (.idx (.idx (.var 0) (.var 2)) (.int 0)), .ite (.cmp .eq (.var 6) (.str (Str.ofString "read"))) [.ite (.cmp .eq (.blt .len [(.var 3)]) (.int 0)) [.ret (.tup [(.idx (.idx (.var 0) (.var 2)) (.int 2)), (.var 3), (.var 4), (.var 5)])] [], .ret (.tup [(.idx (.idx (.idx (.var 0) (.var 2)) (.int 1)) (.idx (.var 3) (.int 0))), (.slc (.var 3) (.int 1) .non), (.var 4), (.var 5)])] [], .ite (.cmp .eq (.var 6) (.str (Str.ofString "put"))) [.ret (.tup [(.idx (.idx (.var 0) (.var 2)) (.int 2)), (.var 3), (.bin .add (.var 4) (.tup [(.idx (.idx (.var 0) (.var 2)) (.int 1))])), (.var 5)])] [], .ite (.cmp .eq (.var 6) (.str (Str.ofString "take"))) [.ite (.cmp .eq (.blt .len [(.var 4)]) (.int 0)) [.ret (.tup [(.idx (.idx (.var 0) (.var 2)) (.int 2)), (.var 3), (.var 4), (.var 5)])] [], .ret (.tup [(.call (Str.ofString "way_for") [(.idx (.idx (.var 0) (.var 2)) (.int 1)), (.idx (.var 4) (.neg (.int 1)))]), (.var 3), (.slc (.var 4) .non (.neg (.int 1))), (.var 5)])] [], .ite (.cmp .eq (.var 6) (.str (Str.ofString "write"))) [.ret (.tup [(.idx (.idx (.var 0) (.var 2)) (.int 2)), (.var 3), (.var 4), (.bin .add (.tup [(.idx (.idx (.var 0) (.var 2)) (.int 1))]) (.var 5))])] [], .ret (.tup [(.str (Str.ofString "ended")), (.ite (.cmp .eq (.var 6) (.str (Str.ofString "give"))) (.call (Str.ofString "number_of") [(.var 5)]) .non)])] [x0, x1, .un, .un, .un, .un, .un] (fun r => match outR d_code_step r with | some (o, fs) => Ψ o fs | none => False)) : ∃ o fs, callL prog W (k + 1) (Str.ofString "code_step") [x0, x1] = some (o, fs) ∧ Ψ o fs := callL_at d_code_step f_code_step rfl hb
theorem f_run_letter_code : prog.find? (fun d => d.name == Str.ofString "run_letter_code") = some d_run_letter_code := by rfl
theorem c_run_letter_code {W k : Nat} {x0 x1 x2 : Slot} {o : Opd} {fs : List Slot} (hb : Goes (callL prog W k) W [.set 3 (.call (Str.ofString "code_begun") [(.var 1)]), .for (.nm 4) (.rng [(.var 2)]) [.set 3 (.call (Str.ofString "code_step") [(.var 0), (.var 3)]), .ite (.cmp .eq (.idx (.var 3) (.int 0)) (.str (Str.ofString "ended"))) [.ret (.tup [(.str (Str.ofString "ended")), (.bin .add (.var 4) (.int 1)), (.idx (.var 3) (.int 1))])] []], .ret (.tup [(.str (Str.ofString "open")), (.var 2)])] [x0, x1, x2, .un, .un] (fun r => outR d_run_letter_code r = some (o, fs))) : callL prog W (k + 1) (Str.ofString "run_letter_code") [x0, x1, x2] = some (o, fs) := callL_eq d_run_letter_code f_run_letter_code rfl hb
theorem e_run_letter_code {W k : Nat} {x0 x1 x2 : Slot} {Ψ : Opd → List Slot → Prop} (hb : Goes (callL prog W k) W [.set 3 (.call (Str.ofString "code_begun") [(.var 1)]), .for (.nm 4) (.rng [(.var 2)]) [.set 3 (.call (Str.ofString "code_step") [(.var 0), (.var 3)]), .ite (.cmp .eq (.idx (.var 3) (.int 0)) (.str (Str.ofString "ended"))) [.ret (.tup [(.str (Str.ofString "ended")), (.bin .add (.var 4) (.int 1)), (.idx (.var 3) (.int 1))])] []], .ret (.tup [(.str (Str.ofString "open")), (.var 2)])] [x0, x1, x2, .un, .un] (fun r => match outR d_run_letter_code r with | some (o, fs) => Ψ o fs | none => False)) : ∃ o fs, callL prog W (k + 1) (Str.ofString "run_letter_code") [x0, x1, x2] = some (o, fs) ∧ Ψ o fs := callL_at d_run_letter_code f_run_letter_code rfl hb
theorem f_code_number : prog.find? (fun d => d.name == Str.ofString "code_number") = some d_code_number := by rfl
theorem c_code_number {W k : Nat} {x0 x1 x2 : Slot} {o : Opd} {fs : List Slot} (hb : Goes (callL prog W k) W [.set 3 (.call (Str.ofString "code_begun") [(.call (Str.ofString "word_of") [(.var 2)])]), .whl (.cmp .ne (.idx (.var 3) (.int 0)) (.str (Str.ofString "ended"))) [.set 3 (.call (Str.ofString "code_step") [(.var 0), (.var 3)])], .ret (.idx (.var 3) (.int 1))] [x0, x1, x2, .un] (fun r => outR d_code_number r = some (o, fs))) : callL prog W (k + 1) (Str.ofString "code_number") [x0, x1, x2] = some (o, fs) := callL_eq d_code_number f_code_number rfl hb
theorem e_code_number {W k : Nat} {x0 x1 x2 : Slot} {Ψ : Opd → List Slot → Prop} (hb : Goes (callL prog W k) W [.set 3 (.call (Str.ofString "code_begun") [(.call (Str.ofString "word_of") [(.var 2)])]), .whl (.cmp .ne (.idx (.var 3) (.int 0)) (.str (Str.ofString "ended"))) [.set 3 (.call (Str.ofString "code_step") [(.var 0), (.var 3)])], .ret (.idx (.var 3) (.int 1))] [x0, x1, x2, .un] (fun r => match outR d_code_number r with | some (o, fs) => Ψ o fs | none => False)) : ∃ o fs, callL prog W (k + 1) (Str.ofString "code_number") [x0, x1, x2] = some (o, fs) ∧ Ψ o fs := callL_at d_code_number f_code_number rfl hb
theorem f_ways_in_place : prog.find? (fun d => d.name == Str.ofString "ways_in_place") = some d_ways_in_place := by rfl
theorem c_ways_in_place {W k : Nat} {x0 : Slot} {o : Opd} {fs : List Slot} (hb : Goes (callL prog W k) W [.set 1 (.idx (.var 0) (.int 0)), .ite (.cmp .eq (.var 1) (.str (Str.ofString "read"))) [.ret (.bin .add (.idx (.var 0) (.int 1)) (.tup [(.idx (.var 0) (.int 2))]))] [], .ite (.cmp .eq (.var 1) (.str (Str.ofString "take"))) [.ret (.bin .add (.blt .tuple [(.lc [2, 3] (.tp [2, 3]) (.idx (.var 0) (.int 1)) [] (.var 3))]) (.tup [(.idx (.var 0) (.int 2))]))] [], .ret (.ite (.cmp .isin (.var 1) (.tup [(.str (Str.ofString "put")), (.str (Str.ofString "write"))])) (.tup [(.idx (.var 0) (.int 2))]) (.tup []))] [x0, .un, .un, .un] (fun r => outR d_ways_in_place r = some (o, fs))) : callL prog W (k + 1) (Str.ofString "ways_in_place") [x0] = some (o, fs) := callL_eq d_ways_in_place f_ways_in_place rfl hb
theorem e_ways_in_place {W k : Nat} {x0 : Slot} {Ψ : Opd → List Slot → Prop} (hb : Goes (callL prog W k) W [.set 1 (.idx (.var 0) (.int 0)), .ite (.cmp .eq (.var 1) (.str (Str.ofString "read"))) [.ret (.bin .add (.idx (.var 0) (.int 1)) (.tup [(.idx (.var 0) (.int 2))]))] [], .ite (.cmp .eq (.var 1) (.str (Str.ofString "take"))) [.ret (.bin .add (.blt .tuple [(.lc [2, 3] (.tp [2, 3]) (.idx (.var 0) (.int 1)) [] (.var 3))]) (.tup [(.idx (.var 0) (.int 2))]))] [], .ret (.ite (.cmp .isin (.var 1) (.tup [(.str (Str.ofString "put")), (.str (Str.ofString "write"))])) (.tup [(.idx (.var 0) (.int 2))]) (.tup []))] [x0, .un, .un, .un] (fun r => match outR d_ways_in_place r with | some (o, fs) => Ψ o fs | none => False)) : ∃ o fs, callL prog W (k + 1) (Str.ofString "ways_in_place") [x0] = some (o, fs) ∧ Ψ o fs := callL_at d_ways_in_place f_ways_in_place rfl hb
theorem f_ways_of_instruction : prog.find? (fun d => d.name == Str.ofString "ways_of_instruction") = some d_ways_of_instruction := by rfl
theorem c_ways_of_instruction {W k : Nat} {x0 : Slot} {o : Opd} {fs : List Slot} (hb : Goes (callL prog W k) W [.ret (.blt .tuple [(.sset (.call (Str.ofString "ways_in_place") [(.var 0)]))])] [x0] (fun r => outR d_ways_of_instruction r = some (o, fs))) : callL prog W (k + 1) (Str.ofString "ways_of_instruction") [x0] = some (o, fs) := callL_eq d_ways_of_instruction f_ways_of_instruction rfl hb
theorem e_ways_of_instruction {W k : Nat} {x0 : Slot} {Ψ : Opd → List Slot → Prop} (hb : Goes (callL prog W k) W [.ret (.blt .tuple [(.sset (.call (Str.ofString "ways_in_place") [(.var 0)]))])] [x0] (fun r => match outR d_ways_of_instruction r with | some (o, fs) => Ψ o fs | none => False)) : ∃ o fs, callL prog W (k + 1) (Str.ofString "ways_of_instruction") [x0] = some (o, fs) ∧ Ψ o fs := callL_at d_ways_of_instruction f_ways_of_instruction rfl hb
theorem f_numbers_put : prog.find? (fun d => d.name == Str.ofString "numbers_put") = some d_numbers_put := by rfl
theorem c_numbers_put {W k : Nat} {x0 : Slot} {o : Opd} {fs : List Slot} (hb : Goes (callL prog W k) W [.ret (.blt .tuple [(.sset (.lc [1] (.nm 1) (.var 0) [(.cmp .eq (.idx (.var 1) (.int 0)) (.str (Str.ofString "put")))] (.idx (.var 1) (.int 1))))])] [x0, .un] (fun r => outR d_numbers_put r = some (o, fs))) : callL prog W (k + 1) (Str.ofString "numbers_put") [x0] = some (o, fs) := callL_eq d_numbers_put f_numbers_put rfl hb
theorem e_numbers_put {W k : Nat} {x0 : Slot} {Ψ : Opd → List Slot → Prop} (hb : Goes (callL prog W k) W [.ret (.blt .tuple [(.sset (.lc [1] (.nm 1) (.var 0) [(.cmp .eq (.idx (.var 1) (.int 0)) (.str (Str.ofString "put")))] (.idx (.var 1) (.int 1))))])] [x0, .un] (fun r => match outR d_numbers_put r with | some (o, fs) => Ψ o fs | none => False)) : ∃ o fs, callL prog W (k + 1) (Str.ofString "numbers_put") [x0] = some (o, fs) ∧ Ψ o fs := callL_at d_numbers_put f_numbers_put rfl hb
theorem f_does_tell : prog.find? (fun d => d.name == Str.ofString "does_tell") = some d_does_tell := by rfl
theorem c_does_tell {W k : Nat} {x0 x1 : Slot} {o : Opd} {fs : List Slot} (hb : Goes (callL prog W k) W [.set 2 (.lc [3, 4] (.tp [3, 4]) (.var 0) [] (.var 3)), .ite (.not (.blt .all [(.lc [5] (.nm 5) (.rng [(.int 1), (.blt .len [(.var 2)])]) [] (.cmp .lt (.idx (.var 2) (.bin .sub (.var 5) (.int 1))) (.idx (.var 2) (.var 5))))])) [.ret (.bl false)] [], .ret (.blt .all [(.lc [3] (.nm 3) (.var 1) [] (.cmp .isin (.var 3) (.var 2)))])] [x0, x1, .un, .un, .un, .un] (fun r => outR d_does_tell r = some (o, fs))) : callL prog W (k + 1) (Str.ofString "does_tell") [x0, x1] = some (o, fs) := callL_eq d_does_tell f_does_tell rfl hb
theorem e_does_tell {W k : Nat} {x0 x1 : Slot} {Ψ : Opd → List Slot → Prop} (hb : Goes (callL prog W k) W [.set 2 (.lc [3, 4] (.tp [3, 4]) (.var 0) [] (.var 3)), .ite (.not (.blt .all [(.lc [5] (.nm 5) (.rng [(.int 1), (.blt .len [(.var 2)])]) [] (.cmp .lt (.idx (.var 2) (.bin .sub (.var 5) (.int 1))) (.idx (.var 2) (.var 5))))])) [.ret (.bl false)] [], .ret (.blt .all [(.lc [3] (.nm 3) (.var 1) [] (.cmp .isin (.var 3) (.var 2)))])] [x0, x1, .un, .un, .un, .un] (fun r => match outR d_does_tell r with | some (o, fs) => Ψ o fs | none => False)) : ∃ o fs, callL prog W (k + 1) (Str.ofString "does_tell") [x0, x1] = some (o, fs) ∧ Ψ o fs := callL_at d_does_tell f_does_tell rfl hb
theorem f_is_instruction_sound : prog.find? (fun d => d.name == Str.ofString "is_instruction_sound") = some d_is_instruction_sound := by rfl
theorem c_is_instruction_sound {W k : Nat} {x0 x1 x2 : Slot} {o : Opd} {fs : List Slot} (hb : Goes (callL prog W k) W [.set 3 (.idx (.var 0) (.int 0)), .ite (.cmp .eq (.var 3) (.str (Str.ofString "read"))) [.ret (.cmp .eq (.blt .len [(.idx (.var 0) (.int 1))]) (.var 1))] [], .ite (.cmp .eq (.var 3) (.str (Str.ofString "take"))) [.ret (.call (Str.ofString "does_tell") [(.idx (.var 0) (.int 1)), (.var 2)])] [], .ret (.or [(.cmp .ne (.var 3) (.str (Str.ofString "write"))), (.cmp .isin (.idx (.var 0) (.int 1)) (.tup [(.int 0), (.int 1)]))])] [x0, x1, x2, .un] (fun r => outR d_is_instruction_sound r = some (o, fs))) : callL prog W (k + 1) (Str.ofString "is_instruction_sound") [x0, x1, x2] = some (o, fs) := callL_eq d_is_instruction_sound f_is_instruction_sound rfl hb
theorem e_is_instruction_sound {W k : Nat} {x0 x1 x2 : Slot} {Ψ : Opd → List Slot → Prop} (hb : Goes (callL prog W k) W [.set 3 (.idx (.var 0) (.int 0)), .ite (.cmp .eq (.var 3) (.str (Str.ofString "read"))) [.ret (.cmp .eq (.blt .len [(.idx (.var 0) (.int 1))]) (.var 1))] [], .ite (.cmp .eq (.var 3) (.str (Str.ofString "take"))) [.ret (.call (Str.ofString "does_tell") [(.idx (.var 0) (.int 1)), (.var 2)])] [], .ret (.or [(.cmp .ne (.var 3) (.str (Str.ofString "write"))), (.cmp .isin (.idx (.var 0) (.int 1)) (.tup [(.int 0), (.int 1)]))])] [x0, x1, x2, .un] (fun r => match outR d_is_instruction_sound r with | some (o, fs) => Ψ o fs | none => False)) : ∃ o fs, callL prog W (k + 1) (Str.ofString "is_instruction_sound") [x0, x1, x2] = some (o, fs) ∧ Ψ o fs := callL_at d_is_instruction_sound f_is_instruction_sound rfl hb
theorem f_are_ways_there : prog.find? (fun d => d.name == Str.ofString "are_ways_there") = some d_are_ways_there := by rfl
theorem c_are_ways_there {W k : Nat} {x0 : Slot} {o : Opd} {fs : List Slot} (hb : Goes (callL prog W k) W [.ret (.blt .all [(.lc2 [1, 2] (.nm 1) (.var 0) [] [2] (.nm 2) (.call (Str.ofString "ways_in_place") [(.var 1)]) [] (.chain .le .lt (.int 0) (.var 2) (.blt .len [(.var 0)])))])] [x0, .un, .un] (fun r => outR d_are_ways_there r = some (o, fs))) : callL prog W (k + 1) (Str.ofString "are_ways_there") [x0] = some (o, fs) := callL_eq d_are_ways_there f_are_ways_there rfl hb
theorem e_are_ways_there {W k : Nat} {x0 : Slot} {Ψ : Opd → List Slot → Prop} (hb : Goes (callL prog W k) W [.ret (.blt .all [(.lc2 [1, 2] (.nm 1) (.var 0) [] [2] (.nm 2) (.call (Str.ofString "ways_in_place") [(.var 1)]) [] (.chain .le .lt (.int 0) (.var 2) (.blt .len [(.var 0)])))])] [x0, .un, .un] (fun r => match outR d_are_ways_there r with | some (o, fs) => Ψ o fs | none => False)) : ∃ o fs, callL prog W (k + 1) (Str.ofString "are_ways_there") [x0] = some (o, fs) ∧ Ψ o fs := callL_at d_are_ways_there f_are_ways_there rfl hb
theorem f_check_letter_code : prog.find? (fun d => d.name == Str.ofString "check_letter_code") = some d_check_letter_code := by rfl
theorem c_check_letter_code {W k : Nat} {x0 x1 : Slot} {o : Opd} {fs : List Slot} (hb : Goes (callL prog W k) W [.ite (.or [(.cmp .eq (.blt .len [(.var 0)]) (.int 0)), (.not (.call (Str.ofString "are_ways_there") [(.var 0)]))]) [.raise (Str.ofString "InvalidCode")] [], .set 2 (.call (Str.ofString "numbers_put") [(.var 0)]), .ite (.not (.blt .all [(.lc [3] (.nm 3) (.var 0) [] (.call (Str.ofString "is_instruction_sound") [(.var 3), (.var 1), (.var 2)]))])) [.raise (Str.ofString "InvalidCode")] []] [x0, x1, .un, .un] (fun r => outR d_check_letter_code r = some (o, fs))) : callL prog W (k + 1) (Str.ofString "check_letter_code") [x0, x1] = some (o, fs) := callL_eq d_check_letter_code f_check_letter_code rfl hb
theorem e_check_letter_code {W k : Nat} {x0 x1 : Slot} {Ψ : Opd → List Slot → Prop} (hb : Goes (callL prog W k) W [.ite (.or [(.cmp .eq (.blt .len [(.var 0)]) (.int 0)), (.not (.call (Str.ofString "are_ways_there") [(.var 0)]))]) [.raise (Str.ofString "InvalidCode")] [], .set 2 (.call (Str.ofString "numbers_put") [(.var 0)]), .ite (.not (.blt .all [(.lc [3] (.nm 3) (.var 0) [] (.call (Str.ofString "is_instruction_sound") [(.var 3), (.var 1), (.var 2)]))])) [.raise (Str.ofString "InvalidCode")] []] [x0, x1, .un, .un] (fun r => match outR d_check_letter_code r with | some (o, fs) => Ψ o fs | none => False)) : ∃ o fs, callL prog W (k + 1) (Str.ofString "check_letter_code") [x0, x1] = some (o, fs) ∧ Ψ o fs := callL_at d_check_letter_code f_check_letter_code rfl hb
theorem f__law_draws : prog.find? (fun d => d.name == Str.ofString "_law_draws") = some d__law_draws := by rfl
theorem c__law_draws {W k : Nat} {x0 x1 : Slot} {o : Opd} {fs : List Slot} (hb : Goes (callL prog W k) W [.set 2 (.lc [3] (.nm 3) (.var 0) [] (.blt .int [(.var 3)])), .ite (.cmp .eq (.blt .len [(.var 2)]) (.int 0)) [.expr (.mut .append 2 [(.int 0)])] [], .set 4 (.blt .list [(.var 2)]), .set 5 (.lst []), .for (.nm 6) (.rng [(.var 1)]) [.set 7 (.bin .mod (.var 6) (.blt .len [(.var 2)])), .ite (.and [(.cmp .ge (.idx (.var 2) (.var 7)) (.bin .pow (.int 10) (.int 18))), (.cmp .gt (.idx (.var 4) (.var 7)) (.int 0))]) [.expr (.mut .append 5 [(.bin .mod (.blt .int [(.idx (.var 4) (.var 7))]) (.int 1000))]), .sub 4 (.var 7) (.bin .fdiv (.idx (.var 4) (.var 7)) (.int 1000))] [.set 8 (.bin .mod (.blt .int [(.bin .add (.bin .add (.bin .mul (.idx (.var 2) (.var 7)) (.int 48271)) (.bin .mul (.var 6) (.int 69621))) (.int 11))]) (.int 2147483647)), .expr (.mut .append 5 [(.bin .mod (.blt .int [(.bin .add (.bin .add (.bin .mul (.var 8) (.var 8)) (.bin .mul (.int 3) (.var 8))) (.var 6))]) (.int 1000003))])]], .expr (.mut .reverse 5 []), .ret (.var 5)] [x0, x1, .un, .un, .un, .un, .un, .un, .un] (fun r => outR d__law_draws r = some (o, fs))) : callL prog W (k + 1) (Str.ofString "_law_draws") [x0, x1] = some (o, fs) := callL_eq d__law_draws f__law_draws rfl hb
theorem e__law_draws {W k : Nat} {x0 x1 : Slot} {Ψ : Opd → List Slot → Prop} (hb : Goes (callL prog W k) W [.set 2 (.lc [3] (.nm 3) (.var 0) [] (.blt .int [(.var 3)])), .ite (.cmp .eq (.blt .len [(.var 2)]) (.int 0)) [.expr (.mut .append 2 [(.int 0)])] [], .set 4 (.blt .list [(.var 2)]), .set 5 (.lst []), .for (.nm 6) (.rng [(.var 1)]) [.set 7 (.bin .mod (.var 6) (.blt .len [(.var 2)])), .ite (.and [(.cmp .ge (.idx (.var 2) (.var 7)) (.bin .pow (.int 10) (.int 18))), (.cmp .gt (.idx (.var 4) (.var 7)) (.int 0))]) [.expr (.mut .append 5 [(.bin .mod (.blt .int [(.idx (.var 4) (.var 7))]) (.int 1000))]), .sub 4 (.var 7) (.bin .fdiv (.idx (.var 4) (.var 7)) (.int 1000))] [.set 8 (.bin .mod (.blt .int [(.bin .add (.bin .add (.bin .mul (.idx (.var 2) (.var 7)) (.int 48271)) (.bin .mul (.var 6) (.int 69621))) (.int 11))]) (.int 2147483647)), .expr (.mut .append 5 [(.bin .mod (.blt .int [(.bin .add (.bin .add (.bin .mul (.var 8) (.var 8)) (.bin .mul (.int 3) (.var 8))) (.var 6))]) (.int 1000003))])]], .expr (.mut .reverse 5 []), .ret (.var 5)] [x0, x1, .un, .un, .un, .un, .un, .un, .un] (fun r => match outR d__law_draws r with | some (o, fs) => Ψ o fs | none => False)) : ∃ o fs, callL prog W (k + 1) (Str.ofString "_law_draws") [x0, x1] = some (o, fs) ∧ Ψ o fs := callL_at d__law_draws f__law_draws rfl hb
theorem f__law_take : prog.find? (fun d => d.name == Str.ofString "_law_take") = some d__law_take := by rfl
theorem c__law_take {W k : Nat} {x0 x1 : Slot} {o : Opd} {fs : List Slot} (hb : Goes (callL prog W k) W [.ite (.cmp .eq (.blt .len [(.var 0)]) (.int 0)) [.ret (.int 0)] [], .ret (.bin .mod (.blt .int [(.mut .pop 0 [])]) (.var 1))] [x0, x1] (fun r => outR d__law_take r = some (o, fs))) : callL prog W (k + 1) (Str.ofString "_law_take") [x0, x1] = some (o, fs) := callL_eq d__law_take f__law_take rfl hb
theorem e__law_take {W k : Nat} {x0 x1 : Slot} {Ψ : Opd → List Slot → Prop} (hb : Goes (callL prog W k) W [.ite (.cmp .eq (.blt .len [(.var 0)]) (.int 0)) [.ret (.int 0)] [], .ret (.bin .mod (.blt .int [(.mut .pop 0 [])]) (.var 1))] [x0, x1] (fun r => match outR d__law_take r with | some (o, fs) => Ψ o fs | none => False)) : ∃ o fs, callL prog W (k + 1) (Str.ofString "_law_take") [x0, x1] = some (o, fs) ∧ Ψ o fs := callL_at d__law_take f__law_take rfl hb
theorem f__law_same : prog.find? (fun d => d.name == Str.ofString "_law_same") = some d__law_same := by rfl
theorem c__law_same {W k : Nat} {x0 x1 : Slot} {o : Opd} {fs : List Slot} (hb : Goes (callL prog W k) W [.ite (.isi (.var 1) .bool) [.ret (.and [(.isi (.var 0) .bool), (.cmp .eq (.var 0) (.var 1))])] [], .ite (.isi (.var 1) .int) [.ret (.and [(.isi (.var 0) .int), (.not (.isi (.var 0) .bool)), (.cmp .eq (.var 0) (.var 1))])] [], .ite (.isi (.var 1) .str) [.ret (.and [(.isi (.var 0) .str), (.cmp .eq (.var 0) (.var 1))])] [], .ite (.cmp .is (.var 1) .non) [.ret (.cmp .is (.var 0) .non)] [], .ite (.or [(.not (.isi (.var 0) .tuple)), (.cmp .ne (.blt .len [(.var 0)]) (.blt .len [(.var 1)]))]) [.ret (.bl false)] [], .for (.nm 2) (.rng [(.blt .len [(.var 1)])]) [.ite (.not (.call (Str.ofString "_law_same") [(.idx (.var 0) (.var 2)), (.idx (.var 1) (.var 2))])) [.ret (.bl false)] []], .ret (.bl true)] [x0, x1, .un] (fun r => outR d__law_same r = some (o, fs))) : callL prog W (k + 1) (Str.ofString "_law_same") [x0, x1] = some (o, fs) := callL_eq d__law_same f__law_same rfl hb
theorem e__law_same {W k : Nat} {x0 x1 : Slot} {Ψ : Opd → List Slot → Prop} (hb : Goes (callL prog W k) W [.ite (.isi (.var 1) .bool) [.ret (.and [(.isi (.var 0) .bool), (.cmp .eq (.var 0) (.var 1))])] [], .ite (.isi (.var 1) .int) [.ret (.and [(.isi (.var 0) .int), (.not (.isi (.var 0) .bool)), (.cmp .eq (.var 0) (.var 1))])] [], .ite (.isi (.var 1) .str) [.ret (.and [(.isi (.var 0) .str), (.cmp .eq (.var 0) (.var 1))])] [], .ite (.cmp .is (.var 1) .non) [.ret (.cmp .is (.var 0) .non)] [], .ite (.or [(.not (.isi (.var 0) .tuple)), (.cmp .ne (.blt .len [(.var 0)]) (.blt .len [(.var 1)]))]) [.ret (.bl false)] [], .for (.nm 2) (.rng [(.blt .len [(.var 1)])]) [.ite (.not (.call (Str.ofString "_law_same") [(.idx (.var 0) (.var 2)), (.idx (.var 1) (.var 2))])) [.ret (.bl false)] []], .ret (.bl true)] [x0, x1, .un] (fun r => match outR d__law_same r with | some (o, fs) => Ψ o fs | none => False)) : ∃ o fs, callL prog W (k + 1) (Str.ofString "_law_same") [x0, x1] = some (o, fs) ∧ Ψ o fs := callL_at d__law_same f__law_same rfl hb
theorem f__law_long : prog.find? (fun d => d.name == Str.ofString "_law_long") = some d__law_long := by rfl
theorem c__law_long {W k : Nat} {x0 : Slot} {o : Opd} {fs : List Slot} (hb : Goes (callL prog W k) W [.for (.nm 1) (.rng [(.int 900)]) [.ite (.cmp .eq (.bin .shr (.var 0) (.var 1)) (.int 0)) [.ret (.var 1)] []], .ret (.int 900)] [x0, .un] (fun r => outR d__law_long r = some (o, fs))) : callL prog W (k + 1) (Str.ofString "_law_long") [x0] = some (o, fs) := callL_eq d__law_long f__law_long rfl hb
theorem e__law_long {W k : Nat} {x0 : Slot} {Ψ : Opd → List Slot → Prop} (hb : Goes (callL prog W k) W [.for (.nm 1) (.rng [(.int 900)]) [.ite (.cmp .eq (.bin .shr (.var 0) (.var 1)) (.int 0)) [.ret (.var 1)] []], .ret (.int 900)] [x0, .un] (fun r => match outR d__law_long r with | some (o, fs) => Ψ o fs | none => False)) : ∃ o fs, callL prog W (k + 1) (Str.ofString "_law_long") [x0] = some (o, fs) ∧ Ψ o fs := callL_at d__law_long f__law_long rfl hb
theorem f__law_letter : prog.find? (fun d => d.name == Str.ofString "_law_letter") = some d__law_letter := by rfl
theorem c__law_letter {W k : Nat} {x0 x1 : Slot} {o : Opd} {fs : List Slot} (hb : Goes (callL prog W k) W [.ret (.blt .sum [(.bin .add (.lst [(.int 0)]) (.lc [2] (.nm 2) (.rng [(.blt .len [(.var 0)])]) [] (.bin .shl (.bin .mod (.blt .int [(.bin .shr (.idx (.var 0) (.var 2)) (.var 1))]) (.int 2)) (.var 2))))])] [x0, x1, .un] (fun r => outR d__law_letter r = some (o, fs))) : callL prog W (k + 1) (Str.ofString "_law_letter") [x0, x1] = some (o, fs) := callL_eq d__law_letter f__law_letter rfl hb
theorem e__law_letter {W k : Nat} {x0 x1 : Slot} {Ψ : Opd → List Slot → Prop} (hb : Goes (callL prog W k) W [.ret (.blt .sum [(.bin .add (.lst [(.int 0)]) (.lc [2] (.nm 2) (.rng [(.blt .len [(.var 0)])]) [] (.bin .shl (.bin .mod (.blt .int [(.bin .shr (.idx (.var 0) (.var 2)) (.var 1))]) (.int 2)) (.var 2))))])] [x0, x1, .un] (fun r => match outR d__law_letter r with | some (o, fs) => Ψ o fs | none => False)) : ∃ o fs, callL prog W (k + 1) (Str.ofString "_law_letter") [x0, x1] = some (o, fs) ∧ Ψ o fs := callL_at d__law_letter f__law_letter rfl hb
theorem f__law_word : prog.find? (fun d => d.name == Str.ofString "_law_word") = some d__law_word := by rfl
theorem c__law_word {W k : Nat} {x0 : Slot} {o : Opd} {fs : List Slot} (hb : Goes (callL prog W k) W [.set 1 (.blt .max [(.bin .add (.lst [(.int 0)]) (.lc [2] (.nm 2) (.var 0) [] (.call (Str.ofString "_law_long") [(.var 2)])))]), .ret (.blt .tuple [(.lc [3] (.nm 3) (.rng [(.var 1)]) [] (.call (Str.ofString "_law_letter") [(.var 0), (.var 3)]))])] [x0, .un, .un, .un] (fun r => outR d__law_word r = some (o, fs))) : callL prog W (k + 1) (Str.ofString "_law_word") [x0] = some (o, fs) := callL_eq d__law_word f__law_word rfl hb
theorem e__law_word {W k : Nat} {x0 : Slot} {Ψ : Opd → List Slot → Prop} (hb : Goes (callL prog W k) W [.set 1 (.blt .max [(.bin .add (.lst [(.int 0)]) (.lc [2] (.nm 2) (.var 0) [] (.call (Str.ofString "_law_long") [(.var 2)])))]), .ret (.blt .tuple [(.lc [3] (.nm 3) (.rng [(.var 1)]) [] (.call (Str.ofString "_law_letter") [(.var 0), (.var 3)]))])] [x0, .un, .un, .un] (fun r => match outR d__law_word r with | some (o, fs) => Ψ o fs | none => False)) : ∃ o fs, callL prog W (k + 1) (Str.ofString "_law_word") [x0] = some (o, fs) ∧ Ψ o fs := callL_at d__law_word f__law_word rfl hb
theorem f__law_drawn_code : prog.find? (fun d => d.name == Str.ofString "_law_drawn_code") = some d__law_drawn_code := by rfl
theorem c__law_drawn_code {W k : Nat} {x0 x1 x2 : Slot} {o : Opd} {fs : List Slot} (hb : Goes (callL prog W k) W [.set 3 (.lc [4] (.nm 4) (.rng [(.var 2)]) [] (.call (Str.ofString "_law_take") [(.var 0), (.int 4)])), .set 5 (.sset (.var 3)), .set 6 (.lst []), .for (.nm 4) (.rng [(.bin .sub (.var 2) (.int 1))]) [.set 7 (.call (Str.ofString "_law_take") [(.var 0), (.int 5)]), .set 8 (.ite (.cmp .gt (.call (Str.ofString "_law_take") [(.var 0), (.int 4)]) (.int 0)) (.bin .mod (.bin .add (.bin .add (.var 4) (.int 1)) (.call (Str.ofString "_law_take") [(.var 0), (.int 3)])) (.var 2)) (.call (Str.ofString "_law_take") [(.var 0), (.var 2)])), .ite (.cmp .eq (.var 7) (.int 0)) [.expr (.mut .append 6 [(.tup [(.str (Str.ofString "read")), (.blt .tuple [(.lc [9] (.nm 9) (.rng [(.var 1)]) [] (.call (Str.ofString "_law_take") [(.var 0), (.var 2)]))]), (.var 8)])])] [.ite (.cmp .eq (.var 7) (.int 1)) [.expr (.mut .append 6 [(.tup [(.str (Str.ofString "put")), (.idx (.var 3) (.var 4)), (.var 8)])])] [.ite (.cmp .eq (.var 7) (.int 2)) [.expr (.mut .append 6 [(.tup [(.str (Str.ofString "take")), (.blt .tuple [(.lc [10] (.nm 10) (.var 5) [] (.tup [(.var 10), (.call (Str.ofString "_law_take") [(.var 0), (.var 2)])]))]), (.var 8)])])] [.ite (.cmp .eq (.var 7) (.int 3)) [.expr (.mut .append 6 [(.tup [(.str (Str.ofString "write")), (.call (Str.ofString "_law_take") [(.var 0), (.int 2)]), (.var 8)])])] [.expr (.mut .append 6 [(.idx (.lst [(.tup [(.str (Str.ofString "give"))]), (.tup [(.str (Str.ofString "none"))]), (.tup [(.str (Str.ofString "put")), (.idx (.var 3) (.var 4)), (.var 8)])]) (.call (Str.ofString "_law_take") [(.var 0), (.int 3)]))])]]]]], .ret (.bin .add (.blt .tuple [(.var 6)]) (.tup [(.tup [(.str (Str.ofString "give"))])]))] [x0, x1, x2, .un, .un, .un, .un, .un, .un, .un, .un] (fun r => outR d__law_drawn_code r = some (o, fs))) : callL prog W (k + 1) (Str.ofString "_law_drawn_code") [x0, x1, x2] = some (o, fs) := callL_eq d__law_drawn_code f__law_drawn_code rfl hb
theorem e__law_drawn_code {W k : Nat} {x0 x1 x2 : Slot} {Ψ : Opd → List Slot → Prop} (hb : Goes (callL prog W k) W [.set 3 (.lc [4] (.nm 4) (.rng [(.var 2)]) [] (.call (Str.ofString "_law_take") [(.var 0), (.int 4)])), .set 5 (.sset (.var 3)), .set 6 (.lst []), .for (.nm 4) (.rng [(.bin .sub (.var 2) (.int 1))]) [.set 7 (.call (Str.ofString "_law_take") [(.var 0), (.int 5)]), .set 8 (.ite (.cmp .gt (.call (Str.ofString "_law_take") [(.var 0), (.int 4)]) (.int 0)) (.bin .mod (.bin .add (.bin .add (.var 4) (.int 1)) (.call (Str.ofString "_law_take") [(.var 0), (.int 3)])) (.var 2)) (.call (Str.ofString "_law_take") [(.var 0), (.var 2)])), .ite (.cmp .eq (.var 7) (.int 0)) [.expr (.mut .append 6 [(.tup [(.str (Str.ofString "read")), (.blt .tuple [(.lc [9] (.nm 9) (.rng [(.var 1)]) [] (.call (Str.ofString "_law_take") [(.var 0), (.var 2)]))]), (.var 8)])])] [.ite (.cmp .eq (.var 7) (.int 1)) [.expr (.mut .append 6 [(.tup [(.str (Str.ofString "put")), (.idx (.var 3) (.var 4)), (.var 8)])])] [.ite (.cmp .eq (.var 7) (.int 2)) [.expr (.mut .append 6 [(.tup [(.str (Str.ofString "take")), (.blt .tuple [(.lc [10] (.nm 10) (.var 5) [] (.tup [(.var 10), (.call (Str.ofString "_law_take") [(.var 0), (.var 2)])]))]), (.var 8)])])] [.ite (.cmp .eq (.var 7) (.int 3)) [.expr (.mut .append 6 [(.tup [(.str (Str.ofString "write")), (.call (Str.ofString "_law_take") [(.var 0), (.int 2)]), (.var 8)])])] [.expr (.mut .append 6 [(.idx (.lst [(.tup [(.str (Str.ofString "give"))]), (.tup [(.str (Str.ofString "none"))]), (.tup [(.str (Str.ofString "put")), (.idx (.var 3) (.var 4)), (.var 8)])]) (.call (Str.ofString "_law_take") [(.var 0), (.int 3)]))])]]]]], .ret (.bin .add (.blt .tuple [(.var 6)]) (.tup [(.tup [(.str (Str.ofString "give"))])]))] [x0, x1, x2, .un, .un, .un, .un, .un, .un, .un, .un] (fun r => match outR d__law_drawn_code r with | some (o, fs) => Ψ o fs | none => False)) : ∃ o fs, callL prog W (k + 1) (Str.ofString "_law_drawn_code") [x0, x1, x2] = some (o, fs) ∧ Ψ o fs := callL_at d__law_drawn_code f__law_drawn_code rfl hb
theorem f__law_ways_in : prog.find? (fun d => d.name == Str.ofString "_law_ways_in") = some d__law_ways_in := by rfl
theorem c__law_ways_in {W k : Nat} {x0 : Slot} {o : Opd} {fs : List Slot} (hb : Goes (callL prog W k) W [.ite (.cmp .eq (.idx (.var 0) (.int 0)) (.str (Str.ofString "read"))) [.ret (.bin .add (.blt .list [(.idx (.var 0) (.int 1))]) (.lst [(.idx (.var 0) (.int 2))]))] [], .ite (.cmp .eq (.idx (.var 0) (.int 0)) (.str (Str.ofString "take"))) [.ret (.bin .add (.lc [1] (.nm 1) (.idx (.var 0) (.int 1)) [] (.idx (.var 1) (.int 1))) (.lst [(.idx (.var 0) (.int 2))]))] [], .ret (.ite (.cmp .isin (.idx (.var 0) (.int 0)) (.tup [(.str (Str.ofString "put")), (.str (Str.ofString "write"))])) (.lst [(.idx (.var 0) (.int 2))]) (.lst []))] [x0, .un] (fun r => outR d__law_ways_in r = some (o, fs))) : callL prog W (k + 1) (Str.ofString "_law_ways_in") [x0] = some (o, fs) := callL_eq d__law_ways_in f__law_ways_in rfl hb
theorem e__law_ways_in {W k : Nat} {x0 : Slot} {Ψ : Opd → List Slot → Prop} (hb : Goes (callL prog W k) W [.ite (.cmp .eq (.idx (.var 0) (.int 0)) (.str (Str.ofString "read"))) [.ret (.bin .add (.blt .list [(.idx (.var 0) (.int 1))]) (.lst [(.idx (.var 0) (.int 2))]))] [], .ite (.cmp .eq (.idx (.var 0) (.int 0)) (.str (Str.ofString "take"))) [.ret (.bin .add (.lc [1] (.nm 1) (.idx (.var 0) (.int 1)) [] (.idx (.var 1) (.int 1))) (.lst [(.idx (.var 0) (.int 2))]))] [], .ret (.ite (.cmp .isin (.idx (.var 0) (.int 0)) (.tup [(.str (Str.ofString "put")), (.str (Str.ofString "write"))])) (.lst [(.idx (.var 0) (.int 2))]) (.lst []))] [x0, .un] (fun r => match outR d__law_ways_in r with | some (o, fs) => Ψ o fs | none => False)) : ∃ o fs, callL prog W (k + 1) (Str.ofString "_law_ways_in") [x0] = some (o, fs) ∧ Ψ o fs := callL_at d__law_ways_in f__law_ways_in rfl hb
theorem f__law_code_states : prog.find? (fun d => d.name == Str.ofString "_law_code_states") = some d__law_code_states := by rfl
theorem c__law_code_states {W k : Nat} {x0 x1 x2 : Slot} {o : Opd} {fs : List Slot} (hb : Goes (callL prog W k) W [.unp [3, 4, 5, 6] (.tup [(.int 0), (.blt .tuple [(.var 1)]), (.tup []), (.tup [])]), .set 7 (.lst [(.tup [(.var 3), (.var 4), (.var 5), (.var 6)])]), .for (.nm 8) (.rng [(.var 2)]) [.set 9 (.idx (.var 0) (.var 3)), .ite (.cmp .eq (.idx (.var 9) (.int 0)) (.str (Str.ofString "give"))) [.ret (.tup [(.var 7), (.tup [(.bin .add (.var 8) (.int 1)), (.blt .sum [(.bin .add (.lst [(.int 0)]) (.lc [11] (.nm 11) (.rng [(.blt .len [(.var 6)])]) [] (.bin .shl (.idx (.var 6) (.var 11)) (.var 11))))])])])] [], .ite (.cmp .eq (.idx (.var 9) (.int 0)) (.str (Str.ofString "none"))) [.ret (.tup [(.var 7), (.tup [(.bin .add (.var 8) (.int 1)), .non])])] [], .ite (.and [(.cmp .eq (.idx (.var 9) (.int 0)) (.str (Str.ofString "read"))), (.cmp .gt (.blt .len [(.var 4)]) (.int 0))]) [.par 3 4 (.idx (.idx (.var 9) (.int 1)) (.idx (.var 4) (.int 0))) (.slc (.var 4) (.int 1) .non)] [.ite (.and [(.cmp .eq (.idx (.var 9) (.int 0)) (.str (Str.ofString "take"))), (.cmp .gt (.blt .len [(.var 5)]) (.int 0))]) [.unp [3, 5] (.tup [(.idx (.lc [10] (.nm 10) (.idx (.var 9) (.int 1)) [(.cmp .eq (.idx (.var 10) (.int 0)) (.idx (.var 5) (.neg (.int 1))))] (.idx (.var 10) (.int 1))) (.int 0)), (.slc (.var 5) .non (.neg (.int 1)))])] [.set 5 (.ite (.cmp .eq (.idx (.var 9) (.int 0)) (.str (Str.ofString "put"))) (.bin .add (.var 5) (.tup [(.idx (.var 9) (.int 1))])) (.var 5)), .set 6 (.ite (.cmp .eq (.idx (.var 9) (.int 0)) (.str (Str.ofString "write"))) (.bin .add (.tup [(.idx (.var 9) (.int 1))]) (.var 6)) (.var 6)), .set 3 (.idx (.var 9) (.int 2))]], .expr (.mut .append 7 [(.tup [(.var 3), (.var 4), (.var 5), (.var 6)])])], .ret (.tup [(.var 7), .non])] [x0, x1, x2, .un, .un, .un, .un, .un, .un, .un, .un, .un] (fun r => outR d__law_code_states r = some (o, fs))) : callL prog W (k + 1) (Str.ofString "_law_code_states") [x0, x1, x2] = some (o, fs) := callL_eq d__law_code_states f__law_code_states rfl hb
theorem e__law_code_states {W k : Nat} {x0 x1 x2 : Slot} {Ψ : Opd → List Slot → Prop} (hb : Goes (callL prog W k) W [.unp [3, 4, 5, 6] (.tup [(.int 0), (.blt .tuple [(.var 1)]), (.tup []), (.tup [])]), .set 7 (.lst [(.tup [(.var 3), (.var 4), (.var 5), (.var 6)])]), .for (.nm 8) (.rng [(.var 2)]) [.set 9 (.idx (.var 0) (.var 3)), .ite (.cmp .eq (.idx (.var 9) (.int 0)) (.str (Str.ofString "give"))) [.ret (.tup [(.var 7), (.tup [(.bin .add (.var 8) (.int 1)), (.blt .sum [(.bin .add (.lst [(.int 0)]) (.lc [11] (.nm 11) (.rng [(.blt .len [(.var 6)])]) [] (.bin .shl (.idx (.var 6) (.var 11)) (.var 11))))])])])] [], .ite (.cmp .eq (.idx (.var 9) (.int 0)) (.str (Str.ofString "none"))) [.ret (.tup [(.var 7), (.tup [(.bin .add (.var 8) (.int 1)), .non])])] [], .ite (.and [(.cmp .eq (.idx (.var 9) (.int 0)) (.str (Str.ofString "read"))), (.cmp .gt (.blt .len [(.var 4)]) (.int 0))]) [.par 3 4 (.idx (.idx (.var 9) (.int 1)) (.idx (.var 4) (.int 0))) (.slc (.var 4) (.int 1) .non)] [.ite (.and [(.cmp .eq (.idx (.var 9) (.int 0)) (.str (Str.ofString "take"))), (.cmp .gt (.blt .len [(.var 5)]) (.int 0))]) [.unp [3, 5] (.tup [(.idx (.lc [10] (.nm 10) (.idx (.var 9) (.int 1)) [(.cmp .eq (.idx (.var 10) (.int 0)) (.idx (.var 5) (.neg (.int 1))))] (.idx (.var 10) (.int 1))) (.int 0)), (.slc (.var 5) .non (.neg (.int 1)))])] [.set 5 (.ite (.cmp .eq (.idx (.var 9) (.int 0)) (.str (Str.ofString "put"))) (.bin .add (.var 5) (.tup [(.idx (.var 9) (.int 1))])) (.var 5)), .set 6 (.ite (.cmp .eq (.idx (.var 9) (.int 0)) (.str (Str.ofString "write"))) (.bin .add (.tup [(.idx (.var 9) (.int 1))]) (.var 6)) (.var 6)), .set 3 (.idx (.var 9) (.int 2))]], .expr (.mut .append 7 [(.tup [(.var 3), (.var 4), (.var 5), (.var 6)])])], .ret (.tup [(.var 7), .non])] [x0, x1, x2, .un, .un, .un, .un, .un, .un, .un, .un, .un] (fun r => match outR d__law_code_states r with | some (o, fs) => Ψ o fs | none => False)) : ∃ o fs, callL prog W (k + 1) (Str.ofString "_law_code_states") [x0, x1, x2] = some (o, fs) ∧ Ψ o fs := callL_at d__law_code_states f__law_code_states rfl hb
theorem f__law_is_refused : prog.find? (fun d => d.name == Str.ofString "_law_is_refused") = some d__law_is_refused := by rfl
theorem c__law_is_refused {W k : Nat} {x0 x1 : Slot} {o : Opd} {fs : List Slot} (hb : Goes (callL prog W k) W [.tryc (Str.ofString "check_letter_code") [(.var 0), (.var 1)] (Str.ofString "NumberError") [(Str.ofString "InvalidCode")] [(Str.ofString "InvalidCode")] (some 2) (.tests false [(true, [(Str.ofString "InvalidCode")], [(Str.ofString "InvalidCode")]), (true, [(Str.ofString "ValueError")], [(Str.ofString "InvalidCode")]), (false, [(Str.ofString "InvalidCell"), (Str.ofString "InvalidGates")], [])]), .ret (.bl false)] [x0, x1, .un] (fun r => outR d__law_is_refused r = some (o, fs))) : callL prog W (k + 1) (Str.ofString "_law_is_refused") [x0, x1] = some (o, fs) := callL_eq d__law_is_refused f__law_is_refused rfl hb
theorem e__law_is_refused {W k : Nat} {x0 x1 : Slot} {Ψ : Opd → List Slot → Prop} (hb : Goes (callL prog W k) W [.tryc (Str.ofString "check_letter_code") [(.var 0), (.var 1)] (Str.ofString "NumberError") [(Str.ofString "InvalidCode")] [(Str.ofString "InvalidCode")] (some 2) (.tests false [(true, [(Str.ofString "InvalidCode")], [(Str.ofString "InvalidCode")]), (true, [(Str.ofString "ValueError")], [(Str.ofString "InvalidCode")]), (false, [(Str.ofString "InvalidCell"), (Str.ofString "InvalidGates")], [])]), .ret (.bl false)] [x0, x1, .un] (fun r => match outR d__law_is_refused r with | some (o, fs) => Ψ o fs | none => False)) : ∃ o fs, callL prog W (k + 1) (Str.ofString "_law_is_refused") [x0, x1] = some (o, fs) ∧ Ψ o fs := callL_at d__law_is_refused f__law_is_refused rfl hb
theorem f__law_is_sound : prog.find? (fun d => d.name == Str.ofString "_law_is_sound") = some d__law_is_sound := by rfl
theorem c__law_is_sound {W k : Nat} {x0 x1 : Slot} {o : Opd} {fs : List Slot} (hb : Goes (callL prog W k) W [.set 2 (.lc [3] (.nm 3) (.var 0) [(.cmp .eq (.idx (.var 3) (.int 0)) (.str (Str.ofString "put")))] (.idx (.var 3) (.int 1))), .for (.nm 3) (.var 0) [.ite (.or [(.cmp .gt (.blt .len [(.lc [6] (.nm 6) (.call (Str.ofString "_law_ways_in") [(.var 3)]) [(.or [(.cmp .lt (.var 6) (.int 0)), (.cmp .ge (.var 6) (.blt .len [(.var 0)]))])] (.var 6))]) (.int 0)), (.and [(.cmp .eq (.idx (.var 3) (.int 0)) (.str (Str.ofString "read"))), (.cmp .ne (.blt .len [(.idx (.var 3) (.int 1))]) (.var 1))])]) [.ret (.bl false)] [], .set 4 (.ite (.cmp .eq (.idx (.var 3) (.int 0)) (.str (Str.ofString "take"))) (.lc [5] (.nm 5) (.idx (.var 3) (.int 1)) [] (.idx (.var 5) (.int 0))) (.lst [])), .ite (.or [(.cmp .ne (.var 4) (.sset (.var 4))), (.and [(.cmp .eq (.idx (.var 3) (.int 0)) (.str (Str.ofString "take"))), (.cmp .gt (.blt .len [(.lc [7] (.nm 7) (.var 2) [(.cmp .notin (.var 7) (.var 4))] (.var 7))]) (.int 0))]), (.and [(.cmp .eq (.idx (.var 3) (.int 0)) (.str (Str.ofString "write"))), (.cmp .notin (.idx (.var 3) (.int 1)) (.tup [(.int 0), (.int 1)]))])]) [.ret (.bl false)] []], .ret (.cmp .gt (.blt .len [(.var 0)]) (.int 0))] [x0, x1, .un, .un, .un, .un, .un, .un] (fun r => outR d__law_is_sound r = some (o, fs))) : callL prog W (k + 1) (Str.ofString "_law_is_sound") [x0, x1] = some (o, fs) := callL_eq d__law_is_sound f__law_is_sound rfl hb
theorem e__law_is_sound {W k : Nat} {x0 x1 : Slot} {Ψ : Opd → List Slot → Prop} (hb : Goes (callL prog W k) W [.set 2 (.lc [3] (.nm 3) (.var 0) [(.cmp .eq (.idx (.var 3) (.int 0)) (.str (Str.ofString "put")))] (.idx (.var 3) (.int 1))), .for (.nm 3) (.var 0) [.ite (.or [(.cmp .gt (.blt .len [(.lc [6] (.nm 6) (.call (Str.ofString "_law_ways_in") [(.var 3)]) [(.or [(.cmp .lt (.var 6) (.int 0)), (.cmp .ge (.var 6) (.blt .len [(.var 0)]))])] (.var 6))]) (.int 0)), (.and [(.cmp .eq (.idx (.var 3) (.int 0)) (.str (Str.ofString "read"))), (.cmp .ne (.blt .len [(.idx (.var 3) (.int 1))]) (.var 1))])]) [.ret (.bl false)] [], .set 4 (.ite (.cmp .eq (.idx (.var 3) (.int 0)) (.str (Str.ofString "take"))) (.lc [5] (.nm 5) (.idx (.var 3) (.int 1)) [] (.idx (.var 5) (.int 0))) (.lst [])), .ite (.or [(.cmp .ne (.var 4) (.sset (.var 4))), (.and [(.cmp .eq (.idx (.var 3) (.int 0)) (.str (Str.ofString "take"))), (.cmp .gt (.blt .len [(.lc [7] (.nm 7) (.var 2) [(.cmp .notin (.var 7) (.var 4))] (.var 7))]) (.int 0))]), (.and [(.cmp .eq (.idx (.var 3) (.int 0)) (.str (Str.ofString "write"))), (.cmp .notin (.idx (.var 3) (.int 1)) (.tup [(.int 0), (.int 1)]))])]) [.ret (.bl false)] []], .ret (.cmp .gt (.blt .len [(.var 0)]) (.int 0))] [x0, x1, .un, .un, .un, .un, .un, .un] (fun r => match outR d__law_is_sound r with | some (o, fs) => Ψ o fs | none => False)) : ∃ o fs, callL prog W (k + 1) (Str.ofString "_law_is_sound") [x0, x1] = some (o, fs) ∧ Ψ o fs := callL_at d__law_is_sound f__law_is_sound rfl hb
theorem f__law_altered : prog.find? (fun d => d.name == Str.ofString "_law_altered") = some d__law_altered := by rfl
theorem c__law_altered {W k : Nat} {x0 x1 : Slot} {o : Opd} {fs : List Slot} (hb : Goes (callL prog W k) W [.par 2 3 (.call (Str.ofString "_law_take") [(.var 0), (.blt .len [(.var 1)])]) (.blt .len [(.var 1)]), .set 4 (.idx (.var 1) (.var 2)), .set 5 (.idx (.lst [(.tup [(.str (Str.ofString "put")), (.int 9), (.int 0)]), (.tup [(.str (Str.ofString "write")), (.int 2), (.int 0)]), (.tup [(.str (Str.ofString "put")), (.int 0), (.var 3)]), (.tup [(.str (Str.ofString "write")), (.int 1), (.neg (.int 1))]), (.tup [(.str (Str.ofString "read")), (.tup [(.int 0)]), (.int 0)]), (.tup [(.str (Str.ofString "take")), (.tup []), (.int 0)]), (.tup [(.str (Str.ofString "take")), (.tup [(.tup [(.int 1), (.int 0)]), (.tup [(.int 0), (.int 0)])]), (.int 0)])]) (.call (Str.ofString "_law_take") [(.var 0), (.int 7)])), .ite (.and [(.cmp .eq (.idx (.var 4) (.int 0)) (.str (Str.ofString "take"))), (.cmp .eq (.call (Str.ofString "_law_take") [(.var 0), (.int 2)]) (.int 0))]) [.set 5 (.tup [(.str (Str.ofString "take")), (.slc (.idx (.var 4) (.int 1)) (.int 1) .non), (.idx (.var 4) (.int 2))])] [], .ret (.bin .add (.bin .add (.slc (.var 1) .non (.var 2)) (.tup [(.var 5)])) (.slc (.var 1) (.bin .add (.var 2) (.int 1)) .non))] [x0, x1, .un, .un, .un, .un] (fun r => outR d__law_altered r = some (o, fs))) : callL prog W (k + 1) (Str.ofString "_law_altered") [x0, x1] = some (o, fs) := callL_eq d__law_altered f__law_altered rfl hb
theorem e__law_altered {W k : Nat} {x0 x1 : Slot} {Ψ : Opd → List Slot → Prop} (hb : Goes (callL prog W k) W [.par 2 3 (.call (Str.ofString "_law_take") [(.var 0), (.blt .len [(.var 1)])]) (.blt .len [(.var 1)]), .set 4 (.idx (.var 1) (.var 2)), .set 5 (.idx (.lst [(.tup [(.str (Str.ofString "put")), (.int 9), (.int 0)]), (.tup [(.str (Str.ofString "write")), (.int 2), (.int 0)]), (.tup [(.str (Str.ofString "put")), (.int 0), (.var 3)]), (.tup [(.str (Str.ofString "write")), (.int 1), (.neg (.int 1))]), (.tup [(.str (Str.ofString "read")), (.tup [(.int 0)]), (.int 0)]), (.tup [(.str (Str.ofString "take")), (.tup []), (.int 0)]), (.tup [(.str (Str.ofString "take")), (.tup [(.tup [(.int 1), (.int 0)]), (.tup [(.int 0), (.int 0)])]), (.int 0)])]) (.call (Str.ofString "_law_take") [(.var 0), (.int 7)])), .ite (.and [(.cmp .eq (.idx (.var 4) (.int 0)) (.str (Str.ofString "take"))), (.cmp .eq (.call (Str.ofString "_law_take") [(.var 0), (.int 2)]) (.int 0))]) [.set 5 (.tup [(.str (Str.ofString "take")), (.slc (.idx (.var 4) (.int 1)) (.int 1) .non), (.idx (.var 4) (.int 2))])] [], .ret (.bin .add (.bin .add (.slc (.var 1) .non (.var 2)) (.tup [(.var 5)])) (.slc (.var 1) (.bin .add (.var 2) (.int 1)) .non))] [x0, x1, .un, .un, .un, .un] (fun r => match outR d__law_altered r with | some (o, fs) => Ψ o fs | none => False)) : ∃ o fs, callL prog W (k + 1) (Str.ofString "_law_altered") [x0, x1] = some (o, fs) ∧ Ψ o fs := callL_at d__law_altered f__law_altered rfl hb
theorem f__law_is_run : prog.find? (fun d => d.name == Str.ofString "_law_is_run") = some d__law_is_run := by rfl
theorem c__law_is_run {W k : Nat} {x0 x1 : Slot} {o : Opd} {fs : List Slot} (hb : Goes (callL prog W k) W [.unp [2, 3] (.call (Str.ofString "_law_code_states") [(.var 0), (.var 1), (.int 40)]), .set 4 (.call (Str.ofString "code_begun") [(.var 1)]), .for (.nm 5) (.var 2) [.ite (.not (.call (Str.ofString "_law_same") [(.var 4), (.var 5)])) [.ret (.bl false)] [], .set 4 (.call (Str.ofString "code_step") [(.var 0), (.var 4)])], .ite (.cmp .is (.var 3) .non) [.ret (.and [(.call (Str.ofString "_law_same") [(.call (Str.ofString "run_letter_code") [(.var 0), (.var 1), (.int 40)]), (.tup [(.str (Str.ofString "open")), (.int 40)])]), (.call (Str.ofString "_law_same") [(.call (Str.ofString "run_letter_code") [(.var 0), (.var 1), (.int 3)]), (.tup [(.str (Str.ofString "open")), (.int 3)])])])] [], .ite (.or [(.not (.call (Str.ofString "_law_same") [(.var 4), (.tup [(.str (Str.ofString "ended")), (.idx (.var 3) (.int 1))])])), (.not (.call (Str.ofString "_law_same") [(.call (Str.ofString "code_step") [(.var 0), (.var 4)]), (.tup [(.str (Str.ofString "ended")), (.idx (.var 3) (.int 1))])]))]) [.ret (.bl false)] [], .ite (.and [(.cmp .gt (.idx (.var 3) (.int 0)) (.int 1)), (.not (.call (Str.ofString "_law_same") [(.call (Str.ofString "run_letter_code") [(.var 0), (.var 1), (.bin .sub (.idx (.var 3) (.int 0)) (.int 1))]), (.tup [(.str (Str.ofString "open")), (.bin .sub (.idx (.var 3) (.int 0)) (.int 1))])]))]) [.ret (.bl false)] [], .ret (.call (Str.ofString "_law_same") [(.call (Str.ofString "run_letter_code") [(.var 0), (.var 1), (.idx (.var 3) (.int 0))]), (.tup [(.str (Str.ofString "ended")), (.idx (.var 3) (.int 0)), (.idx (.var 3) (.int 1))])])] [x0, x1, .un, .un, .un, .un] (fun r => outR d__law_is_run r = some (o, fs))) : callL prog W (k + 1) (Str.ofString "_law_is_run") [x0, x1] = some (o, fs) := callL_eq d__law_is_run f__law_is_run rfl hb
theorem e__law_is_run {W k : Nat} {x0 x1 : Slot} {Ψ : Opd → List Slot → Prop} (hb : Goes (callL prog W k) W [.unp [2, 3] (.call (Str.ofString "_law_code_states") [(.var 0), (.var 1), (.int 40)]), .set 4 (.call (Str.ofString "code_begun") [(.var 1)]), .for (.nm 5) (.var 2) [.ite (.not (.call (Str.ofString "_law_same") [(.var 4), (.var 5)])) [.ret (.bl false)] [], .set 4 (.call (Str.ofString "code_step") [(.var 0), (.var 4)])], .ite (.cmp .is (.var 3) .non) [.ret (.and [(.call (Str.ofString "_law_same") [(.call (Str.ofString "run_letter_code") [(.var 0), (.var 1), (.int 40)]), (.tup [(.str (Str.ofString "open")), (.int 40)])]), (.call (Str.ofString "_law_same") [(.call (Str.ofString "run_letter_code") [(.var 0), (.var 1), (.int 3)]), (.tup [(.str (Str.ofString "open")), (.int 3)])])])] [], .ite (.or [(.not (.call (Str.ofString "_law_same") [(.var 4), (.tup [(.str (Str.ofString "ended")), (.idx (.var 3) (.int 1))])])), (.not (.call (Str.ofString "_law_same") [(.call (Str.ofString "code_step") [(.var 0), (.var 4)]), (.tup [(.str (Str.ofString "ended")), (.idx (.var 3) (.int 1))])]))]) [.ret (.bl false)] [], .ite (.and [(.cmp .gt (.idx (.var 3) (.int 0)) (.int 1)), (.not (.call (Str.ofString "_law_same") [(.call (Str.ofString "run_letter_code") [(.var 0), (.var 1), (.bin .sub (.idx (.var 3) (.int 0)) (.int 1))]), (.tup [(.str (Str.ofString "open")), (.bin .sub (.idx (.var 3) (.int 0)) (.int 1))])]))]) [.ret (.bl false)] [], .ret (.call (Str.ofString "_law_same") [(.call (Str.ofString "run_letter_code") [(.var 0), (.var 1), (.idx (.var 3) (.int 0))]), (.tup [(.str (Str.ofString "ended")), (.idx (.var 3) (.int 0)), (.idx (.var 3) (.int 1))])])] [x0, x1, .un, .un, .un, .un] (fun r => match outR d__law_is_run r with | some (o, fs) => Ψ o fs | none => False)) : ∃ o fs, callL prog W (k + 1) (Str.ofString "_law_is_run") [x0, x1] = some (o, fs) ∧ Ψ o fs := callL_at d__law_is_run f__law_is_run rfl hb
theorem f_law : prog.find? (fun d => d.name == Str.ofString "law") = some d_law := by rfl
theorem c_law {W k : Nat} {x0 : Slot} {o : Opd} {fs : List Slot} (hb : Goes (callL prog W k) W [.set 1 (.call (Str.ofString "_law_draws") [(.var 0), (.int 160)]), .set 2 (.bin .add (.int 1) (.call (Str.ofString "_law_take") [(.var 1), (.int 2)])), .set 3 (.bin .shl (.int 1) (.var 2)), .set 4 (.call (Str.ofString "_law_drawn_code") [(.var 1), (.var 3), (.bin .add (.int 2) (.call (Str.ofString "_law_take") [(.var 1), (.int 7)]))]), .ite (.or [(.cmp .isnot (.call (Str.ofString "check_letter_code") [(.var 4), (.var 3)]) .non), (.not (.call (Str.ofString "_law_is_sound") [(.var 4), (.var 3)]))]) [.ret (.bl false)] [], .ite (.not (.call (Str.ofString "_law_same") [(.call (Str.ofString "numbers_put") [(.var 4)]), (.blt .tuple [(.sset (.lc [5] (.nm 5) (.var 4) [(.cmp .eq (.idx (.var 5) (.int 0)) (.str (Str.ofString "put")))] (.idx (.var 5) (.int 1))))])])) [.ret (.bl false)] [], .ite (.not (.call (Str.ofString "_law_same") [(.blt .tuple [(.lc [5] (.nm 5) (.var 4) [] (.call (Str.ofString "ways_of_instruction") [(.var 5)]))]), (.blt .tuple [(.lc [5] (.nm 5) (.var 4) [] (.blt .tuple [(.sset (.call (Str.ofString "_law_ways_in") [(.var 5)]))]))])])) [.ret (.bl false)] [], .for (.nm 6) (.rng [(.int 3)]) [.set 7 (.blt .tuple [(.lc [9] (.nm 9) (.rng [(.var 2)]) [] (.call (Str.ofString "_law_take") [(.var 1), (.int 20)]))]), .ite (.not (.call (Str.ofString "_law_is_run") [(.var 4), (.call (Str.ofString "_law_word") [(.var 7)])])) [.ret (.bl false)] [], .set 8 (.idx (.call (Str.ofString "_law_code_states") [(.var 4), (.call (Str.ofString "_law_word") [(.var 7)]), (.int 40)]) (.int 1)), .ite (.and [(.cmp .isnot (.var 8) .non), (.not (.call (Str.ofString "_law_same") [(.call (Str.ofString "code_number") [(.var 4), (.var 2), (.var 7)]), (.idx (.var 8) (.int 1))]))]) [.ret (.bl false)] []], .for (.nm 6) (.rng [(.int 5)]) [.set 10 (.call (Str.ofString "_law_altered") [(.var 1), (.var 4)]), .ite (.or [(.and [(.call (Str.ofString "_law_is_sound") [(.var 10), (.var 3)]), (.cmp .isnot (.call (Str.ofString "check_letter_code") [(.var 10), (.var 3)]) .non)]), (.and [(.not (.call (Str.ofString "_law_is_sound") [(.var 10), (.var 3)])), (.not (.call (Str.ofString "_law_is_refused") [(.var 10), (.var 3)]))])]) [.ret (.bl false)] []], .set 11 (.blt .len [(.lc [5] (.nm 5) (.var 4) [(.cmp .eq (.idx (.var 5) (.int 0)) (.str (Str.ofString "read")))] (.var 5))]), .ite (.or [(.not (.call (Str.ofString "_law_same") [(.call (Str.ofString "_law_is_refused") [(.var 4), (.bin .add (.var 3) (.int 1))]), (.cmp .gt (.var 11) (.int 0))])), (.not (.call (Str.ofString "_law_is_refused") [(.tup []), (.int 2)]))]) [.ret (.bl false)] [], .set 12 (.tup [(.tup [(.str (Str.ofString "read")), (.tup [(.int 1), (.int 2)]), (.int 3)]), (.tup [(.str (Str.ofString "put")), (.int 0), (.int 0)]), (.tup [(.str (Str.ofString "put")), (.int 1), (.int 0)]), (.tup [(.str (Str.ofString "take")), (.tup [(.tup [(.int 0), (.int 4)]), (.tup [(.int 1), (.int 5)])]), (.int 6)]), (.tup [(.str (Str.ofString "write")), (.int 0), (.int 3)]), (.tup [(.str (Str.ofString "write")), (.int 1), (.int 3)]), (.tup [(.str (Str.ofString "give"))])]), .ite (.or [(.not (.call (Str.ofString "_law_same") [(.call (Str.ofString "run_letter_code") [(.var 12), (.tup [(.int 0), (.int 1), (.int 1)]), (.int 20)]), (.tup [(.str (Str.ofString "ended")), (.int 15), (.int 6)])])), (.not (.call (Str.ofString "_law_same") [(.call (Str.ofString "code_number") [(.var 12), (.int 1), (.tup [(.int 11)])]), (.int 11)]))]) [.ret (.bl false)] [], .ret (.and [(.call (Str.ofString "_law_same") [(.call (Str.ofString "code_step") [(.var 12), (.tup [(.int 3), (.tup []), (.tup [(.int 0), (.int 1)]), (.tup [(.int 1)])])]), (.tup [(.int 5), (.tup []), (.tup [(.int 0)]), (.tup [(.int 1)])])]), (.call (Str.ofString "_law_same") [(.call (Str.ofString "run_letter_code") [(.tup [(.tup [(.str (Str.ofString "none"))])]), (.tup []), (.int 1)]), (.tup [(.str (Str.ofString "ended")), (.int 1), .non])])])] [x0, .un, .un, .un, .un, .un, .un, .un, .un, .un, .un, .un, .un] (fun r => outR d_law r = some (o, fs))) : callL prog W (k + 1) (Str.ofString "law") [x0] = some (o, fs) := callL_eq d_law f_law rfl hb
theorem e_law {W k : Nat} {x0 : Slot} {Ψ : Opd → List Slot → Prop} (hb : Goes (callL prog W k) W [.set 1 (.call (Str.ofString "_law_draws") [(.var 0), (.int 160)]), .set 2 (.bin .add (.int 1) (.call (Str.ofString "_law_take") [(.var 1), (.int 2)])), .set 3 (.bin .shl (.int 1) (.var 2)), .set 4 (.call (Str.ofString "_law_drawn_code") [(.var 1), (.var 3), (.bin .add (.int 2) (.call (Str.ofString "_law_take") [(.var 1), (.int 7)]))]), .ite (.or [(.cmp .isnot (.call (Str.ofString "check_letter_code") [(.var 4), (.var 3)]) .non), (.not (.call (Str.ofString "_law_is_sound") [(.var 4), (.var 3)]))]) [.ret (.bl false)] [], .ite (.not (.call (Str.ofString "_law_same") [(.call (Str.ofString "numbers_put") [(.var 4)]), (.blt .tuple [(.sset (.lc [5] (.nm 5) (.var 4) [(.cmp .eq (.idx (.var 5) (.int 0)) (.str (Str.ofString "put")))] (.idx (.var 5) (.int 1))))])])) [.ret (.bl false)] [], .ite (.not (.call (Str.ofString "_law_same") [(.blt .tuple [(.lc [5] (.nm 5) (.var 4) [] (.call (Str.ofString "ways_of_instruction") [(.var 5)]))]), (.blt .tuple [(.lc [5] (.nm 5) (.var 4) [] (.blt .tuple [(.sset (.call (Str.ofString "_law_ways_in") [(.var 5)]))]))])])) [.ret (.bl false)] [], .for (.nm 6) (.rng [(.int 3)]) [.set 7 (.blt .tuple [(.lc [9] (.nm 9) (.rng [(.var 2)]) [] (.call (Str.ofString "_law_take") [(.var 1), (.int 20)]))]), .ite (.not (.call (Str.ofString "_law_is_run") [(.var 4), (.call (Str.ofString "_law_word") [(.var 7)])])) [.ret (.bl false)] [], .set 8 (.idx (.call (Str.ofString "_law_code_states") [(.var 4), (.call (Str.ofString "_law_word") [(.var 7)]), (.int 40)]) (.int 1)), .ite (.and [(.cmp .isnot (.var 8) .non), (.not (.call (Str.ofString "_law_same") [(.call (Str.ofString "code_number") [(.var 4), (.var 2), (.var 7)]), (.idx (.var 8) (.int 1))]))]) [.ret (.bl false)] []], .for (.nm 6) (.rng [(.int 5)]) [.set 10 (.call (Str.ofString "_law_altered") [(.var 1), (.var 4)]), .ite (.or [(.and [(.call (Str.ofString "_law_is_sound") [(.var 10), (.var 3)]), (.cmp .isnot (.call (Str.ofString "check_letter_code") [(.var 10), (.var 3)]) .non)]), (.and [(.not (.call (Str.ofString "_law_is_sound") [(.var 10), (.var 3)])), (.not (.call (Str.ofString "_law_is_refused") [(.var 10), (.var 3)]))])]) [.ret (.bl false)] []], .set 11 (.blt .len [(.lc [5] (.nm 5) (.var 4) [(.cmp .eq (.idx (.var 5) (.int 0)) (.str (Str.ofString "read")))] (.var 5))]), .ite (.or [(.not (.call (Str.ofString "_law_same") [(.call (Str.ofString "_law_is_refused") [(.var 4), (.bin .add (.var 3) (.int 1))]), (.cmp .gt (.var 11) (.int 0))])), (.not (.call (Str.ofString "_law_is_refused") [(.tup []), (.int 2)]))]) [.ret (.bl false)] [], .set 12 (.tup [(.tup [(.str (Str.ofString "read")), (.tup [(.int 1), (.int 2)]), (.int 3)]), (.tup [(.str (Str.ofString "put")), (.int 0), (.int 0)]), (.tup [(.str (Str.ofString "put")), (.int 1), (.int 0)]), (.tup [(.str (Str.ofString "take")), (.tup [(.tup [(.int 0), (.int 4)]), (.tup [(.int 1), (.int 5)])]), (.int 6)]), (.tup [(.str (Str.ofString "write")), (.int 0), (.int 3)]), (.tup [(.str (Str.ofString "write")), (.int 1), (.int 3)]), (.tup [(.str (Str.ofString "give"))])]), .ite (.or [(.not (.call (Str.ofString "_law_same") [(.call (Str.ofString "run_letter_code") [(.var 12), (.tup [(.int 0), (.int 1), (.int 1)]), (.int 20)]), (.tup [(.str (Str.ofString "ended")), (.int 15), (.int 6)])])), (.not (.call (Str.ofString "_law_same") [(.call (Str.ofString "code_number") [(.var 12), (.int 1), (.tup [(.int 11)])]), (.int 11)]))]) [.ret (.bl false)] [], .ret (.and [(.call (Str.ofString "_law_same") [(.call (Str.ofString "code_step") [(.var 12), (.tup [(.int 3), (.tup []), (.tup [(.int 0), (.int 1)]), (.tup [(.int 1)])])]), (.tup [(.int 5), (.tup []), (.tup [(.int 0)]), (.tup [(.int 1)])])]), (.call (Str.ofString "_law_same") [(.call (Str.ofString "run_letter_code") [(.tup [(.tup [(.str (Str.ofString "none"))])]), (.tup []), (.int 1)]), (.tup [(.str (Str.ofString "ended")), (.int 1), .non])])])] [x0, .un, .un, .un, .un, .un, .un, .un, .un, .un, .un, .un, .un] (fun r => match outR d_law r with | some (o, fs) => Ψ o fs | none => False)) : ∃ o fs, callL prog W (k + 1) (Str.ofString "law") [x0] = some (o, fs) ∧ Ψ o fs := callL_at d_law f_law rfl hb
end K62
namespace K62
open PySem PF
variable {W : Nat}
theorem r2 : List.range 2 = [0, 1] := rfl
theorem rep_bits (i : Nat) : (List.replicate i [D.int 0]).flatten = bits (List.replicate i 0) := by
  induction i with
  | zero => rfl
  | succ i ih => rw [List.replicate_succ, List.flatten_cons, ih]; rfl
theorem pow_le2 {a b : Nat} (h : a ≤ b) : 2 ^ a ≤ 2 ^ b := Nat.pow_le_pow_right (by decide) h
theorem same_int (k : Nat) (n : Int) : callL prog W (k + 1) (Str.ofString "_law_same") [.val (.int n), .val (.int n)] = some (.dat (.bl true), [.val (.int n), .val (.int n)]) := by
  refine c__law_same ?_
  simp [Goes, outR, exs, ex, ev, evds, evs, evAnd, evOr, look, fin, view, views, cm, D.plain, wantsM, isSeq, sameQ, truth, mutD, toD, op2, store, aug2, giveOut, finals, lend, PF.giveBack, bltD, isiD, kd, isK, idxD, mthD, b2i, itemsOf, bindT, Md.tv, setAll, revD, part, slcD, shp_int, shp_bl, deq_int, deq_bl, shp_non, rg1, rg2, rg3, rg4, ln1, ln2, ln3, ln4, d__law_same]
theorem same_bl (k : Nat) (n : Bool) : callL prog W (k + 1) (Str.ofString "_law_same") [.val (.bl n), .val (.bl n)] = some (.dat (.bl true), [.val (.bl n), .val (.bl n)]) := by
  refine c__law_same ?_
  simp [Goes, outR, exs, ex, ev, evds, evs, evAnd, evOr, look, fin, view, views, cm, D.plain, wantsM, isSeq, sameQ, truth, mutD, toD, op2, store, aug2, giveOut, finals, lend, PF.giveBack, bltD, isiD, kd, isK, idxD, mthD, b2i, itemsOf, bindT, Md.tv, setAll, revD, part, slcD, shp_int, shp_bl, deq_int, deq_bl, shp_non, rg1, rg2, rg3, rg4, ln1, ln2, ln3, ln4, d__law_same]
theorem take_ok (k : Nat) (l : List Int) (m : Nat) (hm : 0 < m) : ∃ (v : Nat) (l' : List Int), v < m ∧ callL prog W (k + 1) (Str.ofString "_law_take") [.own (.lst (l.map .int)), .val (nt m)] = some (.dat (nt v), [.own (.lst (l'.map .int)), .val (nt m)]) := by
  cases h : l.getLast? with
  | none =>
    have : l = [] := List.getLast?_eq_none_iff.mp h
    subst this
    refine ⟨0, [], hm, ?_⟩
    refine c__law_take ?_
    simp [Goes, outR, exs, ex, ev, evds, evs, evAnd, evOr, look, fin, view, views, cm, D.plain, wantsM, isSeq, sameQ, truth, mutD, toD, op2, store, aug2, giveOut, finals, lend, PF.giveBack, bltD, isiD, kd, isK, idxD, mthD, b2i, itemsOf, bindT, Md.tv, setAll, revD, part, slcD, shp_int, shp_bl, deq_int, deq_bl, shp_non, rg1, rg2, rg3, rg4, ln1, ln2, ln3, ln4, d__law_take]
  | some y =>
    have hne : l ≠ [] := fun z => by subst z; cases h
    have hlen : ¬ ((l.length : Int) = 0) := by
      have := List.length_pos_iff.mpr hne; omega
    refine ⟨(y % m).toNat, l.dropLast, ?_, ?_⟩
    · have := Int.emod_lt_of_pos y (show (0 : Int) < m by omega)
      omega
    · refine c__law_take ?_
      have e : (((y % m).toNat : Nat) : Int) = y % m := by
        have := Int.emod_nonneg y (show (m : Int) ≠ 0 by omega)
        omega
      simp [Goes, outR, exs, ex, ev, evds, evs, evAnd, evOr, look, fin, view, views, cm, D.plain, wantsM, isSeq, sameQ, truth, mutD, toD, op2, store, aug2, giveOut, finals, lend, PF.giveBack, bltD, isiD, kd, isK, idxD, mthD, b2i, itemsOf, bindT, Md.tv, setAll, revD, part, slcD, shp_int, shp_bl, deq_int, deq_bl, shp_non, rg1, rg2, rg3, rg4, ln1, ln2, ln3, ln4, d__law_take, hne, h, hm, e, List.map_dropLast]
theorem take_z (k : Nat) (l : List Int) (m : Int) (hm : 0 < m) : ∃ (v : Nat) (l' : List Int), (v : Int) < m ∧ callL prog W (k + 1) (Str.ofString "_law_take") [.own (.lst (l.map .int)), .val (.int m)] = some (.dat (.int v), [.own (.lst (l'.map .int)), .val (.int m)]) := by
  obtain ⟨v, l', h1, h2⟩ := take_ok (W := W) k l m.toNat (by omega)
  have e : ((m.toNat : Nat) : Int) = m := by omega
  refine ⟨v, l', by omega, ?_⟩
  rw [nt, e] at h2
  exact h2
theorem draws_ok (k : Nat) (ns : List Int) (hl : ns.length ≤ 63) : ∃ l : List Int, callL prog W (k + 1) (Str.ofString "_law_draws") [.val (.lst (zs ns)), .val (.int 160)] = some (.own (.lst (zs l)), [.val (.lst (zs ns)), .val (.int 160)]) := by
  suffices H : ∃ o fs, callL prog W (k + 1) (Str.ofString "_law_draws") [.val (.lst (zs ns)), .val (.int 160)] = some (o, fs) ∧ ∃ l : List Int, o = .own (.lst (zs l)) ∧ fs = [.val (.lst (zs ns)), .val (.int 160)] by
    obtain ⟨o, fs, e, l, rfl, rfl⟩ := H
    exact ⟨l, e⟩
  refine e__law_draws ?_
  obtain ⟨ds, env', ⟨x, rfl, hds⟩, e⟩ := ev_lc (c := callL prog W k) (own := [3]) (tg := .nm 3) (src := .var 0) (elt := (.blt .int [(.var 3)])) (cond := []) (env := [.val (.lst (zs ns)), .val (.int 160), .un, .un, .un, .un, .un, .un, .un])
    (zs ns) [.val (.lst (zs ns)), .val (.int 160), .un, .un, .un, .un, .un, .un, .un] (fun i ds env => ∃ x, env = [.val (.lst (zs ns)), .val (.int 160), .un, x, .un, .un, .un, .un, .un] ∧ ds = zs (ns.take i))
    (by simp [exs, ex, ev, evds, evs, evAnd, evOr, look, fin, view, views, cm, D.plain, wantsM, isSeq, sameQ, truth, mutD, toD, op2, store, aug2, giveOut, finals, lend, PF.giveBack, bltD, isiD, kd, isK, idxD, mthD, b2i, itemsOf, bindT, Md.tv, setAll, revD, part, slcD, shp_int, shp_bl, deq_int, deq_bl, shp_non, rg1, rg2, rg3, rg4, ln1, ln2, ln3, ln4]) ⟨.un, rfl, by simp⟩ (fun i x ds env hx ⟨y, he, hd⟩ => by
      rw [List.getElem?_map] at hx
      have hi : i < ns.length := by
        by_cases hi : i < ns.length
        · exact hi
        · rw [List.getElem?_eq_none (by omega)] at hx; cases hx
      rw [List.getElem?_eq_getElem hi] at hx
      cases hx
      subst he
      subst hd
      refine ⟨some (.int ns[i]), _, ?_, .val (.int ns[i]), rfl, ?_⟩
      · simp [lcT, wipeE, exs, ex, ev, evds, evs, evAnd, evOr, look, fin, view, views, cm, D.plain, wantsM, isSeq, sameQ, truth, mutD, toD, op2, store, aug2, giveOut, finals, lend, PF.giveBack, bltD, isiD, kd, isK, idxD, mthD, b2i, itemsOf, bindT, Md.tv, setAll, revD, part, slcD, shp_int, shp_bl, deq_int, deq_bl, shp_non, rg1, rg2, rg3, rg4, ln1, ln2, ln3, ln4]
      · show (ns.take i).map D.int ++ [D.int ns[i]] = (ns.take (i + 1)).map D.int
        rw [List.take_add_one, List.getElem?_eq_getElem hi, List.map_append]; rfl)
  have hln : ds.length ≤ line := by rw [hds]; simp; unfold line; omega
  have e2 := e hln
  rw [hds] at e2
  simp at e2
  refine go_step [.val (.lst (zs ns)), .val (.int 160), .own (.lst (zs ns)), .un, .un, .un, .un, .un, .un] (by
    generalize E.lc [3] (.nm 3) (.var 0) [] (.blt .int [(.var 3)]) = q at e2 ⊢
    simp [exs, ex, ev, evds, evs, evAnd, evOr, look, fin, view, views, cm, D.plain, wantsM, isSeq, sameQ, truth, mutD, toD, op2, store, aug2, giveOut, finals, lend, PF.giveBack, bltD, isiD, kd, isK, idxD, mthD, b2i, itemsOf, bindT, Md.tv, setAll, revD, part, slcD, shp_int, shp_bl, deq_int, deq_bl, shp_non, rg1, rg2, rg3, rg4, ln1, ln2, ln3, ln4, e2, backE]) ?_
  have key : ∀ C : List Int, C ≠ [] → Goes (callL prog W k) W [.set 4 (.blt .list [(.var 2)]), .set 5 (.lst []), .for (.nm 6) (.rng [(.var 1)]) [.set 7 (.bin .mod (.var 6) (.blt .len [(.var 2)])), .ite (.and [(.cmp .ge (.idx (.var 2) (.var 7)) (.bin .pow (.int 10) (.int 18))), (.cmp .gt (.idx (.var 4) (.var 7)) (.int 0))]) [.expr (.mut .append 5 [(.bin .mod (.blt .int [(.idx (.var 4) (.var 7))]) (.int 1000))]), .sub 4 (.var 7) (.bin .fdiv (.idx (.var 4) (.var 7)) (.int 1000))] [.set 8 (.bin .mod (.blt .int [(.bin .add (.bin .add (.bin .mul (.idx (.var 2) (.var 7)) (.int 48271)) (.bin .mul (.var 6) (.int 69621))) (.int 11))]) (.int 2147483647)), .expr (.mut .append 5 [(.bin .mod (.blt .int [(.bin .add (.bin .add (.bin .mul (.var 8) (.var 8)) (.bin .mul (.int 3) (.var 8))) (.var 6))]) (.int 1000003))])]], .expr (.mut .reverse 5 []), .ret (.var 5)]
      [.val (.lst (zs ns)), .val (.int 160), .own (.lst (zs C)), .un, .un, .un, .un, .un, .un] (fun r => match outR d__law_draws r with | some (o, fs) => ∃ l : List Int, o = .own (.lst (zs l)) ∧ fs = [.val (.lst (zs ns)), .val (.int 160)] | none => False) := by
    intro C hC
    have hCl : 0 < C.length := List.length_pos_iff.mpr hC
    refine go_step [.val (.lst (zs ns)), .val (.int 160), .own (.lst (zs C)), .un, .own (.lst (zs C)), .un, .un, .un, .un] (by simp [exs, ex, ev, evds, evs, evAnd, evOr, look, fin, view, views, cm, D.plain, wantsM, isSeq, sameQ, truth, mutD, toD, op2, store, aug2, giveOut, finals, lend, PF.giveBack, bltD, isiD, kd, isK, idxD, mthD, b2i, itemsOf, bindT, Md.tv, setAll, revD, part, slcD, shp_int, shp_bl, deq_int, deq_bl, shp_non, rg1, rg2, rg3, rg4, ln1, ln2, ln3, ln4]) ?_
    refine go_step [.val (.lst (zs ns)), .val (.int 160), .own (.lst (zs C)), .un, .own (.lst (zs C)), .own (.lst (zs [])), .un, .un, .un] (by simp [exs, ex, ev, evds, evs, evAnd, evOr, look, fin, view, views, cm, D.plain, wantsM, isSeq, sameQ, truth, mutD, toD, op2, store, aug2, giveOut, finals, lend, PF.giveBack, bltD, isiD, kd, isK, idxD, mthD, b2i, itemsOf, bindT, Md.tv, setAll, revD, part, slcD, shp_int, shp_bl, deq_int, deq_bl, shp_non, rg1, rg2, rg3, rg4, ln1, ln2, ln3, ln4]) ?_
    refine go_for ((List.range 160).map nt) [.val (.lst (zs ns)), .val (.int 160), .own (.lst (zs C)), .un, .own (.lst (zs C)), .own (.lst (zs [])), .un, .un, .un]
      (fun i env => ∃ (R Dd : List Int) (x6 x7 x8 : Slot), env = [.val (.lst (zs ns)), .val (.int 160), .own (.lst (zs C)), .un, .own (.lst (zs R)), .own (.lst (zs Dd)), x6, x7, x8] ∧ R.length = C.length ∧ Dd.length = i)
      (ev_rng (ds := [nt 160]) (by simp [exs, ex, ev, evds, evs, evAnd, evOr, look, fin, view, views, cm, D.plain, wantsM, isSeq, sameQ, truth, mutD, toD, op2, store, aug2, giveOut, finals, lend, PF.giveBack, bltD, isiD, kd, isK, idxD, mthD, b2i, itemsOf, bindT, Md.tv, setAll, revD, part, slcD, shp_int, shp_bl, deq_int, deq_bl, shp_non, rg1, rg2, rg3, rg4, ln1, ln2, ln3, ln4, nt]) (rng_nat _ (by decide))) ⟨C, [], .un, .un, .un, rfl, rfl, rfl⟩ (fun i x env hx ⟨R, Dd, x6, x7, x8, he, h1, h2⟩ => ?_) fun env ⟨R, Dd, x6, x7, x8, he, h1, h2⟩ => ?_
    · obtain ⟨hi, rfl⟩ := xs_at hx
      subst he
      refine ⟨_, rfl, ?_⟩
      have hj : i % C.length < C.length := Nat.mod_lt _ hCl
      have hj2 : i % C.length < R.length := by omega
      have hp : (0 : Int) < C.length := by omega
      have hln : Dd.length < line := by unfold line; omega
      refine go_step [.val (.lst (zs ns)), .val (.int 160), .own (.lst (zs C)), .un, .own (.lst (zs R)), .own (.lst (zs Dd)), .val (nt i), .val (nt (i % C.length)), x8] (by simp [exs, ex, ev, evds, evs, evAnd, evOr, look, fin, view, views, cm, D.plain, wantsM, isSeq, sameQ, truth, mutD, toD, op2, store, aug2, giveOut, finals, lend, PF.giveBack, bltD, isiD, kd, isK, idxD, mthD, b2i, itemsOf, bindT, Md.tv, setAll, revD, part, slcD, shp_int, shp_bl, deq_int, deq_bl, shp_non, rg1, rg2, rg3, rg4, ln1, ln2, ln3, ln4, hCl]) ?_
      generalize i % C.length = j at *
      have a1 := atD_zs hj
      have a2 := atD_zs hj2
      generalize C[j]?.getD 0 = cv at *
      generalize hrv : R[j]?.getD 0 = rv at *
      have other : Goes (callL prog W k) W [.set 8 (.bin .mod (.blt .int [(.bin .add (.bin .add (.bin .mul (.idx (.var 2) (.var 7)) (.int 48271)) (.bin .mul (.var 6) (.int 69621))) (.int 11))]) (.int 2147483647)), .expr (.mut .append 5 [(.bin .mod (.blt .int [(.bin .add (.bin .add (.bin .mul (.var 8) (.var 8)) (.bin .mul (.int 3) (.var 8))) (.var 6))]) (.int 1000003))])]
          [.val (.lst (zs ns)), .val (.int 160), .own (.lst (zs C)), .un, .own (.lst (zs R)), .own (.lst (zs Dd)), .val (nt i), .val (nt j), x8] (fun r => ∃ (D2 : List Int) (x8 : Slot), r = .nx [.val (.lst (zs ns)), .val (.int 160), .own (.lst (zs C)), .un, .own (.lst (zs R)), .own (.lst (zs D2)), .val (nt i), .val (nt j), x8] ∧ D2.length = i + 1) := by
        have hs := small_mod (cv * 48271 + i * 69621 + 11)
        refine go_step [.val (.lst (zs ns)), .val (.int 160), .own (.lst (zs C)), .un, .own (.lst (zs R)), .own (.lst (zs Dd)), .val (nt i), .val (nt j), .val (.int ((cv * 48271 + i * 69621 + 11) % 2147483647))] (ex8 _ 48271 69621 11 2147483647 cv i j _ _ _ _ _ _ _ (by decide) (by decide) (by decide) a1) ?_
        generalize (cv * 48271 + i * 69621 + 11) % 2147483647 = o at *
        simp [Goes, exs, ex, ev, evds, evs, evAnd, evOr, look, fin, view, views, cm, D.plain, wantsM, isSeq, sameQ, truth, mutD, toD, op2, store, aug2, giveOut, finals, lend, PF.giveBack, bltD, isiD, kd, isK, idxD, mthD, b2i, itemsOf, bindT, Md.tv, setAll, revD, part, slcD, shp_int, shp_bl, deq_int, deq_bl, shp_non, rg1, rg2, rg3, rg4, ln1, ln2, ln3, ln4, hs, hln, show small64 3 = true by decide]
        exact ⟨Dd ++ [(o * o + 3 * o + i) % 1000003], by simp, by simp [h2]⟩
      by_cases hc1 : (1000000000000000000 : Int) ≤ cv
      · by_cases hc2 : 0 < rv
        · have s1 := setL_zs hj2 (rv / 1000)
          refine go_ite true [.val (.lst (zs ns)), .val (.int 160), .own (.lst (zs C)), .un, .own (.lst (zs R)), .own (.lst (zs Dd)), .val (nt i), .val (nt j), x8] (by simp [exs, ex, ev, evds, evs, evAnd, evOr, look, fin, view, views, cm, D.plain, wantsM, isSeq, sameQ, truth, mutD, toD, op2, store, aug2, giveOut, finals, lend, PF.giveBack, bltD, isiD, kd, isK, idxD, mthD, b2i, itemsOf, bindT, Md.tv, setAll, revD, part, slcD, shp_int, shp_bl, deq_int, deq_bl, shp_non, rg1, rg2, rg3, rg4, ln1, ln2, ln3, ln4, a1, a2, hc1, hc2]) (fun _ => ?_) (fun h => absurd h (by simp))
          simp [Goes, Turn, exs, ex, ev, evds, evs, evAnd, evOr, look, fin, view, views, cm, D.plain, wantsM, isSeq, sameQ, truth, mutD, toD, op2, store, aug2, giveOut, finals, lend, PF.giveBack, bltD, isiD, kd, isK, idxD, mthD, b2i, itemsOf, bindT, Md.tv, setAll, revD, part, slcD, shp_int, shp_bl, deq_int, deq_bl, shp_non, rg1, rg2, rg3, rg4, ln1, ln2, ln3, ln4, a1, a2, hln, s1]
          exact ⟨R.set j (rv / 1000), Dd ++ [rv % 1000], ⟨by simp [List.map_set], by simp⟩, by simp [h1], by simp [h2]⟩
        · refine go_ite false [.val (.lst (zs ns)), .val (.int 160), .own (.lst (zs C)), .un, .own (.lst (zs R)), .own (.lst (zs Dd)), .val (nt i), .val (nt j), x8] (by simp [exs, ex, ev, evds, evs, evAnd, evOr, look, fin, view, views, cm, D.plain, wantsM, isSeq, sameQ, truth, mutD, toD, op2, store, aug2, giveOut, finals, lend, PF.giveBack, bltD, isiD, kd, isK, idxD, mthD, b2i, itemsOf, bindT, Md.tv, setAll, revD, part, slcD, shp_int, shp_bl, deq_int, deq_bl, shp_non, rg1, rg2, rg3, rg4, ln1, ln2, ln3, ln4, a1, a2, hc1, hc2]) (fun h => absurd h (by simp)) (fun _ => ?_)
          rw [List.append_nil]
          exact other.imp fun r ⟨D2, x8, e, h⟩ => by subst e; exact ⟨R, D2, _, _, _, rfl, h1, h⟩
      · refine go_ite false [.val (.lst (zs ns)), .val (.int 160), .own (.lst (zs C)), .un, .own (.lst (zs R)), .own (.lst (zs Dd)), .val (nt i), .val (nt j), x8] (by simp [exs, ex, ev, evds, evs, evAnd, evOr, look, fin, view, views, cm, D.plain, wantsM, isSeq, sameQ, truth, mutD, toD, op2, store, aug2, giveOut, finals, lend, PF.giveBack, bltD, isiD, kd, isK, idxD, mthD, b2i, itemsOf, bindT, Md.tv, setAll, revD, part, slcD, shp_int, shp_bl, deq_int, deq_bl, shp_non, rg1, rg2, rg3, rg4, ln1, ln2, ln3, ln4, a1, a2, hc1]) (fun h => absurd h (by simp)) (fun _ => ?_)
        rw [List.append_nil]
        exact other.imp fun r ⟨D2, x8, e, h⟩ => by subst e; exact ⟨R, D2, _, _, _, rfl, h1, h⟩
    · subst he
      simp [Goes, outR, exs, ex, ev, evds, evs, evAnd, evOr, look, fin, view, views, cm, D.plain, wantsM, isSeq, sameQ, truth, mutD, toD, op2, store, aug2, giveOut, finals, lend, PF.giveBack, bltD, isiD, kd, isK, idxD, mthD, b2i, itemsOf, bindT, Md.tv, setAll, revD, part, slcD, shp_int, shp_bl, deq_int, deq_bl, shp_non, rg1, rg2, rg3, rg4, ln1, ln2, ln3, ln4, d__law_draws]
      exact ⟨Dd.reverse, by simp⟩
  cases ns with
  | nil =>
    refine go_ite true [.val (.lst (zs [])), .val (.int 160), .own (.lst (zs [])), .un, .un, .un, .un, .un, .un] (by simp [exs, ex, ev, evds, evs, evAnd, evOr, look, fin, view, views, cm, D.plain, wantsM, isSeq, sameQ, truth, mutD, toD, op2, store, aug2, giveOut, finals, lend, PF.giveBack, bltD, isiD, kd, isK, idxD, mthD, b2i, itemsOf, bindT, Md.tv, setAll, revD, part, slcD, shp_int, shp_bl, deq_int, deq_bl, shp_non, rg1, rg2, rg3, rg4, ln1, ln2, ln3, ln4]) (fun _ => ?_) (fun h => absurd h (by simp))
    refine go_step [.val (.lst (zs [])), .val (.int 160), .own (.lst (zs [0])), .un, .un, .un, .un, .un, .un] (by simp [exs, ex, ev, evds, evs, evAnd, evOr, look, fin, view, views, cm, D.plain, wantsM, isSeq, sameQ, truth, mutD, toD, op2, store, aug2, giveOut, finals, lend, PF.giveBack, bltD, isiD, kd, isK, idxD, mthD, b2i, itemsOf, bindT, Md.tv, setAll, revD, part, slcD, shp_int, shp_bl, deq_int, deq_bl, shp_non, rg1, rg2, rg3, rg4, ln1, ln2, ln3, ln4, show 0 < line by decide]) ?_
    exact key [0] (by simp)
  | cons n0 ns =>
    have hn : ¬ (((ns.length : Int) + 1) = 0) := by omega
    refine go_ite false [.val (.lst (zs (n0 :: ns))), .val (.int 160), .own (.lst (zs (n0 :: ns))), .un, .un, .un, .un, .un, .un] (by simp [exs, ex, ev, evds, evs, evAnd, evOr, look, fin, view, views, cm, D.plain, wantsM, isSeq, sameQ, truth, mutD, toD, op2, store, aug2, giveOut, finals, lend, PF.giveBack, bltD, isiD, kd, isK, idxD, mthD, b2i, itemsOf, bindT, Md.tv, setAll, revD, part, slcD, shp_int, shp_bl, deq_int, deq_bl, shp_non, rg1, rg2, rg3, rg4, ln1, ln2, ln3, ln4, hn]) (fun h => absurd h (by simp)) (fun _ => ?_)
    exact key (n0 :: ns) (by simp)
theorem intsM {α : Type} (as : List α) (f : α → Nat) : intsD (as.map fun a => nt (f a)) = some ((as.map f).map Int.ofNat) := by
  have := ints_bits (as.map f)
  rwa [bits, List.map_map] at this
theorem mapB {α : Type} (as : List α) (f : α → Nat) : (as.map fun a => nt (f a)) = bits (as.map f) := by simp [bits]
theorem shl_bit {b j : Nat} (hb : b < 2) (hj : j < 100000) : op2 .shl (nt b) (nt j) = some (.dat (nt (b * 2 ^ j))) := by
  have h1 : (Builtin.Int.intBits 0 : Nat) = 0 := by decide
  have h2 : (Builtin.Int.intBits 1 : Nat) = 1 := by decide
  have hb2 : b = 0 ∨ b = 1 := by omega
  rcases hb2 with rfl | rfl
  · have : ((Builtin.Int.intBits ((0 : Nat) : Int) : Int) + (j : Int) ≤ 2 ^ 27) := by
      rw [show Builtin.Int.intBits ((0 : Nat) : Int) = 0 from h1]; omega
    simp only [op2, nt]
    rw [if_pos ⟨by omega, this⟩]
    simp
  · have : ((Builtin.Int.intBits ((1 : Nat) : Int) : Int) + (j : Int) ≤ 2 ^ 27) := by
      rw [show Builtin.Int.intBits ((1 : Nat) : Int) = 1 from h2]; omega
    simp only [op2, nt]
    rw [if_pos ⟨by omega, this⟩]
    simp
theorem ev_two {c : Cl} {env : PF.Env} : ev c (.int 2) .v env = some (.dat (nt 2), env) := by simp only [ev, fin, nt]; rfl
theorem ev_one {c : Cl} {env : PF.Env} : ev c (.int 1) .v env = some (.dat (nt 1), env) := by simp only [ev, fin, nt]; rfl
section
variable {k : Nat} {env env1 env2 : PF.Env} {a b : E}
theorem ev_take {i m : Nat} {l : List Int} (hm : 0 < m) (h0 : look env i = .own (.lst (zs l))) (ha : ev (callL prog W (k + 1)) a .v env = some (.dat (nt m), env)) :
    ∃ (v : Nat) (l' : List Int), v < m ∧ ev (callL prog W (k + 1)) (.call (Str.ofString "_law_take") [.var i, a]) .v env = some (.dat (nt v), env.set i (.own (.lst (zs l')))) := by
  obtain ⟨v, l', hv, e⟩ := take_ok (W := W) k l m hm
  refine ⟨v, l', hv, ?_⟩
  have := ev_callS2 h0 ha h0 e
  rwa [List.set_set] at this
end
theorem and_two {c : Cl} {env env1 env2 : PF.Env} {a b : E} (ha : ev c a .v env = some (.dat (.bl true), env1)) (hb : ev c b .v env1 = some (.dat (.bl true), env2)) : ev c (.and [a, b]) .v env = some (.dat (.bl true), env2) := by
  simp [ev, evAnd, ha, hb, fin, Md.tv]
theorem eqv_bits : ∀ (a b : List Nat), PyData.eqvAll (D.pys (bits a)) (D.pys (bits b)) = decide (a = b)
  | [], [] => by simp [D.pys, PyData.eqvAll]
  | [], y :: ys => by simp [D.pys, PyData.eqvAll]
  | x :: xs, [] => by simp [D.pys, PyData.eqvAll]
  | x :: xs, y :: ys => by
    simp only [List.map_cons, D.pys, PyData.eqvAll]
    rw [eqv_bits xs ys, show PyData.eqv (nt x).py (nt y).py = deq (nt x) (nt y) from rfl, deq_int]
    by_cases h : x = y <;> simp [h] <;> omega
theorem deq_bits (a b : List Nat) : deq (.tup (bits a)) (.tup (bits b)) = decide (a = b) := by
  unfold deq; simp only [D.py, PyData.eqv]; exact eqv_bits a b
theorem lay_bits : ∀ ds : List Nat, PyData.canLayAll0 (D.pys (bits ds)) = true
  | [] => rfl
  | d :: ds => by simp only [List.map_cons, D.pys, D.py, PyData.canLayAll0, PyData.canLay0, Bool.true_and]; exact lay_bits ds
theorem dep_bits : ∀ ds : List Nat, PyData.depthAll (D.pys (bits ds)) = 0
  | [] => rfl
  | d :: ds => by simp only [List.map_cons, D.pys, D.py, PyData.depthAll, PyData.depth]; rw [dep_bits ds]; rfl
theorem shp_bits (ds : List Nat) : shp (.tup (bits ds)) = true := by
  unfold shp SeqAt.shaped
  simp [D.plain, D.py, PyData.canLay0, PyData.depth, lay_bits, dep_bits]
theorem shp_bitsL (ds : List Nat) : shp (.lst (bits ds)) = true := by
  unfold shp SeqAt.shaped
  simp [D.plain, D.py, PyData.canLay0, PyData.depth, lay_bits, dep_bits]
theorem mem_bits (x : Nat) (L : List Nat) : memD (nt x) (bits L) = decide (x ∈ L) := by
  unfold memD
  induction L with
  | nil => simp
  | cons y L ih =>
    rw [bits, List.map_cons, List.any_cons, ih, deq_int]
    by_cases h : y = x
    · simp [h]
    · have h2 : ¬ x = y := fun z => h z.symm
      have h3 : ¬ (y : Int) = x := by omega
      simp [h2, h3]
theorem nth_bits {r : List Nat} {i : Nat} {x : D} (h : (bits r)[i]? = some x) : i < r.length ∧ x = nt (r[i]?.getD 0) := by
  have hl : i < r.length := by simpa using (List.getElem?_eq_some_iff.mp h).1
  refine ⟨hl, ?_⟩
  rw [bits, List.getElem?_map, List.getElem?_eq_getElem hl] at h
  simp [hl]
  simpa using h.symm
theorem lt_nt (a b : Nat) : cm .lt (nt a) (nt b) = some (decide (a < b)) := by simp [cm, nt]
theorem eq0_nt (n : Nat) : cm .eq (nt n) (.int 0) = some (decide (n = 0)) := by
  simp only [cm, shp_int, Bool.and_self, if_true, deq_int]
  congr 1
  exact decide_eq_decide.mpr (by omega)
theorem ne_nt (a b : Nat) : cm .ne (nt a) (nt b) = some (!decide (a = b)) := by
  simp only [cm, shp_int, Bool.and_self, if_true, deq_int]
  congr 2
  exact decide_eq_decide.mpr (by omega)
theorem ne_int (a b : Int) : cm .ne (.int a) (.int b) = some (!decide (a = b)) := by
  simp only [cm, shp_int, Bool.and_self, if_true, deq_int]
theorem or_fb {c : Cl} {env : PF.Env} {a b : E} {p q : Bool} (ha : ev c a .t env = some (.dat (.bl p), env)) (hb : p = false → ev c b .t env = some (.dat (.bl q), env)) : ev c (.or [a, b]) .t env = some (.dat (.bl (p || q)), env) := by
  cases p with
  | true => simp [ev, evOr, ha, fin, view, truth, Md.tv]
  | false =>
    have hb := hb rfl
    cases q <;> simp [ev, evOr, ha, hb, fin, view, truth, Md.tv]
theorem bls_map {α : Type} (f : α → Bool) : ∀ as : List α, blsD (as.map fun a => D.bl (f a)) = some (as.map f)
  | [] => rfl
  | a :: as => by simp only [List.map_cons, blsD, bls_map f as, Option.map_some]
theorem ev_allV {c : Cl} {env env1 : PF.Env} {a : E} {α : Type} {as : List α} {f : α → Bool} (h : ev c a .v env = some (.own (.lst (as.map fun a => D.bl (f a))), env1)) : ev c (.blt .all [a]) .v env = some (.dat (.bl (as.all f)), env1) := by
  have : (as.map f).all id = as.all f := by rw [List.all_map]; rfl
  simp only [ev, evs, fin, h, views, view, bltD, bls_map, Option.map_some, this]
theorem ev_allT {c : Cl} {env env1 : PF.Env} {a : E} {α : Type} {as : List α} {f : α → Bool} (h : ev c a .v env = some (.own (.lst (as.map fun a => D.bl (f a))), env1)) : ev c (.blt .all [a]) .t env = some (.dat (.bl (as.all f)), env1) := by
  have : (as.map f).all id = as.all f := by rw [List.all_map]; rfl
  simp only [ev, evs, fin, h, views, view, bltD, bls_map, Option.map_some, this, truth]
theorem ev_chnV {c : Cl} {env : PF.Env} {i n : Nat} {x : Int} {e : E} (h : look env i = .val (.int x)) (he : ev c e .v env = some (.dat (nt n), env)) : ev c (.chain .le .lt (.int 0) (.var i) e) .v env = some (.dat (.bl (decide (0 ≤ x) && decide (x < n))), env) := by
  by_cases h0 : 0 ≤ x
  · simp [ev, fin, h, he, view, cm, truth, h0]
  · simp [ev, fin, h, he, view, cm, truth, h0]
theorem nth_zs {r : List Int} {i : Nat} {x : D} (h : (zs r)[i]? = some x) : ∃ hi : i < r.length, x = .int r[i] := by
  rw [List.getElem?_map] at h
  by_cases hi : i < r.length
  · rw [List.getElem?_eq_getElem hi] at h; cases h; exact ⟨hi, rfl⟩
  · rw [List.getElem?_eq_none (by omega)] at h; cases h
theorem tk_one {α : Type} {l : List α} {i : Nat} (h : i < l.length) : l.take (i + 1) = l.take i ++ [l[i]] := by rw [List.take_succ]; simp [h]
theorem all_false_of {α : Type} {l : List α} {f : α → Bool} {x : α} (h : x ∈ l) (e : f x = false) : l.all f = false := by
  rw [List.all_eq_false]; exact ⟨x, h, by rw [e]; simp⟩
theorem at_zsT {P : List Int} {i : Nat} (h : i < P.length) : idxD (.tup (zs P)) (nt i) = some (.int P[i]) := by
  simp [idxD, atD, L2.atI, L2.ixN, h]
theorem lt_int (a b : Int) : cm .lt (.int a) (.int b) = some (decide (a < b)) := rfl
theorem ge_int (a b : Int) : cm .ge (.int a) (.int b) = some (decide (b ≤ a)) := rfl
theorem ev_cut {c : Cl} {env : PF.Env} {a lo hi : E} {xs : List D} {l h : Option Int} {dl dh : D} (ha : ev c a .v env = some (.dat (.tup xs), env)) (h1 : ev c lo .v env = some (.dat dl, env)) (h2 : ev c hi .v env = some (.dat dh, env)) (p1 : part lo dl = some l) (p2 : part hi dh = some h) : ev c (.slc a lo hi) .v env = some (.dat (.tup (cut xs l h)), env) := by
  simp only [ev, fin, ha, h1, h2, view, p1, p2, slcD]
theorem addZ (a b : List Int) (h : a.length + b.length < 100000) : op2 .add (.tup (zs a)) (.tup (zs b)) = some (.dat (.tup (zs (a ++ b)))) := by
  have : (zs a).length + (zs b).length ≤ line := by simp; unfold line; omega
  simp only [op2]
  rw [if_pos this]
  simp
theorem bits_zs (Q : List Nat) : bits Q = zs (Q.map Int.ofNat) := by simp
theorem ev_cb {c : Cl} {env : PF.Env} {b : Bool} : ev c (.bl b) .v env = some (.dat (.bl b), env) := by simp only [ev, fin]
theorem mul_nt {n m : Nat} (h : n < 1000000) : op2 .mul (nt n) (nt m) = some (.dat (nt (n * m))) := by
  have : small64 (n : Int) = true := by
    simp only [small64, Bool.and_eq_true, decide_eq_true_eq]; omega
  simp [op2, nt, this]
theorem ev_lcTm {α β : Type} {c : Cl} {i : Nat} {src elt : E} {env : PF.Env} (encA : α → D) (encB : β → D) (g : β → α) (Q : β → Prop) (as : List α) (E : List Int → Slot → PF.Env) (l0 : List Int) (x0 : Slot) (hsrc : ev c src .i env = some (.dat (.tup (as.map encA)), E l0 x0)) (hl : as.length ≤ 1000)
    (h : ∀ a ∈ as, ∀ l w, ∃ y l' w', lcT c [i] (.nm i) [] elt (encA a) (E l w) = some (some (encB y), E l' w') ∧ g y = a ∧ Q y) (hb : ∀ l w, backE (E l0 x0) (E l w) [i] = E l x0) :
    ∃ (ys : List β) (l' : List Int), ys.map g = as ∧ (∀ y ∈ ys, Q y) ∧ ev c (.lc [i] (.nm i) src [] elt) .v env = some (.own (.lst (ys.map encB)), E l' x0) := by
  have key : ∀ (zs : List α), (∀ x ∈ zs, x ∈ as) → ∀ l w, ∃ (ys : List β) (l' : List Int) (w' : Slot), ys.map g = zs ∧ (∀ y ∈ ys, Q y) ∧ lcLoop (lcT c [i] (.nm i) [] elt) (zs.map encA) (E l w) = some (ys.map encB, E l' w') := by
    intro zs
    induction zs with
    | nil => intro _ l w; exact ⟨[], l, w, rfl, (fun _ h => nomatch h), rfl⟩
    | cons z zs ih =>
      intro hm l w
      obtain ⟨y, l1, w1, e1, q1, q2⟩ := h z (hm z List.mem_cons_self) l w
      obtain ⟨ys, l2, w2, h1, h2, h3⟩ := ih (fun x hx => hm x (List.mem_cons_of_mem _ hx)) l1 w1
      refine ⟨y :: ys, l2, w2, by rw [List.map_cons, h1, q1], fun x hx => ?_, by simp only [List.map_cons, lcLoop, e1, h3]⟩
      rcases List.mem_cons.mp hx with rfl | hx
      · exact q2
      · exact h2 x hx
  obtain ⟨ys, l', w', h1, h2, h3⟩ := key as (fun _ h => h) l0 x0
  refine ⟨ys, l', h1, h2, ?_⟩
  rw [ev_lc0]
  have hyl : ys.length = as.length := by rw [← h1, List.length_map]
  have : (ys.map encB).length ≤ line := by rw [List.length_map]; unfold line; omega
  simp only [hsrc, h3, if_pos this, hb]
theorem and_three' {c : Cl} {env env1 env2 env3 : PF.Env} {a b g : E} (ha : ev c a .v env = some (.dat (.bl true), env1)) (hb : ev c b .v env1 = some (.dat (.bl true), env2)) (hg : ev c g .v env2 = some (.dat (.bl true), env3)) : ev c (.and [a, b, g]) .v env = some (.dat (.bl true), env3) := by
  simp [ev, evAnd, ha, hb, hg, fin, Md.tv]
theorem cut_to {xs : List D} {j : Nat} (h : j ≤ xs.length) : cut xs none (some (j : Int)) = xs.take j := by
  unfold cut
  simp only [sIx, HT.sIx, List.drop_zero, Nat.sub_zero]
  rw [if_neg (by omega)]
  simp [Nat.min_eq_left h]
theorem cut_from {xs : List D} {j : Nat} (h : j ≤ xs.length) : cut xs (some (j : Int)) none = xs.drop j := by
  unfold cut
  simp only [sIx, HT.sIx]
  rw [if_neg (by omega)]
  simp only [Int.toNat_natCast, Nat.min_eq_left h]
  exact List.take_of_length_le (by simp)
end K62
namespace K62
open PySem PF
variable {W : Nat}
abbrev sR : Str := Str.ofString "read"
abbrev sP : Str := Str.ofString "put"
abbrev sT : Str := Str.ofString "take"
abbrev sW : Str := Str.ofString "write"
abbrev sG : Str := Str.ofString "give"
abbrev sN : Str := Str.ofString "none"
abbrev sE : Str := Str.ofString "ended"
abbrev sO : Str := Str.ofString "open"
def knd : Ins → Str
  | .rd _ _ => sR | .pt _ _ => sP | .tk _ _ => sT | .wr _ _ => sW | .gv => sG | .nn => sN
abbrev prs (ps : List (Int × Int)) : List D := ps.map fun p => .tup [.int p.1, .int p.2]
def encI : Ins → D
  | .rd ws e => .tup [.str sR, .tup (zs ws), .int e]
  | .pt n e => .tup [.str sP, .int n, .int e]
  | .tk ps e => .tup [.str sT, .tup (prs ps), .int e]
  | .wr d e => .tup [.str sW, .int d, .int e]
  | .gv => .tup [.str sG]
  | .nn => .tup [.str sN]
abbrev encC (c : List Ins) : D := .tup (c.map encI)
abbrev encS (s : St) : D := .tup [nt s.a, .tup (bits s.ls), .tup (zs s.pl), .tup (bits s.dg)]
def vD : Option Nat → D
  | some n => nt n | none => .non
abbrev encE (v : Option Nat) : D := .tup [.str sE, vD v]
def isR : Ins → Bool
  | .rd _ _ => true | _ => false
def isP : Ins → Bool
  | .pt _ _ => true | _ => false
def isT : Ins → Bool
  | .tk _ _ => true | _ => false
def isW : Ins → Bool
  | .wr _ _ => true | _ => false
def isG : Ins → Bool
  | .gv => true | _ => false
def isN : Ins → Bool
  | .nn => true | _ => false
theorem qRR : cm .eq (.str sR) (.str sR) = some true := by kernel_rfl
theorem qRP : cm .eq (.str sR) (.str sP) = some false := by kernel_rfl
theorem qRT : cm .eq (.str sR) (.str sT) = some false := by kernel_rfl
theorem qRW : cm .eq (.str sR) (.str sW) = some false := by kernel_rfl
theorem qRG : cm .eq (.str sR) (.str sG) = some false := by kernel_rfl
theorem qRN : cm .eq (.str sR) (.str sN) = some false := by kernel_rfl
theorem qPR : cm .eq (.str sP) (.str sR) = some false := by kernel_rfl
theorem qPP : cm .eq (.str sP) (.str sP) = some true := by kernel_rfl
theorem qPT : cm .eq (.str sP) (.str sT) = some false := by kernel_rfl
theorem qPW : cm .eq (.str sP) (.str sW) = some false := by kernel_rfl
theorem qPG : cm .eq (.str sP) (.str sG) = some false := by kernel_rfl
theorem qPN : cm .eq (.str sP) (.str sN) = some false := by kernel_rfl
theorem qTR : cm .eq (.str sT) (.str sR) = some false := by kernel_rfl
theorem qTP : cm .eq (.str sT) (.str sP) = some false := by kernel_rfl
theorem qTT : cm .eq (.str sT) (.str sT) = some true := by kernel_rfl
theorem qTW : cm .eq (.str sT) (.str sW) = some false := by kernel_rfl
theorem qTG : cm .eq (.str sT) (.str sG) = some false := by kernel_rfl
theorem qTN : cm .eq (.str sT) (.str sN) = some false := by kernel_rfl
theorem qWR : cm .eq (.str sW) (.str sR) = some false := by kernel_rfl
theorem qWP : cm .eq (.str sW) (.str sP) = some false := by kernel_rfl
theorem qWT : cm .eq (.str sW) (.str sT) = some false := by kernel_rfl
theorem qWW : cm .eq (.str sW) (.str sW) = some true := by kernel_rfl
theorem qWG : cm .eq (.str sW) (.str sG) = some false := by kernel_rfl
theorem qWN : cm .eq (.str sW) (.str sN) = some false := by kernel_rfl
theorem qGR : cm .eq (.str sG) (.str sR) = some false := by kernel_rfl
theorem qGP : cm .eq (.str sG) (.str sP) = some false := by kernel_rfl
theorem qGT : cm .eq (.str sG) (.str sT) = some false := by kernel_rfl
theorem qGW : cm .eq (.str sG) (.str sW) = some false := by kernel_rfl
theorem qGG : cm .eq (.str sG) (.str sG) = some true := by kernel_rfl
theorem qGN : cm .eq (.str sG) (.str sN) = some false := by kernel_rfl
theorem qNR : cm .eq (.str sN) (.str sR) = some false := by kernel_rfl
theorem qNP : cm .eq (.str sN) (.str sP) = some false := by kernel_rfl
theorem qNT : cm .eq (.str sN) (.str sT) = some false := by kernel_rfl
theorem qNW : cm .eq (.str sN) (.str sW) = some false := by kernel_rfl
theorem qNG : cm .eq (.str sN) (.str sG) = some false := by kernel_rfl
theorem qNN : cm .eq (.str sN) (.str sN) = some true := by kernel_rfl
theorem kR : ∀ i : Ins, cm .eq (.str (knd i)) (.str sR) = some (isR i)
  | .rd _ _ => qRR
  | .pt _ _ => qPR
  | .tk _ _ => qTR
  | .wr _ _ => qWR
  | .gv => qGR
  | .nn => qNR
theorem kP : ∀ i : Ins, cm .eq (.str (knd i)) (.str sP) = some (isP i)
  | .rd _ _ => qRP
  | .pt _ _ => qPP
  | .tk _ _ => qTP
  | .wr _ _ => qWP
  | .gv => qGP
  | .nn => qNP
theorem kT : ∀ i : Ins, cm .eq (.str (knd i)) (.str sT) = some (isT i)
  | .rd _ _ => qRT
  | .pt _ _ => qPT
  | .tk _ _ => qTT
  | .wr _ _ => qWT
  | .gv => qGT
  | .nn => qNT
theorem kW : ∀ i : Ins, cm .eq (.str (knd i)) (.str sW) = some (isW i)
  | .rd _ _ => qRW
  | .pt _ _ => qPW
  | .tk _ _ => qTW
  | .wr _ _ => qWW
  | .gv => qGW
  | .nn => qNW
theorem kG : ∀ i : Ins, cm .eq (.str (knd i)) (.str sG) = some (isG i)
  | .rd _ _ => qRG
  | .pt _ _ => qPG
  | .tk _ _ => qTG
  | .wr _ _ => qWG
  | .gv => qGG
  | .nn => qNG
theorem kN : ∀ i : Ins, cm .eq (.str (knd i)) (.str sN) = some (isN i)
  | .rd _ _ => qRN
  | .pt _ _ => qPN
  | .tk _ _ => qTN
  | .wr _ _ => qWN
  | .gv => qGN
  | .nn => qNN
theorem qE : cm .eq (.str sE) (.str sE) = some true := by kernel_rfl
theorem qEn : cm .ne (.str sE) (.str sE) = some false := by kernel_rfl
theorem shpE : shp (.str sE) = true := by kernel_rfl
theorem iE (n : Int) : cm .eq (.int n) (.str sE) = some false := by
  simp only [cm, shp_int, shpE, Bool.and_self, if_true]; rfl
theorem iEn (n : Int) : cm .ne (.int n) (.str sE) = some true := by
  simp only [cm, shp_int, shpE, Bool.and_self, if_true]; rfl
theorem k0 (i : Ins) : idxD (encI i) (.int 0) = some (.str (knd i)) := by cases i <;> rfl
theorem at_code {c : List Ins} {a : Nat} (h : a < c.length) : idxD (encC c) (nt a) = some (encI (c[a]?.getD .gv)) := by
  simp [idxD, atD, L2.atI, L2.ixN, h]
theorem ev_str {c : Cl} {env : PF.Env} {s : Str} : ev c (.str s) .v env = some (.dat (.str s), env) := by simp only [ev, fin]
theorem unp4 {c : Cl} {env : PF.Env} {e : E} {a b d f : D} {i j k l : Nat} (h : ev c e .v env = some (.dat (.tup [a, b, d, f]), env)) : ex c W (.unp [i, j, k, l] e) env = some (.nx ((((env.set i (.val a)).set j (.val b)).set k (.val d)).set l (.val f))) := by
  simp only [ex, h, toD, setAll]
theorem tup4 {c : Cl} {env : PF.Env} {e1 e2 e3 e4 : E} {a b d f : D} (h1 : ev c e1 .v env = some (.dat a, env)) (h2 : ev c e2 .v env = some (.dat b, env)) (h3 : ev c e3 .v env = some (.dat d, env)) (h4 : ev c e4 .v env = some (.dat f, env)) : ev c (.tup [e1, e2, e3, e4]) .v env = some (.dat (.tup [a, b, d, f]), env) := by
  have l4 : 4 ≤ line := by unfold line; omega
  simp [ev, evds, fin, h1, h2, h3, h4, toD, l4]
theorem tup3 {c : Cl} {env : PF.Env} {e1 e2 e3 : E} {a b d : D} (h1 : ev c e1 .v env = some (.dat a, env)) (h2 : ev c e2 .v env = some (.dat b, env)) (h3 : ev c e3 .v env = some (.dat d, env)) : ev c (.tup [e1, e2, e3]) .v env = some (.dat (.tup [a, b, d]), env) := by
  have l3 : 3 ≤ line := by unfold line; omega
  simp [ev, evds, fin, h1, h2, h3, toD, l3]
/-! ### numbers of digits -/
theorem ev_rev {c : Cl} {env : PF.Env} {i : Nat} {xs : List D} (h : look env i = .val (.tup xs)) : ev c (.rev (.var i)) .i env = some (.dat (.tup xs.reverse), env) := by
  simp only [ev, fin, h, view, revD, itemsOf, toD]
def dv (l : List Nat) : Nat := l.foldl (fun a d => 2 * a + d) 0
theorem dv_snoc (l : List Nat) (d : Nat) : dv (l ++ [d]) = 2 * dv l + d := by simp [dv, List.foldl_append]
theorem dv_rev : ∀ l : List Nat, dv l.reverse = dval l
  | [] => rfl
  | d :: l => by rw [List.reverse_cons, dv_snoc, dv_rev l]; simp only [dval]; omega
theorem take_succ' {r : List Nat} {j : Nat} (h : j < r.length) : r.take (j + 1) = r.take j ++ [r[j]?.getD 0] := by
  rw [List.take_succ]; simp [h]
theorem no_ok (k : Nat) (ds : List Nat) : callL prog W (k + 1) (Str.ofString "number_of") [.val (.tup (bits ds))] = some (.dat (nt (dval ds)), [.val (.tup (bits ds))]) := by
  refine c_number_of ?_
  refine go_setD ev_ci ?_
  show Goes _ _ _ [.val (.tup (bits ds)), .val (nt (dv (ds.reverse.take 0))), .un] _
  have er : (bits ds).reverse = bits ds.reverse := by simp [bits]
  have src := ev_rev (c := callL prog W k) (env := [.val (.tup (bits ds)), .val (nt (dv (ds.reverse.take 0))), .un]) (i := 0) (xs := bits ds) rfl
  rw [er] at src
  refine go_for (bits ds.reverse) _ (fun j env => ∃ x2, env = [.val (.tup (bits ds)), .val (nt (dv (ds.reverse.take j))), x2]) src ⟨.un, rfl⟩ (fun j x env hx ⟨x2, he⟩ => ?_) fun env ⟨x2, he⟩ => ?_
  · obtain ⟨hj, rfl⟩ := nth_bits hx
    subst he
    refine ⟨_, rfl, ?_⟩
    refine go_setD (ev_bin (ev_bin ev_two (ev_var rfl) (mul_nt (by decide))) (ev_var rfl) (add_nt _ _)) (go_nil ⟨.val (nt (ds.reverse[j]?.getD 0)), ?_⟩)
    rw [take_succ' hj, dv_snoc]; rfl
  · subst he
    rw [bits, List.length_map, List.take_length]
    rw [dv_rev]
    exact go_ret (ev_var rfl) rfl
/-! ### ways, steps -/
theorem lcTp {c : Cl} {i j : Nat} {own : List Nat} {t elt : E} {p : Int × Int} {env : PF.Env} {r : Option D} (h : match r with
    | some d => ∃ env1, ev c t .t (((wipeE env own).set i (.val (.int p.1))).set j (.val (.int p.2))) = some (.dat (.bl true), env1) ∧ ev c elt .v env1 = some (.dat d, env1) ∧ env1 = ((wipeE env own).set i (.val (.int p.1))).set j (.val (.int p.2))
    | none => ev c t .t (((wipeE env own).set i (.val (.int p.1))).set j (.val (.int p.2))) = some (.dat (.bl false), ((wipeE env own).set i (.val (.int p.1))).set j (.val (.int p.2)))) :
    lcT c own (.tp [i, j]) [t] elt (.tup [.int p.1, .int p.2]) env = some (r, ((wipeE env own).set i (.val (.int p.1))).set j (.val (.int p.2))) := by
  cases r with
  | none => simp only [lcT, bindT, setAll, evAnd, h]
  | some d =>
    obtain ⟨env1, h1, h2, rfl⟩ := h
    simp only [lcT, bindT, setAll, evAnd, h1, h2, toD]
theorem fm_way (n : Int) : ∀ ps : List (Int × Int), (ps.filterMap fun p => if p.1 = n then some (D.int p.2) else none) = zs ((ps.filter fun p => decide (p.1 = n)).map (·.2))
  | [] => rfl
  | p :: ps => by
    rw [List.filterMap_cons, fm_way n ps]
    by_cases h : p.1 = n
    · rw [if_pos h, List.filter_cons_of_pos (by simpa using h)]; rfl
    · rw [if_neg h, List.filter_cons_of_neg (by simpa using h)]
theorem eq_int (a b : Int) : cm .eq (.int a) (.int b) = some (decide (a = b)) := by
  simp only [cm, shp_int, Bool.and_self, if_true, deq_int]
theorem wf_ok (k : Nat) (ps : List (Int × Int)) (n : Int) (hl : ps.length < 1000) (h : n ∈ ps.map (·.1)) : callL prog W (k + 1) (Str.ofString "way_for") [.val (.tup (prs ps)), .val (.int n)] = some (.dat (.int (lkp ps n)), [.val (.tup (prs ps)), .val (.int n)]) := by
  refine c_way_for ?_
  have e := ev_lcG (c := callL prog W k) (own := [2, 3]) (tg := .tp [2, 3]) (src := .var 0) (elt := .var 3) (cond := [(.cmp .eq (.var 2) (.var 1))]) (env := [.val (.tup (prs ps)), .val (.int n), .un, .un]) (env0 := [.val (.tup (prs ps)), .val (.int n), .un, .un]) ps (fun p => D.tup [.int p.1, .int p.2]) (fun p => if p.1 = n then some (D.int p.2) else none)
    (ev_walkT rfl) (ln_of (by omega)) fun p hp => ⟨_, lcTp (by
      by_cases hq : p.1 = n
      · rw [if_pos hq]
        exact ⟨_, ev_cmpT (ev_var rfl) (ev_var rfl) (by rw [eq_int, decide_eq_true hq]), ev_var rfl, rfl⟩
      · rw [if_neg hq]
        exact ev_cmpT (ev_var rfl) (ev_var rfl) (by rw [eq_int, decide_eq_false hq])), rfl⟩
  rw [fm_way] at e
  obtain ⟨w, _, h2, h3⟩ := lkp_mem h
  refine go_ret (ev_idxL (d := nt 0) e ev_ci (r := .int (lkp ps n)) ?_) rfl
  rw [h2]
  cases hl : (ps.filter fun p => decide (p.1 = n)).map (·.2) with
  | nil => rw [hl] at h3; cases h3
  | cons x r =>
    rw [hl] at h3
    cases h3
    show atD (zs (w :: r)) ((0 : Nat) : Int) = _
    rw [atD_zs (by simp)]; rfl
theorem last_zs {l : List Int} {n : Int} (h : l.getLast? = some n) : idxD (.tup (zs l)) (.int (-1)) = some (.int n) := by
  have hl : 0 < l.length := by
    cases l with
    | nil => cases h
    | cons _ _ => simp
  have hx : l[l.length - 1]? = some n := by rw [← List.getLast?_eq_getElem?]; exact h
  have e : L2.ixN (zs l).length (-1) = some (l.length - 1) := by
    simp only [List.length_map, L2.ixN]
    rw [if_neg (by omega)] <;> simp <;> omega
  simp only [idxD, atD, L2.atI, e]
  simp [hx]
theorem cut_last {xs : List D} (h : 0 < xs.length) : cut xs none (some (-1)) = xs.dropLast := by
  unfold cut
  simp only [sIx, HT.sIx, List.drop_zero, Nat.sub_zero]
  rw [List.dropLast_eq_take]
  congr 1
  simp
  omega
theorem cb_ok (k : Nat) (w : List Nat) : callL prog W (k + 1) (Str.ofString "code_begun") [.val (.tup (bits w))] = some (.dat (encS ⟨0, w, [], []⟩), [.val (.tup (bits w))]) := by
  refine c_code_begun ?_
  have e1 : ev (callL prog W k) (.blt .tuple [(.var 0)]) .v [.val (.tup (bits w))] = some (.dat (.tup (bits w)), [.val (.tup (bits w))]) := by
    simp only [ev, evs, fin, look, views, view, bltD, List.getElem?_cons_zero, Option.getD_some]
  exact go_ret (tup4 (a := nt 0) ev_ci e1 ev_t0 ev_t0) rfl
theorem toNat_nt {e : Int} (h : 0 ≤ e) : D.int e = nt e.toNat := congrArg D.int (by omega)
end K62
namespace K62
open PySem PF
variable {W : Nat}
def szI : Ins → Prop
  | .rd ws _ => ws.length < 60 | .tk ps _ => ps.length < 60 | _ => True
structure Cd (c : List Ins) : Prop where
  len : c.length < 60
  sz : ∀ i ∈ c, szI i
theorem Cd.at {c : List Ins} (Z : Cd c) {s : St} (h : s.a < c.length) : szI (insAt c s) := Z.sz _ (by unfold insAt; rw [List.getElem?_eq_getElem h]; exact List.getElem_mem h)
def nxD (c : List Ins) (s : St) : D := match isEnd c s with
  | none => encS (stp c s) | some v => encE v
theorem eq0_n (n : Nat) : cm .eq (.int (n : Int)) (.int 0) = some (decide (n = 0)) := eq0_nt n
theorem ev_iteT {c : Cl} {env env1 env2 : PF.Env} {t a b : E} {o : Opd} (ht : ev c t .t env = some (.dat (.bl true), env1)) (ha : ev c a .v env1 = some (o, env2)) : ev c (.ite t a b) .v env = some (o, env2) := by
  simp only [ev, ht, ha]
theorem ev_iteF {c : Cl} {env env1 env2 : PF.Env} {t a b : E} {o : Opd} (ht : ev c t .t env = some (.dat (.bl false), env1)) (hb : ev c b .v env1 = some (o, env2)) : ev c (.ite t a b) .v env = some (o, env2) := by
  simp only [ev, ht, hb]
theorem cs_end (k : Nat) (x : D) (v : Option Nat) : callL prog W (k + 1) (Str.ofString "code_step") [.val x, .val (encE v)] = some (.dat (encE v), [.val x, .val (encE v)]) := by
  refine c_code_step ?_
  exact go_ite true _ (ev_cmpT (d := .str sE) (ev_idx (ev_var rfl) ev_ci rfl) ev_str qE) (fun _ => go_ret (ev_var rfl) rfl) (fun h => nomatch h)
theorem cs_run (k m : Nat) (c : List Ins) (s : St) (hs : sound m c = true) (Z : Cd c) (I : Inv m c s) (hp : s.pl.length < 1000) (hd : s.dg.length < 1000) :
    callL prog W (k + 2) (Str.ofString "code_step") [.val (encC c), .val (encS s)] = some (.dat (nxD c s), [.val (encC c), .val (encS s)]) := by
  have hat := at_code I.a
  obtain ⟨hw, ho⟩ := snd_at hs I.a
  have hz := Z.at I.a
  refine c_code_step ?_
  refine go_pass (ev_cmpT (d := nt s.a) (ev_idx (ev_var rfl) ev_ci rfl) ev_str (iE _)) ?_
  refine go_step _ (unp4 (ev_var rfl)) ?_
  show Goes _ _ _ [.val (encC c), .val (encS s), .val (nt s.a), .val (.tup (bits s.ls)), .val (.tup (zs s.pl)), .val (.tup (bits s.dg)), .un] _
  obtain ⟨hal, hlsI, hplI, hdgI⟩ := I
  obtain ⟨a, ls, pl, dg⟩ := s
  have hi : c[a]?.getD .gv = insAt c ⟨a, ls, pl, dg⟩ := rfl
  simp only at hat hp hd hal hlsI hplI hdgI ⊢
  rw [hi] at hat
  generalize hI : insAt c ⟨a, ls, pl, dg⟩ = i at *
  have ei : ∀ {c' : Cl} {x6 : Slot}, ev c' (.idx (.var 0) (.var 2)) .v [.val (encC c), .val (encS ⟨a, ls, pl, dg⟩), .val (nt a), .val (.tup (bits ls)), .val (.tup (zs pl)), .val (.tup (bits dg)), x6] = some (.dat (encI i), [.val (encC c), .val (encS ⟨a, ls, pl, dg⟩), .val (nt a), .val (.tup (bits ls)), .val (.tup (zs pl)), .val (.tup (bits dg)), x6]) := fun {c' x6} => ev_idx (ev_var rfl) (ev_var rfl) hat
  refine go_setD (ev_idx ei ev_ci (k0 i)) ?_
  show Goes _ _ _ [.val (encC c), .val (encS ⟨a, ls, pl, dg⟩), .val (nt a), .val (.tup (bits ls)), .val (.tup (zs pl)), .val (.tup (bits dg)), .val (.str (knd i))] _
  have tR := ev_cmpT (c := callL prog W (k + 1)) (env := [.val (encC c), .val (encS ⟨a, ls, pl, dg⟩), .val (nt a), .val (.tup (bits ls)), .val (.tup (zs pl)), .val (.tup (bits dg)), .val (.str (knd i))]) (a := .var 6) (ev_var rfl) ev_str (kR i)
  have tP := ev_cmpT (c := callL prog W (k + 1)) (env := [.val (encC c), .val (encS ⟨a, ls, pl, dg⟩), .val (nt a), .val (.tup (bits ls)), .val (.tup (zs pl)), .val (.tup (bits dg)), .val (.str (knd i))]) (a := .var 6) (ev_var rfl) ev_str (kP i)
  have tT := ev_cmpT (c := callL prog W (k + 1)) (env := [.val (encC c), .val (encS ⟨a, ls, pl, dg⟩), .val (nt a), .val (.tup (bits ls)), .val (.tup (zs pl)), .val (.tup (bits dg)), .val (.str (knd i))]) (a := .var 6) (ev_var rfl) ev_str (kT i)
  have tW := ev_cmpT (c := callL prog W (k + 1)) (env := [.val (encC c), .val (encS ⟨a, ls, pl, dg⟩), .val (nt a), .val (.tup (bits ls)), .val (.tup (zs pl)), .val (.tup (bits dg)), .val (.str (knd i))]) (a := .var 6) (ev_var rfl) ev_str (kW i)
  have tG := ev_cmpT (c := callL prog W (k + 1)) (env := [.val (encC c), .val (encS ⟨a, ls, pl, dg⟩), .val (nt a), .val (.tup (bits ls)), .val (.tup (zs pl)), .val (.tup (bits dg)), .val (.str (knd i))]) (a := .var 6) (ev_var rfl) ev_str (kG i)
  cases i with
  | rd ws e =>
    have hlen : ws.length = m := of_decide_eq_true ho
    refine go_ite true _ tR (fun _ => ?_) (fun h => nomatch h)
    cases ls with
    | nil =>
      have hx : nxD c ⟨a, [], pl, dg⟩ = .tup [.int e, .tup (bits []), .tup (zs pl), .tup (bits dg)] := by
        simp only [nxD, isEnd, stp, hI, endI, stI]
        rw [toNat_nt (hw e (by simp [ways])).1]
      rw [hx]
      refine go_ite true _ (ev_cmpT (ev_tlen (n := 0) (ev_var rfl) rfl) ev_ci (eq0_nt 0)) (fun _ => ?_) (fun h => nomatch h)
      exact go_ret (tup4 (ev_idx ei ev_ci rfl) (ev_var rfl) (ev_var rfl) (ev_var rfl)) rfl
    | cons l r =>
      have hlm : l < ws.length := by rw [hlen]; exact hlsI l List.mem_cons_self
      have hge : 0 ≤ ws[l]?.getD 0 := by
        rw [List.getElem?_eq_getElem hlm]
        exact (hw ws[l] (by simp [ways])).1
      have e0 : ws[l]?.getD 0 = ws[l] := by simp [hlm]
      have hx : nxD c ⟨a, l :: r, pl, dg⟩ = .tup [.int ws[l], .tup (bits r), .tup (zs pl), .tup (bits dg)] := by
        simp only [nxD, isEnd, stp, hI, endI, stI]
        rw [e0, toNat_nt (e := ws[l]) (e0 ▸ hge)]
      rw [hx]
      refine go_pass (ev_cmpT (ev_tlen (n := (l :: r).length) (ev_var rfl) (by simp)) ev_ci (by rw [eq0_nt, List.length_cons, decide_eq_false (by omega)])) ?_
      have c1 := ev_cut (c := callL prog W (k + 1)) (env := [.val (encC c), .val (encS ⟨a, l :: r, pl, dg⟩), .val (nt a), .val (.tup (bits (l :: r))), .val (.tup (zs pl)), .val (.tup (bits dg)), .val (.str (knd (.rd ws e)))]) (a := .var 3) (lo := .int 1) (hi := .non) (l := some ((1 : Nat) : Int)) (h := none) (ev_var rfl) ev_ci ev_non rfl rfl
      rw [cut_from (by simp)] at c1
      exact go_ret (tup4 (ev_idx (ev_idx ei ev_ci (r := .tup (zs ws)) rfl) (ev_idx (d' := nt 0) (ev_var rfl) ev_ci (r := nt l) (by rw [at_bits (by simp)]; rfl)) (at_zsT hlm)) c1 (ev_var rfl) (ev_var rfl)) rfl
  | pt n e =>
    have hx : nxD c ⟨a, ls, pl, dg⟩ = .tup [.int e, .tup (bits ls), .tup (zs (pl ++ [n])), .tup (bits dg)] := by
      simp only [nxD, isEnd, stp, hI, endI, stI]
      rw [toNat_nt (hw e (by simp [ways])).1]
    rw [hx]
    refine go_pass tR ?_
    refine go_ite true _ tP (fun _ => ?_) (fun h => nomatch h)
    exact go_ret (tup4 (ev_idx ei ev_ci rfl) (ev_var rfl) (ev_bin (ev_var rfl) (ev_tup1 (ev_idx ei ev_ci (r := .int n) rfl)) (addZ pl [n] (by rw [List.length_singleton]; omega))) (ev_var rfl)) rfl
  | tk ps e =>
    refine go_pass tR ?_
    refine go_pass tP ?_
    refine go_ite true _ tT (fun _ => ?_) (fun h => nomatch h)
    cases hl : pl.getLast? with
    | none =>
      have : pl = [] := List.getLast?_eq_none_iff.mp hl
      subst this
      have hx : nxD c ⟨a, ls, [], dg⟩ = .tup [.int e, .tup (bits ls), .tup (zs []), .tup (bits dg)] := by
        simp only [nxD, isEnd, stp, hI, endI, stI, List.getLast?_nil]
        rw [toNat_nt (hw e (by simp [ways])).1]
      rw [hx]
      refine go_ite true _ (ev_cmpT (ev_tlen (n := 0) (ev_var rfl) rfl) ev_ci (eq0_nt 0)) (fun _ => ?_) (fun h => nomatch h)
      exact go_ret (tup4 (ev_idx ei ev_ci rfl) (ev_var rfl) (ev_var rfl) (ev_var rfl)) rfl
    | some n =>
      have hpos : 0 < pl.length := by
        cases pl with
        | nil => cases hl
        | cons _ _ => simp
      have hn2 : n ∈ ps.map (·.1) := by
        have ho' : told ps (puts c) = true := ho
        unfold told at ho'
        rw [Bool.and_eq_true, List.all_eq_true] at ho'
        exact of_decide_eq_true (ho'.2 n (hplI n (List.mem_of_getLast? hl)))
      obtain ⟨w, h1, h2, _⟩ := lkp_mem hn2
      have hge : 0 ≤ lkp ps n := by rw [h2]; exact (hw w (List.mem_append_left _ h1)).1
      have hx : nxD c ⟨a, ls, pl, dg⟩ = .tup [.int (lkp ps n), .tup (bits ls), .tup (zs pl.dropLast), .tup (bits dg)] := by
        simp only [nxD, isEnd, stp, hI, endI, stI, hl]
        rw [toNat_nt hge]
      rw [hx]
      refine go_pass (ev_cmpT (ev_tlen (n := pl.length) (ev_var rfl) (by simp)) ev_ci (by rw [eq0_nt, decide_eq_false (by omega)])) ?_
      have c1 := ev_cut (c := callL prog W (k + 1)) (env := [.val (encC c), .val (encS ⟨a, ls, pl, dg⟩), .val (nt a), .val (.tup (bits ls)), .val (.tup (zs pl)), .val (.tup (bits dg)), .val (.str (knd (.tk ps e)))]) (a := .var 4) (lo := .non) (hi := .neg (.int 1)) (l := none) (h := some (-1)) (ev_var rfl) ev_non (ev_neg ev_ci) rfl rfl
      rw [cut_last (by simpa using hpos), ← List.map_dropLast] at c1
      have hzz : ps.length < 60 := hz
      exact go_ret (tup4 (ev_call2 (ev_idx ei ev_ci (r := .tup (prs ps)) rfl) (ev_idx (ev_var rfl) (ev_neg ev_ci) (last_zs hl)) (wf_ok k ps n (by omega) hn2)) (ev_var rfl) c1 (ev_var rfl)) rfl
  | wr d e =>
    have hd' : d = 0 ∨ d = 1 := of_decide_eq_true ho
    have hx : nxD c ⟨a, ls, pl, dg⟩ = .tup [.int e, .tup (bits ls), .tup (zs pl), .tup (bits (d.toNat :: dg))] := by
      simp only [nxD, isEnd, stp, hI, endI, stI]
      rw [toNat_nt (hw e (by simp [ways])).1]
    rw [hx]
    refine go_pass tR ?_
    refine go_pass tP ?_
    refine go_pass tT ?_
    refine go_ite true _ tW (fun _ => ?_) (fun h => nomatch h)
    have e1 : op2 .add (.tup [D.int d]) (.tup (bits dg)) = some (.dat (.tup (bits (d.toNat :: dg)))) := by
      rw [toNat_nt (show (0 : Int) ≤ d by omega)]
      generalize d.toNat = n
      have h := addZ [(n : Int)] (dg.map Int.ofNat) (by rw [List.length_map, List.length_singleton]; omega)
      have e2 : zs ([(n : Int)] ++ dg.map Int.ofNat) = bits (n :: dg) := by rw [bits_zs]; rfl
      rw [← bits_zs, e2] at h
      exact h
    exact go_ret (tup4 (ev_idx ei ev_ci rfl) (ev_var rfl) (ev_var rfl) (ev_bin (ev_tup1 (ev_idx ei ev_ci (r := .int d) rfl)) (ev_var rfl) e1)) rfl
  | gv =>
    have hx : nxD c ⟨a, ls, pl, dg⟩ = encE (some (dval dg)) := by simp only [nxD, isEnd, hI, endI]
    rw [hx]
    refine go_pass tR ?_
    refine go_pass tP ?_
    refine go_pass tT ?_
    refine go_pass tW ?_
    exact go_ret (ev_tup2 ev_str (ev_iteT tG (ev_call1 (ev_var rfl) (no_ok k dg)))) rfl
  | nn =>
    have hx : nxD c ⟨a, ls, pl, dg⟩ = encE none := by simp only [nxD, isEnd, hI, endI]
    rw [hx]
    refine go_pass tR ?_
    refine go_pass tP ?_
    refine go_pass tT ?_
    refine go_pass tW ?_
    exact go_ret (ev_tup2 ev_str (ev_iteF tG ev_non)) rfl
end K62
namespace K62
open PySem PF
variable {W : Nat}
abbrev s0 (w : List Nat) : St := ⟨0, w, [], []⟩
theorem stI_len (s : St) (i : Ins) : (stI s i).pl.length ≤ s.pl.length + 1 ∧ (stI s i).dg.length ≤ s.dg.length + 1 := by
  obtain ⟨a, ls, pl, dg⟩ := s
  cases i with
  | rd ws e => cases ls <;> simp [stI]
  | pt n e => simp [stI]
  | tk ps e =>
    simp only [stI]
    cases pl.getLast? <;> simp
    omega
  | wr d e => simp [stI]
  | gv => simp [stI]
  | nn => simp [stI]
theorem q_len (c : List Ins) (w : List Nat) : ∀ k, (q c (s0 w) k).pl.length ≤ k ∧ (q c (s0 w) k).dg.length ≤ k
  | 0 => ⟨Nat.le_refl _, Nat.le_refl _⟩
  | k + 1 => by
    obtain ⟨h1, h2⟩ := q_len c w k
    obtain ⟨g1, g2⟩ := stI_len (q c (s0 w) k) (insAt c (q c (s0 w) k))
    exact ⟨Nat.le_trans g1 (by omega), Nat.le_trans g2 (by omega)⟩
/-- a code that runs on a word -/
structure Rn (m : Nat) (c : List Ins) (w : List Nat) : Prop where
  s : sound m c = true
  z : Cd c
  w : ∀ l ∈ w, l < m
theorem Rn.inv {m : Nat} {c : List Ins} {w : List Nat} (R : Rn m c w) (k : Nat) : Inv m c (q c (s0 w) k) := by
  refine inv_q R.s ⟨?_, R.w, fun n h => absurd h (by simp), fun n h => absurd h (by simp)⟩ k
  have := R.s
  unfold sound at this
  rw [Bool.and_eq_true, decide_eq_true_eq] at this
  exact this.1
theorem cs_q (k m j : Nat) (c : List Ins) (w : List Nat) (R : Rn m c w) (hj : j < 1000) : callL prog W (k + 2) (Str.ofString "code_step") [.val (encC c), .val (encS (q c (s0 w) j))] = some (.dat (nxD c (q c (s0 w) j)), [.val (encC c), .val (encS (q c (s0 w) j))]) := by
  obtain ⟨h1, h2⟩ := q_len c w j
  exact cs_run k m c _ R.s R.z (R.inv j) (by omega) (by omega)
theorem nx_none {c : List Ins} {s : St} {j : Nat} (h : isEnd c (q c s j) = none) : nxD c (q c s j) = encS (q c s (j + 1)) := by unfold nxD; rw [h]; rfl
theorem nx_some {c : List Ins} {s : St} {v : Option Nat} (h : isEnd c s = some v) : nxD c s = encE v := by unfold nxD; rw [h]
theorem ends_uniq {c : List Ins} {s : St} {K K' : Nat} {v v' : Option Nat} (h : Ends c s K v) (h' : Ends c s K' v') : K = K' ∧ v = v' := by
  have : K = K' := by
    rcases Nat.lt_trichotomy K K' with l | e | l
    · have := h'.b K l; rw [h.e] at this; cases this
    · exact e
    · have := h.b K' l; rw [h'.e] at this; cases this
  subst this
  have e := h.e
  rw [h'.e] at e
  exact ⟨rfl, (Option.some.inj e).symm⟩
/-! ### runs -/
def Rl (c : List Ins) (w : List Nat) (most : Nat) (d : D) : Prop := (∃ K v, K < most ∧ Ends c (s0 w) K v ∧ d = .tup [.str sE, nt (K + 1), vD v]) ∨ ((∀ j, j < most → isEnd c (q c (s0 w) j) = none) ∧ d = .tup [.str sO, nt most])
theorem rl_ok (k m most : Nat) (c : List Ins) (w : List Nat) (R : Rn m c w) (hm : most < 1000) :
    ∃ d, Rl c w most d ∧ callL prog W (k + 3) (Str.ofString "run_letter_code") [.val (encC c), .val (.tup (bits w)), .val (nt most)] = some (.dat d, [.val (encC c), .val (.tup (bits w)), .val (nt most)]) := by
  suffices H : ∃ o fs, callL prog W (k + 3) (Str.ofString "run_letter_code") [.val (encC c), .val (.tup (bits w)), .val (nt most)] = some (o, fs) ∧ ∃ d, Rl c w most d ∧ o = .dat d ∧ fs = [.val (encC c), .val (.tup (bits w)), .val (nt most)] by
    obtain ⟨o, fs, e, d, h, rfl, rfl⟩ := H
    exact ⟨d, h, e⟩
  refine e_run_letter_code ?_
  refine go_setD (ev_call1 (ev_var rfl) (cb_ok (k + 1) w)) ?_
  show Goes _ _ _ [.val (encC c), .val (.tup (bits w)), .val (nt most), .val (encS (q c (s0 w) 0)), .un] _
  refine go_for ((List.range most).map nt) _ (fun i env => ∃ x4, env = [.val (encC c), .val (.tup (bits w)), .val (nt most), .val (encS (q c (s0 w) i)), x4] ∧ ∀ j, j < i → isEnd c (q c (s0 w) j) = none) (ev_range (by omega) (ev_var rfl)) ⟨.un, rfl, fun j h => by omega⟩ (fun i x env hx ⟨x4, he, hb⟩ => ?_) fun env ⟨x4, he, hb⟩ => ?_
  · obtain ⟨hi, rfl⟩ := xs_at hx
    subst he
    refine ⟨_, rfl, ?_⟩
    have e := cs_q (W := W) k m i c w R (by omega)
    refine go_setD (ev_call2 (ev_var rfl) (ev_var rfl) e) ?_
    show Goes _ _ _ [.val (encC c), .val (.tup (bits w)), .val (nt most), .val (nxD c (q c (s0 w) i)), .val (nt i)] _
    cases h : isEnd c (q c (s0 w) i) with
    | none =>
      rw [nx_none h]
      refine go_pass (ev_cmpT (d := nt (q c (s0 w) (i + 1)).a) (ev_idx (ev_var rfl) ev_ci rfl) ev_str (iE _)) (go_nil ⟨.val (nt i), rfl, fun j hj => ?_⟩)
      by_cases hji : j < i
      · exact hb j hji
      · have : j = i := by omega
        rw [this]; exact h
    | some v =>
      rw [nx_some h]
      refine go_ite true _ (ev_cmpT (d := .str sE) (ev_idx (ev_var rfl) ev_ci rfl) ev_str qE) (fun _ => ?_) (fun z => nomatch z)
      exact go_ret (tup3 ev_str (ev_bin (ev_var rfl) ev_one (add_nt _ _)) (ev_idx (ev_var rfl) ev_ci rfl)) ⟨_, .inl ⟨i, v, hi, ⟨h, hb⟩, rfl⟩, rfl, rfl⟩
  · subst he
    rw [List.length_map, List.length_range] at hb
    exact go_ret (ev_tup2 ev_str (ev_var rfl)) ⟨_, .inr ⟨hb, rfl⟩, rfl, rfl⟩
theorem rl_end (k m most K : Nat) (v : Option Nat) (c : List Ins) (w : List Nat) (R : Rn m c w) (hm : most < 1000) (hE : Ends c (s0 w) K v) (hK : K < most) :
    callL prog W (k + 3) (Str.ofString "run_letter_code") [.val (encC c), .val (.tup (bits w)), .val (nt most)] = some (.dat (.tup [.str sE, nt (K + 1), vD v]), [.val (encC c), .val (.tup (bits w)), .val (nt most)]) := by
  obtain ⟨d, h, e⟩ := rl_ok (W := W) k m most c w R hm
  rcases h with ⟨K', v', _, h2, rfl⟩ | ⟨h, _⟩
  · obtain ⟨rfl, rfl⟩ := ends_uniq hE h2
    exact e
  · have := h K hK
    rw [hE.e] at this; cases this
theorem rl_open (k m most : Nat) (c : List Ins) (w : List Nat) (R : Rn m c w) (hm : most < 1000) (hO : ∀ j, j < most → isEnd c (q c (s0 w) j) = none) :
    callL prog W (k + 3) (Str.ofString "run_letter_code") [.val (encC c), .val (.tup (bits w)), .val (nt most)] = some (.dat (.tup [.str sO, nt most]), [.val (encC c), .val (.tup (bits w)), .val (nt most)]) := by
  obtain ⟨d, h, e⟩ := rl_ok (W := W) k m most c w R hm
  rcases h with ⟨K', v', h1, h2, rfl⟩ | ⟨_, rfl⟩
  · have := hO K' h1
    rw [h2.e] at this; cases this
  · exact e
theorem cn_ok (k m K t : Nat) (v : Option Nat) (c : List Ins) (w : List Nat) (r : D) (R : Rn m c w) (hE : Ends c (s0 w) K v) (hK : K < 900) (hW : 1000 < W)
    (hr : callL prog W (k + 2) (Str.ofString "word_of") [.val r] = some (.dat (.tup (bits w)), [.val r])) :
    callL prog W (k + 3) (Str.ofString "code_number") [.val (encC c), .val (nt t), .val r] = some (.dat (vD v), [.val (encC c), .val (nt t), .val r]) := by
  refine c_code_number ?_
  refine go_setD (ev_call1 (ev_call1 (ev_var rfl) hr) (cb_ok (k + 1) w)) ?_
  show Goes _ _ _ [.val (encC c), .val (nt t), .val r, .val (encS (q c (s0 w) 0))] _
  refine go_whl (fun M env => (∃ i, i ≤ K ∧ M = K + 1 - i ∧ env = [.val (encC c), .val (nt t), .val r, .val (encS (q c (s0 w) i))]) ∨ (M = 0 ∧ env = [.val (encC c), .val (nt t), .val r, .val (encE v)])) (K + 1) (by omega) (.inl ⟨0, by omega, by omega, rfl⟩) fun M env h => ?_
  rcases h with ⟨i, hi, hM, rfl⟩ | ⟨hM, rfl⟩
  · refine ⟨true, _, ev_cmpT (d := nt (q c (s0 w) i).a) (ev_idx (ev_var rfl) ev_ci rfl) ev_str (iEn _), fun _ => ?_, (fun h => nomatch h)⟩
    have e := cs_q (W := W) k m i c w R (by omega)
    refine go_setD (ev_call2 (ev_var rfl) (ev_var rfl) e) ?_
    by_cases h : i < K
    · rw [nx_none (hE.b i h)]
      exact go_nil ⟨K + 1 - (i + 1), by omega, .inl ⟨i + 1, by omega, rfl, rfl⟩⟩
    · have : i = K := by omega
      subst this
      rw [nx_some hE.e]
      exact go_nil ⟨0, by omega, .inr ⟨rfl, rfl⟩⟩
  · refine ⟨false, _, ev_cmpT (d := .str sE) (ev_idx (ev_var rfl) ev_ci rfl) ev_str qEn, (fun h => nomatch h), fun _ => ?_⟩
    exact go_ret (ev_idx (ev_var rfl) ev_ci rfl) rfl
end K62
namespace K62
open PySem PF
variable {W : Nat}
/-! ### states along a run, by the law -/
def wsum : Nat → List Nat → Nat
  | _, [] => 0 | j, d :: r => d * 2 ^ j + wsum (j + 1) r
theorem wsum_dval : ∀ (l : List Nat) (j : Nat), wsum j l = 2 ^ j * dval l
  | [], j => rfl
  | d :: l, j => by
    rw [wsum, wsum_dval l (j + 1), dval, Nat.pow_succ, Nat.mul_add, Nat.mul_comm d, Nat.mul_assoc]
theorem wsum_range : ∀ (l : List Nat) (j : Nat), ((List.range l.length).map fun i => l[i]?.getD 0 * 2 ^ (j + i)).sum = wsum j l
  | [], j => rfl
  | d :: l, j => by
    rw [List.length_cons, List.range_succ_eq_map, List.map_cons, List.map_map, List.sum_cons, wsum, ← wsum_range l (j + 1)]
    congr 1
    congr 1
    refine List.map_congr_left fun i _ => ?_
    show (d :: l)[i + 1]?.getD 0 * 2 ^ (j + (i + 1)) = l[i]?.getD 0 * 2 ^ (j + 1 + i)
    rw [List.getElem?_cons_succ, show j + (i + 1) = j + 1 + i by omega]
theorem ev_dig {c : Cl} {env : PF.Env} {i j : Nat} {dg : List Nat} (hi : look env i = .val (.tup (bits dg))) (hb : ∀ d ∈ dg, d < 2) (hl : dg.length < 1000) (hij : i ≠ j) (hj : ∀ d, look (env.set j (.val d)) j = .val d) (hii : ∀ d, look (env.set j (.val d)) i = .val (.tup (bits dg))) :
    ev c (.blt .sum [(.bin .add (.lst [(.int 0)]) (.lc [j] (.nm j) (.rng [(.blt .len [(.var i)])]) [] (.bin .shl (.idx (.var i) (.var j)) (.var j))))]) .v env = some (.dat (nt (dval dg)), env) := by
  have q := ev_lcm (c := c) (i := j) (src := .rng [(.blt .len [(.var i)])]) (elt := .bin .shl (.idx (.var i) (.var j)) (.var j)) (List.range dg.length) nt (fun p => nt (dg[p]?.getD 0 * 2 ^ p)) env (ev_range (by omega) (ev_nlen (ev_var hi))) (ln_of (by simp; omega)) fun p hp => lcT1 (by
    have hp' := List.mem_range.mp hp
    refine ev_bin (ev_idx (ev_var (hii _)) (ev_var (hj _)) (at_bits hp')) (ev_var (hj _)) (shl_bit (hb _ ?_) (by omega))
    simp [hp'])
  rw [mapB] at q
  have e := ev_cons0 (i := 0) q (by rw [bits, List.length_map, List.length_map, List.length_range]; exact ln_of (by omega))
  have s := ev_sum (ns := 0 :: ((List.range dg.length).map fun p => dg[p]?.getD 0 * 2 ^ p).map Int.ofNat) e (by simp only [intsD, ints_bits, Option.map_some])
  rw [List.sum_cons, sum_nat] at s
  have h2 : ((List.range dg.length).map fun p => dg[p]?.getD 0 * 2 ^ p).sum = dval dg := by
    have := wsum_range dg 0
    simp only [Nat.zero_add] at this
    rw [this, wsum_dval]; simp
  rw [h2] at s
  simpa using s
theorem tup2S {c : Cl} {env env2 : PF.Env} {i : Nat} {b : E} {xs : List D} {d : D} (h : look env i = .own (.lst xs)) (h' : ev c b .v (env.set i (.val (.lst xs))) = some (.dat d, env2)) : ev c (.tup [.var i, b]) .v env = some (.dat (.tup [.lst xs, d]), env2) := by
  have l2 : 2 ≤ line := by unfold line; omega
  have e := ev_slot (c := c) h
  simp [ev, evds, fin, h, h', toD, l2]
theorem and_fb {c : Cl} {env : PF.Env} {a b : E} {p q : Bool} (ha : ev c a .t env = some (.dat (.bl p), env)) (hb : p = true → ev c b .t env = some (.dat (.bl q), env)) : ev c (.and [a, b]) .t env = some (.dat (.bl (p && q)), env) := by
  cases p with
  | false => simp [ev, evAnd, ha, fin, view, truth, Md.tv]
  | true =>
    have hb := hb rfl
    cases q <;> simp [ev, evAnd, ha, hb, fin, view, truth, Md.tv]
theorem gt0 (n : Nat) : cm .gt (nt n) (.int 0) = some (decide (0 < n)) := by simp [cm, nt]
theorem app_any {xs : List D} {d : D} (h : xs.length < 100000) : mutD .append (.lst xs) [d] = some (.non, .lst (xs ++ [d])) := by
  have : xs.length < line := by unfold line; omega
  simp [mutD, this]
theorem ex_par {c : Cl} {env : PF.Env} {i j : Nat} {a b : E} {d d' : D} (ha : ev c a .v env = some (.dat d, env)) (hb : ev c b .v env = some (.dat d', env)) : ex c W (.par i j a b) env = some (.nx ((env.set i (.val d)).set j (.val d'))) := by
  simp only [ex, evds, ha, hb, toD]
theorem ex_unp2 {c : Cl} {env : PF.Env} {i j : Nat} {a b : E} {d d' : D} (ha : ev c a .v env = some (.dat d, env)) (hb : ev c b .v env = some (.dat d', env)) : ex c W (.unp [i, j] (.tup [a, b])) env = some (.nx ((env.set i (.val d)).set j (.val d'))) := by
  have := ev_tup2 ha hb
  simp only [ex, this, toD, setAll]
def sts (c : List Ins) (w : List Nat) (n : Nat) : List D := (List.range n).map fun j => encS (q c (s0 w) j)
theorem sts_succ (c : List Ins) (w : List Nat) (n : Nat) : sts c w (n + 1) = sts c w n ++ [encS (q c (s0 w) n)] := by simp [sts, List.range_succ]
theorem sts_len (c : List Ins) (w : List Nat) (n : Nat) : (sts c w n).length = n := by simp [sts]
def Rs (c : List Ins) (w : List Nat) (most : Nat) (d : D) : Prop := (∃ K v, K < most ∧ Ends c (s0 w) K v ∧ d = .tup [.lst (sts c w (K + 1)), .tup [nt (K + 1), vD v]]) ∨ ((∀ j, j < most → isEnd c (q c (s0 w) j) = none) ∧ d = .tup [.lst (sts c w (most + 1)), .non])
theorem fm_way2 (n : Int) : ∀ ps : List (Int × Int), (ps.filterMap fun p => if p.1 = n then some (D.int p.2) else none) = zs ((ps.filter fun p => decide (p.1 = n)).map (·.2)) := fm_way n
theorem at_pr0 (p : Int × Int) : idxD (.tup [.int p.1, .int p.2]) (.int 0) = some (.int p.1) := rfl
theorem at_pr1 (p : Int × Int) : idxD (.tup [.int p.1, .int p.2]) (.int 1) = some (.int p.2) := rfl
theorem lcs_ok (k m most : Nat) (c : List Ins) (w : List Nat) (R : Rn m c w) (hm : most < 1000) :
    ∃ d, Rs c w most d ∧ callL prog W (k + 1) (Str.ofString "_law_code_states") [.val (encC c), .val (.tup (bits w)), .val (nt most)] = some (.dat d, [.val (encC c), .val (.tup (bits w)), .val (nt most)]) := by
  suffices H : ∃ o fs, callL prog W (k + 1) (Str.ofString "_law_code_states") [.val (encC c), .val (.tup (bits w)), .val (nt most)] = some (o, fs) ∧ ∃ d, Rs c w most d ∧ o = .dat d ∧ fs = [.val (encC c), .val (.tup (bits w)), .val (nt most)] by
    obtain ⟨o, fs, e, d, h, rfl, rfl⟩ := H
    exact ⟨d, h, e⟩
  refine e__law_code_states ?_
  have et : ev (callL prog W k) (.blt .tuple [(.var 1)]) .v [.val (encC c), .val (.tup (bits w)), .val (nt most), .un, .un, .un, .un, .un, .un, .un, .un, .un] = some (.dat (.tup (bits w)), [.val (encC c), .val (.tup (bits w)), .val (nt most), .un, .un, .un, .un, .un, .un, .un, .un, .un]) := by
    simp only [ev, evs, fin, look, views, view, bltD, List.getElem?_cons_zero, List.getElem?_cons_succ, Option.getD_some]
  refine go_step _ (unp4 (tup4 (a := nt 0) ev_ci et ev_t0 ev_t0)) ?_
  show Goes _ _ _ [.val (encC c), .val (.tup (bits w)), .val (nt most), .val (nt 0), .val (.tup (bits w)), .val (.tup (zs [])), .val (.tup (bits [])), .un, .un, .un, .un, .un] _
  refine go_setO (ev_l1 (tup4 (ev_var rfl) (ev_var rfl) (ev_var rfl) (ev_var rfl))) ?_
  show Goes _ _ _ [.val (encC c), .val (.tup (bits w)), .val (nt most), .val (nt (q c (s0 w) 0).a), .val (.tup (bits (q c (s0 w) 0).ls)), .val (.tup (zs (q c (s0 w) 0).pl)), .val (.tup (bits (q c (s0 w) 0).dg)), .own (.lst (sts c w 1)), .un, .un, .un, .un] _
  refine go_for ((List.range most).map nt) _ (fun i env => ∃ x8 x9 x10 x11, env = [.val (encC c), .val (.tup (bits w)), .val (nt most), .val (nt (q c (s0 w) i).a), .val (.tup (bits (q c (s0 w) i).ls)), .val (.tup (zs (q c (s0 w) i).pl)), .val (.tup (bits (q c (s0 w) i).dg)), .own (.lst (sts c w (i + 1))), x8, x9, x10, x11] ∧ ∀ j, j < i → isEnd c (q c (s0 w) j) = none)
    (ev_range (by omega) (ev_var rfl)) ⟨.un, .un, .un, .un, rfl, fun j h => by omega⟩ (fun i x env hx ⟨x8, x9, x10, x11, he, hb⟩ => ?_) fun env ⟨x8, x9, x10, x11, he, hb⟩ => ?_
  · obtain ⟨hi, rfl⟩ := xs_at hx
    subst he
    refine ⟨_, rfl, ?_⟩
    obtain ⟨hql1, hql2⟩ := q_len c w i
    have I := R.inv i
    have hstp : q c (s0 w) (i + 1) = stI (q c (s0 w) i) (insAt c (q c (s0 w) i)) := rfl
    have hend : isEnd c (q c (s0 w) i) = endI (q c (s0 w) i) (insAt c (q c (s0 w) i)) := rfl
    have hat := at_code I.a
    obtain ⟨hw, ho⟩ := snd_at R.s I.a
    have hz := R.z.at I.a
    have hia : c[(q c (s0 w) i).a]?.getD .gv = insAt c (q c (s0 w) i) := rfl
    rw [hia] at hat
    have hsl := sts_len c w (i + 1)
    have hsS := sts_succ c w (i + 1)
    obtain ⟨hal, hlsI, hplI, hdgI⟩ := I
    obtain ⟨X, hX⟩ : ∃ X, X = sts c w (i + 1) := ⟨_, rfl⟩
    rw [← hX] at hsl hsS ⊢
    obtain ⟨s', hs'⟩ : ∃ s', s' = q c (s0 w) (i + 1) := ⟨_, rfl⟩
    rw [← hs'] at hstp
    generalize hI : insAt c (q c (s0 w) i) = ins at *
    obtain ⟨⟨a, ls, pl, dg⟩, hs⟩ : ∃ s, s = q c (s0 w) i := ⟨_, rfl⟩
    rw [← hs] at hstp hend hat hql1 hql2 hal hlsI hplI hdgI hI ⊢
    simp only at hat hql1 hql2 hal hlsI hplI hdgI ⊢
    refine go_setD (ev_idx (ev_var rfl) (ev_var rfl) hat) ?_
    show Goes _ _ _ [.val (encC c), .val (.tup (bits w)), .val (nt most), .val (nt a), .val (.tup (bits ls)), .val (.tup (zs pl)), .val (.tup (bits dg)), .own (.lst X), .val (nt i), .val (encI ins), x10, x11] _
    have tst : ∀ {b : Str} {r : Bool}, cm .eq (.str (knd ins)) (.str b) = some r → ∀ {s3 s4 s5 s6 : Slot}, ev (callL prog W k) (.cmp .eq (.idx (.var 9) (.int 0)) (.str b)) .t [.val (encC c), .val (.tup (bits w)), .val (nt most), s3, s4, s5, s6, .own (.lst X), .val (nt i), .val (encI ins), x10, x11] = some (.dat (.bl r), [.val (encC c), .val (.tup (bits w)), .val (nt most), s3, s4, s5, s6, .own (.lst X), .val (nt i), .val (encI ins), x10, x11]) :=
      fun h => fun {s3 s4 s5 s6} => ev_cmpT (ev_idx (ev_var rfl) ev_ci (k0 ins)) ev_str h
    have fin : ∀ {A B C' D' : D} {x10 : Slot}, D.tup [A, B, C', D'] = encS s' → endI (⟨a, ls, pl, dg⟩ : St) ins = none → Goes (callL prog W k) W [.expr (.mut .append 7 [(.tup [(.var 3), (.var 4), (.var 5), (.var 6)])])] [.val (encC c), .val (.tup (bits w)), .val (nt most), .val A, .val B, .val C', .val D', .own (.lst X), .val (nt i), .val (encI ins), x10, x11]
        (Turn (fun env => ∃ x8 x9 x10 x11, env = [.val (encC c), .val (.tup (bits w)), .val (nt most), .val (nt (q c (s0 w) (i + 1)).a), .val (.tup (bits (q c (s0 w) (i + 1)).ls)), .val (.tup (zs (q c (s0 w) (i + 1)).pl)), .val (.tup (bits (q c (s0 w) (i + 1)).dg)), .own (.lst (sts c w (i + 1 + 1))), x8, x9, x10, x11] ∧ ∀ j, j < i + 1 → isEnd c (q c (s0 w) j) = none)
          (fun env => Goes (callL prog W k) W [.ret (.tup [(.var 7), .non])] env fun r => match outR d__law_code_states r with | some (o, fs) => ∃ d, Rs c w most d ∧ o = .dat d ∧ fs = [.val (encC c), .val (.tup (bits w)), .val (nt most)] | none => False) fun r => match outR d__law_code_states r with | some (o, fs) => ∃ d, Rs c w most d ∧ o = .dat d ∧ fs = [.val (encC c), .val (.tup (bits w)), .val (nt most)] | none => False) := by
      intro A B C' D' x10 he hn
      have hinj := D.tup.inj he
      simp only [List.cons.injEq, and_true] at hinj
      obtain ⟨rfl, rfl, rfl, rfl⟩ := hinj
      refine go_expr (ev_mut1 (l := .lst X) rfl rfl (tup4 (ev_var rfl) (ev_var rfl) (ev_var rfl) (ev_var rfl)) rfl (app_any (by omega))) (go_nil ⟨.val (nt i), .val (encI ins), x10, x11, ?_, fun j hj => ?_⟩)
      · rw [hsS, ← hs']; rfl
      · by_cases hji : j < i
        · exact hb j hji
        · have : j = i := by omega
          rw [this, ← hs, hend]; exact hn
    have e5 : ∀ {x10 : Slot} {B : D}, ev (callL prog W k) (.blt .len [.var 4]) .v [.val (encC c), .val (.tup (bits w)), .val (nt most), .val (nt a), .val (.tup (bits ls)), .val (.tup (zs pl)), .val (.tup (bits dg)), .own (.lst X), .val (nt i), .val (encI ins), x10, x11] = some (.dat (nt ls.length), [.val (encC c), .val (.tup (bits w)), .val (nt most), .val (nt a), .val (.tup (bits ls)), .val (.tup (zs pl)), .val (.tup (bits dg)), .own (.lst X), .val (nt i), .val (encI ins), x10, x11]) := fun {x10 B} => ev_tlen (n := ls.length) (ev_var rfl) (by simp)
    have e6 : ev (callL prog W k) (.blt .len [.var 5]) .v [.val (encC c), .val (.tup (bits w)), .val (nt most), .val (nt a), .val (.tup (bits ls)), .val (.tup (zs pl)), .val (.tup (bits dg)), .own (.lst X), .val (nt i), .val (encI ins), x10, x11] = some (.dat (nt pl.length), [.val (encC c), .val (.tup (bits w)), .val (nt most), .val (nt a), .val (.tup (bits ls)), .val (.tup (zs pl)), .val (.tup (bits dg)), .own (.lst X), .val (nt i), .val (encI ins), x10, x11]) := ev_tlen (n := pl.length) (ev_var rfl) (by simp)
    have aR := and_fb (tst (kR ins) (s3 := .val (nt a)) (s4 := .val (.tup (bits ls))) (s5 := .val (.tup (zs pl))) (s6 := .val (.tup (bits dg)))) fun _ => ev_cmpT (op := .gt) (e5 (B := .non)) ev_ci (gt0 ls.length)
    have aT := and_fb (tst (kT ins) (s3 := .val (nt a)) (s4 := .val (.tup (bits ls))) (s5 := .val (.tup (zs pl))) (s6 := .val (.tup (bits dg)))) fun _ => ev_cmpT (op := .gt) e6 ev_ci (gt0 pl.length)
    cases ins with
    | gv =>
      refine go_ite true _ (tst (kG _)) (fun _ => ?_) (fun h => nomatch h)
      have hv : endI (⟨a, ls, pl, dg⟩ : St) .gv = some (some (dval dg)) := rfl
      rw [hv, hs] at hend
      rw [hX]
      refine go_ret (tup2S rfl (ev_tup2 (ev_bin (ev_var rfl) ev_one (add_nt _ _)) (ev_dig rfl hdgI (by omega) (by decide) (fun _ => rfl) (fun _ => rfl)))) ⟨_, .inl ⟨i, _, hi, ⟨hend, hb⟩, rfl⟩, rfl, rfl⟩
    | nn =>
      refine go_pass (tst (kG _)) ?_
      refine go_ite true _ (tst (kN _)) (fun _ => ?_) (fun h => nomatch h)
      have hv : endI (⟨a, ls, pl, dg⟩ : St) .nn = some none := rfl
      rw [hv, hs] at hend
      rw [hX]
      refine go_ret (tup2S rfl (ev_tup2 (ev_bin (ev_var rfl) ev_one (add_nt _ _)) ev_non)) ⟨_, .inl ⟨i, _, hi, ⟨hend, hb⟩, rfl⟩, rfl, rfl⟩
    | rd ws e =>
      have hlen : ws.length = m := of_decide_eq_true ho
      refine go_pass (tst (kG _)) ?_
      refine go_pass (tst (kN _)) ?_
      cases ls with
      | nil =>
        refine go_ite false _ aR (fun h => nomatch h) (fun _ => ?_)
        refine go_ite false _ aT (fun h => nomatch h) (fun _ => ?_)
        refine go_setD (ev_iteF (tst (kP _)) (ev_var rfl)) ?_
        refine go_setD (ev_iteF (tst (kW _)) (ev_var rfl)) ?_
        refine go_setD (ev_idx (ev_var rfl) ev_ci rfl) ?_
        refine fin (A := .int e) (B := .tup (bits [])) (C' := .tup (zs pl)) (D' := .tup (bits dg)) ?_ rfl
        rw [hstp, toNat_nt (hw e (by simp [ways])).1]; rfl
      | cons l r =>
        have hlm : l < ws.length := by rw [hlen]; exact hlsI l List.mem_cons_self
        have e0 : ws[l]?.getD 0 = ws[l] := by simp [hlm]
        have c1 := ev_cut (c := callL prog W k) (env := [.val (encC c), .val (.tup (bits w)), .val (nt most), .val (nt a), .val (.tup (bits (l :: r))), .val (.tup (zs pl)), .val (.tup (bits dg)), .own (.lst X), .val (nt i), .val (encI (.rd ws e)), x10, x11]) (a := .var 4) (lo := .int 1) (hi := .non) (l := some ((1 : Nat) : Int)) (h := none) (ev_var rfl) ev_ci ev_non rfl rfl
        rw [cut_from (by simp)] at c1
        have ha : decide (0 < (l :: r).length) = true := decide_eq_true (by simp)
        rw [ha] at aR
        refine go_ite true _ aR (fun _ => ?_) (fun h => nomatch h)
        refine go_step _ (ex_par (ev_idx (ev_idx (ev_var rfl) ev_ci (r := .tup (zs ws)) rfl) (ev_idx (d' := nt 0) (ev_var rfl) ev_ci (r := nt l) (by rw [at_bits (by simp)]; rfl)) (at_zsT hlm)) c1) ?_
        refine fin (A := .int ws[l]) (B := .tup (bits r)) (C' := .tup (zs pl)) (D' := .tup (bits dg)) ?_ rfl
        have hge := (hw ws[l] (by simp [ways])).1
        rw [hstp, toNat_nt hge, ← e0]; rfl
    | pt n e =>
      refine go_pass (tst (kG _)) ?_
      refine go_pass (tst (kN _)) ?_
      refine go_ite false _ aR (fun h => nomatch h) (fun _ => ?_)
      refine go_ite false _ aT (fun h => nomatch h) (fun _ => ?_)
      refine go_setD (ev_iteT (tst (kP _)) (ev_bin (ev_var rfl) (ev_tup1 (ev_idx (ev_var rfl) ev_ci (r := .int n) rfl)) (addZ pl [n] (by rw [List.length_singleton]; omega)))) ?_
      refine go_setD (ev_iteF (tst (kW _)) (ev_var rfl)) ?_
      refine go_setD (ev_idx (ev_var rfl) ev_ci rfl) ?_
      refine fin (A := .int e) (B := .tup (bits ls)) (C' := .tup (zs (pl ++ [n]))) (D' := .tup (bits dg)) ?_ rfl
      rw [hstp, toNat_nt (hw e (by simp [ways])).1]; rfl
    | tk ps e =>
      refine go_pass (tst (kG _)) ?_
      refine go_pass (tst (kN _)) ?_
      refine go_ite false _ aR (fun h => nomatch h) (fun _ => ?_)
      cases hl : pl.getLast? with
      | none =>
        have : pl = [] := List.getLast?_eq_none_iff.mp hl
        subst this
        refine go_ite false _ aT (fun h => nomatch h) (fun _ => ?_)
        refine go_setD (ev_iteF (tst (kP _)) (ev_var rfl)) ?_
        refine go_setD (ev_iteF (tst (kW _)) (ev_var rfl)) ?_
        refine go_setD (ev_idx (ev_var rfl) ev_ci rfl) ?_
        refine fin (A := .int e) (B := .tup (bits ls)) (C' := .tup (zs [])) (D' := .tup (bits dg)) ?_ rfl
        rw [hstp, toNat_nt (hw e (by simp [ways])).1]; rfl
      | some n =>
        have hpos : 0 < pl.length := by
          cases pl with
          | nil => cases hl
          | cons _ _ => simp
        have hn2 : n ∈ ps.map (·.1) := by
          have ho' : told ps (puts c) = true := ho
          unfold told at ho'
          rw [Bool.and_eq_true, List.all_eq_true] at ho'
          exact of_decide_eq_true (ho'.2 n (hplI n (List.mem_of_getLast? hl)))
        obtain ⟨v, h1, h2, h3⟩ := lkp_mem hn2
        have hge : 0 ≤ lkp ps n := by rw [h2]; exact (hw v (List.mem_append_left _ h1)).1
        have hzz : ps.length < 60 := hz
        have c1 := ev_cut (c := callL prog W k) (env := [.val (encC c), .val (.tup (bits w)), .val (nt most), .val (nt a), .val (.tup (bits ls)), .val (.tup (zs pl)), .val (.tup (bits dg)), .own (.lst X), .val (nt i), .val (encI (.tk ps e)), x10, x11]) (a := .var 5) (lo := .non) (hi := .neg (.int 1)) (l := none) (h := some (-1)) (ev_var rfl) ev_non (ev_neg ev_ci) rfl rfl
        rw [cut_last (by simpa using hpos), ← List.map_dropLast] at c1
        have lc := ev_lcG (c := callL prog W k) (own := [10]) (tg := .nm 10) (src := .idx (.var 9) (.int 1)) (elt := .idx (.var 10) (.int 1)) (cond := [(.cmp .eq (.idx (.var 10) (.int 0)) (.idx (.var 5) (.neg (.int 1))))]) (env := [.val (encC c), .val (.tup (bits w)), .val (nt most), .val (nt a), .val (.tup (bits ls)), .val (.tup (zs pl)), .val (.tup (bits dg)), .own (.lst X), .val (nt i), .val (encI (.tk ps e)), x10, x11]) (env0 := [.val (encC c), .val (.tup (bits w)), .val (nt most), .val (nt a), .val (.tup (bits ls)), .val (.tup (zs pl)), .val (.tup (bits dg)), .own (.lst X), .val (nt i), .val (encI (.tk ps e)), x10, x11])
          ps (fun p => D.tup [.int p.1, .int p.2]) (fun p => if p.1 = n then some (D.int p.2) else none) (ev_idx_i (ev_idx (ev_var rfl) ev_ci rfl)) (ln_of (by omega)) fun p hp => ⟨[.val (encC c), .val (.tup (bits w)), .val (nt most), .val (nt a), .val (.tup (bits ls)), .val (.tup (zs pl)), .val (.tup (bits dg)), .own (.lst X), .val (nt i), .val (encI (.tk ps e)), .val (.tup [.int p.1, .int p.2]), x11], by
            have hcmp : ev (callL prog W k) (.cmp .eq (.idx (.var 10) (.int 0)) (.idx (.var 5) (.neg (.int 1)))) .t [.val (encC c), .val (.tup (bits w)), .val (nt most), .val (nt a), .val (.tup (bits ls)), .val (.tup (zs pl)), .val (.tup (bits dg)), .own (.lst X), .val (nt i), .val (encI (.tk ps e)), .val (.tup [.int p.1, .int p.2]), x11] = some (.dat (.bl (decide (p.1 = n))), [.val (encC c), .val (.tup (bits w)), .val (nt most), .val (nt a), .val (.tup (bits ls)), .val (.tup (zs pl)), .val (.tup (bits dg)), .own (.lst X), .val (nt i), .val (encI (.tk ps e)), .val (.tup [.int p.1, .int p.2]), x11]) := ev_cmpT (ev_idx (ev_var rfl) ev_ci (at_pr0 p)) (ev_idx (ev_var rfl) (ev_neg ev_ci) (last_zs hl)) (eq_int _ _)
            by_cases hq : p.1 = n
            · rw [if_pos hq]
              rw [decide_eq_true hq] at hcmp
              exact lcT_t hcmp (ev_idx (ev_var rfl) ev_ci (at_pr1 p))
            · rw [if_neg hq]
              rw [decide_eq_false hq] at hcmp
              exact lcT_f hcmp, rfl⟩
        rw [fm_way] at lc
        have ew : ev (callL prog W k) (.idx (.lc [10] (.nm 10) (.idx (.var 9) (.int 1)) [(.cmp .eq (.idx (.var 10) (.int 0)) (.idx (.var 5) (.neg (.int 1))))] (.idx (.var 10) (.int 1))) (.int 0)) .v [.val (encC c), .val (.tup (bits w)), .val (nt most), .val (nt a), .val (.tup (bits ls)), .val (.tup (zs pl)), .val (.tup (bits dg)), .own (.lst X), .val (nt i), .val (encI (.tk ps e)), x10, x11] = some (.dat (.int (lkp ps n)), [.val (encC c), .val (.tup (bits w)), .val (nt most), .val (nt a), .val (.tup (bits ls)), .val (.tup (zs pl)), .val (.tup (bits dg)), .own (.lst X), .val (nt i), .val (encI (.tk ps e)), x10, x11]) := by
          refine ev_idxL (d := nt 0) lc ev_ci (r := .int (lkp ps n)) ?_
          rw [h2]
          cases hl' : (ps.filter fun p => decide (p.1 = n)).map (·.2) with
          | nil => rw [hl'] at h3; cases h3
          | cons x r =>
            rw [hl'] at h3
            cases h3
            show atD (zs (v :: r)) ((0 : Nat) : Int) = _
            rw [atD_zs (by simp)]; rfl
        have ha : decide (0 < pl.length) = true := decide_eq_true hpos
        rw [ha] at aT
        refine go_ite true _ aT (fun _ => ?_) (fun h => nomatch h)
        refine go_step _ (ex_unp2 ew c1) ?_
        refine fin (A := .int (lkp ps n)) (B := .tup (bits ls)) (C' := .tup (zs pl.dropLast)) (D' := .tup (bits dg)) ?_ rfl
        rw [hstp, toNat_nt hge]
        simp only [stI, hl]
    | wr d e =>
      have hd' : d = 0 ∨ d = 1 := of_decide_eq_true ho
      refine go_pass (tst (kG _)) ?_
      refine go_pass (tst (kN _)) ?_
      refine go_ite false _ aR (fun h => nomatch h) (fun _ => ?_)
      refine go_ite false _ aT (fun h => nomatch h) (fun _ => ?_)
      refine go_setD (ev_iteF (tst (kP _)) (ev_var rfl)) ?_
      have e1 : op2 .add (.tup [D.int d]) (.tup (bits dg)) = some (.dat (.tup (bits (d.toNat :: dg)))) := by
        rw [toNat_nt (show (0 : Int) ≤ d by omega)]
        generalize d.toNat = n
        have h := addZ [(n : Int)] (dg.map Int.ofNat) (by rw [List.length_map, List.length_singleton]; omega)
        have e2 : zs ([(n : Int)] ++ dg.map Int.ofNat) = bits (n :: dg) := by rw [bits_zs]; rfl
        rw [← bits_zs, e2] at h
        exact h
      refine go_setD (ev_iteT (tst (kW _)) (ev_bin (ev_tup1 (ev_idx (ev_var rfl) ev_ci (r := .int d) rfl)) (ev_var rfl) e1)) ?_
      refine go_setD (ev_idx (ev_var rfl) ev_ci rfl) ?_
      refine fin (A := .int e) (B := .tup (bits ls)) (C' := .tup (zs pl)) (D' := .tup (bits (d.toNat :: dg))) ?_ rfl
      rw [hstp, toNat_nt (hw e (by simp [ways])).1]; rfl
  · subst he
    rw [List.length_map, List.length_range] at *
    exact go_ret (tup2S rfl ev_non) ⟨_, .inr ⟨hb, rfl⟩, rfl, rfl⟩
end K62
namespace K62
open PySem PF
variable {W : Nat}
inductive dp : Nat → D → Prop
  | int (m : Nat) (i : Int) : dp m (.int i)
  | bl (m : Nat) (b : Bool) : dp m (.bl b)
  | non (m : Nat) : dp m .non
  | str (m : Nat) (s : Str) : shp (.str s) = true → dp m (.str s)
  | tup (m : Nat) (xs : List D) : xs.length < 100000 → (∀ x ∈ xs, dp m x) → dp (m + 1) (.tup xs)
theorem deq_str (a b : Str) : deq (.str a) (.str b) = decide (a = b) := by
  simp only [deq, D.py, PyData.eqv]; by_cases h : a = b <;> simp [h]
theorem same_non (k : Nat) : callL prog W (k + 1) (Str.ofString "_law_same") [.val .non, .val .non] = some (.dat (.bl true), [.val .non, .val .non]) := by
  refine c__law_same ?_
  simp [Goes, outR, exs, ex, ev, evds, evs, evAnd, evOr, look, fin, view, views, cm, D.plain, wantsM, isSeq, sameQ, truth, mutD, toD, op2, store, aug2, giveOut, finals, lend, PF.giveBack, bltD, isiD, kd, isK, idxD, mthD, b2i, itemsOf, bindT, Md.tv, setAll, revD, part, slcD, shp_int, shp_bl, deq_int, deq_bl, shp_non, rg1, rg2, rg3, rg4, ln1, ln2, ln3, ln4, d__law_same, D.isNon]
theorem same_str (k : Nat) (s : Str) (h : shp (.str s) = true) : callL prog W (k + 1) (Str.ofString "_law_same") [.val (.str s), .val (.str s)] = some (.dat (.bl true), [.val (.str s), .val (.str s)]) := by
  refine c__law_same ?_
  simp [Goes, outR, exs, ex, ev, evds, evs, evAnd, evOr, look, fin, view, views, cm, D.plain, wantsM, isSeq, sameQ, truth, mutD, toD, op2, store, aug2, giveOut, finals, lend, PF.giveBack, bltD, isiD, kd, isK, idxD, mthD, b2i, itemsOf, bindT, Md.tv, setAll, revD, part, slcD, shp_int, shp_bl, deq_int, deq_bl, shp_non, rg1, rg2, rg3, rg4, ln1, ln2, ln3, ln4, d__law_same, h, deq_str]
theorem at_any {xs : List D} {i : Nat} (h : i < xs.length) : idxD (.tup xs) (nt i) = some (xs[i]?.getD .non) := by
  simp [idxD, atD, L2.atI, L2.ixN, h]
theorem same_ok : ∀ (m k : Nat) (d : D), dp m d → callL prog W (k + m + 1) (Str.ofString "_law_same") [.val d, .val d] = some (.dat (.bl true), [.val d, .val d])
  | m, k, .int i, h => same_int (k + m) i
  | m, k, .bl i, h => same_bl (k + m) i
  | m, k, .non, h => same_non (k + m)
  | m, k, .str s, h => same_str (k + m) s (by cases h; assumption)
  | 0, k, .tup xs, h => by cases h
  | m + 1, k, .tup xs, h => by
    cases h with
    | tup _ _ hl hx =>
      refine c__law_same ?_
      refine go_step [.val (.tup xs), .val (.tup xs), .un] (by simp [exs, ex, ev, evds, evs, evAnd, evOr, look, fin, view, views, cm, D.plain, wantsM, isSeq, sameQ, truth, mutD, toD, op2, store, aug2, giveOut, finals, lend, PF.giveBack, bltD, isiD, kd, isK, idxD, mthD, b2i, itemsOf, bindT, Md.tv, setAll, revD, part, slcD, shp_int, shp_bl, deq_int, deq_bl, shp_non, rg1, rg2, rg3, rg4, ln1, ln2, ln3, ln4]) ?_
      refine go_step [.val (.tup xs), .val (.tup xs), .un] (by simp [exs, ex, ev, evds, evs, evAnd, evOr, look, fin, view, views, cm, D.plain, wantsM, isSeq, sameQ, truth, mutD, toD, op2, store, aug2, giveOut, finals, lend, PF.giveBack, bltD, isiD, kd, isK, idxD, mthD, b2i, itemsOf, bindT, Md.tv, setAll, revD, part, slcD, shp_int, shp_bl, deq_int, deq_bl, shp_non, rg1, rg2, rg3, rg4, ln1, ln2, ln3, ln4]) ?_
      refine go_step [.val (.tup xs), .val (.tup xs), .un] (by simp [exs, ex, ev, evds, evs, evAnd, evOr, look, fin, view, views, cm, D.plain, wantsM, isSeq, sameQ, truth, mutD, toD, op2, store, aug2, giveOut, finals, lend, PF.giveBack, bltD, isiD, kd, isK, idxD, mthD, b2i, itemsOf, bindT, Md.tv, setAll, revD, part, slcD, shp_int, shp_bl, deq_int, deq_bl, shp_non, rg1, rg2, rg3, rg4, ln1, ln2, ln3, ln4]) ?_
      refine go_step [.val (.tup xs), .val (.tup xs), .un] (by simp [exs, ex, ev, evds, evs, evAnd, evOr, look, fin, view, views, cm, D.plain, wantsM, isSeq, sameQ, truth, mutD, toD, op2, store, aug2, giveOut, finals, lend, PF.giveBack, bltD, isiD, kd, isK, idxD, mthD, b2i, itemsOf, bindT, Md.tv, setAll, revD, part, slcD, shp_int, shp_bl, deq_int, deq_bl, shp_non, rg1, rg2, rg3, rg4, ln1, ln2, ln3, ln4, D.isNon]) ?_
      refine go_step [.val (.tup xs), .val (.tup xs), .un] (by simp [exs, ex, ev, evds, evs, evAnd, evOr, look, fin, view, views, cm, D.plain, wantsM, isSeq, sameQ, truth, mutD, toD, op2, store, aug2, giveOut, finals, lend, PF.giveBack, bltD, isiD, kd, isK, idxD, mthD, b2i, itemsOf, bindT, Md.tv, setAll, revD, part, slcD, shp_int, shp_bl, deq_int, deq_bl, shp_non, rg1, rg2, rg3, rg4, ln1, ln2, ln3, ln4]) ?_
      refine go_for ((List.range xs.length).map nt) [.val (.tup xs), .val (.tup xs), .un] (fun i env => ∃ (x : Slot), env = [.val (.tup xs), .val (.tup xs), x]) (ev_range hl (ev_tlen (ev_var rfl) rfl)) ⟨.un, rfl⟩ (fun i x env hx2 ⟨y, he⟩ => ?_) fun env ⟨y, he⟩ => ?_
      · obtain ⟨hi, rfl⟩ := xs_at hx2
        subst he
        refine ⟨_, rfl, ?_⟩
        have hm : xs[i]?.getD .non ∈ xs := by simp [hi]
        have e := same_ok m k _ (hx _ hm)
        exact go_pass (call_n (ev_call2 (ev_idx (ev_var rfl) (ev_var rfl) (at_any hi)) (ev_idx (ev_var rfl) (ev_var rfl) (at_any hi)) e)) (go_nil ⟨.val (nt i), rfl⟩)
      · subst he
        simp [Goes, outR, exs, ex, ev, evds, evs, evAnd, evOr, look, fin, view, views, cm, D.plain, wantsM, isSeq, sameQ, truth, mutD, toD, op2, store, aug2, giveOut, finals, lend, PF.giveBack, bltD, isiD, kd, isK, idxD, mthD, b2i, itemsOf, bindT, Md.tv, setAll, revD, part, slcD, shp_int, shp_bl, deq_int, deq_bl, shp_non, rg1, rg2, rg3, rg4, ln1, ln2, ln3, ln4, d__law_same]
  | m, k, .lst x, h => by cases h
  | m, k, .set x, h => by cases h
  | m, k, .dct x y, h => by cases h
  | m, k, .dkt x y, h => by cases h
  | m, k, .fn x, h => by cases h
section
variable {k : Nat} {env env1 env2 : PF.Env} {a b : E}
theorem chk {m : Nat} {d : D} (hd : dp m d) (ha : ev (callL prog W (k + m + 1)) a .v env = some (.dat d, env1)) (hb : ev (callL prog W (k + m + 1)) b .v env1 = some (.dat d, env2)) :
    ev (callL prog W (k + m + 1)) (.not (.call (Str.ofString "_law_same") [a, b])) .t env = some (.dat (.bl false), env2) := call_n (ev_call2 ha hb (same_ok m k d hd))
theorem chkV {m : Nat} {d : D} (hd : dp m d) (ha : ev (callL prog W (k + m + 1)) a .v env = some (.dat d, env1)) (hb : ev (callL prog W (k + m + 1)) b .v env1 = some (.dat d, env2)) :
    ev (callL prog W (k + m + 1)) (.call (Str.ofString "_law_same") [a, b]) .v env = some (.dat (.bl true), env2) := ev_call2 ha hb (same_ok m k d hd)
end
theorem dp_bits (m : Nat) (ds : List Nat) (h : ds.length < 100000) : dp (m + 1) (.tup (bits ds)) := .tup _ _ (by simpa using h) fun x hx => by obtain ⟨n, _, rfl⟩ := List.mem_map.mp hx; exact .int _ _
theorem dp_zs (m : Nat) (ds : List Int) (h : ds.length < 100000) : dp (m + 1) (.tup (zs ds)) := .tup _ _ (by simpa using h) fun x hx => by obtain ⟨n, _, rfl⟩ := List.mem_map.mp hx; exact .int _ _
theorem dp_S {s : St} (h1 : s.ls.length < 100000) (h2 : s.pl.length < 100000) (h3 : s.dg.length < 100000) : dp 2 (encS s) := by
  refine .tup _ _ (by simp) fun x hx => ?_
  simp only [List.mem_cons, List.not_mem_nil, or_false] at hx
  rcases hx with rfl | rfl | rfl | rfl
  · exact .int _ _
  · exact dp_bits _ _ h1
  · exact dp_zs _ _ h2
  · exact dp_bits _ _ h3
theorem shpO : shp (.str sO) = true := by kernel_rfl
theorem dp_v (m : Nat) (v : Option Nat) : dp m (vD v) := by cases v <;> constructor
theorem dp_E (v : Option Nat) : dp 1 (encE v) := by
  refine .tup _ _ (by simp) fun x hx => ?_
  simp only [List.mem_cons, List.not_mem_nil, or_false] at hx
  rcases hx with rfl | rfl
  · exact .str _ _ shpE
  · exact dp_v _ _
theorem dp_O (n : Nat) : dp 1 (.tup [.str sO, nt n]) := by
  refine .tup _ _ (by simp) fun x hx => ?_
  simp only [List.mem_cons, List.not_mem_nil, or_false] at hx
  rcases hx with rfl | rfl
  · exact .str _ _ shpO
  · exact .int _ _
theorem dp_R (n : Nat) (v : Option Nat) : dp 1 (.tup [.str sE, nt n, vD v]) := by
  refine .tup _ _ (by simp) fun x hx => ?_
  simp only [List.mem_cons, List.not_mem_nil, or_false] at hx
  rcases hx with rfl | rfl | rfl
  · exact .str _ _ shpE
  · exact .int _ _
  · exact dp_v _ _
theorem stI_ls (s : St) (i : Ins) : (stI s i).ls.length ≤ s.ls.length := by
  obtain ⟨a, ls, pl, dg⟩ := s
  cases i with
  | rd ws e => cases ls <;> simp [stI]
  | pt n e => simp [stI]
  | tk ps e => simp only [stI]; cases pl.getLast? <;> simp
  | wr d e => simp [stI]
  | gv => simp [stI]
  | nn => simp [stI]
theorem q_ls (c : List Ins) (w : List Nat) : ∀ k, (q c (s0 w) k).ls.length ≤ w.length
  | 0 => Nat.le_refl _
  | k + 1 => Nat.le_trans (stI_ls _ _) (q_ls c w k)
theorem sts_at {c : List Ins} {w : List Nat} {n i : Nat} {x : D} (h : (sts c w n)[i]? = some x) : i < n ∧ x = encS (q c (s0 w) i) := by
  unfold sts at h
  rw [List.getElem?_map] at h
  by_cases hi : i < n
  · rw [List.getElem?_range hi] at h; cases h; exact ⟨hi, rfl⟩
  · rw [List.getElem?_eq_none (by simpa using hi)] at h; cases h
theorem gt1 (n : Nat) : cm .gt (nt n) (.int 1) = some (decide (1 < n)) := by
  simp only [cm, nt]
  congr 1
  exact decide_eq_decide.mpr (by omega)
theorem sub1 (n : Nat) : op2 .sub (nt (n + 1)) (.int 1) = some (.dat (nt n)) := by
  simp only [op2, nt]
  congr 2
  exact congrArg D.int (by omega)
theorem ir_ok (k m : Nat) (c : List Ins) (w : List Nat) (R : Rn m c w) (hwl : w.length < 1000) :
    callL prog W (k + 6) (Str.ofString "_law_is_run") [.val (encC c), .val (.tup (bits w))] = some (.dat (.bl true), [.val (encC c), .val (.tup (bits w))]) := by
  refine c__law_is_run ?_
  obtain ⟨d, hd, e⟩ := lcs_ok (W := W) (k + 4) m 40 c w R (by decide)
  obtain ⟨N, X3, hde, hN0, hN41, hNn⟩ : ∃ N X3, d = .tup [.lst (sts c w (N + 1)), X3] ∧ True ∧ N ≤ 40 ∧ ∀ j, j < N → isEnd c (q c (s0 w) j) = none := by
    rcases hd with ⟨K, v, h1, h2, h3⟩ | ⟨h1, h2⟩
    · exact ⟨K, _, h3, trivial, by omega, h2.b⟩
    · exact ⟨40, _, h2, trivial, by omega, h1⟩
  rw [hde] at e
  have eu : ex (callL prog W (k + 5)) W (.unp [2, 3] (.call (Str.ofString "_law_code_states") [(.var 0), (.var 1), (.int 40)])) [.val (encC c), .val (.tup (bits w)), .un, .un, .un, .un] = some (.nx [.val (encC c), .val (.tup (bits w)), .val (.lst (sts c w (N + 1))), .val X3, .un, .un]) := by
    have e1 := ev_call3 (c := callL prog W (k + 5)) (env := [.val (encC c), .val (.tup (bits w)), .un, .un, .un, .un]) (e := .var 0) (e' := .var 1) (e2 := .int 40) (ev_var rfl) (ev_var rfl) (d2 := nt 40) ev_ci e
    simp only [ex, e1, toD, setAll]
    rfl
  refine go_step _ eu ?_
  refine go_setD (ev_call1 (ev_var rfl) (cb_ok (k + 4) w)) ?_
  show Goes _ _ _ [.val (encC c), .val (.tup (bits w)), .val (.lst (sts c w (N + 1))), .val X3, .val (encS (q c (s0 w) 0)), .un] _
  refine go_for (sts c w (N + 1)) _ (fun i env => ∃ d4 x5, env = [.val (encC c), .val (.tup (bits w)), .val (.lst (sts c w (N + 1))), .val X3, .val d4, x5] ∧ (i = 0 → d4 = encS (q c (s0 w) 0)) ∧ ∀ j, i = j + 1 → d4 = nxD c (q c (s0 w) j)) (ev_walk rfl) ⟨_, .un, rfl, (fun _ => rfl), fun j h => by omega⟩ (fun i x env hx ⟨d4, x5, he, h0, h1⟩ => ?_) fun env ⟨d4, x5, he, h0, h1⟩ => ?_
  · obtain ⟨hi, rfl⟩ := sts_at hx
    subst he
    refine ⟨_, rfl, ?_⟩
    have hd4 : d4 = encS (q c (s0 w) i) := by
      cases i with
      | zero => exact h0 rfl
      | succ j => rw [h1 j rfl, nx_none (hNn j (by omega))]
    subst hd4
    obtain ⟨l1, l2⟩ := q_len c w i
    have l3 := q_ls c w i
    refine go_pass (chk (k := k + 2) (m := 2) (dp_S (by omega) (by omega) (by omega)) (ev_var rfl) (ev_var rfl)) ?_
    refine go_setD (ev_call2 (ev_var rfl) (ev_var rfl) (cs_q (k + 3) m i c w R (by omega))) (go_nil ⟨nxD c (q c (s0 w) i), .val (encS (q c (s0 w) i)), rfl, fun h => by omega, fun j hj => ?_⟩)
    have : j = i := by omega
    rw [this]
  · subst he
    rw [sts_len] at h1
    have hd4 := h1 N rfl
    subst hd4
    rcases hd with ⟨K, v, h1, h2, h3⟩ | ⟨h1, h2⟩
    · rw [h3] at hde
      have hh := D.tup.inj hde
      simp only [List.cons.injEq, and_true] at hh
      obtain ⟨hl, hX⟩ := hh
      have hKN : K = N := by
        have := congrArg List.length (D.lst.inj hl)
        rw [sts_len, sts_len] at this; omega
      subst hKN
      subst hX
      rw [nx_some h2.e]
      refine go_pass (ev_cmpT (ev_var rfl) ev_non rfl) ?_
      have ed : ∀ {x5 : Slot}, ev (callL prog W (k + 5)) (.tup [(.str (Str.ofString "ended")), (.idx (.var 3) (.int 1))]) .v [.val (encC c), .val (.tup (bits w)), .val (.lst (sts c w (K + 1))), .val (.tup [nt (K + 1), vD v]), .val (encE v), x5] = some (.dat (encE v), [.val (encC c), .val (.tup (bits w)), .val (.lst (sts c w (K + 1))), .val (.tup [nt (K + 1), vD v]), .val (encE v), x5]) := fun {x5} => ev_tup2 ev_str (ev_idx (ev_var rfl) ev_ci rfl)
      refine go_pass (or_two (chk (k := k + 3) (m := 1) (dp_E v) (ev_var rfl) ed) (chk (k := k + 3) (m := 1) (dp_E v) (ev_call2 (ev_var rfl) (ev_var rfl) (cs_end (k + 4) _ v)) ed)) ?_
      have i0 : ∀ {x5 : Slot}, ev (callL prog W (k + 5)) (.idx (.var 3) (.int 0)) .v [.val (encC c), .val (.tup (bits w)), .val (.lst (sts c w (K + 1))), .val (.tup [nt (K + 1), vD v]), .val (encE v), x5] = some (.dat (nt (K + 1)), [.val (encC c), .val (.tup (bits w)), .val (.lst (sts c w (K + 1))), .val (.tup [nt (K + 1), vD v]), .val (encE v), x5]) := fun {x5} => ev_idx (ev_var rfl) ev_ci rfl
      have last : Goes (callL prog W (k + 5)) W [.ret (.call (Str.ofString "_law_same") [(.call (Str.ofString "run_letter_code") [(.var 0), (.var 1), (.idx (.var 3) (.int 0))]), (.tup [(.str (Str.ofString "ended")), (.idx (.var 3) (.int 0)), (.idx (.var 3) (.int 1))])])] [.val (encC c), .val (.tup (bits w)), .val (.lst (sts c w (K + 1))), .val (.tup [nt (K + 1), vD v]), .val (encE v), x5] (fun r => outR d__law_is_run r = some (.dat (.bl true), [.val (encC c), .val (.tup (bits w))])) :=
        go_ret (chkV (k := k + 3) (m := 1) (dp_R (K + 1) v) (ev_call3 (ev_var rfl) (ev_var rfl) i0 (rl_end (k + 2) m (K + 1) K v c w R (by omega) h2 (by omega))) (tup3 ev_str i0 (ev_idx (ev_var rfl) ev_ci rfl))) rfl
      by_cases hK : 1 < K + 1
      · refine go_pass (and_f2 (ev_cmpT i0 ev_ci (by rw [gt1, decide_eq_true hK])) (chk (k := k + 3) (m := 1) (dp_O K) (ev_call3 (ev_var rfl) (ev_var rfl) (ev_bin i0 ev_ci (sub1 K)) (rl_open (k + 2) m K c w R (by omega) h2.b)) (ev_tup2 ev_str (ev_bin i0 ev_ci (sub1 K))))) ?_
        exact last
      · refine go_pass (and_f1 (ev_cmpT i0 ev_ci (by rw [gt1, decide_eq_false hK]))) ?_
        exact last
    · rw [h2] at hde
      have hh := D.tup.inj hde
      simp only [List.cons.injEq, and_true] at hh
      obtain ⟨_, hX⟩ := hh
      subst hX
      refine go_ite true _ (ev_cmpT (ev_var rfl) ev_non rfl) (fun _ => ?_) (fun h => nomatch h)
      exact go_ret (and_two (chkV (k := k + 3) (m := 1) (dp_O 40) (ev_call3 (ev_var rfl) (ev_var rfl) (d2 := nt 40) ev_ci (rl_open (k + 2) m 40 c w R (by decide) h1)) (ev_tup2 ev_str ev_ci))
        (chkV (k := k + 3) (m := 1) (dp_O 3) (ev_call3 (ev_var rfl) (ev_var rfl) (d2 := nt 3) ev_ci (rl_open (k + 2) m 3 c w R (by decide) fun j hj => h1 j (by omega))) (ev_tup2 ev_str ev_ci))) rfl
end K62
namespace K62
open PySem PF
variable {W : Nat}
theorem ints_zs : ∀ xs : List Int, intsD (zs xs) = some xs
  | [] => rfl
  | x :: xs => by simp only [zs, List.map_cons, intsD]; rw [show intsD (List.map D.int xs) = some xs from ints_zs xs]; rfl
theorem eqv_zs : ∀ (a b : List Int), PyData.eqvAll (D.pys (zs a)) (D.pys (zs b)) = decide (a = b)
  | [], [] => by simp [D.pys, PyData.eqvAll]
  | [], y :: ys => by simp [D.pys, PyData.eqvAll]
  | x :: xs, [] => by simp [D.pys, PyData.eqvAll]
  | x :: xs, y :: ys => by
    simp only [zs, List.map_cons, D.pys, PyData.eqvAll]
    rw [show PyData.eqvAll (D.pys (List.map D.int xs)) (D.pys (List.map D.int ys)) = _ from eqv_zs xs ys, show PyData.eqv (D.int x).py (D.int y).py = deq (.int x) (.int y) from rfl, deq_int]
    by_cases h : x = y <;> simp [h]
theorem deq_zsL (a b : List Int) : deq (.lst (zs a)) (.lst (zs b)) = decide (a = b) := by
  unfold deq; simp only [D.py, PyData.eqv]; exact eqv_zs a b
theorem lay_zs : ∀ l : List Int, PyData.canLayAll0 (D.pys (zs l)) = true ∧ PyData.depthAll (D.pys (zs l)) = 0
  | [] => ⟨rfl, rfl⟩
  | b :: E => by
    obtain ⟨h1, h2⟩ := lay_zs E
    simp only [zs] at h1 h2
    simp only [zs, List.map_cons, D.pys, D.py, PyData.canLayAll0, PyData.canLay0, PyData.depthAll, PyData.depth, Bool.true_and, h1, h2]
    exact ⟨trivial, rfl⟩
theorem shp_zsL (l : List Int) : shp (.lst (zs l)) = true := by
  unfold shp SeqAt.shaped
  obtain ⟨h1, h2⟩ := lay_zs l
  simp [D.plain, D.py, PyData.canLay0, PyData.depth, h1, h2]
theorem shp_zsT (l : List Int) : shp (.tup (zs l)) = true := by
  unfold shp SeqAt.shaped
  obtain ⟨h1, h2⟩ := lay_zs l
  simp [D.plain, D.py, PyData.canLay0, PyData.depth, h1, h2]
theorem memD_zs (x : Int) (L : List Int) : memD (.int x) (zs L) = decide (x ∈ L) := by
  unfold memD
  induction L with
  | nil => simp
  | cons y L ih =>
    rw [zs, List.map_cons, List.any_cons, ih, deq_int]
    by_cases h : y = x
    · simp [h]
    · have h2 : ¬ x = y := fun z => h z.symm
      simp [h2, h]
section
variable {c : Cl} {env env1 env2 : PF.Env} {a b : E}
theorem ev_ssetS {i : Nat} {l : List Int} (h : look env i = .own (.lst (zs l))) (hl : l.length < 64) : ev c (.sset (.var i)) .v env = some (.own (.lst (zs (sortI (dedI l)))), env) := by
  simp only [ev, fin, h, view, ssetD, ints_zs, if_pos hl]
theorem ev_cmpSO {op : Cm} {i : Nat} {d l : D} {r : Bool} (h : look env i = .own d) (hb : ev c b .v env = some (.own l, env)) (ho : cm op d l = some r) : ev c (.cmp op (.var i) b) .t env = some (.dat (.bl r), env) := by
  simp only [ev, fin, h, hb, view, ho, truth]
theorem ev_ssetO {l : List Int} (h : ev c a .v env = some (.own (.lst (zs l)), env1)) (hl : l.length < 64) : ev c (.sset a) .v env = some (.own (.lst (zs (sortI (dedI l)))), env1) := by
  simp only [ev, fin, h, view, ssetD, ints_zs, if_pos hl]
theorem ev_ssetT {l : List Int} (h : ev c a .v env = some (.dat (.tup (zs l)), env1)) (hl : l.length < 64) : ev c (.sset a) .v env = some (.own (.lst (zs (sortI (dedI l)))), env1) := by
  simp only [ev, fin, h, view, ssetD, ints_zs, if_pos hl]
theorem ev_lst1 {d : D} (h : ev c a .v env = some (.dat d, env1)) : ev c (.lst [a]) .v env = some (.own (.lst [d]), env1) := by
  have l1 : 1 ≤ line := by unfold line; omega
  simp [ev, evds, fin, h, toD, l1]
theorem ev_l0 : ev c (.lst []) .v env = some (.own (.lst []), env) := by simp [ev, evds, fin]
theorem ev_addL {xs ys : List D} (ha : ev c a .v env = some (.own (.lst xs), env1)) (hb : ev c b .v env1 = some (.own (.lst ys), env2)) (hl : xs.length + ys.length < 100000) : ev c (.bin .add a b) .v env = some (.own (.lst (xs ++ ys)), env2) := by
  have : xs.length + ys.length ≤ line := by unfold line; omega
  simp only [ev, fin, ha, hb, view, op2]
  rw [if_pos this]
theorem or_tV (ha : ev c a .v env = some (.dat (.bl true), env1)) : ev c (.or [a, b]) .v env = some (.dat (.bl true), env1) := by
  simp [ev, evOr, ha, fin, Md.tv]
theorem or_fV {q : Bool} (ha : ev c a .v env = some (.dat (.bl false), env1)) (hb : ev c b .v env1 = some (.dat (.bl q), env2)) : ev c (.or [a, b]) .v env = some (.dat (.bl q), env2) := by
  cases q <;> simp [ev, evOr, ha, hb, fin, Md.tv]
end
theorem kIn : ∀ i : Ins, cm .isin (.str (knd i)) (.tup [.str sP, .str sW]) = some (isP i || isW i)
  | .rd _ _ => show cm .isin (.str sR) (.tup [.str sP, .str sW]) = some false by kernel_rfl
  | .pt _ _ => show cm .isin (.str sP) (.tup [.str sP, .str sW]) = some true by kernel_rfl
  | .tk _ _ => show cm .isin (.str sT) (.tup [.str sP, .str sW]) = some false by kernel_rfl
  | .wr _ _ => show cm .isin (.str sW) (.tup [.str sP, .str sW]) = some true by kernel_rfl
  | .gv => show cm .isin (.str sG) (.tup [.str sP, .str sW]) = some false by kernel_rfl
  | .nn => show cm .isin (.str sN) (.tup [.str sP, .str sW]) = some false by kernel_rfl
theorem ways_len {i : Ins} (h : szI i) : (ways i).length < 64 := by
  cases i with
  | rd ws e => have : ws.length < 60 := h; simp [ways]; omega
  | tk ps e => have : ps.length < 60 := h; simp [ways]; omega
  | _ => simp [ways]
theorem ev_snds {c : Cl} {env : PF.Env} {i j : Nat} {own : List Nat} {src : E} (ps : List (Int × Int)) (hl : ps.length < 100000) (ho : (own = [i, j] ∨ own = [j, i]) ∧ i ≠ j) (e : ev c src .i env = some (.dat (.tup (prs ps)), env)) (hj : ∀ a b, look ((env.set i a).set j (.val b)) j = .val b) :
    ev c (.lc own (.tp [i, j]) src [] (.var j)) .v env = some (.own (.lst (zs (ps.map (·.2)))), env) := by
  have := ev_lcp (c := c) (elt := .var j) (env0 := env) ps (fun p => .int p.2) e hl ho fun p _ => ev_var (hj _ _)
  rw [show (ps.map fun p => D.int p.2) = zs (ps.map (·.2)) by rw [zs, List.map_map]; rfl] at this
  exact this
theorem wip_ok (k : Nat) (i : Ins) (hz : szI i) : callL prog W (k + 1) (Str.ofString "ways_in_place") [.val (encI i)] = some (.dat (.tup (zs (ways i))), [.val (encI i)]) := by
  refine c_ways_in_place ?_
  refine go_setD (ev_idx (ev_var rfl) ev_ci (k0 i)) ?_
  show Goes _ _ _ [.val (encI i), .val (.str (knd i)), .un, .un] _
  have tst : ∀ {b : Str} {r : Bool}, cm .eq (.str (knd i)) (.str b) = some r → ev (callL prog W k) (.cmp .eq (.var 1) (.str b)) .t [.val (encI i), .val (.str (knd i)), .un, .un] = some (.dat (.bl r), [.val (encI i), .val (.str (knd i)), .un, .un]) := fun h => ev_cmpT (ev_var rfl) ev_str h
  have tin : ev (callL prog W k) (.cmp .isin (.var 1) (.tup [(.str (Str.ofString "put")), (.str (Str.ofString "write"))])) .t [.val (encI i), .val (.str (knd i)), .un, .un] = some (.dat (.bl (isP i || isW i)), [.val (encI i), .val (.str (knd i)), .un, .un]) := ev_cmpT (ev_var rfl) (ev_tup2 ev_str ev_str) (kIn i)
  have e1 : ∀ {e : Int}, idxD (encI i) (.int 2) = some (.int e) → ev (callL prog W k) (.tup [(.idx (.var 0) (.int 2))]) .v [.val (encI i), .val (.str (knd i)), .un, .un] = some (.dat (.tup (zs [e])), [.val (encI i), .val (.str (knd i)), .un, .un]) := fun h => ev_tup1 (ev_idx (ev_var rfl) ev_ci h)
  cases i with
  | rd ws e =>
    have hzz : ws.length < 60 := hz
    refine go_ite true _ (tst (kR _)) (fun _ => ?_) (fun h => nomatch h)
    exact go_ret (ev_bin (ev_idx (ev_var rfl) ev_ci (r := .tup (zs ws)) rfl) (e1 rfl) (addZ ws [e] (by rw [List.length_singleton]; omega))) rfl
  | pt n e =>
    refine go_pass (tst (kR _)) ?_
    refine go_pass (tst (kT _)) ?_
    exact go_ret (ev_iteT tin (e1 rfl)) rfl
  | tk ps e =>
    have hzz : ps.length < 60 := hz
    refine go_pass (tst (kR _)) ?_
    refine go_ite true _ (tst (kT _)) (fun _ => ?_) (fun h => nomatch h)
    have q := ev_snds (c := callL prog W k) (env := [.val (encI (.tk ps e)), .val (.str (knd (.tk ps e))), .un, .un]) (i := 2) (j := 3) (own := [2, 3]) (src := .idx (.var 0) (.int 1)) ps (by omega) ⟨.inl rfl, by decide⟩ (ev_idx_i (ev_idx (ev_var rfl) ev_ci rfl)) (fun a b => rfl)
    exact go_ret (ev_bin (ev_tuple q) (e1 rfl) (addZ _ [e] (by rw [List.length_map, List.length_singleton]; omega))) rfl
  | wr d e =>
    refine go_pass (tst (kR _)) ?_
    refine go_pass (tst (kT _)) ?_
    exact go_ret (ev_iteT tin (e1 rfl)) rfl
  | gv =>
    refine go_pass (tst (kR _)) ?_
    refine go_pass (tst (kT _)) ?_
    exact go_ret (ev_iteF tin ev_t0) rfl
  | nn =>
    refine go_pass (tst (kR _)) ?_
    refine go_pass (tst (kT _)) ?_
    exact go_ret (ev_iteF tin ev_t0) rfl
theorem lwi_ok (k : Nat) (i : Ins) (hz : szI i) : callL prog W (k + 1) (Str.ofString "_law_ways_in") [.val (encI i)] = some (.own (.lst (zs (ways i))), [.val (encI i)]) := by
  refine c__law_ways_in ?_
  have tst : ∀ {b : Str} {r : Bool}, cm .eq (.str (knd i)) (.str b) = some r → ev (callL prog W k) (.cmp .eq (.idx (.var 0) (.int 0)) (.str b)) .t [.val (encI i), .un] = some (.dat (.bl r), [.val (encI i), .un]) := fun h => ev_cmpT (ev_idx (ev_var rfl) ev_ci (k0 i)) ev_str h
  have tin : ev (callL prog W k) (.cmp .isin (.idx (.var 0) (.int 0)) (.tup [(.str (Str.ofString "put")), (.str (Str.ofString "write"))])) .t [.val (encI i), .un] = some (.dat (.bl (isP i || isW i)), [.val (encI i), .un]) := ev_cmpT (ev_idx (ev_var rfl) ev_ci (k0 i)) (ev_tup2 ev_str ev_str) (kIn i)
  have e1 : ∀ {e : Int}, idxD (encI i) (.int 2) = some (.int e) → ev (callL prog W k) (.lst [(.idx (.var 0) (.int 2))]) .v [.val (encI i), .un] = some (.own (.lst (zs [e])), [.val (encI i), .un]) := fun h => ev_lst1 (ev_idx (ev_var rfl) ev_ci h)
  cases i with
  | rd ws e =>
    have hzz : ws.length < 60 := hz
    refine go_ite true _ (tst (kR _)) (fun _ => ?_) (fun h => nomatch h)
    refine go_retO (ev_addL (ev_list (ev_idx (ev_var rfl) ev_ci (r := .tup (zs ws)) rfl)) (e1 rfl) (by simp; omega)) ?_
    simp [ways, outR, finals, d__law_ways_in, look, zs]
  | pt n e =>
    refine go_pass (tst (kR _)) ?_
    refine go_pass (tst (kT _)) ?_
    exact go_retO (ev_iteT tin (e1 rfl)) rfl
  | tk ps e =>
    have hzz : ps.length < 60 := hz
    refine go_pass (tst (kR _)) ?_
    refine go_ite true _ (tst (kT _)) (fun _ => ?_) (fun h => nomatch h)
    have q := ev_lcm (c := callL prog W k) (i := 1) (src := .idx (.var 0) (.int 1)) (elt := .idx (.var 1) (.int 1)) ps (fun p => D.tup [.int p.1, .int p.2]) (fun p => .int p.2) [.val (encI (.tk ps e)), .un] (ev_idx_i (ev_idx (ev_var rfl) ev_ci rfl)) (ln_of (by omega)) fun p _ => lcT1 (ev_idx (ev_var rfl) ev_ci (at_pr1 p))
    refine go_retO (ev_addL q (e1 rfl) (by simp; omega)) ?_
    simp [ways, outR, finals, d__law_ways_in, look, zs]
  | wr d e =>
    refine go_pass (tst (kR _)) ?_
    refine go_pass (tst (kT _)) ?_
    exact go_retO (ev_iteT tin (e1 rfl)) rfl
  | gv =>
    refine go_pass (tst (kR _)) ?_
    refine go_pass (tst (kT _)) ?_
    exact go_retO (ev_iteF tin ev_l0) rfl
  | nn =>
    refine go_pass (tst (kR _)) ?_
    refine go_pass (tst (kT _)) ?_
    exact go_retO (ev_iteF tin ev_l0) rfl
theorem woi_ok (k : Nat) (i : Ins) (hz : szI i) : callL prog W (k + 2) (Str.ofString "ways_of_instruction") [.val (encI i)] = some (.dat (.tup (zs (sortI (dedI (ways i))))), [.val (encI i)]) :=
  c_ways_of_instruction (go_ret (ev_tuple (ev_ssetT (ev_call1 (ev_var rfl) (wip_ok k i hz)) (ways_len hz))) rfl)
/-! ### numbers put -/
theorem puts_len (c : List Ins) : (puts c).length ≤ c.length := List.length_filterMap_le _ _
theorem ev_puts {cl : Cl} {env : PF.Env} {i : Nat} {s : E} {c : List Ins} (hl : c.length < 60) (e : ev cl s .i env = some (.dat (encC c), env)) (hi : ∀ x, look (env.set i (.val x)) i = .val x) :
    ev cl (.lc [i] (.nm i) s [(.cmp .eq (.idx (.var i) (.int 0)) (.str (Str.ofString "put")))] (.idx (.var i) (.int 1))) .v env = some (.own (.lst (zs (puts c))), env) := by
  have q := ev_lcG (c := cl) (own := [i]) (tg := .nm i) (src := s) (elt := .idx (.var i) (.int 1)) (cond := [(.cmp .eq (.idx (.var i) (.int 0)) (.str (Str.ofString "put")))]) (env := env) (env0 := env) c encI (fun x => (putOf x).map D.int) e (ln_of (by omega)) fun x hx => ⟨env.set i (.val (encI x)), by
    have t := ev_cmpT (c := cl) (env := env.set i (.val (encI x))) (a := .idx (.var i) (.int 0)) (ev_idx (ev_var (hi _)) ev_ci (k0 x)) ev_str (kP x)
    cases x with
    | pt n e => exact lcT_t t (ev_idx (ev_var (hi _)) ev_ci rfl)
    | rd ws e => exact lcT_f t
    | tk ps e => exact lcT_f t
    | wr d e => exact lcT_f t
    | gv => exact lcT_f t
    | nn => exact lcT_f t, by simp [wipeE]⟩
  have : (c.filterMap fun x => (putOf x).map D.int) = zs (puts c) := by
    unfold puts
    rw [zs, List.map_filterMap]
  rw [this] at q
  exact q
theorem np_ok (k : Nat) (c : List Ins) (hl : c.length < 60) : callL prog W (k + 1) (Str.ofString "numbers_put") [.val (encC c)] = some (.dat (.tup (zs (sortI (dedI (puts c))))), [.val (encC c)]) :=
  c_numbers_put (go_ret (ev_tuple (ev_ssetO (ev_puts (env := [.val (encC c), .un]) hl (ev_walkT rfl) (fun _ => rfl)) (by have := puts_len c; omega))) rfl)
/-! ### what is told of a pile -/
theorem rng1 {n : Nat} (h : n < 100000) : rngD [.int 1, nt n] = some ((List.range' 1 (n - 1)).map nt) := by
  have e1 : okR (n : Int) = true := by
    simp only [okR, Bool.and_eq_true, decide_eq_true_eq]
    omega
  have e0 : okR 1 = true := by decide
  simp only [rngD, e0, e1, Bool.and_self, if_true, rngL]
  rw [if_pos (by decide)]
  have e2 : (((n : Int) - 1 + 1 - 1) / 1).toNat = n - 1 := by
    rw [Int.ediv_one]; omega
  rw [e2, List.range'_eq_map_range, List.map_map]
  refine congrArg some (List.map_congr_left fun k _ => ?_)
  show D.int (1 + 1 * (k : Int)) = D.int ((1 + k : Nat) : Int)
  exact congrArg D.int (by omega)
theorem at_zsL {P : List Int} {i : Nat} (h : i < P.length) : idxD (.lst (zs P)) (nt i) = some (.int (P[i]?.getD 0)) := atD_zs h
theorem isin_zs (n : Int) (l : List Int) : cm .isin (.int n) (.lst (zs l)) = some (decide (n ∈ l)) := by
  simp only [cm, shp_int, shp_zsL, Bool.and_self, if_true, memD_zs]
theorem notin_zs (n : Int) (l : List Int) : cm .notin (.int n) (.lst (zs l)) = some (!decide (n ∈ l)) := by
  simp only [cm, shp_int, shp_zsL, Bool.and_self, if_true, memD_zs]
theorem dt_ok (k : Nat) (ps : List (Int × Int)) (ns : List Int) (hl : ps.length < 60) (hn : ns.length < 1000) : callL prog W (k + 1) (Str.ofString "does_tell") [.val (.tup (prs ps)), .val (.tup (zs ns))] = some (.dat (.bl (told ps ns)), [.val (.tup (prs ps)), .val (.tup (zs ns))]) := by
  refine c_does_tell ?_
  have q := ev_lcp (c := callL prog W k) (i := 3) (j := 4) (own := [3, 4]) (src := .var 0) (elt := .var 3) (env := [.val (.tup (prs ps)), .val (.tup (zs ns)), .un, .un, .un, .un]) (env0 := [.val (.tup (prs ps)), .val (.tup (zs ns)), .un, .un, .un, .un]) ps (fun p => .int p.1) (ev_walkT rfl) (by omega) ⟨.inl rfl, by decide⟩ fun p _ => ev_var rfl
  rw [show (ps.map fun p => D.int p.1) = zs (ps.map (·.1)) by rw [zs, List.map_map]; rfl] at q
  refine go_setO q ?_
  have hll : (ps.map (·.1)).length < 60 := by rw [List.length_map]; exact hl
  unfold told
  obtain ⟨l, hle⟩ : ∃ l, l = ps.map (·.1) := ⟨_, rfl⟩
  rw [← hle] at hll ⊢
  show Goes _ _ _ [.val (.tup (prs ps)), .val (.tup (zs ns)), .own (.lst (zs l)), .un, .un, .un] _
  have ed : evds (callL prog W k) [(.int 1), (.blt .len [(.var 2)])] [.val (.tup (prs ps)), .val (.tup (zs ns)), .own (.lst (zs l)), .un, .un, .un] = some ([.int 1, nt l.length], [.val (.tup (prs ps)), .val (.tup (zs ns)), .own (.lst (zs l)), .un, .un, .un]) := by
    have := ev_lenS (c := callL prog W k) (env := [.val (.tup (prs ps)), .val (.tup (zs ns)), .own (.lst (zs l)), .un, .un, .un]) (i := 2) (xs := zs l) rfl
    rw [List.length_map] at this
    simp only [evds, ev_ci, this, toD]
  have q2 := ev_lcm (c := callL prog W k) (i := 5) (src := .rng [(.int 1), (.blt .len [(.var 2)])]) (elt := .cmp .lt (.idx (.var 2) (.bin .sub (.var 5) (.int 1))) (.idx (.var 2) (.var 5))) (List.range' 1 (l.length - 1)) nt (fun p => .bl (decide (l[p - 1]?.getD 0 < l[p]?.getD 0)))
    [.val (.tup (prs ps)), .val (.tup (zs ns)), .own (.lst (zs l)), .un, .un, .un] (ev_rng (ds := [.int 1, nt l.length]) ed (rng1 (by omega))) (ln_of (by rw [List.length_range']; omega)) fun p hp => lcT1 (by
        have hp' := List.mem_range'_1.mp hp
        have es : op2 .sub (nt p) (.int 1) = some (.dat (nt (p - 1))) := by
          simp only [op2, nt]
          exact congrArg (fun z => some (Opd.dat (D.int z))) (by omega)
        exact ev_cmp (ev_idxS rfl (ev_bin (ev_var rfl) ev_ci es) (at_zsL (by omega))) (ev_idxS rfl (ev_var rfl) (at_zsL (by omega))) rfl)
  refine go_ite (!decide (l = sortI (dedI l))) _ (by
    rw [← asc_adj]
    exact ev_not (ev_allT q2)) (fun h => ?_) (fun h => ?_)
  · have h' : decide (l = sortI (dedI l)) = false := by simpa using h
    refine go_ret ev_cb ?_
    rw [h']; rfl
  · have h' : decide (l = sortI (dedI l)) = true := by simpa using h
    have q3 := ev_lcm (c := callL prog W k) (i := 3) (src := .var 1) (elt := .cmp .isin (.var 3) (.var 2)) ns D.int (fun n => .bl (decide (n ∈ l)))
      [.val (.tup (prs ps)), .val (.tup (zs ns)), .own (.lst (zs l)), .un, .un, .un] (ev_walkT rfl) (ln_of (by omega)) fun n _ => lcT1 (by
        simp only [ev, fin, look, List.set_cons_succ, List.set_cons_zero, List.getElem?_cons_succ, List.getElem?_cons_zero, Option.getD_some, view, isin_zs])
    refine go_ret (ev_allV q3) ?_
    rw [h']; rfl
end K62
namespace K62
open PySem PF
variable {W : Nat}
theorem fm_len0 {α : Type} {S : List α} {f : α → Bool} {g : α → D} : decide ((S.filterMap fun x => if f x = true then some (g x) else none).length = 0) = S.all fun x => !f x := by
  induction S with
  | nil => rfl
  | cons x S ih =>
    rw [List.filterMap_cons, List.all_cons, ← ih]
    cases f x <;> simp
theorem fm_len1 {α : Type} {S : List α} {f : α → Bool} {g : α → D} : decide (0 < (S.filterMap fun x => if f x = true then some (g x) else none).length) = !S.all fun x => !f x := by
  rw [← fm_len0 (g := g)]
  by_cases h : (S.filterMap fun x => if f x = true then some (g x) else none).length = 0
  · rw [decide_eq_true h, decide_eq_false (by omega)]; rfl
  · rw [decide_eq_false h, decide_eq_true (by omega)]; rfl
def Hld (s : Slot) (xs : List D) : Prop := s = .own (.lst xs) ∨ s = .val (.lst xs)
theorem or_f {c : Cl} {env : PF.Env} {a b g : E} {p q r : Bool} (ha : ev c a .t env = some (.dat (.bl p), env)) (hb : p = false → ev c b .t env = some (.dat (.bl q), env)) (hg : p = false → q = false → ev c g .t env = some (.dat (.bl r), env)) : ev c (.or [a, b, g]) .t env = some (.dat (.bl (p || (q || r))), env) := by
  cases p
  · have hb := hb rfl
    cases q
    · have hg := hg rfl rfl
      cases r <;> simp [ev, evOr, ha, hb, hg, fin, view, truth, Md.tv]
    · simp [ev, evOr, ha, hb, fin, view, truth, Md.tv]
  · simp [ev, evOr, ha, fin, view, truth, Md.tv]
theorem in01 (d : Int) : cm .isin (.int d) (.tup [.int 0, .int 1]) = some (decide (d = 0 ∨ d = 1)) := by
  have h := shp_zsT [0, 1]
  have hm := memD_zs d [0, 1]
  simp only [cm, shp_int, show shp (.tup [.int 0, .int 1]) = true from h, Bool.and_self, if_true, show memD (.int d) [.int 0, .int 1] = decide (d ∈ [0, 1]) from hm]
  congr 1
  exact decide_eq_decide.mpr (by simp)
theorem notin01 (d : Int) : cm .notin (.int d) (.tup [.int 0, .int 1]) = some (!decide (d = 0 ∨ d = 1)) := by
  have h := shp_zsT [0, 1]
  have hm := memD_zs d [0, 1]
  simp only [cm, shp_int, show shp (.tup [.int 0, .int 1]) = true from h, Bool.and_self, if_true, show memD (.int d) [.int 0, .int 1] = decide (d ∈ [0, 1]) from hm]
  congr 2
  exact decide_eq_decide.mpr (by simp)
theorem qNE (i : Ins) : cm .ne (.str (knd i)) (.str sW) = some (!isW i) := by
  have h := kW i
  simp only [cm] at h ⊢
  split at h
  · rename_i hs
    rw [if_pos hs]
    exact congrArg (fun z => some (!z)) (Option.some.inj h)
  · cases h
theorem ois_ok (k m : Nat) (i : Ins) (ns : List Int) (hz : szI i) (hn : ns.length < 1000) : callL prog W (k + 2) (Str.ofString "is_instruction_sound") [.val (encI i), .val (nt m), .val (.tup (zs ns))] = some (.dat (.bl (ownOk m ns i)), [.val (encI i), .val (nt m), .val (.tup (zs ns))]) := by
  refine c_is_instruction_sound ?_
  refine go_setD (ev_idx (ev_var rfl) ev_ci (k0 i)) ?_
  show Goes _ _ _ [.val (encI i), .val (nt m), .val (.tup (zs ns)), .val (.str (knd i))] _
  have tst : ∀ {b : Str} {r : Bool}, cm .eq (.str (knd i)) (.str b) = some r → ev (callL prog W (k + 1)) (.cmp .eq (.var 3) (.str b)) .t [.val (encI i), .val (nt m), .val (.tup (zs ns)), .val (.str (knd i))] = some (.dat (.bl r), [.val (encI i), .val (nt m), .val (.tup (zs ns)), .val (.str (knd i))]) := fun h => ev_cmpT (ev_var rfl) ev_str h
  have tne := ev_cmp (c := callL prog W (k + 1)) (env := [.val (encI i), .val (nt m), .val (.tup (zs ns)), .val (.str (knd i))]) (a := .var 3) (ev_var rfl) ev_str (qNE i)
  cases i with
  | rd ws e =>
    refine go_ite true _ (tst (kR _)) (fun _ => ?_) (fun h => nomatch h)
    exact go_ret (ev_cmp (ev_tlen (n := ws.length) (ev_idx (ev_var rfl) ev_ci (r := .tup (zs ws)) rfl) (by simp)) (ev_var rfl) (by
      rw [eq_int]
      exact congrArg some (decide_eq_decide.mpr (by omega)) : cm .eq (nt ws.length) (nt m) = some (decide (ws.length = m)))) rfl
  | tk ps e =>
    refine go_pass (tst (kR _)) ?_
    refine go_ite true _ (tst (kT _)) (fun _ => ?_) (fun h => nomatch h)
    exact go_ret (ev_call2 (ev_idx (ev_var rfl) ev_ci (r := .tup (prs ps)) rfl) (ev_var rfl) (dt_ok k ps ns hz hn)) rfl
  | wr d e =>
    refine go_pass (tst (kR _)) ?_
    refine go_pass (tst (kT _)) ?_
    exact go_ret (or_fV tne (ev_cmp (ev_idx (ev_var rfl) ev_ci (r := .int d) rfl) (ev_tup2 ev_ci ev_ci) (in01 d))) rfl
  | pt n e =>
    refine go_pass (tst (kR _)) ?_
    refine go_pass (tst (kT _)) ?_
    exact go_ret (or_tV tne) rfl
  | gv =>
    refine go_pass (tst (kR _)) ?_
    refine go_pass (tst (kT _)) ?_
    exact go_ret (or_tV tne) rfl
  | nn =>
    refine go_pass (tst (kR _)) ?_
    refine go_pass (tst (kT _)) ?_
    exact go_ret (or_tV tne) rfl
/-! ### all ways -/
def waysOk (c : List Ins) : Bool := c.all fun i => (ways i).all (inr c.length)
theorem fl_len : ∀ (c : List Ins), (∀ i ∈ c, szI i) → (c.flatMap ways).length ≤ c.length * 64
  | [], _ => Nat.le_refl _
  | i :: c, h => by
    have h1 := ways_len (h i List.mem_cons_self)
    have h2 := fl_len c fun x hx => h x (List.mem_cons_of_mem _ hx)
    rw [List.flatMap_cons, List.length_append, List.length_cons]
    omega
theorem awt_ok (k : Nat) (c : List Ins) (Z : Cd c) : callL prog W (k + 2) (Str.ofString "are_ways_there") [.val (encC c)] = some (.dat (.bl (waysOk c)), [.val (encC c)]) := by
  refine c_are_ways_there ?_
  have hlen := Z.len
  have inner : ∀ (x : D) (ws : List Int) (y : Slot), ∃ y', lcLoop (lcT (callL prog W (k + 1)) [2] (.nm 2) [] (.chain .le .lt (.int 0) (.var 2) (.blt .len [(.var 0)]))) (zs ws) [.val (encC c), .val x, y] = some (ws.map fun w => D.bl (inr c.length w), [.val (encC c), .val x, y']) := by
    intro x ws
    induction ws with
    | nil => intro y; exact ⟨y, rfl⟩
    | cons w ws ih =>
      intro y
      obtain ⟨y', e⟩ := ih (.val (.int w))
      refine ⟨y', ?_⟩
      have e1 : lcT (callL prog W (k + 1)) [2] (.nm 2) [] (.chain .le .lt (.int 0) (.var 2) (.blt .len [(.var 0)])) (.int w) [.val (encC c), .val x, y] = some (some (.bl (inr c.length w)), [.val (encC c), .val x, .val (.int w)]) :=
        lcT2 (ev_chnV rfl (ev_tlen (n := c.length) (ev_var rfl) (by simp)))
      show lcLoop _ (D.int w :: zs ws) _ = _
      simp only [lcLoop, e1, e]
      rfl
  have outer : ∀ (cs : List Ins), (∀ i ∈ cs, szI i) → ∀ (x y : Slot), ∃ x' y', lcLoop2 (fun x env => match bindT (wipeE env [1, 2]) (.nm 1) x with
        | none => none
        | some env => match evAnd (callL prog W (k + 1)) [] .t env with
          | some (.dat (.bl true), env) => match ev (callL prog W (k + 1)) (.call (Str.ofString "ways_in_place") [(.var 1)]) .i env with
            | some (.dat (.tup ys), env) => lcLoop (lcT (callL prog W (k + 1)) [2] (.nm 2) [] (.chain .le .lt (.int 0) (.var 2) (.blt .len [(.var 0)]))) ys env
            | _ => none
          | some (.dat (.bl false), env) => some ([], env)
          | _ => none) (cs.map encI) [.val (encC c), x, y] = some ((cs.flatMap ways).map fun w => D.bl (inr c.length w), [.val (encC c), x', y']) := by
    intro cs
    induction cs with
    | nil => intro _ x y; exact ⟨x, y, rfl⟩
    | cons i cs ih =>
      intro hcs x y
      obtain ⟨y1, e1⟩ := inner (encI i) (ways i) .un
      obtain ⟨x', y', e2⟩ := ih (fun i hi => hcs i (List.mem_cons_of_mem _ hi)) (.val (encI i)) y1
      refine ⟨x', y', ?_⟩
      have e3 : ev (callL prog W (k + 1)) (.call (Str.ofString "ways_in_place") [(.var 1)]) .v [.val (encC c), .val (encI i), .un] = some (.dat (.tup (zs (ways i))), [.val (encC c), .val (encI i), .un]) := ev_call1 (ev_var rfl) (wip_ok k i (hcs i List.mem_cons_self))
      have e4 : ev (callL prog W (k + 1)) (.call (Str.ofString "ways_in_place") [(.var 1)]) .i [.val (encC c), .val (encI i), .un] = some (.dat (.tup (zs (ways i))), [.val (encC c), .val (encI i), .un]) := by
        have : ev (callL prog W (k + 1)) (.call (Str.ofString "ways_in_place") [(.var 1)]) .i [.val (encC c), .val (encI i), .un] = fin .i (ev (callL prog W (k + 1)) (.call (Str.ofString "ways_in_place") [(.var 1)]) .v [.val (encC c), .val (encI i), .un]) := by simp only [ev, fin]
        rw [this, e3]; rfl
      rw [List.map_cons, lcLoop2]
      have ef : (match bindT (wipeE [.val (encC c), x, y] [1, 2]) (.nm 1) (encI i) with
        | none => none
        | some env => match evAnd (callL prog W (k + 1)) [] .t env with
          | some (.dat (.bl true), env) => match ev (callL prog W (k + 1)) (.call (Str.ofString "ways_in_place") [(.var 1)]) .i env with
            | some (.dat (.tup ys), env) => lcLoop (lcT (callL prog W (k + 1)) [2] (.nm 2) [] (.chain .le .lt (.int 0) (.var 2) (.blt .len [(.var 0)]))) ys env
            | _ => none
          | some (.dat (.bl false), env) => some ([], env)
          | _ => none) = some ((ways i).map fun w => D.bl (inr c.length w), [.val (encC c), .val (encI i), y1]) := by
        show (match ev (callL prog W (k + 1)) (.call (Str.ofString "ways_in_place") [(.var 1)]) .i [.val (encC c), .val (encI i), .un] with
            | some (.dat (.tup ys), env) => lcLoop (lcT (callL prog W (k + 1)) [2] (.nm 2) [] (.chain .le .lt (.int 0) (.var 2) (.blt .len [(.var 0)]))) ys env
            | _ => none) = _
        rw [e4]
        exact e1
      rw [ef]
      simp only [e2, List.flatMap_cons, List.map_append]
  obtain ⟨x', y', e⟩ := outer c Z.sz .un .un
  have hfl := fl_len c Z.sz
  have hln : ((c.flatMap ways).map fun w => D.bl (inr c.length w)).length ≤ line := by rw [List.length_map]; exact ln_of (by omega)
  have q : ev (callL prog W (k + 1)) (.lc2 [1, 2] (.nm 1) (.var 0) [] [2] (.nm 2) (.call (Str.ofString "ways_in_place") [(.var 1)]) [] (.chain .le .lt (.int 0) (.var 2) (.blt .len [(.var 0)]))) .v [.val (encC c), .un, .un] = some (.own (.lst ((c.flatMap ways).map fun w => D.bl (inr c.length w))), [.val (encC c), .un, .un]) := by
    rw [ev_lc2_0, ev_walkT (i := 0) (xs := c.map encI) rfl]
    simp only
    erw [e]
    simp only
    rw [if_pos hln]
    rfl
  refine go_ret (ev_allV q) ?_
  rw [List.all_flatMap]
  rfl
/-! ### codes checked -/
theorem sound_eq (m : Nat) (c : List Ins) : sound m c = (decide (0 < c.length) && (waysOk c && c.all (ownOk m (sortI (dedI (puts c)))))) := by
  unfold sound waysOk
  congr 1
  rw [Bool.eq_iff_iff, Bool.and_eq_true, List.all_eq_true, List.all_eq_true, List.all_eq_true]
  have ho : ∀ i : Ins, ownOk m (sortI (dedI (puts c))) i = ownOk m (puts c) i := fun i => by
    cases i with
    | tk ps e => exact told_congr fun n => mem_sset
    | _ => rfl
  constructor
  · intro h
    refine ⟨fun i hi => ?_, fun i hi => ?_⟩
    · have := h i hi
      unfold insOk at this
      rw [Bool.and_eq_true] at this; exact this.1
    · have := h i hi
      unfold insOk at this
      rw [Bool.and_eq_true] at this; rw [ho]; exact this.2
  · rintro ⟨h1, h2⟩ i hi
    unfold insOk
    rw [Bool.and_eq_true, ← ho]
    exact ⟨h1 i hi, h2 i hi⟩
section
variable {k m : Nat} {c : List Ins}
theorem ck_t1 (Z : Cd c) : ev (callL prog W (k + 2)) (.or [(.cmp .eq (.blt .len [(.var 0)]) (.int 0)), (.not (.call (Str.ofString "are_ways_there") [(.var 0)]))]) .t [.val (encC c), .val (nt m), .un, .un] = some (.dat (.bl (decide (c.length = 0) || !waysOk c)), [.val (encC c), .val (nt m), .un, .un]) := by
  refine or_fb (ev_cmpT (ev_tlen (n := c.length) (ev_var rfl) (by simp)) ev_ci (eq0_nt _)) fun _ => ?_
  have e := ev_call1 (c := callL prog W (k + 2)) (env := [.val (encC c), .val (nt m), .un, .un]) (e := .var 0) (ev_var rfl) (awt_ok k c Z)
  refine ev_not ?_
  have : ev (callL prog W (k + 2)) (.call (Str.ofString "are_ways_there") [(.var 0)]) .t [.val (encC c), .val (nt m), .un, .un] = fin .t (ev (callL prog W (k + 2)) (.call (Str.ofString "are_ways_there") [(.var 0)]) .v [.val (encC c), .val (nt m), .un, .un]) := by simp only [ev, fin]
  rw [this, e]; rfl
theorem ck_t2 (Z : Cd c) : ev (callL prog W (k + 2)) (.not (.blt .all [(.lc [3] (.nm 3) (.var 0) [] (.call (Str.ofString "is_instruction_sound") [(.var 3), (.var 1), (.var 2)]))])) .t [.val (encC c), .val (nt m), .val (.tup (zs (sortI (dedI (puts c))))), .un] = some (.dat (.bl (!c.all (ownOk m (sortI (dedI (puts c)))))), [.val (encC c), .val (nt m), .val (.tup (zs (sortI (dedI (puts c))))), .un]) := by
  have hl := Z.len
  have hs : (sortI (dedI (puts c))).length < 1000 := by
    rw [(K17.sortI_p _).length_eq]
    have h1 := puts_len c
    have : ∀ l : List Int, (dedI l).length ≤ l.length := fun l => by
      induction l with
      | nil => exact Nat.le_refl _
      | cons x l ih =>
        simp only [dedI, List.length_cons]
        exact Nat.succ_le_succ (Nat.le_trans (List.length_filter_le _ _) ih)
    have := this (puts c)
    omega
  have q := ev_lcm (c := callL prog W (k + 2)) (i := 3) (src := .var 0) (elt := .call (Str.ofString "is_instruction_sound") [(.var 3), (.var 1), (.var 2)]) c encI (fun i => .bl (ownOk m (sortI (dedI (puts c))) i))
    [.val (encC c), .val (nt m), .val (.tup (zs (sortI (dedI (puts c))))), .un] (ev_walkT rfl) (ln_of (by omega)) fun i hi => lcT1 (ev_call3 (ev_var rfl) (ev_var rfl) (ev_var rfl) (ois_ok k m i _ (Z.sz i hi) hs))
  exact ev_not (ev_allT q)
theorem ck_yes (Z : Cd c) (h : sound m c = true) : callL prog W (k + 3) (Str.ofString "check_letter_code") [.val (encC c), .val (nt m)] = some (.dat .non, [.val (encC c), .val (nt m)]) := by
  rw [sound_eq, Bool.and_eq_true, Bool.and_eq_true, decide_eq_true_eq] at h
  obtain ⟨h1, h2, h3⟩ := h
  refine c_check_letter_code ?_
  have t1 := ck_t1 (W := W) (k := k) (m := m) Z
  rw [h2, decide_eq_false (by omega)] at t1
  refine go_pass t1 ?_
  refine go_setD (ev_call1 (ev_var rfl) (np_ok (k + 1) c Z.len)) ?_
  have t2 := ck_t2 (W := W) (k := k) (m := m) Z
  rw [h3] at t2
  exact go_pass t2 (go_nil rfl)
theorem ck_no (Z : Cd c) (h : sound m c = false) : callL prog W (k + 3) (Str.ofString "check_letter_code") [.val (encC c), .val (nt m)] = none ∧ callL prog W (k + 3) (Str.ofString "check_letter_code") [mark, .val (encC c), .val (nt m)] = some (.dat (.str (Str.ofString "InvalidCode")), []) := by
  refine callL_x d_check_letter_code f_check_letter_code rfl ?_
  have t1 := ck_t1 (W := W) (k := k) (m := m) Z
  refine go_ite _ _ t1 (fun _ => go_raise ⟨_, rfl⟩) (fun hf => ?_)
  refine go_setD (ev_call1 (ev_var rfl) (np_ok (k + 1) c Z.len)) ?_
  have t2 := ck_t2 (W := W) (k := k) (m := m) Z
  refine go_ite _ _ t2 (fun _ => go_raise ⟨_, rfl⟩) (fun hg => ?_)
  exfalso
  rw [sound_eq] at h
  rw [Bool.or_eq_false_iff, decide_eq_false_iff_not] at hf
  have h2 : waysOk c = true := by simpa using hf.2
  have h3 : c.all (ownOk m (sortI (dedI (puts c)))) = true := by simpa using hg
  rw [h2, h3, decide_eq_true (by omega)] at h
  cases h
theorem rf_ok (Z : Cd c) : callL prog W (k + 4) (Str.ofString "_law_is_refused") [.val (encC c), .val (nt m)] = some (.dat (.bl (!sound m c)), [.val (encC c), .val (nt m)]) := by
  refine c__law_is_refused ?_
  have ea : evs (callL prog W (k + 3)) [.var 0, .var 1] [.val (encC c), .val (nt m), .un] = some ([.dat (encC c), .dat (nt m)], [.val (encC c), .val (nt m), .un]) := by
    simp only [evs, ev_var (c := callL prog W (k + 3)) (env := [.val (encC c), .val (nt m), .un]) (i := 0) (d := encC c) rfl, ev_var (c := callL prog W (k + 3)) (env := [.val (encC c), .val (nt m), .un]) (i := 1) (d := nt m) rfl]
  cases ok : sound m c with
  | true =>
    refine go_try_ok ea rfl (ck_yes Z ok) ?_
    exact go_ret ev_cb rfl
  | false =>
    obtain ⟨h1, h2⟩ := ck_no (W := W) (k := k) Z ok
    exact go_try_x ea rfl h1 h2 rfl rfl rfl
end
end K62
namespace K62
open PySem PF
variable {W : Nat}
theorem inr_or {m : Nat} {x : Int} : (decide (x < 0) || decide ((m : Int) ≤ x)) = !inr m x := by
  unfold inr
  by_cases h1 : x < 0
  · rw [decide_eq_true h1, decide_eq_false (show ¬ 0 ≤ x by omega)]; rfl
  · rw [decide_eq_false h1, decide_eq_true (show 0 ≤ x by omega)]
    by_cases h2 : (m : Int) ≤ x
    · rw [decide_eq_true h2, decide_eq_false (show ¬ x < m by omega)]; rfl
    · rw [decide_eq_false h2, decide_eq_true (show x < m by omega)]; rfl
def rdOk (m : Nat) : Ins → Bool
  | .rd ws _ => decide (ws.length = m) | _ => true
def rsOk (ns : List Int) : Ins → Bool
  | .tk ps _ => told ps ns | .wr d _ => decide (d = 0 ∨ d = 1) | _ => true
theorem own_split (m : Nat) (ns : List Int) (i : Ins) : ownOk m ns i = (rdOk m i && rsOk ns i) := by
  cases i <;> simp [ownOk, rdOk, rsOk]
def tl : Ins → List Int
  | .tk ps _ => ps.map (·.1) | _ => []
theorem gt_0 (n : Nat) : cm .gt (nt n) (.int 0) = some (decide (0 < n)) := gt0 n
section
variable {k m : Nat} {c : List Ins} {i : Ins} {s2 x4 x5 x6 x7 : Slot}
theorem lis_A (hz : szI i) : ev (callL prog W (k + 1)) (.cmp .gt (.blt .len [(.lc [6] (.nm 6) (.call (Str.ofString "_law_ways_in") [(.var 3)]) [(.or [(.cmp .lt (.var 6) (.int 0)), (.cmp .ge (.var 6) (.blt .len [(.var 0)]))])] (.var 6))]) (.int 0)) .t [.val (encC c), .val (nt m), s2, .val (encI i), x4, x5, x6, x7] = some (.dat (.bl (!(ways i).all (inr c.length))), [.val (encC c), .val (nt m), s2, .val (encI i), x4, x5, x6, x7]) := by
  have hw := ways_len hz
  have q := ev_lcG (c := callL prog W (k + 1)) (own := [6]) (tg := .nm 6) (src := .call (Str.ofString "_law_ways_in") [(.var 3)]) (elt := .var 6) (cond := [(.or [(.cmp .lt (.var 6) (.int 0)), (.cmp .ge (.var 6) (.blt .len [(.var 0)]))])]) (env := [.val (encC c), .val (nt m), s2, .val (encI i), x4, x5, x6, x7]) (env0 := [.val (encC c), .val (nt m), s2, .val (encI i), x4, x5, x6, x7])
    (ways i) D.int (fun w => if (!inr c.length w) = true then some (D.int w) else none) (ev_callI (ev_call1 (ev_var rfl) (lwi_ok k i hz))) (ln_of (by omega)) fun w hw => ⟨[.val (encC c), .val (nt m), s2, .val (encI i), x4, x5, .val (.int w), x7], by
      have hc : ev (callL prog W (k + 1)) (.or [(.cmp .lt (.var 6) (.int 0)), (.cmp .ge (.var 6) (.blt .len [(.var 0)]))]) .t [.val (encC c), .val (nt m), s2, .val (encI i), x4, x5, .val (.int w), x7] = some (.dat (.bl (!inr c.length w)), [.val (encC c), .val (nt m), s2, .val (encI i), x4, x5, .val (.int w), x7]) := by
        rw [← inr_or]
        exact or_fb (ev_cmpT (ev_var rfl) ev_ci (lt_int _ _)) fun _ => ev_cmpT (ev_var rfl) (ev_tlen (n := c.length) (ev_var rfl) (by simp)) (ge_int _ _)
      cases hb : (!inr c.length w) with
      | true => rw [hb] at hc; rw [if_pos rfl]; exact lcT_t hc (ev_var rfl)
      | false => rw [hb] at hc; rw [if_neg (by simp)]; exact lcT_f hc, rfl⟩
  have e := ev_lenO q
  have := ev_cmpT (op := .gt) e ev_ci (gt_0 _)
  rw [fm_len1] at this
  rw [show ((ways i).all fun x => !!inr c.length x) = (ways i).all (inr c.length) by congr 1; funext x; simp] at this
  exact this
theorem lis_t1 (hz : szI i) : ev (callL prog W (k + 1)) (.or [(.cmp .gt (.blt .len [(.lc [6] (.nm 6) (.call (Str.ofString "_law_ways_in") [(.var 3)]) [(.or [(.cmp .lt (.var 6) (.int 0)), (.cmp .ge (.var 6) (.blt .len [(.var 0)]))])] (.var 6))]) (.int 0)), (.and [(.cmp .eq (.idx (.var 3) (.int 0)) (.str (Str.ofString "read"))), (.cmp .ne (.blt .len [(.idx (.var 3) (.int 1))]) (.var 1))])]) .t [.val (encC c), .val (nt m), s2, .val (encI i), x4, x5, x6, x7] = some (.dat (.bl (!(ways i).all (inr c.length) || !rdOk m i)), [.val (encC c), .val (nt m), s2, .val (encI i), x4, x5, x6, x7]) := by
  refine or_fb (lis_A hz) fun _ => ?_
  have tR := ev_cmpT (c := callL prog W (k + 1)) (env := [.val (encC c), .val (nt m), s2, .val (encI i), x4, x5, x6, x7]) (a := .idx (.var 3) (.int 0)) (ev_idx (ev_var rfl) ev_ci (k0 i)) ev_str (kR i)
  cases i with
  | rd ws e =>
    have := and_fb tR fun _ => ev_cmpT (op := .ne) (a := .blt .len [(.idx (.var 3) (.int 1))]) (b := .var 1) (ev_tlen (n := ws.length) (ev_idx (ev_var rfl) ev_ci (r := .tup (zs ws)) rfl) (by simp)) (ev_var rfl) (ne_nt _ m)
    exact this
  | pt n e => exact and_f1 tR
  | tk ps e => exact and_f1 tR
  | wr d e => exact and_f1 tR
  | gv => exact and_f1 tR
  | nn => exact and_f1 tR
theorem lis_4 (hz : szI i) : ev (callL prog W (k + 1)) (.ite (.cmp .eq (.idx (.var 3) (.int 0)) (.str (Str.ofString "take"))) (.lc [5] (.nm 5) (.idx (.var 3) (.int 1)) [] (.idx (.var 5) (.int 0))) (.lst [])) .v [.val (encC c), .val (nt m), s2, .val (encI i), x4, x5, x6, x7] = some (.own (.lst (zs (tl i))), [.val (encC c), .val (nt m), s2, .val (encI i), x4, x5, x6, x7]) := by
  have tT := ev_cmpT (c := callL prog W (k + 1)) (env := [.val (encC c), .val (nt m), s2, .val (encI i), x4, x5, x6, x7]) (a := .idx (.var 3) (.int 0)) (ev_idx (ev_var rfl) ev_ci (k0 i)) ev_str (kT i)
  cases i with
  | tk ps e =>
    have hzz : ps.length < 60 := hz
    have q := ev_lcm (c := callL prog W (k + 1)) (i := 5) (src := .idx (.var 3) (.int 1)) (elt := .idx (.var 5) (.int 0)) ps (fun p => D.tup [.int p.1, .int p.2]) (fun p => .int p.1) [.val (encC c), .val (nt m), s2, .val (encI (.tk ps e)), x4, x5, x6, x7] (ev_idx_i (ev_idx (ev_var rfl) ev_ci rfl)) (ln_of (by omega)) fun p _ => lcT1 (ev_idx (ev_var rfl) ev_ci (at_pr0 p))
    rw [show (ps.map fun p => D.int p.1) = zs (ps.map (·.1)) by rw [zs, List.map_map]; rfl] at q
    exact ev_iteT tT q
  | rd ws e => exact ev_iteF tT ev_l0
  | pt n e => exact ev_iteF tT ev_l0
  | wr d e => exact ev_iteF tT ev_l0
  | gv => exact ev_iteF tT ev_l0
  | nn => exact ev_iteF tT ev_l0
theorem or3e {cl : Cl} {env env1 : PF.Env} {a b g : E} {q : Bool} (ha : ev cl a .t env = some (.dat (.bl false), env)) (hb : ev cl b .t env = some (.dat (.bl q), env1)) (hg : ev cl g .t env1 = some (.dat (.bl false), env1)) : ev cl (.or [a, b, g]) .t env = some (.dat (.bl q), env1) := by
  cases q <;> simp [ev, evOr, ha, hb, hg, fin, view, truth, Md.tv]
theorem or3t {cl : Cl} {env env1 : PF.Env} {a b g : E} (ha : ev cl a .t env = some (.dat (.bl true), env1)) : ev cl (.or [a, b, g]) .t env = some (.dat (.bl true), env1) := by
  simp [ev, evOr, ha, fin, view, truth, Md.tv]
theorem lis_t2 (hz : szI i) (hl : c.length < 60) (hs2 : Hld s2 (zs (puts c))) : ∃ s2', Hld s2' (zs (puts c)) ∧ ev (callL prog W (k + 1)) (.or [(.cmp .ne (.var 4) (.sset (.var 4))), (.and [(.cmp .eq (.idx (.var 3) (.int 0)) (.str (Str.ofString "take"))), (.cmp .gt (.blt .len [(.lc [7] (.nm 7) (.var 2) [(.cmp .notin (.var 7) (.var 4))] (.var 7))]) (.int 0))]), (.and [(.cmp .eq (.idx (.var 3) (.int 0)) (.str (Str.ofString "write"))), (.cmp .notin (.idx (.var 3) (.int 1)) (.tup [(.int 0), (.int 1)]))])]) .t [.val (encC c), .val (nt m), s2, .val (encI i), .own (.lst (zs (tl i))), x5, x6, x7] = some (.dat (.bl (!rsOk (puts c) i)), [.val (encC c), .val (nt m), s2', .val (encI i), .own (.lst (zs (tl i))), x5, x6, x7]) := by
  have htl : (tl i).length < 64 := by
    cases i with
    | tk ps e => have : ps.length < 60 := hz; simp [tl]; omega
    | _ => simp [tl]
  have hpl := puts_len c
  have a : ev (callL prog W (k + 1)) (.cmp .ne (.var 4) (.sset (.var 4))) .t [.val (encC c), .val (nt m), s2, .val (encI i), .own (.lst (zs (tl i))), x5, x6, x7] = some (.dat (.bl (!decide (tl i = sortI (dedI (tl i))))), [.val (encC c), .val (nt m), s2, .val (encI i), .own (.lst (zs (tl i))), x5, x6, x7]) :=
    ev_cmpSO rfl (ev_ssetS rfl htl) (by simp only [cm, shp_zsL, Bool.and_self, if_true, deq_zsL])
  have tT : ∀ {s : Slot}, ev (callL prog W (k + 1)) (.cmp .eq (.idx (.var 3) (.int 0)) (.str (Str.ofString "take"))) .t [.val (encC c), .val (nt m), s, .val (encI i), .own (.lst (zs (tl i))), x5, x6, x7] = some (.dat (.bl (isT i)), [.val (encC c), .val (nt m), s, .val (encI i), .own (.lst (zs (tl i))), x5, x6, x7]) := fun {s} => ev_cmpT (ev_idx (ev_var rfl) ev_ci (k0 i)) ev_str (kT i)
  have tW : ∀ {s : Slot}, ev (callL prog W (k + 1)) (.cmp .eq (.idx (.var 3) (.int 0)) (.str (Str.ofString "write"))) .t [.val (encC c), .val (nt m), s, .val (encI i), .own (.lst (zs (tl i))), x5, x6, x7] = some (.dat (.bl (isW i)), [.val (encC c), .val (nt m), s, .val (encI i), .own (.lst (zs (tl i))), x5, x6, x7]) := fun {s} => ev_cmpT (ev_idx (ev_var rfl) ev_ci (k0 i)) ev_str (kW i)
  cases i with
  | tk ps e =>
    by_cases ht : tl (.tk ps e) = sortI (dedI (tl (.tk ps e)))
    · rw [decide_eq_true ht] at a
      have src : ev (callL prog W (k + 1)) (.var 2) .i [.val (encC c), .val (nt m), s2, .val (encI (.tk ps e)), .own (.lst (zs (tl (.tk ps e)))), x5, x6, x7] = some (.dat (.tup (zs (puts c))), [.val (encC c), .val (nt m), .val (.lst (zs (puts c))), .val (encI (.tk ps e)), .own (.lst (zs (tl (.tk ps e)))), x5, x6, x7]) := by
        rcases hs2 with rfl | rfl
        · exact ev_walkO rfl
        · exact ev_walk rfl
      have q := ev_lcG (c := callL prog W (k + 1)) (own := [7]) (tg := .nm 7) (src := .var 2) (elt := .var 7) (cond := [(.cmp .notin (.var 7) (.var 4))]) (env := [.val (encC c), .val (nt m), s2, .val (encI (.tk ps e)), .own (.lst (zs (tl (.tk ps e)))), x5, x6, x7]) (env0 := [.val (encC c), .val (nt m), .val (.lst (zs (puts c))), .val (encI (.tk ps e)), .own (.lst (zs (tl (.tk ps e)))), x5, x6, x7])
        (puts c) D.int (fun n => if (!decide (n ∈ tl (.tk ps e))) = true then some (D.int n) else none) src (ln_of (by omega)) fun n _ => ⟨[.val (encC c), .val (nt m), .val (.lst (zs (puts c))), .val (encI (.tk ps e)), .own (.lst (zs (tl (.tk ps e)))), x5, x6, .val (.int n)], by
          have hc := ev_cmpS (c := callL prog W (k + 1)) (env := [.val (encC c), .val (nt m), .val (.lst (zs (puts c))), .val (encI (.tk ps e)), .own (.lst (zs (tl (.tk ps e)))), x5, x6, .val (.int n)]) (a := .var 7) (i := 4) (ev_var rfl) rfl (notin_zs n (tl (.tk ps e)))
          cases hb : (!decide (n ∈ tl (.tk ps e))) with
          | true => rw [hb] at hc; rw [if_pos rfl]; exact lcT_t hc (ev_var rfl)
          | false => rw [hb] at hc; rw [if_neg (by simp)]; exact lcT_f hc, rfl⟩
      have g := ev_cmpT (op := .gt) (ev_lenO q) ev_ci (gt_0 _)
      rw [fm_len1] at g
      rw [show ((puts c).all fun x => !!decide (x ∈ tl (.tk ps e))) = (puts c).all fun n => decide (n ∈ ps.map (·.1)) by congr 1; funext x; rw [Bool.not_not]; rfl] at g
      have b : ev (callL prog W (k + 1)) (.and [(.cmp .eq (.idx (.var 3) (.int 0)) (.str (Str.ofString "take"))), (.cmp .gt (.blt .len [(.lc [7] (.nm 7) (.var 2) [(.cmp .notin (.var 7) (.var 4))] (.var 7))]) (.int 0))]) .t [.val (encC c), .val (nt m), s2, .val (encI (.tk ps e)), .own (.lst (zs (tl (.tk ps e)))), x5, x6, x7] = some (.dat (.bl (!(puts c).all fun n => decide (n ∈ ps.map (·.1)))), [.val (encC c), .val (nt m), .val (.lst (zs (puts c))), .val (encI (.tk ps e)), .own (.lst (zs (tl (.tk ps e)))), x5, x6, x7]) := by
        have tT' := tT (s := s2)
        cases hq : (!(puts c).all fun n => decide (n ∈ ps.map (·.1))) with
        | true => rw [hq] at g; simp [ev, evAnd, fin, view, truth, Md.tv] at tT' g ⊢; simp [tT', g, isT]
        | false => rw [hq] at g; exact and_f2 tT' g
      have r := or3e a b (and_f1 (b := (.cmp .notin (.idx (.var 3) (.int 1)) (.tup [(.int 0), (.int 1)]))) (tW (s := .val (.lst (zs (puts c))))))
      refine ⟨_, .inr rfl, ?_⟩
      rw [r]
      have : rsOk (puts c) (.tk ps e) = (puts c).all fun n => decide (n ∈ ps.map (·.1)) := by
        show told ps (puts c) = _
        unfold told
        rw [show decide (ps.map (·.1) = sortI (dedI (ps.map (·.1)))) = true from decide_eq_true ht, Bool.true_and]
      rw [this]
    · rw [decide_eq_false ht] at a
      refine ⟨s2, hs2, ?_⟩
      rw [or3t a]
      have : rsOk (puts c) (.tk ps e) = false := by
        show told ps (puts c) = _
        unfold told
        rw [show decide (ps.map (·.1) = sortI (dedI (ps.map (·.1)))) = false from decide_eq_false ht]; rfl
      rw [this]; rfl
  | wr d e =>
    refine ⟨s2, hs2, ?_⟩
    have ng := and_fb (tW (s := s2)) fun _ => ev_cmpT (op := .notin) (a := .idx (.var 3) (.int 1)) (b := .tup [(.int 0), (.int 1)]) (ev_idx (ev_var rfl) ev_ci (r := .int d) rfl) (ev_tup2 ev_ci ev_ci) (notin01 d)
    exact or_f a (fun _ => and_f1 (tT (s := s2))) (fun _ _ => ng)
  | rd ws e => exact ⟨s2, hs2, or_f a (fun _ => and_f1 (tT (s := s2))) (fun _ _ => and_f1 (tW (s := s2)))⟩
  | pt n e => exact ⟨s2, hs2, or_f a (fun _ => and_f1 (tT (s := s2))) (fun _ _ => and_f1 (tW (s := s2)))⟩
  | gv => exact ⟨s2, hs2, or_f a (fun _ => and_f1 (tT (s := s2))) (fun _ _ => and_f1 (tW (s := s2)))⟩
  | nn => exact ⟨s2, hs2, or_f a (fun _ => and_f1 (tT (s := s2))) (fun _ _ => and_f1 (tW (s := s2)))⟩
end
theorem nthC {c : List Ins} {i : Nat} {x : D} (h : (c.map encI)[i]? = some x) : ∃ hi : i < c.length, x = encI c[i] := by
  rw [List.getElem?_map] at h
  by_cases hi : i < c.length
  · rw [List.getElem?_eq_getElem hi] at h; cases h; exact ⟨hi, rfl⟩
  · rw [List.getElem?_eq_none (by omega)] at h; cases h
theorem lis_ok (k m : Nat) (c : List Ins) (Z : Cd c) : callL prog W (k + 2) (Str.ofString "_law_is_sound") [.val (encC c), .val (nt m)] = some (.dat (.bl (sound m c)), [.val (encC c), .val (nt m)]) := by
  refine c__law_is_sound ?_
  refine go_setO (ev_puts (env := [.val (encC c), .val (nt m), .un, .un, .un, .un, .un, .un]) Z.len (ev_walkT rfl) (fun _ => rfl)) ?_
  show Goes _ _ _ [.val (encC c), .val (nt m), .own (.lst (zs (puts c))), .un, .un, .un, .un, .un] _
  refine go_for (c.map encI) _ (fun i env => ∃ s2 x3 x4 x5 x6 x7, env = [.val (encC c), .val (nt m), s2, x3, x4, x5, x6, x7] ∧ Hld s2 (zs (puts c)) ∧ (c.take i).all (insOk m c.length (puts c)) = true) (ev_walkT rfl) ⟨_, .un, .un, .un, .un, .un, rfl, .inl rfl, rfl⟩ (fun i x env hx ⟨s2, x3, x4, x5, x6, x7, he, hs2, ha⟩ => ?_) fun env ⟨s2, x3, x4, x5, x6, x7, he, hs2, ha⟩ => ?_
  · obtain ⟨hi, rfl⟩ := nthC hx
    subst he
    refine ⟨_, rfl, ?_⟩
    have hz := Z.sz c[i] (List.getElem_mem hi)
    have bad : insOk m c.length (puts c) c[i] = false → sound m c = false := fun h => by
      unfold sound
      rw [all_false_of (List.getElem_mem hi) h]; simp
    have hsp : insOk m c.length (puts c) c[i] = ((ways c[i]).all (inr c.length) && (rdOk m c[i] && rsOk (puts c) c[i])) := by unfold insOk; rw [own_split]
    rw [tk_one hi]
    generalize c[i] = ins at *
    show Goes _ _ _ [.val (encC c), .val (nt m), s2, .val (encI ins), x4, x5, x6, x7] _
    refine go_ite _ _ (lis_t1 hz) (fun h => ?_) (fun h => ?_)
    · refine go_ret ev_cb ?_
      rw [bad (by
        rw [hsp]
        cases h1 : (ways ins).all (inr c.length) <;> cases h2 : rdOk m ins <;> simp [h1, h2] at h ⊢)]
      rfl
    · refine go_setO (lis_4 hz) ?_
      show Goes _ _ _ [.val (encC c), .val (nt m), s2, .val (encI ins), .own (.lst (zs (tl ins))), x5, x6, x7] _
      obtain ⟨s2', hs2', e2⟩ := lis_t2 (W := W) (k := k) (m := m) (x5 := x5) (x6 := x6) (x7 := x7) hz Z.len hs2
      refine go_ite _ _ e2 (fun h2 => ?_) (fun h2 => ?_)
      · refine go_ret ev_cb ?_
        rw [bad (by
          rw [hsp]
          have : rsOk (puts c) ins = false := by simpa using h2
          rw [this]; simp)]
        rfl
      · refine go_nil ⟨s2', .val (encI ins), .own (.lst (zs (tl ins))), x5, x6, x7, rfl, hs2', ?_⟩
        have h3 : rsOk (puts c) ins = true := by simpa using h2
        have h4 : (ways ins).all (inr c.length) = true ∧ rdOk m ins = true := by
          rw [Bool.or_eq_false_iff] at h
          exact ⟨by simpa using h.1, by simpa using h.2⟩
        rw [List.all_append, ha, List.all_cons, hsp, h3, h4.1, h4.2]; rfl
  · subst he
    rw [List.length_map, List.take_length] at ha
    refine go_ret (ev_cmp (ev_tlen (n := c.length) (ev_var rfl) (by simp)) ev_ci (gt_0 _)) ?_
    unfold sound
    rw [ha, Bool.and_true]; rfl
end K62
namespace K62
open PySem PF
variable {W : Nat}
/-! ### codes drawn -/
structure Dr (sz le : Nat) (P : List Int) (i : Ins) : Prop where
  w : ∀ x ∈ ways i, 0 ≤ x ∧ x < sz
  o : match i with
    | .rd ws _ => ws.length = le | .pt n _ => n ∈ P | .tk ps _ => ps.map (·.1) = sortI (dedI P) | .wr d _ => d = 0 ∨ d = 1 | _ => True
theorem ded_le : ∀ l : List Int, (dedI l).length ≤ l.length
  | [] => Nat.le_refl _
  | x :: l => by
    simp only [dedI, List.length_cons]
    exact Nat.succ_le_succ (Nat.le_trans (List.length_filter_le _ _) (ded_le l))
theorem sset_asc (P : List Int) : (sortI (dedI P)).Pairwise (· < ·) := by
  have h1 := K17.sortI_s (dedI P)
  have h2 : (sortI (dedI P)).Nodup := (K17.sortI_p (dedI P)).nodup_iff.mpr (K17.ded_nd P)
  unfold List.Nodup at h2
  exact (h1.and h2).imp fun h => by omega
theorem dr_sound {sz le : Nat} {P : List Int} {A : List Ins} (hA : ∀ i ∈ A, Dr sz le P i) (hl : A.length + 1 = sz) (hle : le < 60) (hP : P.length < 60) (hsz : sz < 60) : sound le (A ++ [.gv]) = true ∧ Cd (A ++ [.gv]) := by
  have hln : (A ++ [Ins.gv]).length = sz := by simp; omega
  have hput : ∀ n ∈ puts (A ++ [.gv]), n ∈ P := fun n hn => by
    unfold puts at hn
    obtain ⟨i, hi, he⟩ := List.mem_filterMap.mp hn
    rcases List.mem_append.mp hi with h | h
    · have ho := (hA i h).o
      cases i with
      | pt n' e => cases he; exact ho
      | rd ws e => cases he
      | tk ps e => cases he
      | wr d e => cases he
      | gv => cases he
      | nn => cases he
    · rw [List.mem_singleton.mp h] at he; cases he
  constructor
  · unfold sound
    rw [Bool.and_eq_true, List.all_eq_true, hln]
    refine ⟨decide_eq_true (by omega), fun i hi => ?_⟩
    unfold insOk
    rw [Bool.and_eq_true, List.all_eq_true]
    rcases List.mem_append.mp hi with h | h
    · have hd := hA i h
      refine ⟨fun x hx => ?_, ?_⟩
      · unfold inr
        rw [Bool.and_eq_true, decide_eq_true_eq, decide_eq_true_eq]
        exact hd.w x hx
      · have ho := hd.o
        cases i with
        | rd ws e => exact decide_eq_true ho
        | tk ps e =>
          show told ps _ = true
          have ho' : ps.map (·.1) = sortI (dedI P) := ho
          unfold told
          rw [Bool.and_eq_true, List.all_eq_true, ho']
          exact ⟨decide_eq_true ((K17.asc_iff _).mpr (sset_asc P)), fun n hn => decide_eq_true (mem_sset.mpr (hput n hn))⟩
        | wr d e => exact decide_eq_true ho
        | pt n e => rfl
        | gv => rfl
        | nn => rfl
    · rw [List.mem_singleton.mp h]
      exact ⟨fun x hx => (nomatch hx), rfl⟩
  · refine ⟨by rw [hln]; exact hsz, fun i hi => ?_⟩
    rcases List.mem_append.mp hi with h | h
    · have ho := (hA i h).o
      cases i with
      | rd ws e => show ws.length < 60; have : ws.length = le := ho; omega
      | tk ps e =>
        show ps.length < 60
        have ho' : ps.map (·.1) = sortI (dedI P) := ho
        have h1 := congrArg List.length ho'
        rw [List.length_map, (K17.sortI_p _).length_eq] at h1
        have := ded_le P
        omega
      | pt n e => trivial
      | wr d e => trivial
      | gv => trivial
      | nn => trivial
    · rw [List.mem_singleton.mp h]; trivial
theorem ev_len1 {c : Cl} {env : PF.Env} {i : Nat} {xs : List D} {n : Nat} (h : look env i = .val (.tup xs)) (hn : xs.length = n) : ev c (.blt .len [.var i]) .v env = some (.dat (nt n), env) := ev_tlen (ev_var h) hn
theorem ev_walkH {c : Cl} {env : PF.Env} {i : Nat} {s : Slot} {xs : List D} (h : look env i = s) (H : Hld s xs) (hv : s = .val (.lst xs) → env.set i (.val (.lst xs)) = env) : ev c (.var i) .i env = some (.dat (.tup xs), env.set i (.val (.lst xs))) := by
  rcases H with rfl | rfl
  · exact ev_walkO h
  · rw [hv rfl]; exact ev_walk h
theorem tup3g {c : Cl} {env env1 env2 env3 : PF.Env} {e1 e2 e3 : E} {a b d : D} (h1 : ev c e1 .v env = some (.dat a, env1)) (h2 : ev c e2 .v env1 = some (.dat b, env2)) (h3 : ev c e3 .v env2 = some (.dat d, env3)) : ev c (.tup [e1, e2, e3]) .v env = some (.dat (.tup [a, b, d]), env3) := by
  have l3 : 3 ≤ line := by unfold line; omega
  simp [ev, evds, fin, h1, h2, h3, toD, l3]
theorem lst3 {c : Cl} {env : PF.Env} {e1 e2 e3 : E} {a b d : D} (h1 : ev c e1 .v env = some (.dat a, env)) (h2 : ev c e2 .v env = some (.dat b, env)) (h3 : ev c e3 .v env = some (.dat d, env)) : ev c (.lst [e1, e2, e3]) .v env = some (.own (.lst [a, b, d]), env) := by
  have l3 : 3 ≤ line := by unfold line; omega
  simp [ev, evds, fin, h1, h2, h3, toD, l3]
theorem addT (a b : List D) (h : a.length + b.length < 100000) : op2 .add (.tup a) (.tup b) = some (.dat (.tup (a ++ b))) := by
  have : a.length + b.length ≤ line := by unfold line; omega
  simp only [op2]
  rw [if_pos this]
theorem dc_ok (k le sz : Nat) (l : List Int) (hle : le < 60) (h2 : 2 ≤ sz) (h60 : sz < 60) :
    ∃ (c : List Ins) (l' : List Int), sound le c = true ∧ Cd c ∧ c.length = sz ∧ callL prog W (k + 2) (Str.ofString "_law_drawn_code") [.own (.lst (zs l)), .val (nt le), .val (nt sz)] = some (.dat (encC c), [.own (.lst (zs l')), .val (nt le), .val (nt sz)]) := by
  suffices H : ∃ o fs, callL prog W (k + 2) (Str.ofString "_law_drawn_code") [.own (.lst (zs l)), .val (nt le), .val (nt sz)] = some (o, fs) ∧ ∃ (c : List Ins) (l' : List Int), (sound le c = true ∧ Cd c ∧ c.length = sz) ∧ o = .dat (encC c) ∧ fs = [.own (.lst (zs l')), .val (nt le), .val (nt sz)] by
    obtain ⟨o, fs, e, c, l', ⟨h1, h2, h3⟩, rfl, rfl⟩ := H
    exact ⟨c, l', h1, h2, h3, e⟩
  refine e__law_drawn_code ?_
  obtain ⟨ys, l1, g1, _, e1⟩ := ev_lcTm (c := callL prog W (k + 1)) (i := 4) (src := .rng [(.var 2)]) (elt := .call (Str.ofString "_law_take") [(.var 0), (.int 4)]) (env := [.own (.lst (zs l)), .val (nt le), .val (nt sz), .un, .un, .un, .un, .un, .un, .un, .un])
    nt (fun p : Nat × Int => D.int p.2) (·.1) (fun _ => True) (List.range sz) (fun l w => [.own (.lst (zs l)), .val (nt le), .val (nt sz), .un, w, .un, .un, .un, .un, .un, .un]) l .un (ev_range (by omega) (ev_var rfl)) (by simp; omega) (fun a _ l w => by
      obtain ⟨v, l', _, e⟩ := ev_take (W := W) (k := k) (env := [.own (.lst (zs l)), .val (nt le), .val (nt sz), .un, .val (nt a), .un, .un, .un, .un, .un, .un]) (i := 0) (m := 4) (a := .int 4) (by decide) rfl ev_ci
      exact ⟨(a, (v : Int)), l', .val (nt a), lcT2 e, rfl, trivial⟩) (fun _ _ => rfl)
  obtain ⟨P, hP⟩ : ∃ P, P = ys.map (·.2) := ⟨_, rfl⟩
  have hPl : P.length = sz := by
    have := congrArg List.length g1
    rw [List.length_map, List.length_range] at this
    rw [hP, List.length_map]; exact this
  rw [show (ys.map fun p : Nat × Int => D.int p.2) = zs P by rw [hP, zs, List.map_map]; rfl] at e1
  refine go_setO e1 ?_
  show Goes _ _ _ [.own (.lst (zs l1)), .val (nt le), .val (nt sz), .own (.lst (zs P)), .un, .un, .un, .un, .un, .un, .un] _
  refine go_setO (ev_ssetS rfl (by omega)) ?_
  refine go_setO ev_l0 ?_
  obtain ⟨V, hV⟩ : ∃ V, V = sortI (dedI P) := ⟨_, rfl⟩
  have hVl : V.length ≤ sz := by rw [hV, (K17.sortI_p _).length_eq, ← hPl]; exact ded_le P
  rw [← hV]
  show Goes _ _ _ [.own (.lst (zs l1)), .val (nt le), .val (nt sz), .own (.lst (zs P)), .un, .own (.lst (zs V)), .own (.lst (([] : List Ins).map encI)), .un, .un, .un, .un] _
  have sub_1 : op2 .sub (nt sz) (.int 1) = some (.dat (nt (sz - 1))) := by
    simp only [op2, nt]
    exact congrArg (fun z => some (Opd.dat (D.int z))) (by omega)
  refine go_for ((List.range (sz - 1)).map nt) _ (fun i env => ∃ (A : List Ins) (l : List Int) (x4 s5 x7 x8 x9 x10 : Slot), env = [.own (.lst (zs l)), .val (nt le), .val (nt sz), .own (.lst (zs P)), x4, s5, .own (.lst (A.map encI)), x7, x8, x9, x10] ∧ Hld s5 (zs V) ∧ A.length = i ∧ ∀ x ∈ A, Dr sz le P x)
    (ev_range (by omega) (ev_bin (ev_var rfl) ev_ci sub_1)) ⟨[], l1, .un, _, .un, .un, .un, .un, rfl, .inl rfl, rfl, fun x hx => (nomatch hx)⟩ (fun i x env hx ⟨A, l, x4, s5, x7, x8, x9, x10, he, hs5, hA, hD⟩ => ?_) fun env ⟨A, l, x4, s5, x7, x8, x9, x10, he, hs5, hA, hD⟩ => ?_
  · obtain ⟨hi, rfl⟩ := xs_at hx
    subst he
    refine ⟨_, rfl, ?_⟩
    show Goes _ _ _ [.own (.lst (zs l)), .val (nt le), .val (nt sz), .own (.lst (zs P)), .val (nt i), s5, .own (.lst (A.map encI)), x7, x8, x9, x10] _
    obtain ⟨kd, l2, hkd, ek⟩ := ev_take (W := W) (k := k) (env := [.own (.lst (zs l)), .val (nt le), .val (nt sz), .own (.lst (zs P)), .val (nt i), s5, .own (.lst (A.map encI)), x7, x8, x9, x10]) (i := 0) (m := 5) (a := .int 5) (by decide) rfl ev_ci
    refine go_setD ek ?_
    show Goes _ _ _ [.own (.lst (zs l2)), .val (nt le), .val (nt sz), .own (.lst (zs P)), .val (nt i), s5, .own (.lst (A.map encI)), .val (nt kd), x8, x9, x10] _
    have way : ∃ (y : Nat) (l3 : List Int), y < sz ∧ ev (callL prog W (k + 1)) (.ite (.cmp .gt (.call (Str.ofString "_law_take") [(.var 0), (.int 4)]) (.int 0)) (.bin .mod (.bin .add (.bin .add (.var 4) (.int 1)) (.call (Str.ofString "_law_take") [(.var 0), (.int 3)])) (.var 2)) (.call (Str.ofString "_law_take") [(.var 0), (.var 2)])) .v [.own (.lst (zs l2)), .val (nt le), .val (nt sz), .own (.lst (zs P)), .val (nt i), s5, .own (.lst (A.map encI)), .val (nt kd), x8, x9, x10] = some (.dat (nt y), [.own (.lst (zs l3)), .val (nt le), .val (nt sz), .own (.lst (zs P)), .val (nt i), s5, .own (.lst (A.map encI)), .val (nt kd), x8, x9, x10]) := by
      obtain ⟨v, l3, _, e3⟩ := ev_take (W := W) (k := k) (env := [.own (.lst (zs l2)), .val (nt le), .val (nt sz), .own (.lst (zs P)), .val (nt i), s5, .own (.lst (A.map encI)), .val (nt kd), x8, x9, x10]) (i := 0) (m := 4) (a := .int 4) (by decide) rfl ev_ci
      have t := ev_cmpT (op := .gt) e3 ev_ci (gt0 v)
      cases hb : decide (0 < v) with
      | true =>
        rw [hb] at t
        obtain ⟨v2, l4, _, e4⟩ := ev_take (W := W) (k := k) (env := [.own (.lst (zs l3)), .val (nt le), .val (nt sz), .own (.lst (zs P)), .val (nt i), s5, .own (.lst (A.map encI)), .val (nt kd), x8, x9, x10]) (i := 0) (m := 3) (a := .int 3) (by decide) rfl ev_ci
        exact ⟨_, l4, Nat.mod_lt _ (by omega), ev_iteT t (ev_bin (ev_bin (ev_bin (ev_var rfl) ev_one (add_nt _ _)) e4 (add_nt _ _)) (ev_var rfl) (mod_nt _ _ (by omega)))⟩
      | false =>
        rw [hb] at t
        obtain ⟨v2, l4, hv2, e4⟩ := ev_take (W := W) (k := k) (env := [.own (.lst (zs l3)), .val (nt le), .val (nt sz), .own (.lst (zs P)), .val (nt i), s5, .own (.lst (A.map encI)), .val (nt kd), x8, x9, x10]) (i := 0) (m := sz) (a := .var 2) (by omega) rfl (ev_var rfl)
        exact ⟨v2, l4, hv2, ev_iteF t e4⟩
    obtain ⟨y, l3, hy, ey⟩ := way
    refine go_setD ey ?_
    show Goes _ _ _ [.own (.lst (zs l3)), .val (nt le), .val (nt sz), .own (.lst (zs P)), .val (nt i), s5, .own (.lst (A.map encI)), .val (nt kd), .val (nt y), x9, x10] _
    have hyy : (0 : Int) ≤ y ∧ (y : Int) < sz := by omega
    have fin : ∀ (ins : Ins) (l : List Int) (s5 x9 x10 : Slot), Hld s5 (zs V) → Dr sz le P ins → ∃ (A' : List Ins) (l' : List Int) (x4 s5' x7 x8 x9' x10' : Slot), ([.own (.lst (zs l)), .val (nt le), .val (nt sz), .own (.lst (zs P)), .val (nt i), s5, .own (.lst (A.map encI ++ [encI ins])), .val (nt kd), .val (nt y), x9, x10] : PF.Env) = [.own (.lst (zs l')), .val (nt le), .val (nt sz), .own (.lst (zs P)), x4, s5', .own (.lst (A'.map encI)), x7, x8, x9', x10'] ∧ Hld s5' (zs V) ∧ A'.length = i + 1 ∧ ∀ x ∈ A', Dr sz le P x := by
      intro ins l s5 x9 x10 h5 hd
      refine ⟨A ++ [ins], l, .val (nt i), s5, .val (nt kd), .val (nt y), x9, x10, by rw [List.map_append]; rfl, h5, by rw [List.length_append, hA]; rfl, fun x hx => ?_⟩
      rcases List.mem_append.mp hx with h | h
      · exact hD x h
      · rw [List.mem_singleton.mp h]; exact hd
    have tk : ∀ {n : Nat} {s5 x9 x10 : Slot} {l : List Int}, ev (callL prog W (k + 1)) (.cmp .eq (.var 7) (.int (n : Int))) .t [.own (.lst (zs l)), .val (nt le), .val (nt sz), .own (.lst (zs P)), .val (nt i), s5, .own (.lst (A.map encI)), .val (nt kd), .val (nt y), x9, x10] = some (.dat (.bl (decide ((kd : Int) = n))), [.own (.lst (zs l)), .val (nt le), .val (nt sz), .own (.lst (zs P)), .val (nt i), s5, .own (.lst (A.map encI)), .val (nt kd), .val (nt y), x9, x10]) := fun {n s5 x9 x10 l} => ev_cmpT (ev_var rfl) ev_ci (eq_int _ _)
    have hAl : (A.map encI).length < 100000 := by rw [List.length_map]; omega
    have eput : ∀ {l : List Int} {s5 x9 x10 : Slot}, ev (callL prog W (k + 1)) (.tup [(.str (Str.ofString "put")), (.idx (.var 3) (.var 4)), (.var 8)]) .v [.own (.lst (zs l)), .val (nt le), .val (nt sz), .own (.lst (zs P)), .val (nt i), s5, .own (.lst (A.map encI)), .val (nt kd), .val (nt y), x9, x10] = some (.dat (encI (.pt (P[i]?.getD 0) y)), [.own (.lst (zs l)), .val (nt le), .val (nt sz), .own (.lst (zs P)), .val (nt i), s5, .own (.lst (A.map encI)), .val (nt kd), .val (nt y), x9, x10]) := fun {l s5 x9 x10} => tup3 ev_str (ev_idxS rfl (ev_var rfl) (at_zsL (by omega))) (ev_var rfl)
    have dput : Dr sz le P (.pt (P[i]?.getD 0) y) := ⟨fun x hx => by rw [List.mem_singleton.mp (show x ∈ [(y : Int)] from hx)]; exact hyy, by
      have : i < P.length := by omega
      rw [List.getElem?_eq_getElem this]; exact List.getElem_mem this⟩
    refine go_ite _ _ (tk (n := 0)) (fun _ => ?_) (fun h0 => ?_)
    · obtain ⟨ys, l4, g4, b4, e4⟩ := ev_lcTm (c := callL prog W (k + 1)) (i := 9) (src := .rng [(.var 1)]) (elt := .call (Str.ofString "_law_take") [(.var 0), (.var 2)]) (env := [.own (.lst (zs l3)), .val (nt le), .val (nt sz), .own (.lst (zs P)), .val (nt i), s5, .own (.lst (A.map encI)), .val (nt kd), .val (nt y), x9, x10])
        nt (fun p : Nat × Int => D.int p.2) (·.1) (fun p => 0 ≤ p.2 ∧ p.2 < sz) (List.range le) (fun l w => [.own (.lst (zs l)), .val (nt le), .val (nt sz), .own (.lst (zs P)), .val (nt i), s5, .own (.lst (A.map encI)), .val (nt kd), .val (nt y), w, x10]) l3 x9 (ev_range (by omega) (ev_var rfl)) (by simp; omega) (fun a _ l w => by
          obtain ⟨v, l', hv, e⟩ := ev_take (W := W) (k := k) (env := [.own (.lst (zs l)), .val (nt le), .val (nt sz), .own (.lst (zs P)), .val (nt i), s5, .own (.lst (A.map encI)), .val (nt kd), .val (nt y), .val (nt a), x10]) (i := 0) (m := sz) (a := .var 2) (by omega) rfl (ev_var rfl)
          exact ⟨(a, (v : Int)), l', .val (nt a), lcT2 e, rfl, by show (0 : Int) ≤ v ∧ (v : Int) < sz; omega⟩) (fun _ _ => rfl)
      rw [show (ys.map fun p : Nat × Int => D.int p.2) = zs (ys.map (·.2)) by rw [zs, List.map_map]; rfl] at e4
      have hyl : (ys.map (·.2)).length = le := by
        have := congrArg List.length g4
        rw [List.length_map, List.length_range] at this
        rw [List.length_map]; exact this
      refine go_expr (ev_mut1 (l := .lst (A.map encI)) rfl rfl (tup3g ev_str (ev_tuple e4) (ev_var rfl)) rfl (app_any hAl)) (go_nil ?_)
      refine fin (.rd (ys.map (·.2)) y) l4 s5 x9 x10 hs5 ⟨fun x hx => ?_, hyl⟩
      rcases List.mem_append.mp (show x ∈ ys.map (·.2) ++ [(y : Int)] from hx) with h | h
      · obtain ⟨p, hp, rfl⟩ := List.mem_map.mp h
        exact b4 p hp
      · rw [List.mem_singleton.mp h]; exact hyy
    · refine go_ite _ _ (tk (n := 1)) (fun _ => ?_) (fun h1 => ?_)
      · exact go_expr (ev_mut1 (l := .lst (A.map encI)) rfl rfl eput rfl (app_any hAl)) (go_nil (fin _ l3 s5 x9 x10 hs5 dput))
      · refine go_ite _ _ (tk (n := 2)) (fun _ => ?_) (fun h2 => ?_)
        · have src : ev (callL prog W (k + 1)) (.var 5) .i [.own (.lst (zs l3)), .val (nt le), .val (nt sz), .own (.lst (zs P)), .val (nt i), s5, .own (.lst (A.map encI)), .val (nt kd), .val (nt y), x9, x10] = some (.dat (.tup (zs V)), [.own (.lst (zs l3)), .val (nt le), .val (nt sz), .own (.lst (zs P)), .val (nt i), .val (.lst (zs V)), .own (.lst (A.map encI)), .val (nt kd), .val (nt y), x9, x10]) := by
            rcases hs5 with rfl | rfl
            · exact ev_walkO rfl
            · exact ev_walk rfl
          obtain ⟨ys, l4, g4, b4, e4⟩ := ev_lcTm (c := callL prog W (k + 1)) (i := 10) (src := .var 5) (elt := .tup [(.var 10), (.call (Str.ofString "_law_take") [(.var 0), (.var 2)])]) (env := [.own (.lst (zs l3)), .val (nt le), .val (nt sz), .own (.lst (zs P)), .val (nt i), s5, .own (.lst (A.map encI)), .val (nt kd), .val (nt y), x9, x10])
            D.int (fun p : Int × Int => D.tup [.int p.1, .int p.2]) (·.1) (fun p => 0 ≤ p.2 ∧ p.2 < sz) V (fun l w => [.own (.lst (zs l)), .val (nt le), .val (nt sz), .own (.lst (zs P)), .val (nt i), .val (.lst (zs V)), .own (.lst (A.map encI)), .val (nt kd), .val (nt y), x9, w]) l3 x10 src (by omega) (fun a _ l w => by
              obtain ⟨v, l', hv, e⟩ := ev_take (W := W) (k := k) (env := [.own (.lst (zs l)), .val (nt le), .val (nt sz), .own (.lst (zs P)), .val (nt i), .val (.lst (zs V)), .own (.lst (A.map encI)), .val (nt kd), .val (nt y), x9, .val (.int a)]) (i := 0) (m := sz) (a := .var 2) (by omega) rfl (ev_var rfl)
              exact ⟨(a, (v : Int)), l', .val (.int a), lcT2 (ev_tup2 (ev_var rfl) e), rfl, by show (0 : Int) ≤ v ∧ (v : Int) < sz; omega⟩) (fun _ _ => rfl)
          refine go_expr (ev_mut1 (l := .lst (A.map encI)) rfl rfl (tup3g ev_str (ev_tuple e4) (ev_var rfl)) rfl (app_any hAl)) (go_nil ?_)
          refine fin (.tk ys y) l4 _ x9 x10 (.inr rfl) ⟨fun x hx => ?_, by rw [← hV]; exact g4⟩
          rcases List.mem_append.mp (show x ∈ ys.map (·.2) ++ [(y : Int)] from hx) with h | h
          · obtain ⟨p, hp, rfl⟩ := List.mem_map.mp h
            exact b4 p hp
          · rw [List.mem_singleton.mp h]; exact hyy
        · refine go_ite _ _ (tk (n := 3)) (fun _ => ?_) (fun h3 => ?_)
          · obtain ⟨v, l4, hv, e4⟩ := ev_take (W := W) (k := k) (env := [.own (.lst (zs l3)), .val (nt le), .val (nt sz), .own (.lst (zs P)), .val (nt i), s5, .own (.lst (A.map encI)), .val (nt kd), .val (nt y), x9, x10]) (i := 0) (m := 2) (a := .int 2) (by decide) rfl ev_ci
            refine go_expr (ev_mut1 (l := .lst (A.map encI)) rfl rfl (tup3g ev_str e4 (ev_var rfl)) rfl (app_any hAl)) (go_nil ?_)
            refine fin (.wr v y) l4 s5 x9 x10 hs5 ⟨fun x hx => ?_, ?_⟩
            · rw [List.mem_singleton.mp (show x ∈ [(y : Int)] from hx)]; exact hyy
            · show (v : Int) = 0 ∨ (v : Int) = 1
              omega
          · obtain ⟨v, l4, hv, e4⟩ := ev_take (W := W) (k := k) (env := [.own (.lst (zs l3)), .val (nt le), .val (nt sz), .own (.lst (zs P)), .val (nt i), s5, .own (.lst (A.map encI)), .val (nt kd), .val (nt y), x9, x10]) (i := 0) (m := 3) (a := .int 3) (by decide) rfl ev_ci
            have el : ev (callL prog W (k + 1)) (.lst [(.tup [(.str (Str.ofString "give"))]), (.tup [(.str (Str.ofString "none"))]), (.tup [(.str (Str.ofString "put")), (.idx (.var 3) (.var 4)), (.var 8)])]) .v [.own (.lst (zs l3)), .val (nt le), .val (nt sz), .own (.lst (zs P)), .val (nt i), s5, .own (.lst (A.map encI)), .val (nt kd), .val (nt y), x9, x10] = some (.own (.lst [encI .gv, encI .nn, encI (.pt (P[i]?.getD 0) y)]), [.own (.lst (zs l3)), .val (nt le), .val (nt sz), .own (.lst (zs P)), .val (nt i), s5, .own (.lst (A.map encI)), .val (nt kd), .val (nt y), x9, x10]) := by
              have q1 := ev_tup1 (c := callL prog W (k + 1)) (env := [.own (.lst (zs l3)), .val (nt le), .val (nt sz), .own (.lst (zs P)), .val (nt i), s5, .own (.lst (A.map encI)), .val (nt kd), .val (nt y), x9, x10]) (ev_str (s := sG))
              have q2 := ev_tup1 (c := callL prog W (k + 1)) (env := [.own (.lst (zs l3)), .val (nt le), .val (nt sz), .own (.lst (zs P)), .val (nt i), s5, .own (.lst (A.map encI)), .val (nt kd), .val (nt y), x9, x10]) (ev_str (s := sN))
              exact lst3 q1 q2 eput
            have d0 : Dr sz le P .gv := ⟨fun x hx => (nomatch hx), trivial⟩
            have d1 : Dr sz le P .nn := ⟨fun x hx => (nomatch hx), trivial⟩
            have hv3 : v = 0 ∨ v = 1 ∨ v = 2 := by omega
            rcases hv3 with rfl | rfl | rfl
            · exact go_expr (ev_mut1 (l := .lst (A.map encI)) rfl rfl (ev_idxL (d := nt 0) (r := encI .gv) el e4 rfl) rfl (app_any hAl)) (go_nil (fin _ l4 s5 x9 x10 hs5 d0))
            · exact go_expr (ev_mut1 (l := .lst (A.map encI)) rfl rfl (ev_idxL (d := nt 1) (r := encI .nn) el e4 rfl) rfl (app_any hAl)) (go_nil (fin _ l4 s5 x9 x10 hs5 d1))
            · exact go_expr (ev_mut1 (l := .lst (A.map encI)) rfl rfl (ev_idxL (d := nt 2) (r := encI (.pt (P[i]?.getD 0) y)) el e4 rfl) rfl (app_any hAl)) (go_nil (fin _ l4 s5 x9 x10 hs5 dput))
  · subst he
    rw [List.length_map, List.length_range] at hA
    obtain ⟨r1, r2⟩ := dr_sound hD (by omega) hle (by omega) h60
    have e1 : ev (callL prog W (k + 1)) (.blt .tuple [(.var 6)]) .v [.own (.lst (zs l)), .val (nt le), .val (nt sz), .own (.lst (zs P)), x4, s5, .own (.lst (A.map encI)), x7, x8, x9, x10] = some (.dat (.tup (A.map encI)), [.own (.lst (zs l)), .val (nt le), .val (nt sz), .own (.lst (zs P)), x4, s5, .own (.lst (A.map encI)), x7, x8, x9, x10]) := by
      simp only [ev, evs, fin, look, List.getElem?_cons_succ, List.getElem?_cons_zero, Option.getD_some, views, view, bltD]
    refine go_ret (ev_bin e1 (ev_tup1 (ev_tup1 (ev_str (s := sG)))) (addT (A.map encI) [encI .gv] (by rw [List.length_map, List.length_singleton]; omega))) ⟨A ++ [.gv], l, ⟨r1, r2, by rw [List.length_append, hA]; simp; omega⟩, by rw [encC, List.map_append]; rfl, rfl⟩
end K62
namespace K62
open PySem PF
variable {W : Nat}
theorem evds_nil {c : Cl} {env : PF.Env} : evds c [] env = some ([], env) := rfl
theorem evds_cons {c : Cl} {env : PF.Env} {a : E} {es : List E} {d : D} {ds : List D} (ha : ev c a .v env = some (.dat d, env)) (h : evds c es env = some (ds, env)) : evds c (a :: es) env = some (d :: ds, env) := by
  simp only [evds, ha, toD, h]
theorem ev_lstG {c : Cl} {env : PF.Env} {es : List E} {ds : List D} (h : evds c es env = some (ds, env)) (hl : ds.length < 100000) : ev c (.lst es) .v env = some (.own (.lst ds), env) := by
  have : ds.length ≤ line := ln_of hl
  simp only [ev, fin, h, if_pos this]
theorem ex_par2 {c : Cl} {env env1 env2 : PF.Env} {i j : Nat} {a b : E} {d d' : D} (ha : ev c a .v env = some (.dat d, env1)) (hb : ev c b .v env1 = some (.dat d', env2)) : ex c W (.par i j a b) env = some (.nx ((env2.set i (.val d)).set j (.val d'))) := by
  simp only [ex, evds, ha, hb, toD]
theorem and_tT {c : Cl} {env env1 env2 : PF.Env} {a b : E} (ha : ev c a .t env = some (.dat (.bl true), env1)) (hb : ev c b .t env1 = some (.dat (.bl true), env2)) : ev c (.and [a, b]) .t env = some (.dat (.bl true), env2) := by
  simp [ev, evAnd, ha, hb, fin, view, truth, Md.tv]
def bent7 (sz : Int) : List Ins := [.pt 9 0, .wr 2 0, .pt 0 sz, .wr 1 (-1), .rd [0] 0, .tk [] 0, .tk [(1, 0), (0, 0)] 0]
theorem bent_sz (sz : Int) : ∀ i ∈ bent7 sz, szI i := by
  intro i hi
  simp only [bent7, List.mem_cons, List.not_mem_nil, or_false] at hi
  rcases hi with rfl | rfl | rfl | rfl | rfl | rfl | rfl
  · trivial
  · trivial
  · trivial
  · trivial
  · show ([0] : List Int).length < 60; decide
  · show ([] : List (Int × Int)).length < 60; decide
  · show ([(1, 0), (0, 0)] : List (Int × Int)).length < 60; decide
theorem cut_toG {xs : List D} (j : Nat) (h : j ≤ xs.length) : cut xs none (some (j : Int)) = xs.take j := cut_to h
theorem ala_ok (k : Nat) (c : List Ins) (l : List Int) (Z : Cd c) (h0 : 0 < c.length) :
    ∃ (c' : List Ins) (l' : List Int), Cd c' ∧ callL prog W (k + 2) (Str.ofString "_law_altered") [.own (.lst (zs l)), .val (encC c)] = some (.dat (encC c'), [.own (.lst (zs l')), .val (encC c)]) := by
  suffices H : ∃ o fs, callL prog W (k + 2) (Str.ofString "_law_altered") [.own (.lst (zs l)), .val (encC c)] = some (o, fs) ∧ ∃ (c' : List Ins) (l' : List Int), Cd c' ∧ o = .dat (encC c') ∧ fs = [.own (.lst (zs l')), .val (encC c)] by
    obtain ⟨o, fs, e, c', l', h1, rfl, rfl⟩ := H
    exact ⟨c', l', h1, e⟩
  have hlen := Z.len
  refine e__law_altered ?_
  obtain ⟨a, l1, ha, e1⟩ := ev_take (W := W) (k := k) (env := [.own (.lst (zs l)), .val (encC c), .un, .un, .un, .un]) (i := 0) (m := c.length) (a := .blt .len [(.var 1)]) h0 rfl (ev_len1 rfl (by simp))
  refine go_step _ (ex_par2 e1 (ev_len1 (n := c.length) rfl (by simp))) ?_
  show Goes _ _ _ [.own (.lst (zs l1)), .val (encC c), .val (nt a), .val (nt c.length), .un, .un] _
  have hat := at_code ha
  have hm : c[a]?.getD .gv ∈ c := by rw [List.getElem?_eq_getElem ha]; exact List.getElem_mem ha
  have hz := Z.sz _ hm
  generalize c[a]?.getD .gv = i at *
  refine go_setD (ev_idx (ev_var rfl) (ev_var rfl) hat) ?_
  show Goes _ _ _ [.own (.lst (zs l1)), .val (encC c), .val (nt a), .val (nt c.length), .val (encI i), .un] _
  obtain ⟨v, l2, hv, e2⟩ := ev_take (W := W) (k := k) (env := [.own (.lst (zs l1)), .val (encC c), .val (nt a), .val (nt c.length), .val (encI i), .un]) (i := 0) (m := 7) (a := .int 7) (by decide) rfl ev_ci
  have el : ev (callL prog W (k + 1)) (.lst [(.tup [(.str (Str.ofString "put")), (.int 9), (.int 0)]), (.tup [(.str (Str.ofString "write")), (.int 2), (.int 0)]), (.tup [(.str (Str.ofString "put")), (.int 0), (.var 3)]), (.tup [(.str (Str.ofString "write")), (.int 1), (.neg (.int 1))]), (.tup [(.str (Str.ofString "read")), (.tup [(.int 0)]), (.int 0)]), (.tup [(.str (Str.ofString "take")), (.tup []), (.int 0)]), (.tup [(.str (Str.ofString "take")), (.tup [(.tup [(.int 1), (.int 0)]), (.tup [(.int 0), (.int 0)])]), (.int 0)])]) .v [.own (.lst (zs l1)), .val (encC c), .val (nt a), .val (nt c.length), .val (encI i), .un] = some (.own (.lst ((bent7 c.length).map encI)), [.own (.lst (zs l1)), .val (encC c), .val (nt a), .val (nt c.length), .val (encI i), .un]) :=
    ev_lstG (evds_cons (tup3 ev_str ev_ci ev_ci) (evds_cons (tup3 ev_str ev_ci ev_ci) (evds_cons (tup3 ev_str ev_ci (ev_var rfl)) (evds_cons (tup3 ev_str ev_ci (ev_neg ev_ci)) (evds_cons (tup3 ev_str (ev_tup1 ev_ci) ev_ci) (evds_cons (tup3 ev_str ev_t0 ev_ci) (evds_cons (tup3 ev_str (ev_tup2 (ev_tup2 ev_ci ev_ci) (ev_tup2 ev_ci ev_ci)) ev_ci) evds_nil))))))) (by simp [bent7])
  have hb : v < ((bent7 c.length).map encI).length := by simp only [bent7, List.length_map, List.length_cons, List.length_nil]; omega
  have hb' : v < (bent7 c.length).length := by rw [List.length_map] at hb; exact hb
  have ei : idxD (.lst ((bent7 c.length).map encI)) (nt v) = some (encI ((bent7 c.length)[v]'hb')) := by
    simp [idxD, atD, L2.atI, L2.ixN, hb']
  refine go_setD (ev_idxL el e2 ei) ?_
  have hbz := bent_sz c.length _ (List.getElem_mem hb')
  generalize (bent7 c.length)[v]'hb' = bt at *
  show Goes _ _ _ [.own (.lst (zs l2)), .val (encC c), .val (nt a), .val (nt c.length), .val (encI i), .val (encI bt)] _
  have fin : ∀ (l : List Int) (b : Ins), szI b → Goes (callL prog W (k + 1)) W [.ret (.bin .add (.bin .add (.slc (.var 1) .non (.var 2)) (.tup [(.var 5)])) (.slc (.var 1) (.bin .add (.var 2) (.int 1)) .non))] [.own (.lst (zs l)), .val (encC c), .val (nt a), .val (nt c.length), .val (encI i), .val (encI b)] (fun r => match outR d__law_altered r with | some (o, fs) => ∃ (c' : List Ins) (l' : List Int), Cd c' ∧ o = .dat (encC c') ∧ fs = [.own (.lst (zs l')), .val (encC c)] | none => False) := by
    intro l b hb
    have c1 := ev_cut (c := callL prog W (k + 1)) (env := [.own (.lst (zs l)), .val (encC c), .val (nt a), .val (nt c.length), .val (encI i), .val (encI b)]) (a := .var 1) (lo := .non) (hi := .var 2) (l := none) (h := some (a : Int)) (ev_var rfl) ev_non (ev_var rfl) rfl rfl
    rw [cut_to (by rw [List.length_map]; omega)] at c1
    have c2 := ev_cut (c := callL prog W (k + 1)) (env := [.own (.lst (zs l)), .val (encC c), .val (nt a), .val (nt c.length), .val (encI i), .val (encI b)]) (a := .var 1) (lo := .bin .add (.var 2) (.int 1)) (hi := .non) (l := some ((a + 1 : Nat) : Int)) (h := none) (ev_var rfl) (ev_bin (ev_var rfl) ev_one (add_nt _ _)) ev_non rfl rfl
    rw [cut_from (by rw [List.length_map]; omega)] at c2
    have q1 : ((c.map encI).take a).length + [encI b].length < 100000 := by rw [List.length_take, List.length_map, List.length_singleton]; omega
    have q2 : ((c.map encI).take a ++ [encI b]).length + ((c.map encI).drop (a + 1)).length < 100000 := by rw [List.length_append, List.length_take, List.length_map, List.length_singleton, List.length_drop, List.length_map]; omega
    refine go_ret (ev_bin (ev_bin c1 (ev_tup1 (ev_var rfl)) (addT _ _ q1)) c2 (addT _ _ q2)) ⟨c.take a ++ [b] ++ c.drop (a + 1), l, ⟨?_, fun x hx => ?_⟩, ?_, rfl⟩
    · rw [List.length_append, List.length_append, List.length_take, List.length_singleton, List.length_drop]; omega
    · rcases List.mem_append.mp hx with h | h
      · rcases List.mem_append.mp h with h | h
        · exact Z.sz x (List.mem_of_mem_take h)
        · rw [List.mem_singleton.mp h]; exact hb
      · exact Z.sz x (List.mem_of_mem_drop h)
    · rw [encC, List.map_append, List.map_append, List.map_take, List.map_drop]; rfl
  have tT := ev_cmpT (c := callL prog W (k + 1)) (env := [.own (.lst (zs l2)), .val (encC c), .val (nt a), .val (nt c.length), .val (encI i), .val (encI bt)]) (a := .idx (.var 4) (.int 0)) (ev_idx (ev_var rfl) ev_ci (k0 i)) ev_str (kT i)
  cases i with
  | tk ps e =>
    obtain ⟨u, l3, hu, e3⟩ := ev_take (W := W) (k := k) (env := [.own (.lst (zs l2)), .val (encC c), .val (nt a), .val (nt c.length), .val (encI (.tk ps e)), .val (encI bt)]) (i := 0) (m := 2) (a := .int 2) (by decide) rfl ev_ci
    have t2 := ev_cmpT (op := .eq) e3 (b := .int 0) ev_ci (eq0_nt u)
    have hzz : ps.length < 60 := hz
    by_cases hu0 : u = 0
    · rw [decide_eq_true hu0] at t2
      have tA : ev (callL prog W (k + 1)) (.and [(.cmp .eq (.idx (.var 4) (.int 0)) (.str (Str.ofString "take"))), (.cmp .eq (.call (Str.ofString "_law_take") [(.var 0), (.int 2)]) (.int 0))]) .t [.own (.lst (zs l2)), .val (encC c), .val (nt a), .val (nt c.length), .val (encI (.tk ps e)), .val (encI bt)] = some (.dat (.bl true), [.own (.lst (zs l3)), .val (encC c), .val (nt a), .val (nt c.length), .val (encI (.tk ps e)), .val (encI bt)]) := and_tT tT t2
      refine go_ite true _ tA (fun _ => ?_) (fun h => nomatch h)
      have c1 := ev_cut (c := callL prog W (k + 1)) (env := [.own (.lst (zs l3)), .val (encC c), .val (nt a), .val (nt c.length), .val (encI (.tk ps e)), .val (encI bt)]) (a := .idx (.var 4) (.int 1)) (lo := .int 1) (hi := .non) (xs := prs ps) (l := some ((1 : Nat) : Int)) (h := none) (ev_idx (ev_var rfl) ev_ci rfl) ev_ci ev_non rfl rfl
      have hd : cut (prs ps) (some ((1 : Nat) : Int)) none = prs (ps.drop 1) := by
        cases ps with
        | nil => rfl
        | cons p ps => rw [cut_from (by simp)]; simp
      rw [hd] at c1
      refine go_setD (tup3 ev_str c1 (ev_idx (ev_var rfl) ev_ci (r := .int e) rfl)) ?_
      exact fin l3 (.tk (ps.drop 1) e) (by show (ps.drop 1).length < 60; rw [List.length_drop]; omega)
    · rw [decide_eq_false hu0] at t2
      refine go_pass (and_f2 tT t2) ?_
      exact fin l3 bt hbz
  | rd ws e => exact go_pass (and_f1 tT) (fin l2 bt hbz)
  | pt n e => exact go_pass (and_f1 tT) (fin l2 bt hbz)
  | wr d e => exact go_pass (and_f1 tT) (fin l2 bt hbz)
  | gv => exact go_pass (and_f1 tT) (fin l2 bt hbz)
  | nn => exact go_pass (and_f1 tT) (fin l2 bt hbz)
end K62
namespace K62
open PySem PF
variable {W : Nat}
/-! ### words of rows -/
def dg : Nat → List Nat
  | 0 => []
  | n + 1 => (n + 1) % 2 :: dg ((n + 1) / 2)
decreasing_by omega
def val : List Nat → Nat
  | [] => 0
  | d :: ds => d + 2 * val ds
theorem dg_pos {n : Nat} (h : 0 < n) : dg n = n % 2 :: dg (n / 2) := by
  cases n with
  | zero => omega
  | succ n => rw [dg]
theorem val_dg (n : Nat) : val (dg n) = n := by
  induction n using Nat.strongRecOn with
  | ind n ih =>
    by_cases h : 0 < n
    · rw [dg_pos h, val, ih (n / 2) (by omega)]; omega
    · rw [show n = 0 by omega]; simp [dg, val]
theorem dg_bit (n : Nat) : ∀ d ∈ dg n, d < 2 := by
  induction n using Nat.strongRecOn with
  | ind n ih =>
    by_cases h : 0 < n
    · rw [dg_pos h]
      intro d hd
      rcases List.mem_cons.mp hd with rfl | hd
      · omega
      · exact ih (n / 2) (by omega) d hd
    · rw [show n = 0 by omega]; simp [dg]
theorem dg_len (m : Nat) : ∀ n, n < 2 ^ m → (dg n).length ≤ m := by
  induction m with
  | zero => intro n h; rw [show n = 0 by simpa using h]; simp [dg]
  | succ m ih =>
    intro n h
    by_cases h0 : 0 < n
    · rw [dg_pos h0, List.length_cons]
      have := ih (n / 2) (by rw [Nat.pow_succ] at h; omega)
      omega
    · rw [show n = 0 by omega]; simp [dg]
theorem dth_ok (k : Nat) (ds : List Nat) (p : Nat) : callL prog W (k + 1) (Str.ofString "digit_there") [.val (.tup (bits ds)), .val (nt p)] = some (.dat (nt (ds[p]?.getD 0)), [.val (.tup (bits ds)), .val (nt p)]) := by
  refine c_digit_there ?_
  by_cases h : p < ds.length
  · have := atD_bits h
    simp [d_digit_there, Goes, outR, r2, exs, ex, ev, evds, evs, evAnd, evOr, look, fin, view, views, cm, D.plain, wantsM, isSeq, sameQ, truth, mutD, toD, op2, store, aug2, giveOut, finals, lend, PF.giveBack, bltD, isiD, kd, isK, idxD, mthD, b2i, itemsOf, bindT, Md.tv, setAll, revD, part, slcD, shp_int, shp_bl, deq_int, deq_bl, shp_non, rg1, rg2, rg3, rg4, ln1, ln2, ln3, ln4, h, this]
  · have : (ds.length : Int) ≤ p := by omega
    simp [d_digit_there, Goes, outR, r2, exs, ex, ev, evds, evs, evAnd, evOr, look, fin, view, views, cm, D.plain, wantsM, isSeq, sameQ, truth, mutD, toD, op2, store, aug2, giveOut, finals, lend, PF.giveBack, bltD, isiD, kd, isK, idxD, mthD, b2i, itemsOf, bindT, Md.tv, setAll, revD, part, slcD, shp_int, shp_bl, deq_int, deq_bl, shp_non, rg1, rg2, rg3, rg4, ln1, ln2, ln3, ln4, h, this]
theorem do_ok (k : Nat) (n : Nat) (h : n < 2 ^ 900) (hW : 1000 ≤ W) : callL prog W (k + 1) (Str.ofString "digits_of") [.val (nt n)] = some (.dat (.tup (bits (dg n))), [.un]) := by
  refine c_digits_of ?_
  refine go_step [.val (nt n), .own (.lst (bits []))] (by simp [d_digits_of, exs, ex, ev, evds, evs, evAnd, evOr, look, fin, view, views, cm, D.plain, wantsM, isSeq, sameQ, truth, mutD, toD, op2, store, aug2, giveOut, finals, lend, PF.giveBack, bltD, isiD, kd, isK, idxD, mthD, b2i, itemsOf, bindT, Md.tv, setAll, revD, part, slcD, shp_int, shp_bl, deq_int, deq_bl, shp_non, rg1, rg2, rg3, rg4, ln1, ln2, ln3, ln4]) ?_
  refine go_whl (fun m env => ∃ (a : Nat) (ds : List Nat), env = [.val (nt a), .own (.lst (bits ds))] ∧ ds ++ dg a = dg n ∧ a < 2 ^ m ∧ ds.length + m ≤ 900) 900 (by omega) ⟨n, [], rfl, rfl, h, by simp⟩ fun m env ⟨a, ds, he, h1, h2, h3⟩ => ?_
  subst he
  refine ⟨decide (0 < a), [.val (nt a), .own (.lst (bits ds))], by simp [exs, ex, ev, evds, evs, evAnd, evOr, look, fin, view, views, cm, D.plain, wantsM, isSeq, sameQ, truth, mutD, toD, op2, store, aug2, giveOut, finals, lend, PF.giveBack, bltD, isiD, kd, isK, idxD, mthD, b2i, itemsOf, bindT, Md.tv, setAll, revD, part, slcD, shp_int, shp_bl, deq_int, deq_bl, shp_non, rg1, rg2, rg3, rg4, ln1, ln2, ln3, ln4], fun hb => ?_, fun hb => ?_⟩
  · have h0 : 0 < a := by simpa using hb
    have : ds.length < line := by unfold line; omega
    have hm : ∃ m', m = m' + 1 := by
      cases m with
      | zero => simp at h2; omega
      | succ m => exact ⟨m, rfl⟩
    obtain ⟨m', rfl⟩ := hm
    simp [Goes, Turn, exs, ex, ev, evds, evs, evAnd, evOr, look, fin, view, views, cm, D.plain, wantsM, isSeq, sameQ, truth, mutD, toD, op2, store, aug2, giveOut, finals, lend, PF.giveBack, bltD, isiD, kd, isK, idxD, mthD, b2i, itemsOf, bindT, Md.tv, setAll, revD, part, slcD, shp_int, shp_bl, deq_int, deq_bl, shp_non, rg1, rg2, rg3, rg4, ln1, ln2, ln3, ln4, this]
    refine ⟨m', by omega, a / 2, ds ++ [a % 2], by simp, ?_, by rw [Nat.pow_succ] at h2; omega, by simp; omega⟩
    rw [← h1, dg_pos h0]; simp
  · have h0 : a = 0 := by
      have : ¬ 0 < a := by simpa using hb
      omega
    subst h0
    rw [dg, List.append_nil] at h1
    subst h1
    simp [Goes, outR, exs, ex, ev, evds, evs, evAnd, evOr, look, fin, view, views, cm, D.plain, wantsM, isSeq, sameQ, truth, mutD, toD, op2, store, aug2, giveOut, finals, lend, PF.giveBack, bltD, isiD, kd, isK, idxD, mthD, b2i, itemsOf, bindT, Md.tv, setAll, revD, part, slcD, shp_int, shp_bl, deq_int, deq_bl, shp_non, rg1, rg2, rg3, rg4, ln1, ln2, ln3, ln4]
    simp [d_digits_of]
theorem val_append (a b : List Nat) : val (a ++ b) = val a + 2 ^ a.length * val b := by
  induction a with
  | nil => simp [val]
  | cons d a ih => simp only [List.cons_append, val, ih, List.length_cons, Nat.pow_succ]; rw [Nat.mul_add, ← Nat.mul_assoc, Nat.mul_comm 2 (2 ^ a.length)]; omega
theorem val_lt : ∀ {ds : List Nat}, (∀ d ∈ ds, d < 2) → val ds < 2 ^ ds.length
  | [], _ => by simp [val]
  | d :: ds, h => by
    have := val_lt fun x hx => h x (List.mem_cons_of_mem _ hx)
    have := h d (List.mem_cons_self ..)
    rw [val, List.length_cons, Nat.pow_succ]; omega
theorem lt_pow_len (n : Nat) : n < 2 ^ (dg n).length := by
  have := val_lt (dg_bit n)
  rwa [val_dg] at this
theorem long_ok (k : Nat) (n : Nat) (h : n < 2 ^ 900) : callL prog W (k + 1) (Str.ofString "_law_long") [.val (nt n)] = some (.dat (nt (dg n).length), [.val (nt n)]) := by
  have hlen := dg_len 900 n h
  refine c__law_long ?_
  refine go_for ((List.range 900).map nt) [.val (nt n), .un] (fun i env => ∃ (x : Slot), env = [.val (nt n), x] ∧ i ≤ (dg n).length) (ev_rng (ds := [nt 900]) (by simp [exs, ex, ev, evds, evs, evAnd, evOr, look, fin, view, views, cm, D.plain, wantsM, isSeq, sameQ, truth, mutD, toD, op2, store, aug2, giveOut, finals, lend, PF.giveBack, bltD, isiD, kd, isK, idxD, mthD, b2i, itemsOf, bindT, Md.tv, setAll, revD, part, slcD, shp_int, shp_bl, deq_int, deq_bl, shp_non, rg1, rg2, rg3, rg4, ln1, ln2, ln3, ln4, nt]) (rng_nat _ (by decide)))
    ⟨.un, rfl, by omega⟩ (fun i x env hx ⟨y, he, hi2⟩ => ?_) fun env ⟨y, he, hi2⟩ => ?_
  · obtain ⟨hi, rfl⟩ := xs_at hx
    subst he
    refine ⟨_, rfl, ?_⟩
    have hz : ((n : Int) / 2 ^ i = 0) ↔ n < 2 ^ i := by
      have e : ((n : Int) / 2 ^ i) = ((n / 2 ^ i : Nat) : Int) := by simp
      rw [e]
      have := Nat.div_eq_zero_iff (a := n) (b := 2 ^ i)
      have p : 0 < 2 ^ i := Nat.two_pow_pos i
      omega
    by_cases hq : n < 2 ^ i
    · have hz2 := hz.mpr hq
      have hle := dg_len i n hq
      have he : (dg n).length = i := by omega
      simp [Goes, Turn, exs, ex, ev, evds, evs, evAnd, evOr, look, fin, view, views, cm, D.plain, wantsM, isSeq, sameQ, truth, mutD, toD, op2, store, aug2, giveOut, finals, lend, PF.giveBack, bltD, isiD, kd, isK, idxD, mthD, b2i, itemsOf, bindT, Md.tv, setAll, revD, part, slcD, shp_int, shp_bl, deq_int, deq_bl, shp_non, rg1, rg2, rg3, rg4, ln1, ln2, ln3, ln4, hz2, outR, d__law_long, he]
    · have hz2 : ¬ ((n : Int) / 2 ^ i = 0) := fun z => hq (hz.mp z)
      have hne : (dg n).length ≠ i := fun z => hq (by have := lt_pow_len n; rw [z] at this; exact this)
      simp [Goes, Turn, exs, ex, ev, evds, evs, evAnd, evOr, look, fin, view, views, cm, D.plain, wantsM, isSeq, sameQ, truth, mutD, toD, op2, store, aug2, giveOut, finals, lend, PF.giveBack, bltD, isiD, kd, isK, idxD, mthD, b2i, itemsOf, bindT, Md.tv, setAll, revD, part, slcD, shp_int, shp_bl, deq_int, deq_bl, shp_non, rg1, rg2, rg3, rg4, ln1, ln2, ln3, ln4, hz2]
      omega
  · subst he
    have e : (dg n).length = 900 := by
      simp at hi2; omega
    simp [Goes, outR, exs, ex, ev, evds, evs, evAnd, evOr, look, fin, view, views, cm, D.plain, wantsM, isSeq, sameQ, truth, mutD, toD, op2, store, aug2, giveOut, finals, lend, PF.giveBack, bltD, isiD, kd, isK, idxD, mthD, b2i, itemsOf, bindT, Md.tv, setAll, revD, part, slcD, shp_int, shp_bl, deq_int, deq_bl, shp_non, rg1, rg2, rg3, rg4, ln1, ln2, ln3, ln4, d__law_long, e]
theorem dg_get (n i : Nat) : (dg n)[i]?.getD 0 = n / 2 ^ i % 2 := by
  induction i generalizing n with
  | zero =>
    by_cases h : 0 < n
    · rw [dg_pos h]; simp
    · rw [show n = 0 by omega]; simp [dg]
  | succ i ih =>
    by_cases h : 0 < n
    · rw [dg_pos h, List.getElem?_cons_succ, ih, Nat.div_div_eq_div_mul, Nat.pow_succ, Nat.mul_comm (2 ^ i)]
    · rw [show n = 0 by omega]; simp [dg]
theorem ge_bit {ds : List Nat} (h : ∀ d ∈ ds, d < 2) (i : Nat) : ds[i]?.getD 0 < 2 := by
  by_cases hi : i < ds.length
  · rw [List.getElem?_eq_getElem hi]; exact h _ (List.getElem_mem hi)
  · rw [List.getElem?_eq_none (by omega)]; decide
def low (ds : List Nat) (i : Nat) : Nat := val (ds.take i)
theorem low_succ (ds : List Nat) (i : Nat) : low ds (i + 1) = low ds i + ds[i]?.getD 0 * 2 ^ i := by
  unfold low
  by_cases h : i < ds.length
  · rw [List.take_succ, val_append]; simp [h, val, Nat.min_eq_left (Nat.le_of_lt h), Nat.mul_comm]
  · rw [List.take_of_length_le (by omega), List.take_of_length_le (by omega)]; simp [List.getElem?_eq_none (show ds.length ≤ i by omega)]
theorem low_sum (ds : List Nat) (n : Nat) : ((List.range n).map fun i => ds[i]?.getD 0 * 2 ^ i).sum = low ds n := by
  induction n with
  | zero => simp [low, val]
  | succ n ih => rw [List.range_succ, List.map_append, List.sum_append, ih, low_succ]; simp
theorem sum_val (ds : List Nat) : ((List.range ds.length).map fun i => ds[i]?.getD 0 * 2 ^ i).sum = val ds := by
  rw [low_sum, low, List.take_of_length_le (Nat.le_refl _)]
theorem sumB {α : Type} (as : List α) (f : α → Nat) : ((as.map f).map Int.ofNat).sum = ((as.map f).sum : Nat) := sum_nat _
theorem ev_biti {c : Cl} {env : PF.Env} {a b : E} {n j : Nat} (ha : ev c a .v env = some (.dat (nt n), env)) (hb : ev c b .v env = some (.dat (nt j), env)) : ev c (.bin .mod (.blt .int [.bin .shr a b]) (.int 2)) .v env = some (.dat (nt (n / 2 ^ j % 2)), env) :=
  ev_bin (ev_int1 (ev_bin ha hb (shr_nt n j))) ev_two (mod_nt _ _ (by decide))
theorem lo_ok (k : Nat) (ds : List Nat) (hb : ∀ d ∈ ds, d < 2) (hl : ds.length < 100000) : callL prog W (k + 1) (Str.ofString "letter_of") [.val (.tup (bits ds))] = some (.dat (nt (val ds)), [.val (.tup (bits ds))]) := by
  have e := ev_lcm (c := callL prog W k) (i := 1) (src := .rng [.blt .len [.var 0]]) (elt := .bin .shl (.idx (.var 0) (.var 1)) (.var 1)) (List.range ds.length) nt (fun i => nt (ds[i]?.getD 0 * 2 ^ i)) [.val (.tup (bits ds)), .un]
    (ev_range hl (by have := ev_len (c := callL prog W k) (e := .var 0) (xs := bits ds) (env := [.val (.tup (bits ds)), .un]) (ev_var rfl); rwa [show ((bits ds).length : Int) = (ds.length : Int) by simp] at this)) (by rw [List.length_range]; exact ln_of hl)
    fun i hi => lcT1 (ev_bin (ev_idx (ev_var rfl) (ev_var rfl) (atD_bits (List.mem_range.mp hi))) (ev_var rfl) (shl_bit (ge_bit hb i) (by have := List.mem_range.mp hi; omega)))
  have e2 := ev_sum e (intsM _ _)
  rw [sumB, sum_val] at e2
  exact c_letter_of (go_ret e2 rfl)
def lett (row : List Nat) (p : Nat) : Nat := val (row.map fun n => n / 2 ^ p % 2)
def mxl (row : List Nat) : Nat := (row.map fun n => (dg n).length).foldl max 0
def wd (row : List Nat) : List Nat := (List.range (mxl row)).map (lett row)
theorem maxI_nat : ∀ (ds : List Nat) (m : Nat), maxI (m : Int) (ds.map Int.ofNat) = (ds.foldl max m : Nat)
  | [], m => rfl
  | d :: ds, m => by
    have e : (if (Int.ofNat d) > (m : Int) then Int.ofNat d else (m : Int)) = ((max m d : Nat) : Int) := by
      simp only [Int.ofNat_eq_natCast]; split <;> omega
    simp only [List.map_cons, maxI, List.foldl_cons]
    rw [e, maxI_nat ds]
theorem fold_ge : ∀ (ds : List Nat) (m : Nat), m ≤ ds.foldl max m ∧ ∀ d ∈ ds, d ≤ ds.foldl max m
  | [], m => ⟨Nat.le_refl _, fun _ h => nomatch h⟩
  | d :: ds, m => by
    obtain ⟨h1, h2⟩ := fold_ge ds (max m d)
    rw [List.foldl_cons]
    refine ⟨by omega, fun x hx => ?_⟩
    rcases List.mem_cons.mp hx with rfl | hx
    · omega
    · exact h2 x hx
theorem fold_le : ∀ (ds : List Nat) (m b : Nat), m ≤ b → (∀ d ∈ ds, d ≤ b) → ds.foldl max m ≤ b
  | [], m, b, h, _ => h
  | d :: ds, m, b, h, h2 => by
    rw [List.foldl_cons]
    exact fold_le ds _ b (Nat.max_le.mpr ⟨h, h2 d List.mem_cons_self⟩) fun x hx => h2 x (List.mem_cons_of_mem _ hx)
theorem mxl_le {row : List Nat} {m : Nat} (h : ∀ n ∈ row, n < 2 ^ m) : mxl row ≤ m := fold_le _ _ _ (Nat.zero_le _) fun d hd => by
  obtain ⟨n, hn, rfl⟩ := List.mem_map.mp hd
  exact dg_len m n (h n hn)
theorem ev_sum0 {c : Cl} {env env1 : PF.Env} {e : E} {α : Type} {as : List α} {f : α → Nat} {n : Nat} (hl : as.length < 100000) (h : ev c e .v env = some (.own (.lst (as.map fun a => nt (f a))), env1)) (hn : (as.map f).sum = n) :
    ev c (.blt .sum [.bin .add (.lst [.int 0]) e]) .v env = some (.dat (nt n), env1) := by
  have e2 := ev_sum (ev_cons0 (i := 0) h (by rw [List.length_map]; unfold line; omega)) (ns := 0 :: (as.map f).map Int.ofNat) (by simp only [intsD]; rw [intsM]; rfl)
  have h3 : ((0 : Int) :: (as.map f).map Int.ofNat).sum = (n : Int) := by rw [List.sum_cons, sumB, hn]; simp
  rw [e2, h3]
theorem ev_maxl {c : Cl} {env : PF.Env} {e : E} {row : List Nat} (hl : row.length < 100000) (h : ev c e .v env = some (.own (.lst (row.map fun n => nt (dg n).length)), env)) : ev c (.blt .max [.bin .add (.lst [.int 0]) e]) .v env = some (.dat (nt (mxl row)), env) := by
  have e2 := ev_max (ev_cons0 (i := 0) h (by rw [List.length_map]; unfold line; omega)) (n := 0) (ns := (row.map fun n => (dg n).length).map Int.ofNat) (by simp only [intsD]; rw [intsM]; rfl)
  have e3 := maxI_nat (row.map fun n => (dg n).length) 0
  rw [show ((0 : Nat) : Int) = 0 from rfl] at e3
  rw [e3] at e2
  exact e2
theorem wo_ok (k : Nat) (row : List Nat) (hl : row.length < 100) (hb : ∀ n ∈ row, n < 2 ^ 900) (hW : 10000 < W) : callL prog W (k + 2) (Str.ofString "word_of") [.val (.tup (bits row))] = some (.dat (.tup (bits (wd row))), [.val (.tup (bits row))]) := by
  have hm := mxl_le hb
  have e1 := ev_lcm (c := callL prog W (k + 1)) (i := 2) (src := .var 0) (elt := .call (Str.ofString "digits_of") [.var 2]) row nt (fun n => .tup (bits (dg n))) [.val (.tup (bits row)), .un, .un, .un, .un, .un]
    (ev_walkT rfl) (ln_of (by omega)) fun n hn => lcT1 (ev_call1 (ev_var rfl) (do_ok k n (hb n hn) (by omega)))
  have e2 := ev_lcm (c := callL prog W (k + 1)) (i := 4) (src := .var 1) (elt := .blt .len [.var 4]) (env := [.val (.tup (bits row)), .own (.lst (row.map fun n => .tup (bits (dg n)))), .un, .un, .un, .un]) row (fun n => .tup (bits (dg n))) (fun n => nt (dg n).length)
    [.val (.tup (bits row)), .val (.lst (row.map fun n => .tup (bits (dg n)))), .un, .un, .un, .un] (ev_walkO rfl) (ln_of (by omega)) fun n hn => lcT1 (by
      have := ev_len (c := callL prog W (k + 1)) (e := .var 4) (xs := bits (dg n)) (env := [.val (.tup (bits row)), .val (.lst (row.map fun n => .tup (bits (dg n)))), .un, .un, .val (.tup (bits (dg n))), .un]) (ev_var rfl)
      rwa [show ((bits (dg n)).length : Int) = ((dg n).length : Int) by simp] at this)
  have e2' : ev (callL prog W (k + 1)) (.blt .max [.bin .add (.lst [.int 0]) (.lc [4] (.nm 4) (.var 1) [] (.blt .len [.var 4]))]) .v [.val (.tup (bits row)), .own (.lst (row.map fun n => .tup (bits (dg n)))), .un, .un, .un, .un] = some (.dat (nt (mxl row)), [.val (.tup (bits row)), .val (.lst (row.map fun n => .tup (bits (dg n)))), .un, .un, .un, .un]) := by
    have q := ev_max (ev_cons0 (i := 0) e2 (by rw [List.length_map]; unfold line; omega)) (n := 0) (ns := (row.map fun n => (dg n).length).map Int.ofNat) (by simp only [intsD]; rw [intsM]; rfl)
    have e3 := maxI_nat (row.map fun n => (dg n).length) 0
    rw [show ((0 : Nat) : Int) = 0 from rfl] at e3
    rw [e3] at q
    exact q
  have e3 := ev_lcm (c := callL prog W (k + 1)) (i := 5) (src := .rng [.var 3]) (elt := .call (Str.ofString "letter_of") [.blt .tuple [.lc [4] (.nm 4) (.var 1) [] (.call (Str.ofString "digit_there") [.var 4, .var 5])]]) (List.range (mxl row)) nt (fun p => nt (lett row p))
    [.val (.tup (bits row)), .val (.lst (row.map fun n => .tup (bits (dg n)))), .un, .val (nt (mxl row)), .un, .un] (ev_range (by omega) (ev_var rfl)) (by rw [List.length_range]; exact ln_of (by omega)) fun p hp => lcT1 (by
      have q := ev_lcm (c := callL prog W (k + 1)) (i := 4) (src := .var 1) (elt := .call (Str.ofString "digit_there") [.var 4, .var 5]) row (fun n => .tup (bits (dg n))) (fun n => nt ((dg n)[p]?.getD 0))
        [.val (.tup (bits row)), .val (.lst (row.map fun n => .tup (bits (dg n)))), .un, .val (nt (mxl row)), .un, .val (nt p)] (ev_walk rfl) (ln_of (by omega)) fun n hn => lcT1 (ev_call2 (ev_var rfl) (ev_var rfl) (dth_ok k (dg n) p))
      rw [mapB] at q
      have q2 := ev_call1 (ev_tuple q) (lo_ok (W := W) k _ (fun d hd => by obtain ⟨n, _, rfl⟩ := List.mem_map.mp hd; exact ge_bit (dg_bit n) p) (by simp; omega))
      rw [show (row.map fun n => (dg n)[p]?.getD 0) = row.map (fun n => n / 2 ^ p % 2) from List.map_congr_left fun n _ => dg_get n p] at q2
      exact q2)
  rw [mapB] at e3
  exact c_word_of (go_setO e1 (go_setD e2' (go_ret (ev_tuple e3) rfl)))
theorem ll_ok (k : Nat) (row : List Nat) (p : Nat) (hl : row.length < 100) : callL prog W (k + 1) (Str.ofString "_law_letter") [.val (.tup (bits row)), .val (nt p)] = some (.dat (nt (lett row p)), [.val (.tup (bits row)), .val (nt p)]) := by
  have e := ev_lcm (c := callL prog W k) (i := 2) (src := .rng [.blt .len [.var 0]]) (elt := .bin .shl (.bin .mod (.blt .int [.bin .shr (.idx (.var 0) (.var 2)) (.var 1)]) (.int 2)) (.var 2)) (List.range row.length) nt (fun j => nt (row[j]?.getD 0 / 2 ^ p % 2 * 2 ^ j)) [.val (.tup (bits row)), .val (nt p), .un]
    (ev_range (by omega) (by have := ev_len (c := callL prog W k) (e := .var 0) (xs := bits row) (env := [.val (.tup (bits row)), .val (nt p), .un]) (ev_var rfl); rwa [show ((bits row).length : Int) = (row.length : Int) by simp] at this)) (by rw [List.length_range]; exact ln_of (by omega))
    fun j hj => lcT1 (ev_bin (ev_biti (ev_idx (ev_var rfl) (ev_var rfl) (atD_bits (List.mem_range.mp hj))) (ev_var rfl)) (ev_var rfl) (shl_bit (by omega) (by have := List.mem_range.mp hj; omega)))
  have h := sum_val (row.map fun n => n / 2 ^ p % 2)
  rw [List.length_map] at h
  have h2 : ((List.range row.length).map fun j => row[j]?.getD 0 / 2 ^ p % 2 * 2 ^ j).sum = lett row p := by
    rw [lett, ← h]
    exact congrArg List.sum (List.map_congr_left fun j hj => by
      have hj := List.mem_range.mp hj
      simp [hj])
  exact c__law_letter (go_ret (ev_sum0 (by rw [List.length_range]; omega) e h2) rfl)
theorem lwd_ok (k : Nat) (row : List Nat) (hl : row.length < 100) (hb : ∀ n ∈ row, n < 2 ^ 900) : callL prog W (k + 2) (Str.ofString "_law_word") [.val (.tup (bits row))] = some (.dat (.tup (bits (wd row))), [.val (.tup (bits row))]) := by
  have hm := mxl_le hb
  have e1 := ev_lcm (c := callL prog W (k + 1)) (i := 2) (src := .var 0) (elt := .call (Str.ofString "_law_long") [.var 2]) row nt (fun n => nt (dg n).length) [.val (.tup (bits row)), .un, .un, .un]
    (ev_walkT rfl) (ln_of (by omega)) fun n hn => lcT1 (ev_call1 (ev_var rfl) (long_ok k n (hb n hn)))
  have e2 := ev_lcm (c := callL prog W (k + 1)) (i := 3) (src := .rng [.var 1]) (elt := .call (Str.ofString "_law_letter") [.var 0, .var 3]) (List.range (mxl row)) nt (fun p => nt (lett row p)) [.val (.tup (bits row)), .val (nt (mxl row)), .un, .un]
    (ev_range (by omega) (ev_var rfl)) (by rw [List.length_range]; exact ln_of (by omega)) fun p hp => lcT1 (ev_call2 (ev_var rfl) (ev_var rfl) (ll_ok k row p hl))
  rw [mapB] at e2
  exact c__law_word (go_setD (ev_maxl (by omega) e1) (go_ret (ev_tuple e2) rfl))
theorem word_ok {t : Nat} {r : List Nat} (ht : t = 1 ∨ t = 2) (hr : r.length = t) (h20 : ∀ x ∈ r, x < 20) : ∃ w : List Nat, (∀ l ∈ w, l < 2 ^ t) ∧ w.length < 1000 ∧ callL prog 100000 38 (Str.ofString "word_of") [.val (.tup (bits r))] = some (.dat (.tup (bits w)), [.val (.tup (bits r))]) ∧ callL prog 100000 39 (Str.ofString "_law_word") [.val (.tup (bits r))] = some (.dat (.tup (bits w)), [.val (.tup (bits r))]) := by
  have hb : ∀ n ∈ r, n < 2 ^ 900 := fun n hn => Nat.lt_of_lt_of_le (h20 n hn) (show 20 ≤ 2 ^ 900 from Nat.le_trans (show 20 ≤ 2 ^ 5 by decide) (Nat.pow_le_pow_right (by decide) (by decide)))
  have hm := mxl_le hb
  refine ⟨wd r, fun l hl => ?_, by simp [wd]; omega, wo_ok 36 r (by omega) hb (by decide), lwd_ok 37 r (by omega) hb⟩
  obtain ⟨p, _, rfl⟩ := List.mem_map.mp hl
  have := val_lt (ds := r.map fun n => n / 2 ^ p % 2) fun d hd => by
    obtain ⟨n, _, rfl⟩ := List.mem_map.mp hd
    omega
  rw [List.length_map, hr] at this
  exact this
end K62
namespace K62
open PySem PF
def tailS : List S := [.set 12 (.tup [(.tup [(.str (Str.ofString "read")), (.tup [(.int 1), (.int 2)]), (.int 3)]), (.tup [(.str (Str.ofString "put")), (.int 0), (.int 0)]), (.tup [(.str (Str.ofString "put")), (.int 1), (.int 0)]), (.tup [(.str (Str.ofString "take")), (.tup [(.tup [(.int 0), (.int 4)]), (.tup [(.int 1), (.int 5)])]), (.int 6)]), (.tup [(.str (Str.ofString "write")), (.int 0), (.int 3)]), (.tup [(.str (Str.ofString "write")), (.int 1), (.int 3)]), (.tup [(.str (Str.ofString "give"))])]), .ite (.or [(.not (.call (Str.ofString "_law_same") [(.call (Str.ofString "run_letter_code") [(.var 12), (.tup [(.int 0), (.int 1), (.int 1)]), (.int 20)]), (.tup [(.str (Str.ofString "ended")), (.int 15), (.int 6)])])), (.not (.call (Str.ofString "_law_same") [(.call (Str.ofString "code_number") [(.var 12), (.int 1), (.tup [(.int 11)])]), (.int 11)]))]) [.ret (.bl false)] [], .ret (.and [(.call (Str.ofString "_law_same") [(.call (Str.ofString "code_step") [(.var 12), (.tup [(.int 3), (.tup []), (.tup [(.int 0), (.int 1)]), (.tup [(.int 1)])])]), (.tup [(.int 5), (.tup []), (.tup [(.int 0)]), (.tup [(.int 1)])])]), (.call (Str.ofString "_law_same") [(.call (Str.ofString "run_letter_code") [(.tup [(.tup [(.str (Str.ofString "none"))])]), (.tup []), (.int 1)]), (.tup [(.str (Str.ofString "ended")), (.int 1), .non])])])]
def turnedI : List Ins := [.rd [1, 2] 3, .pt 0 0, .pt 1 0, .tk [(0, 4), (1, 5)] 6, .wr 0 3, .wr 1 3, .gv]
theorem tail_ok (s0 s1 s2 s3 s4 s5 s6 s7 s8 s9 s10 s11 s12 : Slot) : exs (callL prog 100000 39) 100000 tailS [s0, s1, s2, s3, s4, s5, s6, s7, s8, s9, s10, s11, s12] = some (.ret (.dat (.bl true)) [s0, s1, s2, s3, s4, s5, s6, s7, s8, s9, s10, s11, .val (encC turnedI)]) := by kernel_rfl
theorem go_exs {c : Cl} {W : Nat} {ss : List S} {env : PF.Env} {Φ : R → Prop} {r : R} (h : exs c W ss env = some r) (q : Φ r) : Goes c W ss env Φ := by
  unfold Goes; rw [h]; exact q
theorem reads {m : Nat} {c : List Ins} (h : sound m c = true) : sound (m + 1) c = !c.any isR := by
  have h0 := h
  unfold sound at h
  rw [Bool.and_eq_true, List.all_eq_true] at h
  cases ha : c.any isR with
  | true =>
    obtain ⟨i, hi, hr⟩ := List.any_eq_true.mp ha
    have h1 := h.2 i hi
    unfold insOk at h1
    rw [Bool.and_eq_true] at h1
    have hb : insOk (m + 1) c.length (puts c) i = false := by
      unfold insOk
      cases i with
      | rd ws e =>
        have : ws.length = m := of_decide_eq_true h1.2
        have h2 : ownOk (m + 1) (puts c) (.rd ws e) = false := decide_eq_false (by omega)
        rw [h2]; simp
      | pt n e => cases hr
      | tk ps e => cases hr
      | wr d e => cases hr
      | gv => cases hr
      | nn => cases hr
    unfold sound
    rw [all_false_of hi hb]; simp
  | false =>
    unfold sound
    rw [h.1, Bool.true_and]
    show c.all _ = true
    rw [List.all_eq_true]
    intro i hi
    have h1 := h.2 i hi
    have hr : ¬ isR i = true := fun z => by
      have := List.any_eq_false.mp ha i hi
      exact this z
    unfold insOk at h1 ⊢
    cases i with
    | rd ws e => exact absurd rfl hr
    | pt n e => exact h1
    | tk ps e => exact h1
    | wr d e => exact h1
    | gv => exact h1
    | nn => exact h1
theorem fm_isR (c : List Ins) : decide (0 < (c.filterMap fun i => if isR i = true then some (encI i) else none).length) = c.any isR := by
  rw [fm_len1]
  induction c with
  | nil => rfl
  | cons i c ih => rw [List.all_cons, List.any_cons, ← ih]; cases isR i <;> simp
theorem call_f {c : Cl} {env env1 : PF.Env} {f : Str} {es : List E} (h : ev c (.call f es) .v env = some (.dat (.bl false), env1)) : ev c (.call f es) .t env = some (.dat (.bl false), env1) := by
  have : ev c (.call f es) .t env = fin .t (ev c (.call f es) .v env) := by simp only [ev, fin]
  rw [this, h]; rfl
theorem isnot_non : cm .isnot .non .non = some false := rfl
theorem ev_callS3x {c : Cl} {env env1 env2 : PF.Env} {e e2 : E} {f : Str} {i : Nat} {d0 d d' d2 : D} {o : Opd} {s t u : Slot} (hi : look env i = .own d0) (h' : ev c e .v env = some (.dat d', env1)) (h2 : ev c e2 .v env1 = some (.dat d2, env2)) (hi1 : look env2 i = .own d) (hc : c f [.own d, .val d', .val d2] = some (o, [s, t, u])) : ev c (.call f [.var i, e, e2]) .v env = some (o, (env2.set i .un).set i s) := ev_callS3g hi h' h2 hi1 hc
theorem main (ns : List Int) (hl : ns.length ≤ 63) : ∃ fs, callL prog 100000 40 (Str.ofString "law") [.val (.lst (ns.map .int))] = some (.dat (.bl true), fs) := by
  suffices H : ∃ o fs, callL prog 100000 40 (Str.ofString "law") [.val (.lst (zs ns))] = some (o, fs) ∧ o = .dat (.bl true) by
    obtain ⟨o, fs, e, rfl⟩ := H
    exact ⟨fs, e⟩
  refine e_law ?_
  have hW : 1000 < 100000 := by decide
  obtain ⟨l0, e1⟩ := draws_ok (W := 100000) 38 ns hl
  refine go_setO (ev_call2 (ev_var rfl) ev_ci e1) ?_
  show Goes _ _ _ [.val (.lst (zs ns)), .own (.lst (zs l0)), .un, .un, .un, .un, .un, .un, .un, .un, .un, .un, .un] _
  obtain ⟨u, l1, hu, e2⟩ := ev_take (W := 100000) (k := 38) (i := 1) (l := l0) (m := 2) (a := .int 2) (env := [.val (.lst (zs ns)), .own (.lst (zs l0)), .un, .un, .un, .un, .un, .un, .un, .un, .un, .un, .un]) (by decide) rfl ev_ci
  obtain ⟨t, ht⟩ : ∃ t, t = 1 + u := ⟨_, rfl⟩
  have ht12 : t = 1 ∨ t = 2 := by omega
  refine go_setD (d := nt t) (by rw [ht]; exact ev_bin ev_one e2 (add_nt _ _)) ?_
  show Goes _ _ _ [.val (.lst (zs ns)), .own (.lst (zs l1)), .val (nt t), .un, .un, .un, .un, .un, .un, .un, .un, .un, .un] _
  obtain ⟨m, hm⟩ : ∃ m, m = 2 ^ t := ⟨_, rfl⟩
  have hm4 : m ≤ 4 := by rw [hm]; exact show 2 ^ t ≤ 2 ^ 2 from Nat.pow_le_pow_right (by decide) (by omega)
  refine go_setD (d := nt m) (by
    have := ev_bin (c := callL prog 100000 39) (env := [.val (.lst (zs ns)), .own (.lst (zs l1)), .val (nt t), .un, .un, .un, .un, .un, .un, .un, .un, .un, .un]) (op := .shl) (a := .int 1) (b := .var 2) ev_one (ev_var rfl) (shl_bit (b := 1) (j := t) (by decide) (by omega))
    rw [Nat.one_mul, ← hm] at this
    exact this) ?_
  show Goes _ _ _ [.val (.lst (zs ns)), .own (.lst (zs l1)), .val (nt t), .val (nt m), .un, .un, .un, .un, .un, .un, .un, .un, .un] _
  obtain ⟨u2, l2, hu2, e3⟩ := ev_take (W := 100000) (k := 38) (i := 1) (l := l1) (m := 7) (a := .int 7) (env := [.val (.lst (zs ns)), .own (.lst (zs l1)), .val (nt t), .val (nt m), .un, .un, .un, .un, .un, .un, .un, .un, .un]) (by decide) rfl ev_ci
  obtain ⟨c, l3, hs, Z, hcl, e4⟩ := dc_ok (W := 100000) 37 m (2 + u2) l2 (by omega) (by omega) (by omega)
  refine go_setD (ev_callS3x (d0 := .lst (zs l1)) (d := .lst (zs l2)) rfl (ev_var rfl) (ev_bin ev_two e3 (add_nt _ _)) rfl e4) ?_
  show Goes _ _ _ [.val (.lst (zs ns)), .own (.lst (zs l3)), .val (nt t), .val (nt m), .val (encC c), .un, .un, .un, .un, .un, .un, .un, .un] _
  have hc60 := Z.len
  have h0 : 0 < c.length := by omega
  have ils := lis_ok (W := 100000) 37 m c Z
  rw [hs] at ils
  refine go_pass (or_two (ev_cmpT (ev_call2 (ev_var rfl) (ev_var rfl) (ck_yes (W := 100000) (k := 36) Z hs)) ev_non isnot_non) (call_n (ev_call2 (ev_var rfl) (ev_var rfl) ils))) ?_
  have hpl := puts_len c
  have hss : ∀ l : List Int, (sortI (dedI l)).length ≤ l.length := fun l => by rw [(K17.sortI_p _).length_eq]; exact ded_le l
  refine go_pass (chk (W := 100000) (k := 37) (m := 1) (dp_zs 0 _ (by have := hss (puts c); omega)) (ev_call1 (ev_var rfl) (np_ok 38 c Z.len)) (ev_tuple (ev_ssetO (ev_puts Z.len (ev_walkT rfl) (fun _ => rfl)) (by omega)))) ?_
  have qa := ev_lcm (c := callL prog 100000 39) (i := 5) (src := .var 4) (elt := .call (Str.ofString "ways_of_instruction") [(.var 5)]) c encI (fun i => .tup (zs (sortI (dedI (ways i)))))
    [.val (.lst (zs ns)), .own (.lst (zs l3)), .val (nt t), .val (nt m), .val (encC c), .un, .un, .un, .un, .un, .un, .un, .un] (ev_walkT rfl) (ln_of (by omega)) fun i hi => lcT1 (ev_call1 (ev_var rfl) (woi_ok 37 i (Z.sz i hi)))
  have qb := ev_lcm (c := callL prog 100000 39) (i := 5) (src := .var 4) (elt := .blt .tuple [(.sset (.call (Str.ofString "_law_ways_in") [(.var 5)]))]) c encI (fun i => .tup (zs (sortI (dedI (ways i)))))
    [.val (.lst (zs ns)), .own (.lst (zs l3)), .val (nt t), .val (nt m), .val (encC c), .un, .un, .un, .un, .un, .un, .un, .un] (ev_walkT rfl) (ln_of (by omega)) fun i hi => lcT1 (ev_tuple (ev_ssetO (ev_call1 (ev_var rfl) (lwi_ok 38 i (Z.sz i hi))) (ways_len (Z.sz i hi))))
  refine go_pass (chk (W := 100000) (k := 36) (m := 2) (.tup _ _ (by rw [List.length_map]; omega) fun x hx => by
    obtain ⟨i, hi, rfl⟩ := List.mem_map.mp hx
    exact dp_zs 0 _ (by have := hss (ways i); have := ways_len (Z.sz i hi); omega)) (ev_tuple qa) (ev_tuple qb)) ?_
  refine go_for ((List.range 3).map nt) _ (fun i env => ∃ l x6 x7 x8 x9, env = [.val (.lst (zs ns)), .own (.lst (zs l)), .val (nt t), .val (nt m), .val (encC c), .un, x6, x7, x8, x9, .un, .un, .un]) (ev_range (n := 3) (by decide) ev_ci) ⟨l3, .un, .un, .un, .un, rfl⟩ (fun i x env hx ⟨l, x6, x7, x8, x9, he⟩ => ?_) fun env ⟨l, x6, x7, x8, x9, he⟩ => ?_
  · subst he
    refine ⟨_, rfl, ?_⟩
    show Goes _ _ _ [.val (.lst (zs ns)), .own (.lst (zs l)), .val (nt t), .val (nt m), .val (encC c), .un, .val x, x7, x8, x9, .un, .un, .un] _
    obtain ⟨ys, l4, g4, b4, e5⟩ := ev_lcTm (c := callL prog 100000 39) (i := 9) (src := .rng [(.var 2)]) (elt := .call (Str.ofString "_law_take") [(.var 1), (.int 20)]) (env := [.val (.lst (zs ns)), .own (.lst (zs l)), .val (nt t), .val (nt m), .val (encC c), .un, .val x, x7, x8, x9, .un, .un, .un])
      nt (fun p : Nat × Nat => nt p.2) (·.1) (fun p => p.2 < 20) (List.range t) (fun l w => [.val (.lst (zs ns)), .own (.lst (zs l)), .val (nt t), .val (nt m), .val (encC c), .un, .val x, x7, x8, w, .un, .un, .un]) l x9 (ev_range (by omega) (ev_var rfl)) (by simp; omega) (fun a _ l w => by
        obtain ⟨v, l', hv, e⟩ := ev_take (W := 100000) (k := 38) (env := [.val (.lst (zs ns)), .own (.lst (zs l)), .val (nt t), .val (nt m), .val (encC c), .un, .val x, x7, x8, .val (nt a), .un, .un, .un]) (i := 1) (m := 20) (a := .int 20) (by decide) rfl ev_ci
        exact ⟨(a, v), l', .val (nt a), lcT2 e, rfl, hv⟩) (fun _ _ => rfl)
    rw [show (ys.map fun p : Nat × Nat => nt p.2) = bits (ys.map (·.2)) by rw [bits, List.map_map]; rfl] at e5
    have hrl : (ys.map (·.2)).length = t := by
      have := congrArg List.length g4
      rw [List.length_map, List.length_range] at this
      rw [List.length_map]; exact this
    obtain ⟨w, hw1, hw2, hw3, hw4⟩ := word_ok ht12 hrl fun x hx => by
      obtain ⟨p, hp, rfl⟩ := List.mem_map.mp hx
      exact b4 p hp
    rw [← hm] at hw1
    generalize ys.map (·.2) = r at *
    refine go_setD (ev_tuple e5) ?_
    show Goes _ _ _ [.val (.lst (zs ns)), .own (.lst (zs l4)), .val (nt t), .val (nt m), .val (encC c), .un, .val x, .val (.tup (bits r)), x8, x9, .un, .un, .un] _
    have R : Rn m c w := ⟨hs, Z, hw1⟩
    refine go_pass (call_n (ev_call2 (ev_var rfl) (ev_call1 (ev_var rfl) hw4) (ir_ok 33 m c w R hw2))) ?_
    obtain ⟨d, hd, ed⟩ := lcs_ok (W := 100000) 38 m 40 c w R (by decide)
    rcases hd with ⟨K, v, h1, h2, rfl⟩ | ⟨h1, rfl⟩
    · refine go_setD (ev_idx (ev_call3 (ev_var rfl) (ev_call1 (ev_var rfl) hw4) (d2 := nt 40) ev_ci ed) ev_ci (r := .tup [nt (K + 1), vD v]) rfl) ?_
      show Goes _ _ _ [.val (.lst (zs ns)), .own (.lst (zs l4)), .val (nt t), .val (nt m), .val (encC c), .un, .val x, .val (.tup (bits r)), .val (.tup [nt (K + 1), vD v]), x9, .un, .un, .un] _
      refine go_pass (and_f2 (ev_cmpT (ev_var rfl) ev_non rfl) (chk (W := 100000) (k := 38) (m := 0) (dp_v _ v) (ev_call3 (ev_var rfl) (ev_var rfl) (ev_var rfl) (cn_ok 36 m K t v c w _ R h2 (by omega) hW hw3)) (ev_idx (ev_var rfl) ev_ci rfl))) ?_
      exact go_nil ⟨l4, _, _, _, _, rfl⟩
    · refine go_setD (ev_idx (ev_call3 (ev_var rfl) (ev_call1 (ev_var rfl) hw4) (d2 := nt 40) ev_ci ed) ev_ci (r := .non) rfl) ?_
      show Goes _ _ _ [.val (.lst (zs ns)), .own (.lst (zs l4)), .val (nt t), .val (nt m), .val (encC c), .un, .val x, .val (.tup (bits r)), .val .non, x9, .un, .un, .un] _
      refine go_pass (and_f1 (ev_cmpT (ev_var rfl) ev_non rfl)) ?_
      exact go_nil ⟨l4, _, _, _, _, rfl⟩
  · subst he
    refine go_for ((List.range 5).map nt) _ (fun i env => ∃ l x6 x10, env = [.val (.lst (zs ns)), .own (.lst (zs l)), .val (nt t), .val (nt m), .val (encC c), .un, x6, x7, x8, x9, x10, .un, .un]) (ev_range (n := 5) (by decide) ev_ci) ⟨l, x6, .un, rfl⟩ (fun i x env hx ⟨l, x6, x10, he⟩ => ?_) fun env ⟨l, x6, x10, he⟩ => ?_
    · subst he
      refine ⟨_, rfl, ?_⟩
      show Goes _ _ _ [.val (.lst (zs ns)), .own (.lst (zs l)), .val (nt t), .val (nt m), .val (encC c), .un, .val x, x7, x8, x9, x10, .un, .un] _
      obtain ⟨c', l', Z', e5⟩ := ala_ok (W := 100000) 37 c l Z h0
      refine go_setD (ev_callS2 (d := .lst (zs l)) rfl (ev_var rfl) rfl e5) ?_
      show Goes _ _ _ [.val (.lst (zs ns)), .own (.lst (zs l')), .val (nt t), .val (nt m), .val (encC c), .un, .val x, x7, x8, x9, .val (encC c'), .un, .un] _
      have sl := ev_call2 (c := callL prog 100000 39) (env := [.val (.lst (zs ns)), .own (.lst (zs l')), .val (nt t), .val (nt m), .val (encC c), .un, .val x, x7, x8, x9, .val (encC c'), .un, .un]) (e := .var 10) (e' := .var 3) (ev_var rfl) (ev_var rfl) (lis_ok (W := 100000) 37 m c' Z')
      cases hs' : sound m c' with
      | true =>
        rw [hs'] at sl
        refine go_pass (or_two (and_f2 (call_t sl) (ev_cmpT (ev_call2 (ev_var rfl) (ev_var rfl) (ck_yes (W := 100000) (k := 36) Z' hs')) ev_non isnot_non)) (and_f1 (call_n sl))) ?_
        exact go_nil ⟨l', _, _, rfl⟩
      | false =>
        rw [hs'] at sl
        have rf := ev_call2 (c := callL prog 100000 39) (env := [.val (.lst (zs ns)), .own (.lst (zs l')), .val (nt t), .val (nt m), .val (encC c), .un, .val x, x7, x8, x9, .val (encC c'), .un, .un]) (e := .var 10) (e' := .var 3) (ev_var rfl) (ev_var rfl) (rf_ok (W := 100000) (k := 35) (m := m) Z')
        rw [hs'] at rf
        refine go_pass (or_two (and_f1 (call_f sl)) (and_f2 (ev_not (call_f sl)) (call_n rf))) ?_
        exact go_nil ⟨l', _, _, rfl⟩
    · subst he
      have q := ev_lcG (c := callL prog 100000 39) (own := [5]) (tg := .nm 5) (src := .var 4) (elt := .var 5) (cond := [(.cmp .eq (.idx (.var 5) (.int 0)) (.str (Str.ofString "read")))]) (env := [.val (.lst (zs ns)), .own (.lst (zs l)), .val (nt t), .val (nt m), .val (encC c), .un, x6, x7, x8, x9, x10, .un, .un]) (env0 := [.val (.lst (zs ns)), .own (.lst (zs l)), .val (nt t), .val (nt m), .val (encC c), .un, x6, x7, x8, x9, x10, .un, .un]) c encI (fun i => if isR i = true then some (encI i) else none) (ev_walkT rfl) (ln_of (by omega)) fun i hi => ⟨[.val (.lst (zs ns)), .own (.lst (zs l)), .val (nt t), .val (nt m), .val (encC c), .val (encI i), x6, x7, x8, x9, x10, .un, .un], by
        have tR := ev_cmpT (c := callL prog 100000 39) (env := [.val (.lst (zs ns)), .own (.lst (zs l)), .val (nt t), .val (nt m), .val (encC c), .val (encI i), x6, x7, x8, x9, x10, .un, .un]) (a := .idx (.var 5) (.int 0)) (ev_idx (ev_var rfl) ev_ci (k0 i)) ev_str (kR i)
        cases hb : isR i with
        | true => rw [hb] at tR; rw [if_pos rfl]; exact lcT_t tR (ev_var rfl)
        | false => rw [hb] at tR; rw [if_neg (by simp)]; exact lcT_f tR, rfl⟩
      refine go_setD (ev_lenO q) ?_
      have hnr := fm_isR c
      generalize (c.filterMap fun i => if isR i = true then some (encI i) else none).length = nr at *
      show Goes _ _ _ [.val (.lst (zs ns)), .own (.lst (zs l)), .val (nt t), .val (nt m), .val (encC c), .un, x6, x7, x8, x9, x10, .val (nt nr), .un] _
      have rf := rf_ok (W := 100000) (k := 35) (m := m + 1) Z
      rw [reads hs, Bool.not_not] at rf
      have rf0 := rf_ok (W := 100000) (k := 35) (m := 2) (c := []) ⟨by decide, fun i hi => (nomatch hi)⟩
      refine go_pass (or_two (chk (W := 100000) (k := 38) (m := 0) (.bl _ _) (ev_call2 (ev_var rfl) (ev_bin (ev_var rfl) ev_one (add_nt _ _)) rf) (ev_cmp (ev_var rfl) ev_ci (by rw [gt_0, hnr]))) (call_n (ev_call2 (d := .tup []) (d' := nt 2) ev_t0 ev_ci rf0))) ?_
      exact go_exs (tail_ok _ _ _ _ _ _ _ _ _ _ _ _ _) rfl
end K62
namespace K62
open PySem PySem.Spec PyProof.Rows L2 PF
-- the defs stand in the row
def top (i : Nat) : Stmt := PySem.Challenge.pw_everynumber_k62_codes_told.main.body.getD i (.Pass ⟨0, 0, 0, 0⟩)
def g_digits_of : Sg := ⟨d_digits_of, [Str.ofString "n", Str.ofString "found"], [Str.ofString "n"], top 1⟩
def g_number_of : Sg := ⟨d_number_of, [Str.ofString "digits", Str.ofString "found", Str.ofString "digit"], [Str.ofString "digits"], top 2⟩
def g_digit_there : Sg := ⟨d_digit_there, [Str.ofString "digits", Str.ofString "place"], [Str.ofString "digits", Str.ofString "place"], top 3⟩
def g_letter_of : Sg := ⟨d_letter_of, [Str.ofString "digits", Str.ofString "track"], [Str.ofString "digits"], top 5⟩
def g_word_of : Sg := ⟨d_word_of, [Str.ofString "row", Str.ofString "digits", Str.ofString "n", Str.ofString "length", Str.ofString "own", Str.ofString "place"], [Str.ofString "row"], top 7⟩
def g_code_begun : Sg := ⟨d_code_begun, [Str.ofString "letters"], [Str.ofString "letters"], top 9⟩
def g_way_for : Sg := ⟨d_way_for, [Str.ofString "ways", Str.ofString "n", Str.ofString "own", Str.ofString "way"], [Str.ofString "ways", Str.ofString "n"], top 10⟩
def g_code_step : Sg := ⟨d_code_step, [Str.ofString "code", Str.ofString "state", Str.ofString "at", Str.ofString "letters", Str.ofString "pile", Str.ofString "digits", Str.ofString "kind"], [Str.ofString "code", Str.ofString "state"], top 11⟩
def g_run_letter_code : Sg := ⟨d_run_letter_code, [Str.ofString "code", Str.ofString "letters", Str.ofString "most", Str.ofString "state", Str.ofString "k"], [Str.ofString "code", Str.ofString "letters", Str.ofString "most"], top 12⟩
def g_code_number : Sg := ⟨d_code_number, [Str.ofString "code", Str.ofString "tracks", Str.ofString "row", Str.ofString "state"], [Str.ofString "code", Str.ofString "tracks", Str.ofString "row"], top 13⟩
def g_ways_in_place : Sg := ⟨d_ways_in_place, [Str.ofString "instruction", Str.ofString "kind", Str.ofString "n", Str.ofString "way"], [Str.ofString "instruction"], top 20⟩
def g_ways_of_instruction : Sg := ⟨d_ways_of_instruction, [Str.ofString "instruction"], [Str.ofString "instruction"], top 21⟩
def g_numbers_put : Sg := ⟨d_numbers_put, [Str.ofString "code", Str.ofString "instruction"], [Str.ofString "code"], top 22⟩
def g_does_tell : Sg := ⟨d_does_tell, [Str.ofString "ways", Str.ofString "numbers", Str.ofString "told", Str.ofString "n", Str.ofString "way", Str.ofString "k"], [Str.ofString "ways", Str.ofString "numbers"], top 23⟩
def g_is_instruction_sound : Sg := ⟨d_is_instruction_sound, [Str.ofString "instruction", Str.ofString "letters", Str.ofString "numbers", Str.ofString "kind"], [Str.ofString "instruction", Str.ofString "letters", Str.ofString "numbers"], top 24⟩
def g_are_ways_there : Sg := ⟨d_are_ways_there, [Str.ofString "code", Str.ofString "instruction", Str.ofString "way"], [Str.ofString "code"], top 25⟩
def g_check_letter_code : Sg := ⟨d_check_letter_code, [Str.ofString "code", Str.ofString "letters", Str.ofString "numbers", Str.ofString "instruction"], [Str.ofString "code", Str.ofString "letters"], top 26⟩
def g__law_draws : Sg := ⟨d__law_draws, [Str.ofString "script", Str.ofString "many", Str.ofString "cells", Str.ofString "cell", Str.ofString "rest", Str.ofString "draws", Str.ofString "k", Str.ofString "at", Str.ofString "once"], [Str.ofString "script", Str.ofString "many"], top 28⟩
def g__law_take : Sg := ⟨d__law_take, [Str.ofString "draws", Str.ofString "many"], [Str.ofString "draws", Str.ofString "many"], top 29⟩
def g__law_same : Sg := ⟨d__law_same, [Str.ofString "actual", Str.ofString "due", Str.ofString "k"], [Str.ofString "actual", Str.ofString "due"], top 30⟩
def g__law_long : Sg := ⟨d__law_long, [Str.ofString "n", Str.ofString "k"], [Str.ofString "n"], top 31⟩
def g__law_letter : Sg := ⟨d__law_letter, [Str.ofString "row", Str.ofString "place", Str.ofString "j"], [Str.ofString "row", Str.ofString "place"], top 32⟩
def g__law_word : Sg := ⟨d__law_word, [Str.ofString "row", Str.ofString "most", Str.ofString "n", Str.ofString "place"], [Str.ofString "row"], top 33⟩
def g__law_drawn_code : Sg := ⟨d__law_drawn_code, [Str.ofString "draws", Str.ofString "letters", Str.ofString "size", Str.ofString "puts", Str.ofString "k", Str.ofString "every", Str.ofString "found", Str.ofString "kind", Str.ofString "way", Str.ofString "letter", Str.ofString "n"], [Str.ofString "draws", Str.ofString "letters", Str.ofString "size"], top 34⟩
def g__law_ways_in : Sg := ⟨d__law_ways_in, [Str.ofString "own", Str.ofString "pair"], [Str.ofString "own"], top 35⟩
def g__law_code_states : Sg := ⟨d__law_code_states, [Str.ofString "code", Str.ofString "letters", Str.ofString "most", Str.ofString "at", Str.ofString "rest", Str.ofString "pile", Str.ofString "digits", Str.ofString "states", Str.ofString "k", Str.ofString "own", Str.ofString "pair", Str.ofString "j"], [Str.ofString "code", Str.ofString "letters", Str.ofString "most"], top 36⟩
def g__law_is_refused : Sg := ⟨d__law_is_refused, [Str.ofString "code", Str.ofString "letters", Str.ofString "e"], [Str.ofString "code", Str.ofString "letters"], top 37⟩
def g__law_is_sound : Sg := ⟨d__law_is_sound, [Str.ofString "code", Str.ofString "letters", Str.ofString "puts", Str.ofString "own", Str.ofString "told", Str.ofString "pair", Str.ofString "way", Str.ofString "n"], [Str.ofString "code", Str.ofString "letters"], top 38⟩
def g__law_altered : Sg := ⟨d__law_altered, [Str.ofString "draws", Str.ofString "code", Str.ofString "at", Str.ofString "size", Str.ofString "own", Str.ofString "bent"], [Str.ofString "draws", Str.ofString "code"], top 39⟩
def g__law_is_run : Sg := ⟨d__law_is_run, [Str.ofString "code", Str.ofString "letters", Str.ofString "states", Str.ofString "due", Str.ofString "state", Str.ofString "own"], [Str.ofString "code", Str.ofString "letters"], top 40⟩
def g_law : Sg := ⟨d_law, [Str.ofString "script", Str.ofString "draws", Str.ofString "tracks", Str.ofString "letters", Str.ofString "code", Str.ofString "own", Str.ofString "turn", Str.ofString "row", Str.ofString "due", Str.ofString "k", Str.ofString "bent", Str.ofString "reads", Str.ofString "turned"], [Str.ofString "script"], top 41⟩
def sgl : List Sg := [g_digits_of, g_number_of, g_digit_there, g_letter_of, g_word_of, g_code_begun, g_way_for, g_code_step, g_run_letter_code, g_code_number, g_ways_in_place, g_ways_of_instruction, g_numbers_put, g_does_tell, g_is_instruction_sound, g_are_ways_there, g_check_letter_code, g__law_draws, g__law_take, g__law_same, g__law_long, g__law_letter, g__law_word, g__law_drawn_code, g__law_ways_in, g__law_code_states, g__law_is_refused, g__law_is_sound, g__law_altered, g__law_is_run, g_law]
def bns : List Str := [Str.ofString "ValueError", Str.ofString "all", Str.ofString "bool", Str.ofString "int", Str.ofString "isinstance", Str.ofString "len", Str.ofString "list", Str.ofString "max", Str.ofString "range", Str.ofString "set", Str.ofString "sorted", Str.ofString "str", Str.ofString "sum", Str.ofString "tuple"]
def xns : List Str := [(Str.ofString "InvalidCell"), (Str.ofString "InvalidCode"), (Str.ofString "InvalidGates"), (Str.ofString "NumberError")]
def xss : List XF := [.exc (Str.ofString "InvalidCode"), .exm (Str.ofString "InvalidCode") (Str.ofString "NumberError") true, .isb (Str.ofString "InvalidCode") true, .isn (Str.ofString "InvalidCode") (Str.ofString "InvalidCell") false, .isn (Str.ofString "InvalidCode") (Str.ofString "InvalidCode") true, .isn (Str.ofString "InvalidCode") (Str.ofString "InvalidGates") false]
theorem ok_digits_of : GOk bns xns xss sgl g_digits_of := ⟨⟨rfl, rfl, rfl, by decide +kernel, rfl, by decide +kernel, by decide +kernel⟩, by decide +kernel, by rfl, fun _ _ _ _ _ _ us hl => match us, hl with | [_], _ => rfl⟩
theorem ok_number_of : GOk bns xns xss sgl g_number_of := ⟨⟨rfl, rfl, rfl, by decide +kernel, rfl, by decide +kernel, by decide +kernel⟩, by decide +kernel, by rfl, fun _ _ _ _ _ _ us hl => match us, hl with | [_], _ => rfl⟩
theorem ok_digit_there : GOk bns xns xss sgl g_digit_there := ⟨⟨rfl, rfl, rfl, by decide +kernel, rfl, by decide +kernel, by decide +kernel⟩, by decide +kernel, by rfl, fun _ _ _ _ _ _ us hl => match us, hl with | [_, _], _ => rfl⟩
theorem ok_letter_of : GOk bns xns xss sgl g_letter_of := ⟨⟨rfl, rfl, rfl, by decide +kernel, rfl, by decide +kernel, by decide +kernel⟩, by decide +kernel, by rfl, fun _ _ _ _ _ _ us hl => match us, hl with | [_], _ => rfl⟩
theorem ok_word_of : GOk bns xns xss sgl g_word_of := ⟨⟨rfl, rfl, rfl, by decide +kernel, rfl, by decide +kernel, by decide +kernel⟩, by decide +kernel, by rfl, fun _ _ _ _ _ _ us hl => match us, hl with | [_], _ => rfl⟩
theorem ok_code_begun : GOk bns xns xss sgl g_code_begun := ⟨⟨rfl, rfl, rfl, by decide +kernel, rfl, by decide +kernel, by decide +kernel⟩, by decide +kernel, by rfl, fun _ _ _ _ _ _ us hl => match us, hl with | [_], _ => rfl⟩
theorem ok_way_for : GOk bns xns xss sgl g_way_for := ⟨⟨rfl, rfl, rfl, by decide +kernel, rfl, by decide +kernel, by decide +kernel⟩, by decide +kernel, by rfl, fun _ _ _ _ _ _ us hl => match us, hl with | [_, _], _ => rfl⟩
theorem ok_code_step : GOk bns xns xss sgl g_code_step := ⟨⟨rfl, rfl, rfl, by decide +kernel, rfl, by decide +kernel, by decide +kernel⟩, by decide +kernel, by rfl, fun _ _ _ _ _ _ us hl => match us, hl with | [_, _], _ => rfl⟩
theorem ok_run_letter_code : GOk bns xns xss sgl g_run_letter_code := ⟨⟨rfl, rfl, rfl, by decide +kernel, rfl, by decide +kernel, by decide +kernel⟩, by decide +kernel, by rfl, fun _ _ _ _ _ _ us hl => match us, hl with | [_, _, _], _ => rfl⟩
theorem ok_code_number : GOk bns xns xss sgl g_code_number := ⟨⟨rfl, rfl, rfl, by decide +kernel, rfl, by decide +kernel, by decide +kernel⟩, by decide +kernel, by rfl, fun _ _ _ _ _ _ us hl => match us, hl with | [_, _, _], _ => rfl⟩
theorem ok_ways_in_place : GOk bns xns xss sgl g_ways_in_place := ⟨⟨rfl, rfl, rfl, by decide +kernel, rfl, by decide +kernel, by decide +kernel⟩, by decide +kernel, by rfl, fun _ _ _ _ _ _ us hl => match us, hl with | [_], _ => rfl⟩
theorem ok_ways_of_instruction : GOk bns xns xss sgl g_ways_of_instruction := ⟨⟨rfl, rfl, rfl, by decide +kernel, rfl, by decide +kernel, by decide +kernel⟩, by decide +kernel, by rfl, fun _ _ _ _ _ _ us hl => match us, hl with | [_], _ => rfl⟩
theorem ok_numbers_put : GOk bns xns xss sgl g_numbers_put := ⟨⟨rfl, rfl, rfl, by decide +kernel, rfl, by decide +kernel, by decide +kernel⟩, by decide +kernel, by rfl, fun _ _ _ _ _ _ us hl => match us, hl with | [_], _ => rfl⟩
theorem ok_does_tell : GOk bns xns xss sgl g_does_tell := ⟨⟨rfl, rfl, rfl, by decide +kernel, rfl, by decide +kernel, by decide +kernel⟩, by decide +kernel, by rfl, fun _ _ _ _ _ _ us hl => match us, hl with | [_, _], _ => rfl⟩
theorem ok_is_instruction_sound : GOk bns xns xss sgl g_is_instruction_sound := ⟨⟨rfl, rfl, rfl, by decide +kernel, rfl, by decide +kernel, by decide +kernel⟩, by decide +kernel, by rfl, fun _ _ _ _ _ _ us hl => match us, hl with | [_, _, _], _ => rfl⟩
theorem ok_are_ways_there : GOk bns xns xss sgl g_are_ways_there := ⟨⟨rfl, rfl, rfl, by decide +kernel, rfl, by decide +kernel, by decide +kernel⟩, by decide +kernel, by rfl, fun _ _ _ _ _ _ us hl => match us, hl with | [_], _ => rfl⟩
theorem ok_check_letter_code : GOk bns xns xss sgl g_check_letter_code := ⟨⟨rfl, rfl, rfl, by decide +kernel, rfl, by decide +kernel, by decide +kernel⟩, by decide +kernel, by rfl, fun _ _ _ _ _ _ us hl => match us, hl with | [_, _], _ => rfl⟩
theorem ok__law_draws : GOk bns xns xss sgl g__law_draws := ⟨⟨rfl, rfl, rfl, by decide +kernel, rfl, by decide +kernel, by decide +kernel⟩, by decide +kernel, by rfl, fun _ _ _ _ _ _ us hl => match us, hl with | [_, _], _ => rfl⟩
theorem ok__law_take : GOk bns xns xss sgl g__law_take := ⟨⟨rfl, rfl, rfl, by decide +kernel, rfl, by decide +kernel, by decide +kernel⟩, by decide +kernel, by rfl, fun _ _ _ _ _ _ us hl => match us, hl with | [_, _], _ => rfl⟩
theorem ok__law_same : GOk bns xns xss sgl g__law_same := ⟨⟨rfl, rfl, rfl, by decide +kernel, rfl, by decide +kernel, by decide +kernel⟩, by decide +kernel, by rfl, fun _ _ _ _ _ _ us hl => match us, hl with | [_, _], _ => rfl⟩
theorem ok__law_long : GOk bns xns xss sgl g__law_long := ⟨⟨rfl, rfl, rfl, by decide +kernel, rfl, by decide +kernel, by decide +kernel⟩, by decide +kernel, by rfl, fun _ _ _ _ _ _ us hl => match us, hl with | [_], _ => rfl⟩
theorem ok__law_letter : GOk bns xns xss sgl g__law_letter := ⟨⟨rfl, rfl, rfl, by decide +kernel, rfl, by decide +kernel, by decide +kernel⟩, by decide +kernel, by rfl, fun _ _ _ _ _ _ us hl => match us, hl with | [_, _], _ => rfl⟩
theorem ok__law_word : GOk bns xns xss sgl g__law_word := ⟨⟨rfl, rfl, rfl, by decide +kernel, rfl, by decide +kernel, by decide +kernel⟩, by decide +kernel, by rfl, fun _ _ _ _ _ _ us hl => match us, hl with | [_], _ => rfl⟩
theorem ok__law_drawn_code : GOk bns xns xss sgl g__law_drawn_code := ⟨⟨rfl, rfl, rfl, by decide +kernel, rfl, by decide +kernel, by decide +kernel⟩, by decide +kernel, by rfl, fun _ _ _ _ _ _ us hl => match us, hl with | [_, _, _], _ => rfl⟩
theorem ok__law_ways_in : GOk bns xns xss sgl g__law_ways_in := ⟨⟨rfl, rfl, rfl, by decide +kernel, rfl, by decide +kernel, by decide +kernel⟩, by decide +kernel, by rfl, fun _ _ _ _ _ _ us hl => match us, hl with | [_], _ => rfl⟩
theorem ok__law_code_states : GOk bns xns xss sgl g__law_code_states := ⟨⟨rfl, rfl, rfl, by decide +kernel, rfl, by decide +kernel, by decide +kernel⟩, by decide +kernel, by rfl, fun _ _ _ _ _ _ us hl => match us, hl with | [_, _, _], _ => rfl⟩
theorem ok__law_is_refused : GOk bns xns xss sgl g__law_is_refused := ⟨⟨rfl, rfl, rfl, by decide +kernel, rfl, by decide +kernel, by decide +kernel⟩, by decide +kernel, by rfl, fun _ _ _ _ _ _ us hl => match us, hl with | [_, _], _ => rfl⟩
theorem ok__law_is_sound : GOk bns xns xss sgl g__law_is_sound := ⟨⟨rfl, rfl, rfl, by decide +kernel, rfl, by decide +kernel, by decide +kernel⟩, by decide +kernel, by rfl, fun _ _ _ _ _ _ us hl => match us, hl with | [_, _], _ => rfl⟩
theorem ok__law_altered : GOk bns xns xss sgl g__law_altered := ⟨⟨rfl, rfl, rfl, by decide +kernel, rfl, by decide +kernel, by decide +kernel⟩, by decide +kernel, by rfl, fun _ _ _ _ _ _ us hl => match us, hl with | [_, _], _ => rfl⟩
theorem ok__law_is_run : GOk bns xns xss sgl g__law_is_run := ⟨⟨rfl, rfl, rfl, by decide +kernel, rfl, by decide +kernel, by decide +kernel⟩, by decide +kernel, by rfl, fun _ _ _ _ _ _ us hl => match us, hl with | [_, _], _ => rfl⟩
theorem ok_law : GOk bns xns xss sgl g_law := ⟨⟨rfl, rfl, rfl, by decide +kernel, rfl, by decide +kernel, by decide +kernel⟩, by decide +kernel, by rfl, fun _ _ _ _ _ _ us hl => match us, hl with | [_], _ => rfl⟩
theorem oks : ∀ g ∈ sgl, GOk bns xns xss sgl g := by
  intro g hg
  simp only [sgl, List.mem_cons, List.not_mem_nil, or_false] at hg
  rcases hg with rfl | rfl | rfl | rfl | rfl | rfl | rfl | rfl | rfl | rfl | rfl | rfl | rfl | rfl | rfl | rfl | rfl | rfl | rfl | rfl | rfl | rfl | rfl | rfl | rfl | rfl | rfl | rfl | rfl | rfl | rfl
  · exact ok_digits_of
  · exact ok_number_of
  · exact ok_digit_there
  · exact ok_letter_of
  · exact ok_word_of
  · exact ok_code_begun
  · exact ok_way_for
  · exact ok_code_step
  · exact ok_run_letter_code
  · exact ok_code_number
  · exact ok_ways_in_place
  · exact ok_ways_of_instruction
  · exact ok_numbers_put
  · exact ok_does_tell
  · exact ok_is_instruction_sound
  · exact ok_are_ways_there
  · exact ok_check_letter_code
  · exact ok__law_draws
  · exact ok__law_take
  · exact ok__law_same
  · exact ok__law_long
  · exact ok__law_letter
  · exact ok__law_word
  · exact ok__law_drawn_code
  · exact ok__law_ways_in
  · exact ok__law_code_states
  · exact ok__law_is_refused
  · exact ok__law_is_sound
  · exact ok__law_altered
  · exact ok__law_is_run
  · exact ok_law
end K62
namespace K62
open PySem PySem.Spec PyProof.Rows L2 PF
abbrev R : PySem.W.OpenRow := PySem.W.OpenLaw.row PySem.Challenge.rw_everynumber_k62_codes_told
abbrev fas : List He.Fa := faL bns sgl
abbrev fns : List He.DefD := fnL sgl
abbrev hk : PySem.W.Hook := hookN 4 xns xss fas fns
def loose : List PySem.Str := [(PySem.Str.ofString "digits_of"), (PySem.Str.ofString "number_of"), (PySem.Str.ofString "digit_there"), (PySem.Str.ofString "letter_of"), (PySem.Str.ofString "word_of"), (PySem.Str.ofString "code_begun"), (PySem.Str.ofString "way_for"), (PySem.Str.ofString "code_step"), (PySem.Str.ofString "run_letter_code"), (PySem.Str.ofString "code_number"), (PySem.Str.ofString "NumberError"), (PySem.Str.ofString "InvalidGates"), (PySem.Str.ofString "InvalidCell"), (PySem.Str.ofString "InvalidCode"), (PySem.Str.ofString "ways_in_place"), (PySem.Str.ofString "ways_of_instruction"), (PySem.Str.ofString "numbers_put"), (PySem.Str.ofString "does_tell"), (PySem.Str.ofString "is_instruction_sound"), (PySem.Str.ofString "are_ways_there"), (PySem.Str.ofString "check_letter_code"), (PySem.Str.ofString "_law_draws"), (PySem.Str.ofString "_law_take"), (PySem.Str.ofString "_law_same"), (PySem.Str.ofString "_law_long"), (PySem.Str.ofString "_law_letter"), (PySem.Str.ofString "_law_word"), (PySem.Str.ofString "_law_drawn_code"), (PySem.Str.ofString "_law_ways_in"), (PySem.Str.ofString "_law_code_states"), (PySem.Str.ofString "_law_is_refused"), (PySem.Str.ofString "_law_is_sound"), (PySem.Str.ofString "_law_altered"), (PySem.Str.ofString "_law_is_run")]
theorem run (w : World) : HandSHeadRun.RunEq R (PySem.W.view R.prog [41]) hk (obN 4 xns xss fas fns) 2000 loose w := by
  intro os
  kernel_rfl
theorem holds_of (main : ∀ ns : List Int, ns.length ≤ 63 → ∃ fs, callL prog W 40 "law" [.val (.lst (ns.map .int))] = some (.dat (.bl true), fs)) : PySem.Challenge.rw_everynumber_k62_codes_told.Holds := by
  w_on; o_law
  refine HandSHeadRun.head_any (r := PySem.W.OpenLaw.row PySem.Challenge.rw_everynumber_k62_codes_told) (q := PySem.W.view (PySem.W.OpenLaw.row PySem.Challenge.rw_everynumber_k62_codes_told).prog [41]) (H := hk) (ob := obN 4 xns xss fas fns) (M := 2000) (loose := loose) (d := HandSHeadRun.topDef (PySem.W.OpenLaw.row PySem.Challenge.rw_everynumber_k62_codes_told).prog 41) (kwd := []) (obN_eq 4 xns xss fas fns)
    (by kernel_rfl) (fun s => by kernel_rfl) run (by kernel_rfl) (by kernel_rfl) (by kernel_rfl) (by rfl) (by first | assumption | decide +kernel) (by decide +kernel) ⟨rfl, rfl, rfl, rfl, rfl, by decide +kernel⟩ ?hw ?hc
  case hw => w_witness2
  case hc => exact pf_walk (rl := PySem.Challenge.rw_everynumber_k62_codes_told) (n := 63) (k := 40) (W := W) (bn := bns) (l := sgl) (law := g_law) (x := "script") rfl (by decide) (by kernel_rfl) ⟨rfl, by decide, by decide⟩ oks (by simp [sgl]) rfl (by kernel_rfl) main
end K62
theorem PySem.Challenge.cw_everynumber_k62_codes_told_holds : PySem.Challenge.rw_everynumber_k62_codes_told.Holds := by
  exact K62.holds_of (W := 100000) fun ns hl => K62.main ns hl
