import PyProof.Rows.All
import Wide.All
import OpenK.AllK
import Wide.FinOn
import PySem.Challenge.RW_truetouch_k07_bad_calling_texts
import HandS.ForMost
import HandS.SortInts
import KE.OsSort
import HandS.WordsExc
import HandS.TupAny
import HandS.TupLe
import HandS.Deep
import HandS.Style
import HandS.Conv
import HandS.Wide
import HandS.Strs
import HandS.IsInst
import HandS.Flow
import HandS.Rev
import HandS.Zip
import HandS.Iter
import HandS.TryOnly
import HandS.ExcIs
import HandS.ExcField
import KE.KExcIs
import HandS.EndBits
import KE.KExcSuper
import KE.KExcPX
import HandS.ExcInit
set_option Elab.async false
set_option linter.all false
set_option maxRecDepth 100000
set_option maxHeartbeats 4000000
/-! # T0: values, store, syntax and the evaluator of the T layer -/
namespace T
open PySem
noncomputable section

/-- a value: tuples and frozen lists by value; ref n: the n-th object of the store -/
inductive D where
  | non | bl (b : Bool) | int (i : Int) | str (s : List Nat)
  | tup (ds : List D) | lst (ds : List D) | ref (n : Nat)
  /-- a list that is read in a loop alone (the script) -/
  | scr (ds : List D)
  deriving Inhabited

/-- an exception in flight: its class, its fields -/
structure Exn where
  cls : String
  fs : List (String × D)
  deriving Inhabited

/-- what stands in the store -/
inductive O where
  | lst (ds : List D)
  | dK (kvs : List (D × D))
  | ins (c : String) (fs : List (String × D))
  | dead
  deriving Inhabited

abbrev Store := List O
inductive R (α : Type) where
  | ok (a : α) (st : Store) | ex (x : Exn) (st : Store) | bad
  deriving Inhabited
@[simp] def R.bind {α β : Type} (r : R α) (f : α → Store → R β) : R β := match r with
  | .ok a st => f a st
  | .ex x st => .ex x st
  | .bad => .bad

theorem lim_ex : ∃ n : Nat, n = 16777216 := ⟨_, rfl⟩
/-- the greatest size: shut, for the kernel must never count it out -/
def lim : Nat := Classical.choose lim_ex
theorem lim_v : lim = 16777216 := Classical.choose_spec lim_ex
theorem c27_ex : ∃ n : Int, n = 2 ^ 27 := ⟨_, rfl⟩
def c27 : Int := Classical.choose c27_ex
theorem c27_v : c27 = 2 ^ 27 := Classical.choose_spec c27_ex
theorem c30_ex : ∃ n : Int, n = 1073741824 := ⟨_, rfl⟩
def c30 : Int := Classical.choose c30_ex
theorem c30_v : c30 = 1073741824 := Classical.choose_spec c30_ex
theorem c60_ex : ∃ n : Int, n = 2 ^ 60 := ⟨_, rfl⟩
def c60 : Int := Classical.choose c60_ex
theorem c60_v : c60 = 2 ^ 60 := Classical.choose_spec c60_ex
theorem c62_ex : ∃ n : Int, n = 2 ^ 62 := ⟨_, rfl⟩
def c62 : Int := Classical.choose c62_ex
theorem c62_v : c62 = 2 ^ 62 := Classical.choose_spec c62_ex
theorem c64_ex : ∃ n : Int, n = 2 ^ 64 := ⟨_, rfl⟩
def c64 : Int := Classical.choose c64_ex
theorem c64_v : c64 = 2 ^ 64 := Classical.choose_spec c64_ex

inductive Bop where | add | sub | mul | fdiv | mod | pow
  deriving DecidableEq
inductive Cop where | eq | ne | lt | le | gt | ge | isN | notN | isB | notB | inn | notin
  deriving DecidableEq
/-- built-ins by name -/
inductive Bt where
  | len | abs | int | str | sum | min2 | max2 | min1 | max1 | tuple | list | tupRg1 | tupRg2 | lstRg1 | lstRg2 | all | any | sorted | chr | ord
  deriving DecidableEq
/-- methods of built-in types -/
inductive Mt where
  | append | pop0 | pop1 | extend | index | join | get1 | get2 | insert | remove | count | upper | clear
  deriving DecidableEq

/-- targets -/
inductive Tg where
  | nm (i : Nat) | tup (ts : List Tg)
  deriving Inhabited

mutual
inductive E where
  | var (i : Nat) | int (i : Int) | str (s : String) | bl (b : Bool) | non
  | glob (x : String)
  | bin (op : Bop) (fz : Bool) (a b : E)
  | neg (a : E)
  | cmp (op : Cop) (a b : E)
  | chain (o1 o2 : Cop) (a b c : E)
  | and (es : Es) | or (es : Es) | not (a : E)
  | ife (t a b : E)
  | call (f : String) (es : Es)
  | bi (b : Bt) (fz : Bool) (es : Es)
  | meth (m : Mt) (fz : Bool) (o : E) (es : Es)
  | idx (a i : E)
  | slc (fz : Bool) (a : E) (lo hi : Eo)
  | tup (es : Es) | lst (fz : Bool) (es : Es)
  | lc (fz : Bool) (elt : E) (tg : Tg) (it : It) (cond : Eo) (own : List (String × Nat))
  | dict0
  | isi (a : E) (ts : List String)
  | isx (i : Nat) (cs : List String)
  | xattr (i : Nat) (f : String)
  | attr (a : E) (f : String)
inductive Es where
  | nil | cons (e : E) (es : Es)
inductive Eo where
  | no | yes (e : E)
/-- what a loop walks -/
inductive It where
  | val (e : E) | rg1 (a : E) | rg2 (a b : E) | rg3 (a b c : E) | enum (e : E) | zip (a b : E) | rev (e : E) | items (e : E)
end
instance : Inhabited E := ⟨.non⟩

mutual
inductive S where
  | set (i : Nat) (e : E)
  | unp (tg : Tg) (e : E)
  | sub (o i e : E)
  | attr (o : E) (f : String) (e : E)
  | aug (i : Nat) (op : Bop) (e : E)
  | augS (o i : E) (op : Bop) (e : E)
  | expr (e : E)
  | ret (e : E) | retN
  | ifs (t : E) (a b : Ss)
  | while (t : E) (b : Ss)
  | for (tg : Tg) (it : It) (b : Ss)
  | raise (c : String) (es : Es)
  | tryAs (b : Ss) (c : String) (i : Nat) (h : Ss)
  | pass | brk | cont
  /-- what is never come to -/
  | never
inductive Ss where
  | nil | cons (s : S) (ss : Ss)
end

abbrev Ev := List (Option D)

/-! ### values by the store -/
def asList (st : Store) : D → Option (List D)
  | .lst ds => some ds
  | .ref n => match st[n]? with | some (.lst ds) => some ds | _ => none
  | _ => none
def asSeq (st : Store) : D → Option (List D)
  | .tup ds => some ds
  | d => asList st d
def truthy (st : Store) : D → Option Bool
  | .non => some false
  | .bl b => some b
  | .int i => some (i != 0)
  | .str s => some (!s.isEmpty)
  | .tup ds => some (!ds.isEmpty)
  | .lst ds => some (!ds.isEmpty)
  | .ref n => match st[n]? with | some (.lst ds) => some (!ds.isEmpty) | some (.dK kvs) => some (!kvs.isEmpty) | _ => none
  | .scr _ => none

mutual
def py (rec : Nat → Option PyData) : D → Option PyData
  | .non => some .none
  | .bl b => some (.bool b)
  | .int i => some (.int i)
  | .str s => some (.str ⟨s.toArray⟩)
  | .tup ds => (pyL rec ds).map .tuple
  | .lst ds => (pyL rec ds).map .list
  | .ref n => rec n
  | .scr _ => none
def pyL (rec : Nat → Option PyData) : List D → Option (List PyData)
  | [] => some []
  | d :: ds => match py rec d, pyL rec ds with | some x, some xs => some (x :: xs) | _, _ => none
end
def pyRec (st : Store) : Nat → Nat → Option PyData
  | 0, _ => none
  | k + 1, n => match st[n]? with | some (.lst ds) => (pyL (pyRec st k) ds).map .list | _ => none
def toPy (st : Store) (d : D) : Option PyData := py (pyRec st 3) d

def eqD (st : Store) (x y : D) : Option Bool := match toPy st x, toPy st y with
  | some a, some b => if a.depth ≤ 64 ∧ b.depth ≤ 64 then some (PyData.eqv a b) else none
  | _, _ => none

/-- a new list: frozen, or in the store -/
def newL (fz : Bool) (ds : List D) (st : Store) : R D := if fz then .ok (.lst ds) st else .ok (.ref st.length) (st ++ [.lst ds])
def ofO {α : Type} (o : Option α) (st : Store) : R α := match o with | some a => .ok a st | none => .bad
def lim1 (n : Nat) (r : R D) : R D := if n ≤ lim then r else .bad

/-- a and b within reach of the rule for * -/
def mulOk (i j : Int) : Bool := decide (i.natAbs.log2 + j.natAbs.log2 < 1000000) || decide (-(c64) < i ∧ i < c64) || decide (-(c64) < j ∧ j < c64)

def repS (s : List Nat) (n : Int) : List Nat := (List.replicate n.toNat s).flatten

def binop (op : Bop) (fz : Bool) (x y : D) (st : Store) : R D := match op, x, y with
  | .add, .int i, .int j => .ok (.int (i + j)) st
  | .sub, .int i, .int j => .ok (.int (i - j)) st
  | .mul, .int i, .int j => if mulOk i j then .ok (.int (i * j)) st else .bad
  | .fdiv, .int i, .int j => if 0 < j ∧ j < c30 then .ok (.int (i / j)) st else .bad
  | .mod, .int i, .int j => if 0 < j then .ok (.int (i % j)) st else .bad
  | .pow, .int i, .int j => if 0 ≤ j ∧ ((i.natAbs.log2 : Int) + 1) * j ≤ c27 then .ok (.int (i ^ j.toNat)) st else .bad
  | .add, .str a, .str b => lim1 (a.length + b.length) (.ok (.str (a ++ b)) st)
  | .mul, .str a, .int n => if n < c60 ∧ -(c60) < n then lim1 (a.length * n.toNat) (.ok (.str (repS a n)) st) else .bad
  | .add, .tup a, .tup b => lim1 (a.length + b.length) (.ok (.tup (a ++ b)) st)
  | .add, x, y => match asList st x, asList st y with
    | some a, some b => lim1 (a.length + b.length) (newL fz (a ++ b) st)
    | _, _ => .bad
  | .mul, x, .int n => match asList st x with
    | some a => if n < c60 ∧ -(c60) < n then lim1 (a.length * n.toNat) (newL fz (List.replicate n.toNat a).flatten st) else .bad
    | none => .bad
  | _, _, _ => .bad

def intsD : List D → Option (List Int)
  | [] => some []
  | .int i :: r => (intsD r).map (i :: ·)
  | _ => none
def memD (st : Store) (x : D) (xs : List D) : Option Bool := match toPy st x, pyL (pyRec st 3) xs with
  | some a, some bs => if a.depth ≤ 64 ∧ PyData.depthAll bs < 64 then some (bs.any fun z => PyData.eqv z a) else none
  | _, _ => none
def keyD : D → Bool | .int _ => true | .str _ => true | _ => false
/-- two keys (ints, texts) -/
def keyEq : D → D → Bool
  | .int i, .int j => i == j
  | .str s, .str t => s == t
  | _, _ => false
def look (kvs : List (D × D)) (k : D) : Option D := (kvs.find? fun p => keyEq p.1 k).map (·.2)
def put (kvs : List (D × D)) (k v : D) : List (D × D) :=
  if (kvs.any fun p => keyEq p.1 k) = true then kvs.map (fun p => if keyEq p.1 k then (p.1, v) else p) else kvs ++ [(k, v)]

def isIn (x y : D) (st : Store) : Option Bool := match x, y with
  | .str [c], .str b => some (decide (c ∈ b))
  | x, .ref n => match st[n]? with
    | some (.lst ds) => memD st x ds
    | some (.dK kvs) => if keyD x then some (look kvs x).isSome else none
    | _ => none
  | x, .lst ds => memD st x ds
  | x, .tup ds => memD st x ds
  | _, _ => none

def cmpop (op : Cop) (x y : D) (st : Store) : Option Bool := match op, x, y with
  | .eq, x, y => eqD st x y
  | .ne, x, y => (eqD st x y).map (!·)
  | .lt, .int i, .int j => some (decide (i < j))
  | .le, .int i, .int j => some (decide (i ≤ j))
  | .gt, .int i, .int j => some (decide (j < i))
  | .ge, .int i, .int j => some (decide (j ≤ i))
  | .lt, .tup a, .tup b => match intsD a, intsD b with | some n, some m => some (HT.lexLt n m) | _, _ => none
  | .isN, .non, .non => some true
  | .isN, _, .non => some false
  | .notN, .non, .non => some false
  | .notN, _, .non => some true
  | .isB, .bl a, .bl b => some (decide (a = b))
  | .isB, _, .bl _ => some false
  | .notB, .bl a, .bl b => some (!decide (a = b))
  | .notB, _, .bl _ => some true
  | .inn, x, y => isIn x y st
  | .notin, x, y => (isIn x y st).map (!·)
  | _, _, _ => none

def cut {α : Type} (xs : List α) (lo hi : Option Int) : List α := (xs.drop (HT.sIx xs.length 0 lo)).take (HT.sIx xs.length xs.length hi - HT.sIx xs.length 0 lo)
def strsD : List D → Option (List (List Nat))
  | [] => some []
  | .str i :: r => (strsD r).map (i :: ·)
  | _ => none
def blsD : List D → Option (List Bool)
  | [] => some []
  | .bl i :: r => (blsD r).map (i :: ·)
  | _ => none
def maxI : List Int → Int → Int
  | [], m => m
  | x :: xs, m => maxI xs (if x > m then x else m)
def minI : List Int → Int → Int
  | [], m => m
  | x :: xs, m => minI xs (if x < m then x else m)
def rgD (a b : Int) : List D := (List.range (b - a).toNat).map fun (i : Nat) => D.int (a + i)
def rgOk (a b : Int) : Bool := decide (-(c62) ≤ a ∧ a < c62 ∧ -(c62) ≤ b ∧ b < c62 ∧ (b - a).toNat ≤ lim)
def numS (i : Int) : List Nat := (toString i).toList.map Char.toNat
def sortI (l : List Int) : List Int := l.mergeSort (fun x y => decide (x ≤ y))

def builtin (b : Bt) (fz : Bool) (xs : List D) (st : Store) : R D := match b, xs with
  | .len, [.str s] => .ok (.int s.length) st
  | .len, [.ref n] => match st[n]? with
    | some (.lst ds) => .ok (.int ds.length) st
    | some (.dK kvs) => .ok (.int kvs.length) st
    | _ => .bad
  | .len, [.tup ds] => .ok (.int ds.length) st
  | .len, [.lst ds] => .ok (.int ds.length) st
  | .abs, [.int i] => .ok (.int (if i < 0 then -i else i)) st
  | .int, [.int i] => .ok (.int i) st
  | .int, [.bl b] => .ok (.int (if b then 1 else 0)) st
  | .int, [.str s] => if s.length ≤ 640 then (match PySem.intText? ⟨s.toArray⟩ with | some n => .ok (.int n) st | none => .bad) else .bad
  | .str, [.int i] => if i.natAbs.log2 < 1920 then lim1 (numS i).length (.ok (.str (numS i)) st) else .bad
  | .sum, [x] => ofO (((asList st x).bind intsD).map fun l => D.int l.sum) st
  | .min2, [.int i, .int j] => .ok (.int (if j < i then j else i)) st
  | .max2, [.int i, .int j] => .ok (.int (if j > i then j else i)) st
  | .min1, [x] => match (asList st x).bind intsD with | some (i :: r) => .ok (.int (minI r i)) st | _ => .bad
  | .max1, [x] => match (asList st x).bind intsD with | some (i :: r) => .ok (.int (maxI r i)) st | _ => .bad
  | .tuple, [.tup ds] => .ok (.tup ds) st
  | .tuple, [x] => ofO ((asList st x).map .tup) st
  | .list, [x] => match asSeq st x with | some ds => newL fz ds st | none => .bad
  | .tupRg1, [.int n] => if rgOk 0 n then .ok (.tup (rgD 0 n)) st else .bad
  | .tupRg2, [.int a, .int n] => if rgOk a n then .ok (.tup (rgD a n)) st else .bad
  | .lstRg1, [.int n] => if rgOk 0 n then newL fz (rgD 0 n) st else .bad
  | .lstRg2, [.int a, .int n] => if rgOk a n then newL fz (rgD a n) st else .bad
  | .all, [x] => ofO (((asList st x).bind blsD).map fun l => D.bl (l.all id)) st
  | .any, [x] => ofO (((asList st x).bind blsD).map fun l => D.bl (l.any id)) st
  | .sorted, [x] => match (asList st x).bind intsD with
    | some l => newL fz ((sortI l).map .int) st
    | none => .bad
  | _, _ => .bad

def mAppend (o : D) (xs : List D) (st : Store) : R D := match o, xs with
  | .ref n, [y] => match st[n]? with
    | some (.lst ds) => if ds.length < lim then .ok .non (st.set n (.lst (ds ++ [y]))) else .bad
    | _ => .bad
  | _, _ => .bad
def mPop0 (o : D) (xs : List D) (st : Store) : R D := match o, xs with
  | .ref n, [] => match st[n]? with
    | some (.lst ds) => match ds[ds.length - 1]? with | some y => .ok y (st.set n (.lst ds.dropLast)) | none => .bad
    | _ => .bad
  | _, _ => .bad
def mPop1 (o : D) (xs : List D) (st : Store) : R D := match o, xs with
  | .ref n, [.int i] => match st[n]? with
    | some (.lst ds) => match L2.ixN ds.length i with
      | some k => match ds[k]? with | some y => .ok y (st.set n (.lst (ds.eraseIdx k))) | none => .bad
      | none => .bad
    | _ => .bad
  | _, _ => .bad
def mExtend (o : D) (xs : List D) (st : Store) : R D := match o, xs with
  | .ref n, [y] => match st[n]?, asList st y with
    | some (.lst ds), some es => if ds.length + es.length ≤ lim then .ok .non (st.set n (.lst (ds ++ es))) else .bad
    | _, _ => .bad
  | _, _ => .bad
def mIndex (o : D) (xs : List D) (st : Store) : R D := match xs with
  | [y] => match (asSeq st o).bind (pyL (pyRec st 3)), toPy st y with
    | some ds, some d => if d.depth ≤ 64 ∧ PyData.depthAll ds < 64 then (match ds.findIdx? (fun z => PyData.eqv z d) with | some j => .ok (.int j) st | none => .bad) else .bad
    | _, _ => .bad
  | _ => .bad
def mJoin (o : D) (xs : List D) (st : Store) : R D := match o, xs with
  | .str s, [y] => match (asSeq st y).bind strsD with
    | some l => lim1 ((l.map (·.length)).sum + l.length * s.length) (.ok (.str (TL.joinL s l)) st)
    | none => .bad
  | _, _ => .bad
def mGet1 (o : D) (xs : List D) (st : Store) : R D := match o, xs with
  | .ref n, [k] => match st[n]? with
    | some (.dK kvs) => if keyD k then .ok ((look kvs k).getD .non) st else .bad
    | _ => .bad
  | _, _ => .bad
def mGet2 (o : D) (xs : List D) (st : Store) : R D := match o, xs with
  | .ref n, [k, z] => match st[n]? with
    | some (.dK kvs) => if keyD k then .ok ((look kvs k).getD z) st else .bad
    | _ => .bad
  | _, _ => .bad
def method (m : Mt) (fz : Bool) (o : D) (xs : List D) (st : Store) : R D := match m with
  | .append => mAppend o xs st
  | .pop0 => mPop0 o xs st
  | .pop1 => mPop1 o xs st
  | .extend => mExtend o xs st
  | .index => mIndex o xs st
  | .join => mJoin o xs st
  | .get1 => mGet1 o xs st
  | .get2 => mGet2 o xs st
  | _ => .bad

def index (x i : D) (st : Store) : R D := match x, i with
  | .str s, .int i => match L2.atI s i with | some c => .ok (.str [c]) st | none => .bad
  | .ref n, i => match st[n]?, i with
    | some (.lst ds), .int i => ofO (L2.atI ds i) st
    | some (.dK kvs), i => if keyD i then ofO (look kvs i) st else .bad
    | _, _ => .bad
  | .tup ds, .int i => ofO (L2.atI ds i) st
  | .lst ds, .int i => ofO (L2.atI ds i) st
  | _, _ => .bad
def slice (fz : Bool) (x : D) (l h : Option Int) (st : Store) : R D := match x with
  | .str s => .ok (.str (cut s l h)) st
  | .tup ds => .ok (.tup (cut ds l h)) st
  | x => match asList st x with | some ds => newL fz (cut ds l h) st | none => .bad
def isRef : D → Bool | .ref _ => true | _ => false
/-- o[i] = v -/
def setIx (o i v : D) (st : Store) : R Unit := match o with
  | .ref n => match st[n]?, i with
    | some (.lst ds), .int k => match L2.ixN ds.length k with | some j => .ok () (st.set n (.lst (ds.set j v))) | none => .bad
    | some (.dK kvs), k => if keyD k ∧ kvs.length < lim then .ok () (st.set n (.dK (put kvs k v))) else .bad
    | _, _ => .bad
  | _ => .bad
def tyName (st : Store) : D → Option String
  | .non => some "NoneType"
  | .bl _ => some "bool"
  | .int _ => some "int"
  | .str _ => some "str"
  | .tup _ => some "tuple"
  | .lst _ => some "list"
  | .ref n => match st[n]? with | some (.lst _) => some "list" | some (.dK _) => some "dict" | _ => none
  | .scr _ => none
def isTy (t c : String) : Bool := t == c || (t == "bool" && c == "int")

/-- may the method be asked of a thing of this type -/
def rcvOk (m : Mt) (t : Option String) : Bool := match m, t with
  | .append, some "list" => true
  | .pop0, some "list" => true
  | .pop1, some "list" => true
  | .extend, some "list" => true
  | .index, some "list" => true
  | .index, some "tuple" => true
  | .join, some "str" => true
  | .get1, some "dict" => true
  | .get2, some "dict" => true
  | _, _ => false

mutual
def bindT (st : Store) : Tg → D → Ev → Option Ev
  | .nm i, d, env => some (env.set i (some d))
  | .tup ts, d, env => match asSeq st d with
    | some ds => bindTs st ts ds env
    | none => none
def bindTs (st : Store) : List Tg → List D → Ev → Option Ev
  | [], [], env => some env
  | t :: ts, d :: ds, env => match bindT st t d env with | some env' => bindTs st ts ds env' | none => none
  | _, _, _ => none
end
def wipeE (env : Ev) : List Nat → Ev
  | [] => env
  | v :: vs => (wipeE env vs).set v none

/-- what a loop walks: a list as it stood at the start; a list of the store, as it stands at each turn -/
inductive Src where
  | snap (ds : List D) | live (n : Nat)

/-- the exception classes: name, fields, the names of its own and its bases' -/
structure Xd where
  fs : List String
  mro : List String
/-- the static context: the defs' calls, constants, exception classes, the turns a while may take -/
structure Cx where
  call : String → List D → Store → R D
  glob : String → Option D
  exc : String → Option Xd
  wf : Nat
  /-- the exception that is handled: the slot of its name -/
  hx : Option (Nat × Exn) := none

def lcGo (f : D → Store → R (Option D)) : List D → List D → Store → R (List D)
  | [], acc, st => .ok acc st
  | d :: ds, acc, st => (f d st).bind fun o s1 => match o with
    | some y => if acc.length < lim then lcGo f ds (acc ++ [y]) s1 else .bad
    | none => lcGo f ds acc s1
def noX {α : Type} (r : R α) : R α := match r with | .ex _ _ => .bad | r => r
def lcLive (f : D → Store → R (Option D)) (n : Nat) : Nat → Nat → List D → Store → R (List D)
  | 0, _, _, _ => .bad
  | k + 1, i, acc, st => match st[n]? with
    | some (.lst ds) => match ds[i]? with
      | some d => (f d st).bind fun o s1 => match o with
        | some y => if acc.length < lim then lcLive f n k (i + 1) (acc ++ [y]) s1 else .bad
        | none => lcLive f n k (i + 1) acc s1
      | none => .ok acc st
    | _ => .bad
def rgLoop (a b c : Int) : Option (List D) :=
  if c = 1 then (if -(c62) ≤ a ∧ a < c62 ∧ -(c62) ≤ b ∧ b < c62 then some (rgD a b) else none)
  else if c = -1 then (if -(c62) ≤ a ∧ a < c62 ∧ -(c62) ≤ b ∧ b < c62 then some ((List.range (a - b).toNat).map fun (i : Nat) => D.int (a - i)) else none)
  else none

mutual
def evE (Γ : Cx) : E → Ev → Store → R D
  | .var i, env, st => match env[i]? with | some (some d) => .ok d st | _ => .bad
  | .int i, _, st => .ok (.int i) st
  | .str s, _, st => .ok (.str (s.toList.map Char.toNat)) st
  | .bl b, _, st => .ok (.bl b) st
  | .non, _, st => .ok .non st
  | .glob x, _, st => ofO (Γ.glob x) st
  | .bin op fz a b, env, st => (evE Γ a env st).bind fun x s1 => (evE Γ b env s1).bind fun y s2 => binop op fz x y s2
  | .neg a, env, st => (evE Γ a env st).bind fun x s1 => match x with | .int i => .ok (.int (-i)) s1 | _ => .bad
  | .cmp op a b, env, st => (evE Γ a env st).bind fun x s1 => (evE Γ b env s1).bind fun y s2 => ofO ((cmpop op x y s2).map D.bl) s2
  | .chain o1 o2 a b c, env, st => (evE Γ a env st).bind fun x s1 => (evE Γ b env s1).bind fun y s2 => match cmpop o1 x y s2 with
    | some true => (evE Γ c env s2).bind fun z s3 => ofO ((cmpop o2 y z s3).map D.bl) s3
    | some false => .ok (.bl false) s2
    | none => .bad
  | .and es, env, st => evAnd Γ es env st
  | .or es, env, st => evOr Γ es env st
  | .not a, env, st => (evE Γ a env st).bind fun x s1 => ofO ((truthy s1 x).map fun b => D.bl (!b)) s1
  | .ife t a b, env, st => (evE Γ t env st).bind fun x s1 => match truthy s1 x with
    | some true => evE Γ a env s1
    | some false => evE Γ b env s1
    | none => .bad
  | .call f es, env, st => (evA Γ es env st).bind fun xs s1 => Γ.call f xs s1
  | .bi b fz es, env, st => (evA Γ es env st).bind fun xs s1 => builtin b fz xs s1
  | .meth m fz o es, env, st => (evE Γ o env st).bind fun x s1 => if rcvOk m (tyName s1 x) then (evA Γ es env s1).bind fun xs s2 => method m fz x xs s2 else .bad
  | .idx a i, env, st => (evE Γ a env st).bind fun x s1 => (evE Γ i env s1).bind fun y s2 => index x y s2
  | .slc fz a lo hi, env, st => (evE Γ a env st).bind fun x s1 => (evP Γ lo env s1).bind fun l s2 => (evP Γ hi env s2).bind fun h s3 => slice fz x l h s3
  | .tup es, env, st => (evA Γ es env st).bind fun xs s1 => .ok (.tup xs) s1
  | .lst fz es, env, st => (evA Γ es env st).bind fun xs s1 => newL fz xs s1
  | .lc fz elt tg it cond own, env, st => (evIt Γ it env st).bind fun src s1 =>
      let f := fun d s2 => match bindT s2 tg d (wipeE env (own.map (·.2))) with
        | none => .bad
        | some env' => (evO Γ cond env' s2).bind fun c s3 => match (match c with | none => some true | some x => truthy s3 x) with
          | some true => (evE Γ elt env' s3).bind fun y s4 => .ok (some y) s4
          | some false => .ok none s3
          | none => .bad
      (noX (match src with | .snap ds => lcGo f ds [] s1 | .live n => lcLive f n Γ.wf 0 [] s1)).bind fun ys s5 => newL fz ys s5
  | .dict0, _, st => .ok (.ref st.length) (st ++ [.dK []])
  | .isi a ts, env, st => (evE Γ a env st).bind fun x s1 => match tyName s1 x with
    | some t => .ok (.bl (ts.any (isTy t))) s1
    | none => .bad
  | .isx i cs, env, st => match Γ.hx with
    | some (j, x) => if i = j ∧ i < env.length then (match Γ.exc x.cls with | some xd => .ok (.bl (cs.any fun z => xd.mro.contains z)) st | none => .bad) else .bad
    | none => .bad
  | .xattr i f, env, st => match Γ.hx with
    | some (j, x) => if i = j ∧ i < env.length then (match Γ.exc x.cls with | some xd => if f ∈ xd.fs then ofO (x.fs.lookup f) st else .bad | none => .bad) else .bad
    | none => .bad
  | .attr a f, env, st => (evE Γ a env st).bind fun x s1 => match x with
    | .ref n => match s1[n]? with | some (.ins _ fs) => ofO (fs.lookup f) s1 | _ => .bad
    | _ => .bad
def evA (Γ : Cx) : Es → Ev → Store → R (List D)
  | .nil, _, st => .ok [] st
  | .cons e es, env, st => (evE Γ e env st).bind fun x s1 => (evA Γ es env s1).bind fun xs s2 => .ok (x :: xs) s2
def evAnd (Γ : Cx) : Es → Ev → Store → R D
  | .nil, _, _ => .bad
  | .cons e .nil, env, st => evE Γ e env st
  | .cons e es, env, st => (evE Γ e env st).bind fun x s1 => match truthy s1 x with
    | some true => evAnd Γ es env s1
    | some false => .ok x s1
    | none => .bad
def evOr (Γ : Cx) : Es → Ev → Store → R D
  | .nil, _, _ => .bad
  | .cons e .nil, env, st => evE Γ e env st
  | .cons e es, env, st => (evE Γ e env st).bind fun x s1 => match truthy s1 x with
    | some true => .ok x s1
    | some false => evOr Γ es env s1
    | none => .bad
def evO (Γ : Cx) : Eo → Ev → Store → R (Option D)
  | .no, _, st => .ok none st
  | .yes e, env, st => (evE Γ e env st).bind fun x s1 => .ok (some x) s1
def evP (Γ : Cx) : Eo → Ev → Store → R (Option Int)
  | .no, _, st => .ok none st
  | .yes e, env, st => (evE Γ e env st).bind fun x s1 => match x with | .int i => .ok (some i) s1 | _ => .bad
def evIt (Γ : Cx) : It → Ev → Store → R Src
  | .val e, env, st => (evE Γ e env st).bind fun x s1 => match x with
    | .tup ds => .ok (.snap ds) s1
    | .lst ds => .ok (.snap ds) s1
    | .scr ds => .ok (.snap ds) s1
    | .str s => .ok (.snap (s.map fun c => D.str [c])) s1
    | .ref n => match s1[n]? with | some (.lst _) => .ok (.live n) s1 | _ => .bad
    | _ => .bad
  | .rg1 a, env, st => (evE Γ a env st).bind fun x s1 => match x with | .int n => ofO ((rgLoop 0 n 1).map Src.snap) s1 | _ => .bad
  | .rg2 a b, env, st => (evE Γ a env st).bind fun x s1 => (evE Γ b env s1).bind fun y s2 => match x, y with | .int i, .int j => ofO ((rgLoop i j 1).map Src.snap) s2 | _, _ => .bad
  | .rg3 a b c, env, st => (evE Γ a env st).bind fun x s1 => (evE Γ b env s1).bind fun y s2 => (evE Γ c env s2).bind fun z s3 => match x, y, z with | .int i, .int j, .int k => ofO ((rgLoop i j k).map Src.snap) s3 | _, _, _ => .bad
  | .enum e, env, st => (evE Γ e env st).bind fun x s1 => match x with
    | .lst ds => .ok (.snap (ds.zipIdx.map fun p => D.tup [.int p.2, p.1])) s1
    | _ => .bad
  | .zip a b, env, st => (evE Γ a env st).bind fun x s1 => (evE Γ b env s1).bind fun y s2 => match x, y with
    | .tup ds, .tup es => .ok (.snap ((ds.zip es).map fun p => D.tup [p.1, p.2])) s2
    | .lst ds, .lst es => .ok (.snap ((ds.zip es).map fun p => D.tup [p.1, p.2])) s2
    | _, _ => .bad
  | .rev e, env, st => (evE Γ e env st).bind fun x s1 => match x with
    | .lst ds => .ok (.snap ds.reverse) s1
    | .tup ds => .ok (.snap ds.reverse) s1
    | _ => .bad
  | .items e, env, st => .bad
end

/-- how a statement ends -/
inductive SR where
  | nx (env : Ev) (st : Store) | rt (d : D) (st : Store) | bk (env : Ev) (st : Store) | ct (env : Ev) (st : Store)
  | ex (x : Exn) (env : Ev) (st : Store) | bad
  deriving Inhabited
@[simp] def R.then {α : Type} (r : R α) (env : Ev) (f : α → Store → SR) : SR := match r with
  | .ok a st => f a st
  | .ex x st => .ex x env st
  | .bad => .bad
@[simp] def SR.seq (r : SR) (f : Ev → Store → SR) : SR := match r with | .nx env st => f env st | r => r

def whileGo (t : Ev → Store → R D) (b : Ev → Store → SR) : Nat → Ev → Store → SR
  | 0, _, _ => .bad
  | k + 1, env, st => (t env st).then env fun x s1 => match truthy s1 x with
    | some true => match b env s1 with
      | .nx env' s2 => whileGo t b k env' s2
      | .ct env' s2 => whileGo t b k env' s2
      | .bk env' s2 => .nx env' s2
      | r => r
    | some false => .nx env s1
    | none => .bad
def forGo (b : D → Ev → Store → SR) : List D → Ev → Store → SR
  | [], env, st => .nx env st
  | d :: ds, env, st => match b d env st with
    | .nx env' s2 => forGo b ds env' s2
    | .ct env' s2 => forGo b ds env' s2
    | .bk env' s2 => .nx env' s2
    | r => r
def forLive (b : D → Ev → Store → SR) (n : Nat) : Nat → Nat → Ev → Store → SR
  | 0, _, _, _ => .bad
  | k + 1, i, env, st => match st[n]? with
    | some (.lst ds) => match ds[i]? with
      | some d => match b d env st with
        | .nx env' s2 => forLive b n k (i + 1) env' s2
        | .ct env' s2 => forLive b n k (i + 1) env' s2
        | .bk env' s2 => .nx env' s2
        | r => r
      | none => .nx env st
    | _ => .bad
def mkX (Γ : Cx) (c : String) (xs : List D) : Option Exn := match Γ.exc c with
  | some xd => if xd.fs.length = xs.length then some ⟨c, xd.fs.zip xs⟩ else none
  | none => none
/-- does the class c go by the name z -/
def isX (Γ : Cx) (c z : String) : Option Bool := (Γ.exc c).map fun xd => xd.mro.contains z

mutual
def evS (Γ : Cx) : S → Ev → Store → SR
  | .set i e, env, st => (evE Γ e env st).then env fun x s1 => .nx (env.set i (some x)) s1
  | .unp tg e, env, st => (evE Γ e env st).then env fun x s1 => match bindT s1 tg x env with | some env' => .nx env' s1 | none => .bad
  | .sub o i e, env, st => (evE Γ e env st).then env fun v s1 => (evE Γ o env s1).then env fun x s2 => (evE Γ i env s2).then env fun y s3 => (setIx x y v s3).then env fun _ s4 => .nx env s4
  | .attr _ _ _, _, _ => .bad
  | .aug i op e, env, st => match env[i]? with
    | some (some x) => (evE Γ e env st).then env fun y s1 => match x, y with
      | .int _, .int _ => (binop op false x y s1).then env fun z s2 => .nx (env.set i (some z)) s2
      | .str _, .str _ => (binop op false x y s1).then env fun z s2 => .nx (env.set i (some z)) s2
      | _, _ => .bad
    | _ => .bad
  | .augS o i op e, env, st => (evE Γ o env st).then env fun ov s1 => (evE Γ i env s1).then env fun iv s2 => (if isRef ov then index ov iv s2 else .bad).then env fun x s3 => (evE Γ e env s3).then env fun y s4 =>
      match x, y with
      | .int _, .int _ => (binop op false x y s4).then env fun z s5 => (setIx ov iv z s5).then env fun _ s6 => .nx env s6
      | _, _ => .bad
  | .expr e, env, st => (evE Γ e env st).then env fun _ s1 => .nx env s1
  | .ret e, env, st => (evE Γ e env st).then env fun x s1 => .rt x s1
  | .retN, _, st => .rt .non st
  | .ifs t a b, env, st => (evE Γ t env st).then env fun x s1 => match truthy s1 x with
    | some true => evSs Γ a env s1
    | some false => evSs Γ b env s1
    | none => .bad
  | .while t b, env, st => whileGo (evE Γ t) (evSs Γ b) Γ.wf env st
  | .for tg it b, env, st => (evIt Γ it env st).then env fun src s1 =>
      let f := fun d env s2 => match bindT s2 tg d env with | some env' => evSs Γ b env' s2 | none => .bad
      match src with
      | .snap ds => forGo f ds env s1
      | .live n => forLive f n Γ.wf 0 env s1
  | .raise c es, env, st => (evA Γ es env st).then env fun xs s1 => match mkX Γ c xs with | some x => .ex x env s1 | none => .bad
  | .tryAs b c i h, env, st => match evSs Γ b env st with
    | .ex x env' s1 => match isX Γ x.cls c with
      | some true => match evSs { Γ with hx := some (i, x) } h (env'.set i none) s1 with
        | .nx e2 s2 => .nx (e2.set i none) s2
        | .bk e2 s2 => .bk (e2.set i none) s2
        | .ct e2 s2 => .ct (e2.set i none) s2
        | .rt d s2 => .rt d s2
        | _ => .bad
      | some false => .ex x env' s1
      | none => .bad
    | r => r
  | .pass, env, st => .nx env st
  | .brk, env, st => .bk env st
  | .cont, env, st => .ct env st
  | .never, _, _ => .bad
def evSs (Γ : Cx) : Ss → Ev → Store → SR
  | .nil, env, st => .nx env st
  | .cons s ss, env, st => (evS Γ s env st).seq fun env' s1 => evSs Γ ss env' s1
end

/-! ### the end of a call: what the callee left behind is let go -/
mutual
def D.bel (n : Nat) : D → Bool
  | .tup ds => belowL n ds
  | .lst ds => belowL n ds
  | .scr ds => belowL n ds
  | .ref k => decide (k < n)
  | _ => true
def belowL (n : Nat) : List D → Bool
  | [] => true
  | d :: ds => d.bel n && belowL n ds
end
def O.bel (n : Nat) : O → Bool
  | .lst ds => belowL n ds
  | .dK kvs => belowL n (kvs.map (·.1)) && belowL n (kvs.map (·.2))
  | .ins _ fs => belowL n (fs.map (·.2))
  | .dead => true

structure Fd where
  np : Nat
  ns : Nat
  body : Ss

/-- the defs, by their names; depth n of calls -/
structure Prog where
  defs : String → Option Fd
  glob : String → Option D
  exc : String → Option Xd
  wf : Nat
def Prog.cx (P : Prog) (c : String → List D → Store → R D) : Cx := ⟨c, P.glob, P.exc, P.wf, none⟩
def gc (n0 : Nat) (d : D) (st : Store) : R D := if d.bel n0 && (st.take n0).all (O.bel n0) then .ok d (st.take n0) else .ok d st
def gcX (n0 : Nat) (x : Exn) (st : Store) : R D := if belowL n0 (x.fs.map (·.2)) && (st.take n0).all (O.bel n0) then .ex x (st.take n0) else .ex x st
def fin (n0 : Nat) : SR → R D
  | .rt d st => gc n0 d st
  | .nx _ st => gc n0 .non st
  | .ex x _ st => gcX n0 x st
  | _ => .bad
def start (fd : Fd) (xs : List D) : Ev := xs.map some ++ List.replicate (fd.ns - fd.np) none
def run (P : Prog) : Nat → String → List D → Store → R D
  | 0, _, _, _ => .bad
  | n + 1, f, xs, st => match P.defs f with
    | some fd => if xs.length = fd.np then fin st.length (evSs (P.cx (run P n)) fd.body (start fd xs) st) else .bad
    | none => .bad
end
end T
set_option Elab.async false
set_option linter.all false
set_option autoImplicit false
set_option maxRecDepth 100000
set_option maxHeartbeats 4000000
/-! # T1: the relation between values of the T layer and the hand layer's -/
namespace T
open PySem PySem.Spec PyProof.Rows L2

abbrev cs (s : List Nat) : Str := ⟨s.toArray⟩
def StrOk (s : List Nat) : Prop := s.length ≤ lim ∧ ∀ c ∈ s, c < 0x110000

/-- a tuple whose object is known: it has no dict -/
def TupAt (K : PySem.W.Frag) (F : Hp) (a : Addr) (vs : List V) : Prop :=
  (∃ o : Obj, F a = some (.frz o (.tup vs)) ∧ o.dict = none) ∨
    ∃ (o : Obj) (its : Array Value) (n : Nat), K.lookup a = some o ∧ o.cls = .type "tuple" ∧ o.dict = none ∧ o.data = .seq its n ∧ its.size ≤ sizeLine ∧ Vals vs its.toList
theorem TupAt.sq {K : PySem.W.Frag} {F : Hp} {a : Addr} {vs : List V} (h : TupAt K F a vs) : SqT K F a vs := by
  rcases h with ⟨o, h, _⟩ | ⟨o, its, n, h1, h2, h3, h4, h5, h6⟩
  · exact .inl (.inr ⟨o, h⟩)
  · exact .inr ⟨o, its, n, h1, h2, h4, h5, h6⟩
theorem TupAt.mono {K : PySem.W.Frag} {F H : Hp} {a : Addr} {vs : List V} (e : ∀ a o, F a = some o → H a = some o) (h : TupAt K F a vs) : TupAt K H a vs := by
  rcases h with ⟨o, h, q⟩ | h
  · exact .inl ⟨o, e _ _ h, q⟩
  · exact .inr h
mutual
def Rep (K : PySem.W.Frag) (F : Hp) (m : List Addr) : D → V → Prop
  | .non, v => v = .non
  | .bl b, v => v = .bl b
  | .int i, v => v = .int i
  | .str s, v => v = .str (cs s) ∧ StrOk s
  | .tup ds, v => ∃ a vs, v = .ref a ∧ TupAt K F a vs ∧ RepL K F m ds vs
  | .lst ds, v => ∃ a vs, v = .ref a ∧ F a = some (.lst vs) ∧ RepL K F m ds vs
  | .scr ds, v => ∃ a vs, v = .ref a ∧ SqL K F a vs ∧ RepL K F m ds vs
  | .ref n, v => ∃ a, v = .ref a ∧ m[n]? = some a
def RepL (K : PySem.W.Frag) (F : Hp) (m : List Addr) : List D → List V → Prop
  | [], vs => vs = []
  | d :: ds, vs => ∃ v r, vs = v :: r ∧ Rep K F m d v ∧ RepL K F m ds r
end

/-- the frozen part grows, the store's addresses too -/
structure Ext (F : Hp) (m : List Addr) (F' : Hp) (m' : List Addr) : Prop where
  sub : ∀ a o, F a = some o → F' a = some o
  pre : ∀ (n : Nat) (a : Addr), m[n]? = some a → m'[n]? = some a
theorem Ext.refl {F : Hp} {m : List Addr} : Ext F m F m := ⟨fun _ _ h => h, fun _ _ h => h⟩
theorem Ext.trans {F F1 F2 : Hp} {m m1 m2 : List Addr} (a : Ext F m F1 m1) (b : Ext F1 m1 F2 m2) : Ext F m F2 m2 :=
  ⟨fun x o h => b.sub x o (a.sub x o h), fun n x h => b.pre n x (a.pre n x h)⟩

section
variable {K : PySem.W.Frag} {G F F' H : Hp} {m m' : List Addr}
theorem rd_mono (h : ∀ a o, F a = some o → H a = some o) {a : Addr} {u : HO} (r : Rd F a u) : Rd H a u := by
  rcases r with r | ⟨o, r⟩
  · exact .inl (h _ _ r)
  · exact .inr ⟨o, h _ _ r⟩
theorem sqL_mono (h : ∀ a o, F a = some o → H a = some o) {a : Addr} {vs : List V} (r : SqL K F a vs) : SqL K H a vs := by
  rcases r with r | r
  · exact .inl (rd_mono h r)
  · exact .inr r
theorem sqT_mono (h : ∀ a o, F a = some o → H a = some o) {a : Addr} {vs : List V} (r : SqT K F a vs) : SqT K H a vs := by
  rcases r with r | r
  · exact .inl (rd_mono h r)
  · exact .inr r
mutual
theorem Rep.mono (e : Ext F m F' m') : ∀ (d : D) (v : V), Rep K F m d v → Rep K F' m' d v
  | .non, v, h => by simpa [Rep] using h
  | .bl b, v, h => by simpa [Rep] using h
  | .int i, v, h => by simpa [Rep] using h
  | .str s, v, h => by simpa [Rep] using h
  | .tup ds, v, h => by
    simp only [Rep] at h ⊢
    obtain ⟨a, vs, e1, e2, e3⟩ := h
    exact ⟨a, vs, e1, e2.mono e.sub, RepL.mono e ds vs e3⟩
  | .lst ds, v, h => by
    simp only [Rep] at h ⊢
    obtain ⟨a, vs, e1, e2, e3⟩ := h
    exact ⟨a, vs, e1, e.sub _ _ e2, RepL.mono e ds vs e3⟩
  | .scr ds, v, h => by
    simp only [Rep] at h ⊢
    obtain ⟨a, vs, e1, e2, e3⟩ := h
    exact ⟨a, vs, e1, sqL_mono e.sub e2, RepL.mono e ds vs e3⟩
  | .ref n, v, h => by
    simp only [Rep] at h ⊢
    obtain ⟨a, e1, e2⟩ := h
    exact ⟨a, e1, e.pre n a e2⟩
theorem RepL.mono (e : Ext F m F' m') : ∀ (ds : List D) (vs : List V), RepL K F m ds vs → RepL K F' m' ds vs
  | [], vs, h => by simpa [RepL] using h
  | d :: ds, vs, h => by
    simp only [RepL] at h ⊢
    obtain ⟨v, r, e1, e2, e3⟩ := h
    exact ⟨v, r, e1, Rep.mono e d v e2, RepL.mono e ds r e3⟩
end
theorem RepL.length : ∀ {ds : List D} {vs : List V}, RepL K F m ds vs → ds.length = vs.length
  | [], vs, h => by simp only [RepL] at h; subst h; rfl
  | d :: ds, vs, h => by
    simp only [RepL] at h
    obtain ⟨v, r, rfl, _, e3⟩ := h
    simp [RepL.length e3]
theorem RepL.nil : RepL K F m [] [] := by simp [RepL]
theorem RepL.cons {d : D} {v : V} {ds : List D} {vs : List V} (h : Rep K F m d v) (t : RepL K F m ds vs) : RepL K F m (d :: ds) (v :: vs) := by
  simp only [RepL]; exact ⟨v, vs, rfl, h, t⟩
theorem RepL.cons_inv {d : D} {ds : List D} {vs : List V} (h : RepL K F m (d :: ds) vs) : ∃ v r, vs = v :: r ∧ Rep K F m d v ∧ RepL K F m ds r := by simpa only [RepL] using h
theorem RepL.append : ∀ {ds es : List D} {vs ws : List V}, RepL K F m ds vs → RepL K F m es ws → RepL K F m (ds ++ es) (vs ++ ws)
  | [], es, vs, ws, h, t => by simp only [RepL] at h; subst h; simpa using t
  | d :: ds, es, vs, ws, h, t => by
    obtain ⟨v, r, rfl, e2, e3⟩ := h.cons_inv
    exact RepL.cons e2 (RepL.append e3 t)
theorem RepL.one {d : D} {v : V} (h : Rep K F m d v) : RepL K F m [d] [v] := RepL.cons h RepL.nil
theorem RepL.get : ∀ {ds : List D} {vs : List V} {i : Nat} {d : D}, RepL K F m ds vs → ds[i]? = some d → ∃ v, vs[i]? = some v ∧ Rep K F m d v
  | [], _, _, _, _, h => by simp at h
  | d :: ds, vs, 0, d', h, e => by
    obtain ⟨v, r, rfl, e2, e3⟩ := h.cons_inv
    simp at e; subst e
    exact ⟨v, rfl, e2⟩
  | d :: ds, vs, i + 1, d', h, e => by
    obtain ⟨v, r, rfl, e2, e3⟩ := h.cons_inv
    obtain ⟨w, h1, h2⟩ := RepL.get (i := i) e3 (by simpa using e)
    exact ⟨w, by simpa using h1, h2⟩
theorem RepL.getV : ∀ {ds : List D} {vs : List V} {i : Nat} {v : V}, RepL K F m ds vs → vs[i]? = some v → ∃ d, ds[i]? = some d ∧ Rep K F m d v := by
  intro ds vs i v h e
  cases q : ds[i]? with
  | none =>
    have := List.getElem?_eq_none_iff.mp q
    have l := h.length
    have := (List.getElem?_eq_some_iff.mp e).1
    omega
  | some d =>
    obtain ⟨w, h1, h2⟩ := h.get q
    rw [e] at h1; cases h1
    exact ⟨d, rfl, h2⟩
theorem RepL.set {d : D} {v : V} (r : Rep K F m d v) : ∀ {ds : List D} {vs : List V} (i : Nat), RepL K F m ds vs → RepL K F m (ds.set i d) (vs.set i v)
  | [], vs, i, h => by simp only [RepL] at h; subst h; simpa using RepL.nil
  | d' :: ds, vs, 0, h => by
    obtain ⟨v', r', rfl, e2, e3⟩ := h.cons_inv
    exact RepL.cons r e3
  | d' :: ds, vs, i + 1, h => by
    obtain ⟨v', r', rfl, e2, e3⟩ := h.cons_inv
    exact RepL.cons e2 (RepL.set r i e3)
theorem RepL.take : ∀ {ds : List D} {vs : List V} (n : Nat), RepL K F m ds vs → RepL K F m (ds.take n) (vs.take n)
  | _, _, 0, _ => by simpa using RepL.nil
  | [], vs, n + 1, h => by simp only [RepL] at h; subst h; simpa using RepL.nil
  | d :: ds, vs, n + 1, h => by
    obtain ⟨v', r', rfl, e2, e3⟩ := h.cons_inv
    exact RepL.cons e2 (RepL.take n e3)
theorem RepL.drop : ∀ {ds : List D} {vs : List V} (n : Nat), RepL K F m ds vs → RepL K F m (ds.drop n) (vs.drop n)
  | _, _, 0, h => by simpa using h
  | [], vs, n + 1, h => by simp only [RepL] at h; subst h; simpa using RepL.nil
  | d :: ds, vs, n + 1, h => by
    obtain ⟨v', r', rfl, e2, e3⟩ := h.cons_inv
    exact RepL.drop n e3
theorem RepL.dropLast {ds : List D} {vs : List V} (h : RepL K F m ds vs) : RepL K F m ds.dropLast vs.dropLast := by
  rw [List.dropLast_eq_take, List.dropLast_eq_take, h.length]; exact h.take _
theorem RepL.eraseIdx : ∀ {ds : List D} {vs : List V} (i : Nat), RepL K F m ds vs → RepL K F m (ds.eraseIdx i) (vs.eraseIdx i)
  | [], vs, i, h => by simp only [RepL] at h; subst h; simpa using RepL.nil
  | d' :: ds, vs, 0, h => by
    obtain ⟨v', r', rfl, e2, e3⟩ := h.cons_inv
    exact e3
  | d' :: ds, vs, i + 1, h => by
    obtain ⟨v', r', rfl, e2, e3⟩ := h.cons_inv
    exact RepL.cons e2 (RepL.eraseIdx i e3)
theorem RepL.reverse {ds : List D} : ∀ {vs : List V}, RepL K F m ds vs → RepL K F m ds.reverse vs.reverse := by
  induction ds with
  | nil => intro vs h; simp only [RepL] at h; subst h; exact RepL.nil
  | cons d ds ih =>
    intro vs h
    obtain ⟨v', r', rfl, e2, e3⟩ := h.cons_inv
    rw [List.reverse_cons, List.reverse_cons]
    exact (ih e3).append (RepL.one e2)
theorem RepL.rep {ds : List D} {vs : List V} (h : RepL K F m ds vs) : ∀ k : Nat, RepL K F m (List.replicate k ds).flatten (List.replicate k vs).flatten
  | 0 => by simpa using RepL.nil
  | k + 1 => by
    rw [List.replicate_succ, List.replicate_succ, List.flatten_cons, List.flatten_cons]
    exact h.append (RepL.rep h k)
theorem RepL.ints : ∀ {ds : List D} {vs : List V} {l : List Int}, RepL K F m ds vs → intsD ds = some l → vs = l.map V.int
  | [], vs, l, h, e => by simp only [RepL] at h; simp [intsD] at e; subst h; subst e; rfl
  | d :: ds, vs, l, h, e => by
    obtain ⟨v', r', rfl, e2, e3⟩ := h.cons_inv
    cases d <;> simp [intsD] at e
    obtain ⟨a, h1, rfl⟩ := e
    simp only [Rep] at e2
    subst e2
    simp [RepL.ints e3 h1]
theorem RepL.strs : ∀ {ds : List D} {vs : List V} {l : List (List Nat)}, RepL K F m ds vs → strsD ds = some l → vs = (l.map cs).map V.str ∧ ∀ x ∈ l, StrOk x
  | [], vs, l, h, e => by simp only [RepL] at h; simp [strsD] at e; subst h; subst e; simp
  | d :: ds, vs, l, h, e => by
    obtain ⟨v', r', rfl, e2, e3⟩ := h.cons_inv
    cases d <;> simp [strsD] at e
    obtain ⟨a, h1, rfl⟩ := e
    simp only [Rep] at e2
    obtain ⟨rfl, ok⟩ := e2
    obtain ⟨i1, i2⟩ := RepL.strs e3 h1
    exact ⟨by simp [i1], by simp only [List.mem_cons]; rintro x (rfl | hx); exact ok; exact i2 x hx⟩
theorem RepL.bls : ∀ {ds : List D} {vs : List V} {l : List Bool}, RepL K F m ds vs → blsD ds = some l → vs = l.map V.bl
  | [], vs, l, h, e => by simp only [RepL] at h; simp [blsD] at e; subst h; subst e; rfl
  | d :: ds, vs, l, h, e => by
    obtain ⟨v', r', rfl, e2, e3⟩ := h.cons_inv
    cases d <;> simp [blsD] at e
    obtain ⟨a, h1, rfl⟩ := e
    simp only [Rep] at e2
    subst e2
    simp [RepL.bls e3 h1]
end

/-! ### the store -/
def dkey : D → Option Key
  | .int i => some (.inl i)
  | .str s => some (.inr (cs s))
  | _ => none
/-- the entries of a dict -/
def RepKV (K : PySem.W.Frag) (F : Hp) (m : List Addr) : List (D × D) → List (Key × V) → Prop
  | [], ks => ks = []
  | (k, d) :: r, ks => ∃ q v s, ks = (q, v) :: s ∧ dkey k = some q ∧ Rep K F m k (kV q) ∧ Rep K F m d v ∧ RepKV K F m r s
def RepO (K : PySem.W.Frag) (F : Hp) (m : List Addr) (H : Hp) (a : Addr) : O → Prop
  | .lst ds => F a = none ∧ ∃ vs, H a = some (.lst vs) ∧ RepL K F m ds vs
  | .dK kvs => F a = none ∧ ∃ ks, H a = some (.dK ks) ∧ RepKV K F m kvs ks
  | .ins _ _ => False
  | .dead => True
structure Sim (K : PySem.W.Frag) (G F H : Hp) (m : List Addr) (st : Store) : Prop where
  sub : ∀ a o, F a = some o → H a = some o
  len : m.length = st.length
  nd : m.Nodup
  obj : ∀ (n : Nat) (o : O) (a : Addr), st[n]? = some o → m[n]? = some a → RepO K F m H a o
  trk : ∀ a ∈ m, ∃ o, H a = some o
  fr : ∀ a o, G a = some o → H a = some o ∧ F a = none ∧ a ∉ m

section
variable {K : PySem.W.Frag} {G F F' H : Hp} {m m' : List Addr} {st : Store}
theorem RepKV.mono (e : Ext F m F' m') : ∀ {kvs : List (D × D)} {ks : List (Key × V)}, RepKV K F m kvs ks → RepKV K F' m' kvs ks
  | [], _, h => by simpa [RepKV] using h
  | (k, d) :: r, ks, h => by
    simp only [RepKV] at h ⊢
    obtain ⟨q, v, s, e1, e2, e3, e4, e5⟩ := h
    exact ⟨q, v, s, e1, e2, Rep.mono e _ _ e3, Rep.mono e _ _ e4, RepKV.mono e e5⟩
theorem Sim.at (S : Sim K G F H m st) {n : Nat} {o : O} (h : st[n]? = some o) : ∃ a, m[n]? = some a ∧ RepO K F m H a o := by
  have hn : n < m.length := by rw [S.len]; exact (List.getElem?_eq_some_iff.mp h).1
  exact ⟨m[n], List.getElem?_eq_getElem hn, S.obj n o _ h (List.getElem?_eq_getElem hn)⟩
theorem Sim.lst (S : Sim K G F H m st) {n : Nat} {ds : List D} (h : st[n]? = some (.lst ds)) : ∃ a vs, m[n]? = some a ∧ F a = none ∧ H a = some (.lst vs) ∧ RepL K F m ds vs := by
  obtain ⟨a, e, f, vs, h1, h2⟩ := S.at h
  exact ⟨a, vs, e, f, h1, h2⟩
/-- a list value, wherever it stands -/
theorem asList_ok (S : Sim K G F H m st) {d : D} {v : V} {ds : List D} (r : Rep K F m d v) (h : asList st d = some ds) : ∃ a vs, v = .ref a ∧ H a = some (.lst vs) ∧ RepL K F m ds vs := by
  cases d <;> simp [asList] at h
  · subst h
    simp only [Rep] at r
    obtain ⟨a, vs, e1, e2, e3⟩ := r
    exact ⟨a, vs, e1, S.sub _ _ e2, e3⟩
  · simp only [Rep] at r
    obtain ⟨a, e1, e2⟩ := r
    rename_i n
    split at h <;> cases h
    rename_i hq
    obtain ⟨b, vs, q1, q2, q3, q4⟩ := S.lst hq
    rw [e2] at q1; cases q1
    exact ⟨a, vs, e1, q3, q4⟩
theorem asSeq_ok (S : Sim K G F H m st) {d : D} {v : V} {ds : List D} (r : Rep K F m d v) (h : asSeq st d = some ds) : ∃ a vs, v = .ref a ∧ (SqL K H a vs ∨ SqT K H a vs) ∧ RepL K F m ds vs := by
  by_cases ht : ∃ es, d = .tup es
  · obtain ⟨es, rfl⟩ := ht
    simp [asSeq] at h; subst h
    simp only [Rep] at r
    obtain ⟨a, vs, e1, e2, e3⟩ := r
    exact ⟨a, vs, e1, .inr (sqT_mono S.sub e2.sq), e3⟩
  · have h' : asList st d = some ds := by cases d <;> first | exact absurd ⟨_, rfl⟩ ht | exact h
    obtain ⟨a, vs, e1, e2, e3⟩ := asList_ok S r h'
    exact ⟨a, vs, e1, .inl (.inl (.inl e2)), e3⟩

/-- a new thing of the frozen part -/
theorem Sim.newF {p : Addr} {o : HO} (S : Sim K G F H m st) (hp : H p = none) : Sim K G (upd F p o) (upd H p o) m st ∧ Ext F m (upd F p o) m := by
  have hF : F p = none := by
    cases q : F p with
    | none => rfl
    | some u => rw [S.sub _ _ q] at hp; cases hp
  have ne : ∀ {a u}, F a = some u → a ≠ p := fun h => ne_of_none h hF
  have ext : Ext F m (upd F p o) m := ⟨fun a u h => by rw [upd_ne (ne h)]; exact h, fun _ _ h => h⟩
  refine ⟨⟨fun a u h => ?_, S.len, S.nd, fun n u a e1 e2 => ?_, fun a ha => ?_, fun a u h => ?_⟩, ext⟩
  · by_cases hap : a = p
    · subst hap; rw [upd_same] at h ⊢; exact h
    · rw [upd_ne hap] at h ⊢; exact S.sub _ _ h
  · have q := S.obj n u a e1 e2
    obtain ⟨w, hw⟩ := S.trk a (List.mem_of_getElem? e2)
    have hne : a ≠ p := ne_of_none hw hp
    cases u with
    | lst ds =>
      obtain ⟨f, vs, h1, h2⟩ := q
      exact ⟨by rw [upd_ne hne]; exact f, vs, by rw [upd_ne hne]; exact h1, h2.mono ext⟩
    | dK kvs =>
      obtain ⟨f, ks, h1, h2⟩ := q
      exact ⟨by rw [upd_ne hne]; exact f, ks, by rw [upd_ne hne]; exact h1, h2.mono ext⟩
    | ins c fs => exact q.elim
    | dead => trivial
  · obtain ⟨w, hw⟩ := S.trk a ha
    exact ⟨w, by rw [upd_ne (ne_of_none hw hp)]; exact hw⟩
  · obtain ⟨h1, h2, h3⟩ := S.fr a u h
    have z := ne_of_none h1 hp
    exact ⟨by rw [upd_ne z]; exact h1, by rw [upd_ne z]; exact h2, h3⟩
theorem RepO.keep {a b : Addr} {o : O} {u : HO} (h : b ≠ a) (ext : Ext F m F m') (q : RepO K F m H b o) : RepO K F m' (upd H a u) b o := by
  cases o with
  | lst ds =>
    obtain ⟨f, vs, h1, h2⟩ := q
    exact ⟨f, vs, by rw [upd_ne h]; exact h1, h2.mono ext⟩
  | dK kvs =>
    obtain ⟨f, ks, h1, h2⟩ := q
    exact ⟨f, ks, by rw [upd_ne h]; exact h1, h2.mono ext⟩
  | ins c fs => exact q.elim
  | dead => trivial
/-- a new thing of the store -/
theorem Sim.newO {p : Addr} {o : O} {u : HO} (S : Sim K G F H m st) (hp : H p = none) (q : Ext F m F (m ++ [p]) → F p = none → RepO K F (m ++ [p]) (upd H p u) p o) :
    Sim K G F (upd H p u) (m ++ [p]) (st ++ [o]) ∧ Ext F m F (m ++ [p]) ∧ (m ++ [p])[st.length]? = some p := by
  have hF : F p = none := by
    cases z : F p with
    | none => rfl
    | some w => rw [S.sub _ _ z] at hp; cases hp
  have nm : ∀ a ∈ m, a ≠ p := fun a ha => by
    obtain ⟨w, hw⟩ := S.trk a ha
    exact ne_of_none hw hp
  have ext : Ext F m F (m ++ [p]) := ⟨fun _ _ h => h, fun n a h => by
    rw [List.getElem?_append_left (List.getElem?_eq_some_iff.mp h).1]; exact h⟩
  refine ⟨⟨fun a w h => ?_, by simp [S.len], ?_, fun n w a e1 e2 => ?_, fun a ha => ?_, fun a w h => ?_⟩, ext, ?_⟩
  · rw [upd_ne (ne_of_none h hF)]; exact S.sub _ _ h
  · rw [List.nodup_append]
    exact ⟨S.nd, by simp, fun a ha b hb => by simp at hb; subst hb; exact nm a ha⟩
  · by_cases hn : n < st.length
    · rw [List.getElem?_append_left hn] at e1
      rw [List.getElem?_append_left (by rw [S.len]; exact hn)] at e2
      exact (S.obj n w a e1 e2).keep (nm a (List.mem_of_getElem? e2)) ext
    · have l1 := (List.getElem?_eq_some_iff.mp e1).1
      simp at l1
      have : n = st.length := by omega
      subst this
      rw [List.getElem?_append_right (Nat.le_refl _)] at e1
      rw [List.getElem?_append_right (by rw [S.len]; exact Nat.le_refl _)] at e2
      simp at e1
      simp [S.len] at e2
      subst e1; subst e2
      exact q ext hF
  · rcases List.mem_append.mp ha with ha | ha
    · obtain ⟨w, hw⟩ := S.trk a ha
      exact ⟨w, by rw [upd_ne (nm a ha)]; exact hw⟩
    · simp at ha; subst ha
      exact ⟨u, upd_same⟩
  · obtain ⟨h1, h2, h3⟩ := S.fr a w h
    have z := ne_of_none h1 hp
    exact ⟨by rw [upd_ne z]; exact h1, h2, fun hm => (List.mem_append.mp hm).elim h3 fun hm => z (by simpa using hm)⟩
  · rw [List.getElem?_append_right (by rw [S.len]; exact Nat.le_refl _)]
    simp [S.len]
/-- a thing of the store is written -/
theorem Sim.write {n : Nat} {a : Addr} {o : O} {u : HO} (S : Sim K G F H m st) (hn : m[n]? = some a) (hF : F a = none) (q : RepO K F m (upd H a u) a o) : Sim K G F (upd H a u) m (st.set n o) := by
  refine ⟨fun b w h => ?_, by simp [S.len], S.nd, fun k w b e1 e2 => ?_, fun b hb => ?_, fun b w h => ?_⟩
  · rw [upd_ne (ne_of_none h hF)]; exact S.sub _ _ h
  · by_cases hk : k = n
    · subst hk
      rw [hn] at e2; cases e2
      have : k < st.length := by rw [← S.len]; exact (List.getElem?_eq_some_iff.mp hn).1
      rw [List.getElem?_set_self this] at e1
      cases e1
      exact q
    · rw [List.getElem?_set_ne (Ne.symm hk)] at e1
      refine (S.obj k w b e1 e2).keep (fun z => hk ?_) Ext.refl
      subst z
      obtain ⟨h1, g1⟩ := List.getElem?_eq_some_iff.mp hn
      obtain ⟨h2, g2⟩ := List.getElem?_eq_some_iff.mp e2
      exact (List.getElem_inj S.nd).mp (g2.trans g1.symm)
  · by_cases hba : b = a
    · subst hba; exact ⟨u, upd_same⟩
    · obtain ⟨w, hw⟩ := S.trk b hb
      exact ⟨w, by rw [upd_ne hba]; exact hw⟩
  · obtain ⟨h1, h2, h3⟩ := S.fr b w h
    have z : b ≠ a := fun e => h3 (e ▸ List.mem_of_getElem? hn)
    exact ⟨by rw [upd_ne z]; exact h1, h2, h3⟩
end

/-! ### what is wanted behind an evaluation -/
/-- an exception as it lies behind an evaluation: its class at C, its dict at dd -/
def RepX (K : PySem.W.Frag) (mg : Str → Option Value) (F : Hp) (m : List Addr) (x : Exn) (C : Addr) (d : Option Addr) : Prop :=
  mg (Str.ofString x.cls) = some (.ref C) ∧ ((x.fs = [] ∧ d = none) ∨ ∃ (dd : Addr) (vs : List V), d = some dd ∧ F dd = some (.xd ((x.fs.map fun p => Str.ofString p.1).zip vs)) ∧ RepL K F m (x.fs.map (·.2)) vs)
abbrev Wx := Value → Option Addr → Hp → Prop
abbrev Rl (α β : Type) := Hp → List Addr → α → β → Prop
def Kon {α β : Type} (K : PySem.W.Frag) (G : Hp) (mg : Str → Option Value) (Rel : Rl α β) (W : Wx) (F : Hp) (m : List Addr) (Q : β → Hp → Prop) : R α → Prop
  | .ok a st => ∀ F' m' H' v, Ext F m F' m' → Sim K G F' H' m' st → Rel F' m' a v → Q v H'
  | .ex x st => ∀ F' m' H' C dd, Ext F m F' m' → Sim K G F' H' m' st → RepX K mg F' m' x C dd → W (.ref C) dd H'
  | .bad => False
section
variable {α β α' β' : Type} {K : PySem.W.Frag} {G : Hp} {mg : Str → Option Value} {Rel : Rl α β} {Rel' : Rl α' β'} {W : Wx} {F F' : Hp} {m m' : List Addr} {Q : β → Hp → Prop} {Q' : β' → Hp → Prop}
theorem Kon.mono {r : R α} (h : Kon K G mg Rel W F m Q r) (e : Ext F m F' m') : Kon K G mg Rel W F' m' Q r := by
  cases r with
  | ok a st => exact fun F2 m2 H2 v e2 => h F2 m2 H2 v (e.trans e2)
  | ex x st => exact fun F2 m2 H2 C dd e2 => h F2 m2 H2 C dd (e.trans e2)
  | bad => exact h
theorem Kon.bind {r : R α} {f : α → Store → R α'} (h : Kon K G mg Rel' W F m Q' (r.bind f)) :
    Kon K G mg Rel W F m (fun v H1 => ∃ F1 m1 a st1, Ext F m F1 m1 ∧ Sim K G F1 H1 m1 st1 ∧ Rel F1 m1 a v ∧ Kon K G mg Rel' W F1 m1 Q' (f a st1)) r := by
  cases r with
  | ok a st => exact fun F1 m1 H1 v e s q => ⟨F1, m1, a, st, e, s, q, Kon.mono h e⟩
  | ex x st => exact h
  | bad => exact h
theorem Kon.imp {r : R α} {Q2 : β → Hp → Prop} (h : Kon K G mg Rel W F m Q r) (k : ∀ v H, Q v H → Q2 v H) : Kon K G mg Rel W F m Q2 r := by
  cases r with
  | ok a st => exact fun F2 m2 H2 v e2 s q => k _ _ (h F2 m2 H2 v e2 s q)
  | ex x st => exact h
  | bad => exact h
end
abbrev repB : Rl Bool Bool := fun _ _ a b => a = b
abbrev repU : Rl Unit Unit := fun _ _ _ _ => True
abbrev repO (K : PySem.W.Frag) : Rl (Option D) (Option V) := fun F m a b => match a, b with | none, none => True | some d, some v => Rep K F m d v | _, _ => False

/-- the handled exception: its name's slot, its address, what holds of it -/
structure HX where
  i : Nat
  a : Addr
  P : Hp → List Addr → Prop
  mono : ∀ F m F' m', Ext F m F' m' → P F m → P F' m'
/-- the slots -/
structure RepE (K : PySem.W.Frag) (F : Hp) (m : List Addr) (hx : Option HX) (env : Ev) (σ : L2.St) : Prop where
  len : env.length = σ.length
  at_ : ∀ (i : Nat) (d : D), env[i]? = some (some d) → ∃ v, σ[i]? = some (some v) ∧ Rep K F m d v
  hx : ∀ h : HX, hx = some h → (h.i < σ.length → σ[h.i]? = some (some (V.ref h.a))) ∧ h.P F m
theorem RepE.mono {K : PySem.W.Frag} {F F' : Hp} {m m' : List Addr} {hx : Option HX} {env : Ev} {σ : L2.St} (e : Ext F m F' m') (h : RepE K F m hx env σ) : RepE K F' m' hx env σ :=
  ⟨h.len, fun i d q => let ⟨v, h1, h2⟩ := h.at_ i d q; ⟨v, h1, Rep.mono e d v h2⟩, fun z hz => ⟨(h.hx z hz).1, z.mono _ _ _ _ e (h.hx z hz).2⟩⟩
theorem RepE.set {K : PySem.W.Frag} {F : Hp} {m : List Addr} {hx : Option HX} {env : Ev} {σ : L2.St} (h : RepE K F m hx env σ) {i : Nat} {d : D} {v : V} (r : Rep K F m d v) (hi : ∀ z : HX, hx = some z → z.i ≠ i) :
    RepE K F m hx (env.set i (some d)) (σ.set i (some v)) := by
  refine ⟨by simp [h.len], fun j d' e => ?_, fun z e => ?_⟩
  · by_cases hj : i = j
    · subst hj
      have hl : i < env.length := by
        have := (List.getElem?_eq_some_iff.mp e).1
        simpa using this
      rw [List.getElem?_set_self hl] at e
      cases e
      rw [List.getElem?_set_self (by rw [← h.len]; exact hl)]
      exact ⟨v, rfl, r⟩
    · rw [List.getElem?_set_ne hj] at e ⊢
      exact h.at_ j d' e
  · rw [List.getElem?_set_ne (Ne.symm (hi z e)), List.length_set]
    exact h.hx z e
theorem RepE.wipe {K : PySem.W.Frag} {F : Hp} {m : List Addr} {env : Ev} {σ : L2.St} (h : RepE K F m none env σ) : ∀ vs : List Nat, RepE K F m none (wipeE env vs) (L2.wipe σ vs)
  | [] => h
  | v :: vs => by
    have ih := RepE.wipe h vs
    unfold wipeE L2.wipe
    refine ⟨by simp [ih.len], fun j d e => ?_, fun z e => by cases e⟩
    by_cases hj : v = j
    · subst hj
      have hl : v < (wipeE env vs).length := by
        have := (List.getElem?_eq_some_iff.mp e).1
        simpa using this
      rw [List.getElem?_set_self hl] at e
      cases e
    · rw [List.getElem?_set_ne hj] at e ⊢
      exact ih.at_ j d e
end T
set_option Elab.async false
set_option linter.all false
set_option autoImplicit false
set_option maxRecDepth 100000
set_option maxHeartbeats 4000000
/-! # T2: the operations -/
namespace T
open PySem PySem.Spec PyProof.Rows L2

section
variable {K : PySem.W.Frag} {mg : Str → Option Value} {G F F' H : Hp} {m m' : List Addr} {st : Store} {W : Wx} {Q : VK}
theorem lim_eq : lim = sizeLine := by rw [sizeLine_eq]; exact lim_v
theorem Kon.here {α β : Type} {Rel : Rl α β} {Q : β → Hp → Prop} {d : α} {v : β} (k : Kon K G mg Rel W F m Q (.ok d st)) (S : Sim K G F H m st) (r : Rel F m d v) : Q v H := k F m H v Ext.refl S r
/-- a new tuple -/
theorem Kon.newTup {ds : List D} {vs : List V} (k : Kon K G mg (Rep K) W F m Q (.ok (.tup ds) st)) (S : Sim K G F H m st) (r : RepL K F m ds vs) : ∀ (p : Addr) (o : Obj), H p = none → o.dict = none → Q (.ref p) (upd H p (.frz o (.tup vs))) := fun p o hp ho => by
  obtain ⟨S', e⟩ := S.newF (o := .frz o (.tup vs)) hp
  exact k _ _ _ _ e S' (by simp only [Rep]; exact ⟨p, vs, rfl, .inl ⟨o, upd_same, ho⟩, r.mono e⟩)
/-- a new list -/
theorem Kon.newLst {fz : Bool} {ds : List D} {vs : List V} (k : Kon K G mg (Rep K) W F m Q (newL fz ds st)) (S : Sim K G F H m st) (r : RepL K F m ds vs) : ∀ p, H p = none → Q (.ref p) (upd H p (.lst vs)) := fun p hp => by
  cases fz with
  | true =>
    obtain ⟨S', e⟩ := S.newF (o := .lst vs) hp
    exact k _ _ _ _ e S' (by simp only [Rep]; exact ⟨p, vs, rfl, upd_same, r.mono e⟩)
  | false =>
    obtain ⟨S', e, g⟩ := S.newO (o := .lst ds) (u := .lst vs) hp fun e f => ⟨f, vs, upd_same, r.mono e⟩
    exact k _ _ _ _ e S' (by simp only [Rep]; exact ⟨p, rfl, g⟩)
theorem repTupA {ds : List D} {v : V} (h : Rep K F m (.tup ds) v) : ∃ a vs, v = .ref a ∧ TupAt K F a vs ∧ RepL K F m ds vs := by simpa only [Rep] using h
theorem repTup {ds : List D} {v : V} (h : Rep K F m (.tup ds) v) : ∃ a vs, v = .ref a ∧ SqT K F a vs ∧ RepL K F m ds vs := let ⟨a, vs, e, t, r⟩ := repTupA h; ⟨a, vs, e, t.sq, r⟩
theorem repLst {ds : List D} {v : V} (h : Rep K F m (.lst ds) v) : ∃ a vs, v = .ref a ∧ F a = some (.lst vs) ∧ RepL K F m ds vs := by simpa only [Rep] using h
theorem repRef {n : Nat} {v : V} (h : Rep K F m (.ref n) v) : ∃ a, v = .ref a ∧ m[n]? = some a := by simpa only [Rep] using h
theorem repInt {i : Int} {v : V} (h : Rep K F m (.int i) v) : v = .int i := by simpa only [Rep] using h
theorem repBl {i : Bool} {v : V} (h : Rep K F m (.bl i) v) : v = .bl i := by simpa only [Rep] using h
theorem repNon {v : V} (h : Rep K F m .non v) : v = .non := by simpa only [Rep] using h
theorem repStr {s : List Nat} {v : V} (h : Rep K F m (.str s) v) : v = .str (cs s) ∧ StrOk s := by simpa only [Rep] using h
theorem rInt {i : Int} : Rep K F m (.int i) (.int i) := by simp only [Rep]
theorem rBl {i : Bool} : Rep K F m (.bl i) (.bl i) := by simp only [Rep]
theorem rNon : Rep K F m .non .non := by simp only [Rep]
theorem rStr {s : List Nat} (h : StrOk s) : Rep K F m (.str s) (.str (cs s)) := by simp only [Rep]; exact ⟨trivial, h⟩
theorem rStr' {s : List Nat} {x : Str} (h : StrOk s) (e : x = cs s) : Rep K F m (.str s) (.str x) := by subst e; exact rStr h
theorem cs_len (s : List Nat) : (cs s).length = s.length := by simp [cs, Str.length]
theorem cs_app (a b : List Nat) : cs a ++ cs b = cs (a ++ b) := by
  show Str.append _ _ = _
  simp [Str.append, cs]
theorem StrOk.app {a b : List Nat} (ha : StrOk a) (hb : StrOk b) (h : a.length + b.length ≤ lim) : StrOk (a ++ b) := ⟨by rw [List.length_append]; exact h, fun c hc => (List.mem_append.mp hc).elim (ha.2 c) (hb.2 c)⟩
theorem StrOk.sub {a b : List Nat} (ha : StrOk a) (h : b.Sublist a) : StrOk b := ⟨Nat.le_trans h.length_le ha.1, fun c hc => ha.2 c (h.subset hc)⟩
theorem lim1_ok {n : Nat} {r : R D} (h : Kon K G mg (Rep K) W F m Q (lim1 n r)) : n ≤ lim ∧ Kon K G mg (Rep K) W F m Q r := by
  unfold lim1 at h
  split at h
  · exact ⟨by assumption, h⟩
  · exact h.elim
end

/-! ### == : data -/
section
variable {K : PySem.W.Frag} {G F H : Hp} {m : List Addr} {st : Store}
mutual
theorem py_ok (S : Sim K G F H m st) {rec : Nat → Option PyData} (hr : ∀ n p v, rec n = some p → Rep K F m (.ref n) v → Dp K H v p) : ∀ (d : D) (v : V) (p : PyData), py rec d = some p → Rep K F m d v → Dp K H v p
  | .non, v, p, e, r => by simp [py] at e; subst e; rw [repNon r]; exact .non
  | .bl b, v, p, e, r => by simp [py] at e; subst e; rw [repBl r]; exact .bl b
  | .int i, v, p, e, r => by simp [py] at e; subst e; rw [repInt r]; exact .int i
  | .str s, v, p, e, r => by simp [py] at e; subst e; rw [(repStr r).1]; exact .str _
  | .tup ds, v, p, e, r => by
    simp [py] at e
    obtain ⟨ps, e1, rfl⟩ := e
    obtain ⟨a, vs, rfl, h1, h2⟩ := repTup r
    exact .tup (sqT_mono S.sub h1) (pyL_ok S hr ds vs ps e1 h2)
  | .lst ds, v, p, e, r => by
    simp [py] at e
    obtain ⟨ps, e1, rfl⟩ := e
    obtain ⟨a, vs, rfl, h1, h2⟩ := repLst r
    exact .lst (.inl (.inl (S.sub _ _ h1))) (pyL_ok S hr ds vs ps e1 h2)
  | .ref n, v, p, e, r => hr n p v (by simpa [py] using e) r
  | .scr _, v, p, e, r => by simp [py] at e
theorem pyL_ok (S : Sim K G F H m st) {rec : Nat → Option PyData} (hr : ∀ n p v, rec n = some p → Rep K F m (.ref n) v → Dp K H v p) : ∀ (ds : List D) (vs : List V) (ps : List PyData), pyL rec ds = some ps → RepL K F m ds vs → DpAll K H vs ps
  | [], vs, ps, e, r => by simp [pyL] at e; subst e; simp only [RepL] at r; subst r; exact .nil
  | d :: ds, vs, ps, e, r => by
    obtain ⟨v, w, rfl, r1, r2⟩ := r.cons_inv
    simp only [pyL] at e
    split at e
    · rename_i x xs e1 e2
      cases e
      exact .cons (py_ok S hr d v x e1 r1) (pyL_ok S hr ds w xs e2 r2)
    · cases e
end
theorem pyRec_ok (S : Sim K G F H m st) : ∀ (k n : Nat) (p : PyData) (v : V), pyRec st k n = some p → Rep K F m (.ref n) v → Dp K H v p
  | 0, n, p, v, e, r => by simp [pyRec] at e
  | k + 1, n, p, v, e, r => by
    simp only [pyRec] at e
    split at e
    · rename_i ds hq
      simp at e
      obtain ⟨ps, e1, rfl⟩ := e
      obtain ⟨a, vs, g, f, h1, h2⟩ := S.lst hq
      obtain ⟨b, rfl, g'⟩ := repRef r
      rw [g] at g'; cases g'
      exact .lst (.inl (.inl h1)) (pyL_ok S (fun n p v => pyRec_ok S k n p v) ds vs ps e1 h2)
    · cases e
theorem toPy_ok (S : Sim K G F H m st) {d : D} {v : V} {p : PyData} (e : toPy st d = some p) (r : Rep K F m d v) : Dp K H v p := py_ok S (fun n p v => pyRec_ok S 3 n p v) d v p e r
mutual
theorem Dp.lay {rec : Nat → Option PyData} (hr : ∀ n p v, rec n = some p → Rep K F m (.ref n) v → p.canLay0 = true) : ∀ (d : D) (v : V) (p : PyData), py rec d = some p → Rep K F m d v → p.canLay0 = true
  | .non, v, p, e, r => by simp [py] at e; subst e; rfl
  | .bl b, v, p, e, r => by simp [py] at e; subst e; rfl
  | .int i, v, p, e, r => by simp [py] at e; subst e; rfl
  | .str s, v, p, e, r => by
    simp [py] at e; subst e
    have h := (repStr r).2.2
    simp only [PyData.canLay0, PyData.strOk]
    simpa using h
  | .tup ds, v, p, e, r => by
    simp [py] at e
    obtain ⟨ps, e1, rfl⟩ := e
    obtain ⟨a, vs, rfl, h1, h2⟩ := repTup r
    simp only [PyData.canLay0]
    exact DpL.lay hr ds vs ps e1 h2
  | .lst ds, v, p, e, r => by
    simp [py] at e
    obtain ⟨ps, e1, rfl⟩ := e
    obtain ⟨a, vs, rfl, h1, h2⟩ := repLst r
    simp only [PyData.canLay0]
    exact DpL.lay hr ds vs ps e1 h2
  | .ref n, v, p, e, r => hr n p v (by simpa [py] using e) r
  | .scr _, v, p, e, r => by simp [py] at e
theorem DpL.lay {rec : Nat → Option PyData} (hr : ∀ n p v, rec n = some p → Rep K F m (.ref n) v → p.canLay0 = true) : ∀ (ds : List D) (vs : List V) (ps : List PyData), pyL rec ds = some ps → RepL K F m ds vs → PyData.canLayAll0 ps = true
  | [], vs, ps, e, r => by simp [pyL] at e; subst e; rfl
  | d :: ds, vs, ps, e, r => by
    obtain ⟨v, w, rfl, r1, r2⟩ := r.cons_inv
    simp only [pyL] at e
    split at e
    · rename_i x xs e1 e2
      cases e
      simp only [PyData.canLayAll0, Dp.lay hr d v x e1 r1, DpL.lay hr ds w xs e2 r2, Bool.and_self]
    · cases e
end
theorem pyRec_lay (S : Sim K G F H m st) : ∀ (k n : Nat) (p : PyData) (v : V), pyRec st k n = some p → Rep K F m (.ref n) v → p.canLay0 = true
  | 0, n, p, v, e, r => by simp [pyRec] at e
  | k + 1, n, p, v, e, r => by
    simp only [pyRec] at e
    split at e
    · rename_i ds hq
      simp at e
      obtain ⟨ps, e1, rfl⟩ := e
      obtain ⟨a, vs, g, f, h1, h2⟩ := S.lst hq
      simp only [PyData.canLay0]
      exact DpL.lay (fun n p v => pyRec_lay S k n p v) ds vs ps e1 h2
    · cases e
theorem toPy_lay (S : Sim K G F H m st) {d : D} {v : V} {p : PyData} (e : toPy st d = some p) (r : Rep K F m d v) : p.canLay0 = true := Dp.lay (fun n p v => pyRec_lay S 3 n p v) d v p e r
theorem shaped_of {p : PyData} (h : p.canLay0 = true) (d : p.depth ≤ 64) : SeqAt.shaped p = true := by
  unfold SeqAt.shaped; rw [h, decide_eq_true d]; rfl
end

/-! ### operators -/
section
variable {X : L2.Cx} {W : Wx}
/-- a reading by values of the T layer -/
def rD (K : PySem.W.Frag) (mg : Str → Option Value) (W : Wx) (f : D → D → Store → R D) : R2 := fun x y H Q => ∃ G F m st d e, Sim K G F H m st ∧ Rep K F m d x ∧ Rep K F m e y ∧ Kon K G mg (Rep K) W F m Q (f d e st)
theorem Inv.lstR {pins : List (Addr × Obj)} {σ : L2.St} {H : Hp} {s : Shared} {l : Addr} {xs : List V} (I : Inv X pins σ H s) (h : Rd H l (.lst xs)) : xs.length ≤ sizeLine ∧ ∃ (its : List Value) (n : Nat), Vals xs its ∧ xs.length = its.length ∧ s.heap.get? l = some { cls := .type "list", data := .seq its.toArray n } := by
  obtain ⟨z, its, n, r, e⟩ := h.ok I.hok
  exact ⟨z, its, n, r, r.length, e⟩
def rCatR : R2 := fun x y H Q => ∃ l b xs zs, x = .ref l ∧ y = .ref b ∧ Rd H l (.lst xs) ∧ Rd H b (.lst zs) ∧ xs.length + zs.length ≤ sizeLine ∧ ∀ p, H p = none → Q (.ref p) (upd H p (.lst (xs ++ zs)))
theorem op_catR : OpR X (binaryOp .Add) rCatR := by
  intro pins s σ H x y v u Q I rx ry h
  obtain ⟨l, b, xs, zs, rfl, rfl, hH, hB, hz, q⟩ := h
  cases rx
  cases ry
  obtain ⟨z, its, n, r, hl, e⟩ := Inv.lstR I hH
  obtain ⟨z2, its2, n2, r2, hl2, e2⟩ := Inv.lstR I hB
  refine PySem.P.add_list e e2 ?_ (by rw [List.size_toArray, List.size_toArray]; omega)
  have ea : its.toArray ++ its2.toArray = (its ++ its2).toArray := by simp
  rw [ea]
  exact ⟨.ref _, _, I.lnew (t' := s.toks) (r.append r2) (by rw [List.length_append]; omega), rfl, q _ I.fresh⟩
def rRepR : R2 := fun x y H Q => ∃ l k xs, x = .ref l ∧ y = .int k ∧ Rd H l (.lst xs) ∧ -(2 ^ 63) ≤ k ∧ k < 2 ^ 63 ∧ xs.length * k.toNat ≤ sizeLine ∧
  ∀ p, H p = none → Q (.ref p) (upd H p (.lst (List.replicate k.toNat xs).flatten))
theorem op_repR : OpR X (binaryOp .Mult) rRepR := by
  intro pins s σ H x y v u Q I rx ry h
  obtain ⟨l, k, xs, rfl, rfl, hH, h1, h2, hz, q⟩ := h
  cases rx
  obtain ⟨t, rfl⟩ := ry
  obtain ⟨z, its, n, r, hl, e⟩ := Inv.lstR I hH
  have hlen : its.toArray.size * k.toNat ≤ sizeLine := by rw [List.size_toArray, ← hl]; exact hz
  have hcap : ¬ its.toArray.size * k.toNat > (2 ^ 63 - 1) / 8 := by
    have : (sizeLine : Nat) ≤ (2 ^ 63 - 1) / 8 := by decide
    omega
  have hfit : ¬ (!Builtin.List.listFitsIndex k) = true := by
    rw [fitsIndex_both h1 h2]
    exact Bool.false_ne_true
  have hlong : ¬ Builtin.List.listTooLong (its.toArray.size * k.toNat) = true := by
    rw [notLongL hlen]
    exact Bool.false_ne_true
  have hnew : List.foldl (fun x1 x2 => x1 ++ x2) #[] (List.replicate (if its.toArray.isEmpty = true then 0 else k.toNat) its.toArray) = (List.replicate k.toNat its).flatten.toArray := by
    have f0 : ∀ m : Nat, List.foldl (fun x1 x2 => x1 ++ x2) #[] (List.replicate m its.toArray) = (List.replicate m its).flatten.toArray := fun m => by
      have := foldl_rep its m []
      rw [List.nil_append] at this
      exact this
    rw [f0]
    cases its with
    | nil => simp
    | cons a r' => rw [if_neg (by simp)]
  refine wpAny_binaryOp_repeat_ref (T := "list") (U := "int") (by decide) ⟨_, e, rfl⟩ (fun s' => typeIs_int s' k t) noFill_list_mul F.fills_int_mul F.slot_int_rmul repeat_list F.slot_int_index.lookup
    (call_meets F.slot_int_rmul (typeIs_int s k t) F.entry_int_rmul (F.args_int_rmul_2 _ _) (int___rmul___int_list k t l its.toArray n)
      ⟨e, rfl, ⟨_, e, rfl⟩, call_meets F.slot_list_mul ⟨_, e, rfl⟩ F.entry_list_mul (F.args_list_mul_2 _ _) (AutoListH.list___mul___list_int_3 l its.toArray n k t hfit hcap hlong) ⟨e, ?_⟩⟩)
  rw [hnew]
  exact ⟨.ref _, _, I.lnew (t' := s.toks) (r.rep k.toNat) (by rw [PyProof.Rows.lm_len_rep_flat, Nat.mul_comm]; exact hz), rfl, q _ I.fresh⟩
/-- a text times an int -/
def rRepS : R2 := fun x y H Q => ∃ (a : List Nat) (n : Int), x = .str (cs a) ∧ y = .int n ∧ -(2 ^ 60) < n ∧ n < 2 ^ 60 ∧ a.length * n.toNat ≤ sizeLine ∧ Q (.str (cs (repS a n))) H
theorem foldl_cps (a : List Nat) : ∀ (k : Nat) (acc : List Nat), List.foldl (fun x1 x2 => x1 ++ x2) acc.toArray (List.replicate k a.toArray) = (acc ++ (List.replicate k a).flatten).toArray
  | 0, acc => by simp
  | k + 1, acc => by
    rw [List.replicate_succ, List.foldl_cons, List.append_toArray, foldl_cps a k, List.replicate_succ, List.flatten_cons, List.append_assoc]
theorem op_repS : OpR X (binaryOp .Mult) rRepS := by
  intro pins s σ H x y v u Q I rx ry h
  obtain ⟨a, n, rfl, rfl, h1, h2, hz, q⟩ := h
  obtain ⟨t, rfl⟩ := rx
  obtain ⟨t', rfl⟩ := ry
  have hc : (sizeLine : Nat) < 2 ^ 62 := by rw [sizeLine_eq]; decide
  refine PySem.P.mul_str (by simp; omega) (fun hn _ => ?_) (fun hn _ => ?_) ?_
  · rw [cs_len]
    have e : (2 ^ 63 - 1 : Int) / n ≥ a.length := by
      rw [ge_iff_le, Int.le_ediv_iff_mul_le (by omega)]
      have z : (a.length : Int) * n = ((a.length * n.toNat : Nat) : Int) := by
        rw [Int.natCast_mul, Int.toNat_of_nonneg (by omega)]
      rw [z]; omega
    omega
  · rw [cs_len]
    unfold Builtin.Str.tooLong
    simp
    exact hz
  · have fin : ∀ tk, EP X pins σ Q (.str (cs (repS a n)) tk) { s with toks := s.toks + 1 } := fun tk => ⟨.str (cs (repS a n)), H, I.tok _, ⟨_, rfl⟩, q⟩
    have fin0 : ∀ tk, EP X pins σ Q (.str (cs (repS a n)) tk) s := fun tk => ⟨.str (cs (repS a n)), H, I, ⟨_, rfl⟩, q⟩
    split
    · rename_i hn
      have e : repS a n = [] := by
        unfold repS
        have : n.toNat = 0 := by omega
        rw [this]; rfl
      refine ⟨by decide, ?_⟩
      have := fin s.toks
      rw [e] at this
      exact this
    · split
      · rename_i hn hv
        have e : repS a n = a := by
          unfold repS
          simp only [Bool.or_eq_true, beq_iff_eq] at hv
          rcases hv with hv | hv
          · subst hv; simp
          · rw [cs_len] at hv
            have : a = [] := List.length_eq_zero_iff.mp hv
            subst this; simp
        have := fin0 t
        rw [e] at this
        exact this
      · rename_i hn hv
        have e : (⟨List.foldl (fun x1 x2 => x1 ++ x2) #[] (List.replicate n.toNat (cs a).cps)⟩ : Str) = cs (repS a n) := by
          have := foldl_cps a n.toNat []
          simp only [List.nil_append] at this
          show (⟨List.foldl (fun x1 x2 => x1 ++ x2) ([] : List Nat).toArray (List.replicate n.toNat a.toArray)⟩ : Str) = _
          rw [this]; rfl
        rw [e]
        refine ⟨?_, fin s.toks⟩
        rw [cs_len]
        unfold repS
        rw [PyProof.Rows.lm_len_rep_flat, Nat.mul_comm]
        exact hz
end

/-! ### new tuples, their objects known -/
abbrev tobj (its : List Value) : Obj := { cls := .type "tuple", data := .seq its.toArray }
section
variable {X : L2.Cx} {pins : List (Addr × Obj)} {σ : L2.St} {H : Hp} {s : Shared} {xs : List V}
theorem laidT {its : List Value} {t' : Nat} (I : Inv X pins σ H s) (hv : Vals xs its) (hz : xs.length ≤ sizeLine) :
    Inv X pins σ (upd H s.heap.objs.size (.frz (tobj its) (.tup xs))) { s with heap := s.heap.push (tobj its), toks := t' } :=
  I.laid (t' := t') (o := .frz (tobj its) (.tup xs)) (fun b ob q => Heap.get?_push_of_some _ q) (Nat.le_refl _) ⟨Heap.get?_push_size _ rfl, hz, its, hv, IsTup.new _ _⟩
/-- what is wanted of a new tuple -/
def NewT (vs : List V) (H : Hp) (Q : VK) : Prop := ∀ (p : Addr) (o : Obj), H p = none → o.dict = none → Q (.ref p) (upd H p (.frz o (.tup vs)))
theorem newT_EP {its : List Value} {t' : Nat} {Q : VK} (I : Inv X pins σ H s) (hv : Vals xs its) (hz : xs.length ≤ sizeLine) (q : NewT xs H Q) : EP X pins σ Q (.ref s.heap.objs.size) { s with heap := s.heap.push (tobj its), toks := t' } :=
  ⟨.ref s.heap.objs.size, _, laidT I hv hz, rfl, q _ _ (I.hok.fresh (Nat.le_refl _)) rfl⟩
end
section
variable {X : L2.Cx}
def tTupF (t : TA) : TE := fun σ H Q => t σ H fun xs H1 => xs.length ≤ sizeLine ∧ NewT xs H1 Q
theorem pe_tupF {es : List Expr} {t : TA} {pos : Pos} {x1 : Nat} (h : PA X es t) : PE X (.Tuple es x1 pos) (tTupF t) := by
  refine ⟨fun pins s σ H Q I hq => ?_⟩
  refine wpAny_Tuple_spliced (thn (h.run pos pins s σ H _ I hq) fun us s1 ⟨xs, H1, I1, r, z, q⟩ => ⟨by rw [← r.length]; exact z, ?_⟩)
  exact newT_EP (t' := s1.toks) I1 r z q
def rCatF (K : PySem.W.Frag) : R2 := fun x y H Q => ∃ a b xs ys, x = .ref a ∧ y = .ref b ∧ SqT K H a xs ∧ SqT K H b ys ∧ xs.length + ys.length ≤ sizeLine ∧
  (xs = [] → Q (.ref b) H) ∧ (xs ≠ [] → ys = [] → Q (.ref a) H) ∧ (xs ≠ [] → ys ≠ [] → NewT (xs ++ ys) H Q)
theorem op_catF : OpR X (binaryOp .Add) (rCatF X.K) := by
  intro pins s σ H x y v u Q I rx ry h
  obtain ⟨a, b, xs, ys, rfl, rfl, ha, hb, hz, q0, q1, q2⟩ := h
  cases rx
  cases ry
  obtain ⟨its, r1, p1, _⟩ := I.tuple ha
  obtain ⟨its2, r2, p2, _⟩ := I.tuple hb
  by_cases hx : xs = []
  · subst hx
    cases r1
    exact cat_tup0 p1 p2 ⟨.ref b, H, I, rfl, q0 rfl⟩
  · refine HT.cat_tup p1 p2 (fun z => hx (r1.nil_iff.mp z)) (fun z => ⟨.ref a, H, I, rfl, q1 hx (r2.nil_iff.mp z)⟩) (fun z => ?_) (by rw [← r1.length, ← r2.length]; exact hz)
    exact newT_EP (t' := s.toks) I (r1.append r2) (by rw [List.length_append]; exact hz) (q2 hx fun w => z (r2.nil_iff.mpr w))
def rSlF (K : PySem.W.Frag) : V → Option Int → Option Int → Hp → VK → Prop := fun x lo hi H Q => ∃ a xs, x = .ref a ∧ SqT K H a xs ∧
  (HT.sIx xs.length 0 lo = 0 ∧ HT.sIx xs.length xs.length hi = xs.length → Q (.ref a) H) ∧ (¬ (HT.sIx xs.length 0 lo = 0 ∧ HT.sIx xs.length xs.length hi = xs.length) → NewT (cutV xs lo hi) H Q)
theorem sl_tupF : SlR X (rSlF X.K) := by
  intro pins s σ H x v vl vu lo hi sl Q I rx hs pl pu h
  obtain ⟨a, xs, rfl, hx, q1, q2⟩ := h
  cases rx
  obtain ⟨its, r, ht, hz⟩ := I.tuple hx
  have hlen : its.toArray.size = xs.length := by rw [List.size_toArray]; exact r.length.symm
  refine ⟨"tuple", _, PyProof.Rows.slot_tuple_getitem.lookup, ht.typeIs, ?_⟩
  by_cases hw : HT.sIx xs.length 0 lo = 0 ∧ HT.sIx xs.length xs.length hi = xs.length
  · exact getItem_tuple_whole ht hs pl pu (by rw [hlen]; exact hw) ⟨.ref a, H, I, rfl, q1 hw⟩
  · refine HT.getItem_tuple_cut ht hs pl pu (by rw [hlen]; exact hw) ?_ (by rw [hlen]; exact hz)
    rw [hlen]
    exact newT_EP (t' := s.toks) I ((r.drop (HT.sIx xs.length 0 lo)).take (HT.sIx xs.length xs.length hi - HT.sIx xs.length 0 lo)) (Nat.le_trans (cutV_length xs lo hi) hz) (q2 hw)
theorem call_tuple_ofF : CallR X (.type "tuple") (fun xs H Q => ∃ p ys, xs = [.ref p] ∧ ((SqL X.K H p ys ∧ NewT ys H Q) ∨ (SqT X.K H p ys ∧ Q (.ref p) H))) := by
  intro pins s σ H xs us Q I r h
  obtain ⟨p, ys, rfl, h⟩ := h
  obtain ⟨u, rfl, rx⟩ := vals1 r
  cases rx
  rcases h with ⟨hq, q⟩ | ⟨hq, q⟩
  · obtain ⟨its, r', pl, hz⟩ := I.list hq
    have hlen := r'.length
    refine call_tuple_list pl.isList (fun h' kp => ?_) (by simp only [List.size_toArray] <;> omega)
    have I1 : Inv X pins σ H { s with heap := h' } := I.kept (t' := s.toks) kp
    exact newT_EP (t' := s.toks) I1 r' hz q
  · obtain ⟨its, r', pl, hz⟩ := I.tuple hq
    exact call_tuple_same pl ⟨.ref p, H, I, rfl, q⟩
def tTupRgF (te : L2.St → Hp → (Int → Int → Hp → Prop) → Prop) : TE := fun σ H Q => te σ H fun a b H1 => RgOk a b ∧ NewT (rgV a b) H1 Q
theorem pe_tupRgF {e : Expr} {te : L2.St → Hp → (Int → Int → Hp → Prop) → Prop} {p pos : Pos} (hc : X.calm = true) (hg : Gl X "tuple") (hm : X.mg "tuple" = none) (he : PRg X e te) (na : starEach [e] X.env = (false, eval e X.env) :: starEach [] X.env) : PE X (.Call (.Name "tuple" p) [e] [] pos) (tTupRgF te) := by
  refine ⟨fun pins s σ H Q I h => ?_⟩
  refine Call_ (ld_blt I hg hm boot_tuple (PyProof.Rows.callWith_type1 (args_cons (thn (he pins s σ H _ I h) fun x s1 ⟨r, a, b, t, u, v, H1, ex, hr, I1, ok, q⟩ => args_nil ?_) na) na))
  subst ex
  obtain ⟨b1, b2, b3, b4, b5⟩ := ok
  refine call_tuple_range (n := (b - a).toNat) (I1.ok.hd hc) hr (small_one b1 b2 b3 b4) (rangeSize_nat a b) b5 fun h' tk acc hk hi => ?_
  have I2 : Inv X pins σ H1 { s1 with heap := h', toks := tk } := I1.kept hk
  have := newT_EP (t' := tk) (its := acc.toList) I2 (vals_rg hi) (by rw [rgV_length, sizeLine_eq]; omega) q
  rw [show tobj acc.toList = { cls := .type "tuple", data := .seq acc } by unfold tobj; rw [Array.toArray_toList]] at this
  exact this
end

def opB : Bop → Operator | .add => .Add | .sub => .Sub | .mul => .Mult | .fdiv => .FloorDiv | .mod => .Mod | .pow => .Pow
section
variable {X : L2.Cx} {W : Wx}
theorem op_powW : OpR X (binaryOp .Pow) (rI (fun i j => 0 ≤ j ∧ ((i.natAbs.log2 : Int) + 1) * j ≤ 2 ^ 27) fun i j => .int (i ^ j.toNat)) := opI fun i j _ _ _ _ _ hc q => by
  refine PyProof.Rows.pow_int hc.1 ?_ q
  have b : Builtin.Int.intBits i ≤ i.natAbs.log2 + 1 := by
    unfold Builtin.Int.intBits
    split <;> omega
  refine Int.le_trans (Int.mul_le_mul_of_nonneg_right ?_ hc.1) hc.2
  omega
theorem binop_ok (op : Bop) (fz : Bool) : OpR X (binaryOp (opB op)) (rD X.K X.mg W (binop op fz)) := by
  intro pins s σ H x y v u Q I rx ry h
  obtain ⟨G, F, m, st, d, e, S, r1, r2, k⟩ := h
  unfold binop at k
  split at k
  · obtain rfl := repInt r1; obtain rfl := repInt r2
    exact op_add pins s σ H _ _ v u Q I rx ry ⟨_, _, rfl, rfl, k.here S rInt⟩
  · obtain rfl := repInt r1; obtain rfl := repInt r2
    exact op_sub pins s σ H _ _ v u Q I rx ry ⟨_, _, rfl, rfl, k.here S rInt⟩
  · obtain rfl := repInt r1; obtain rfl := repInt r2
    split at k
    · rename_i hc
      simp only [mulOk, c64_v, Bool.or_eq_true, decide_eq_true_eq] at hc
      rcases hc with (hc | hc) | hc
      · exact op_mulW pins s σ H _ _ v u Q I rx ry ⟨_, _, rfl, rfl, hc, k.here S rInt⟩
      · exact op_mul pins s σ H _ _ v u Q I rx ry ⟨_, _, rfl, rfl, .inl hc, k.here S rInt⟩
      · exact op_mul pins s σ H _ _ v u Q I rx ry ⟨_, _, rfl, rfl, .inr hc, k.here S rInt⟩
    · exact k.elim
  · obtain rfl := repInt r1; obtain rfl := repInt r2
    split at k
    · rename_i hc
      rw [c30_v] at hc
      exact op_fdiv pins s σ H _ _ v u Q I rx ry ⟨_, _, rfl, rfl, hc, k.here S rInt⟩
    · exact k.elim
  · obtain rfl := repInt r1; obtain rfl := repInt r2
    split at k
    · rename_i hc
      exact op_mod pins s σ H _ _ v u Q I rx ry ⟨_, _, rfl, rfl, hc, k.here S rInt⟩
    · exact k.elim
  · obtain rfl := repInt r1; obtain rfl := repInt r2
    split at k
    · rename_i hc
      rw [c27_v] at hc
      exact op_powW pins s σ H _ _ v u Q I rx ry ⟨_, _, rfl, rfl, hc, k.here S rInt⟩
    · exact k.elim
  · obtain ⟨rfl, o1⟩ := repStr r1; obtain ⟨rfl, o2⟩ := repStr r2
    obtain ⟨hl, k⟩ := lim1_ok k
    exact op_add_str pins s σ H _ _ v u Q I rx ry ⟨_, _, rfl, rfl, by rw [cs_len, cs_len, ← lim_eq]; exact hl, by rw [cs_app]; exact k.here S (rStr (o1.app o2 hl))⟩
  · obtain ⟨rfl, o1⟩ := repStr r1; obtain rfl := repInt r2
    split at k
    · rename_i hc
      simp only [c60_v] at hc
      obtain ⟨hl, k⟩ := lim1_ok k
      refine op_repS pins s σ H _ _ v u Q I rx ry ⟨_, _, rfl, rfl, hc.2, hc.1, by rw [← lim_eq]; exact hl, k.here S (rStr ⟨?_, fun c hc => ?_⟩)⟩
      · unfold repS
        rw [PyProof.Rows.lm_len_rep_flat, Nat.mul_comm]; exact hl
      · unfold repS at hc
        obtain ⟨l, h1, h2⟩ := List.mem_flatten.mp hc
        rw [List.eq_of_mem_replicate h1] at h2
        exact o1.2 c h2
    · exact k.elim
  · rename_i a' b'
    obtain ⟨a, vs, rfl, h1, h2⟩ := repTup r1
    obtain ⟨b, ws, rfl, h3, h4⟩ := repTup r2
    obtain ⟨hl, k⟩ := lim1_ok k
    have l1 := h2.length
    have l2 := h4.length
    refine op_catF pins s σ H _ _ v u Q I rx ry ⟨a, b, vs, ws, rfl, rfl, sqT_mono S.sub h1, sqT_mono S.sub h3, by rw [← l1, ← l2, ← lim_eq]; exact hl, fun e => ?_, fun _ e => ?_, fun _ _ => k.newTup S (h2.append h4)⟩
    · subst e
      refine k.here S ?_
      have : a' = [] := List.length_eq_zero_iff.mp (by rw [l1]; rfl)
      subst this
      exact r2
    · subst e
      refine k.here S ?_
      have : b' = [] := List.length_eq_zero_iff.mp (by rw [l2]; rfl)
      subst this
      rw [List.append_nil]
      exact r1
  · split at k
    · rename_i a b e1 e2
      obtain ⟨p, vs, rfl, h1, h2⟩ := asList_ok S r1 e1
      obtain ⟨q, ws, rfl, h3, h4⟩ := asList_ok S r2 e2
      obtain ⟨hl, k⟩ := lim1_ok k
      exact op_catR pins s σ H _ _ v u Q I rx ry ⟨p, q, vs, ws, rfl, rfl, .inl h1, .inl h3, by rw [← h2.length, ← h4.length, ← lim_eq]; exact hl, k.newLst S (h2.append h4)⟩
    · exact k.elim
  · obtain rfl := repInt r2
    split at k
    · rename_i a e1
      obtain ⟨p, vs, rfl, h1, h2⟩ := asList_ok S r1 e1
      split at k
      · rename_i hc
        simp only [c60_v] at hc
        obtain ⟨hl, k⟩ := lim1_ok k
        exact op_repR pins s σ H _ _ v u Q I rx ry ⟨p, _, vs, rfl, rfl, .inl h1, by omega, by omega, by rw [← h2.length, ← lim_eq]; exact hl, k.newLst S (h2.rep _)⟩
      · exact k.elim
    · exact k.elim
  · exact k.elim

/-! ### comparisons -/
def opC : Cop → CmpOp | .eq => .Eq | .ne => .NotEq | .lt => .Lt | .le => .LtE | .gt => .Gt | .ge => .GtE | .isN => .Is | .notN => .IsNot | .isB => .Is | .notB => .IsNot | .inn => .In | .notin => .NotIn
/-- a reading of a comparison -/
def rC (K : PySem.W.Frag) (f : D → D → Store → Option Bool) : R2 := fun x y H Q => ∃ G F m st d e b, Sim K G F H m st ∧ Rep K F m d x ∧ Rep K F m e y ∧ f d e st = some b ∧ Q (.bl b) H
theorem eqD_ok {K : PySem.W.Frag} {G F H : Hp} {m : List Addr} {st : Store} {d e : D} {x y : V} {b : Bool} (S : Sim K G F H m st) (r1 : Rep K F m d x) (r2 : Rep K F m e y) (h : eqD st d e = some b) :
    ∃ p q, Dp K H x p ∧ Dp K H y q ∧ SeqAt.shaped p = true ∧ SeqAt.shaped q = true ∧ b = PyData.eqv p q := by
  unfold eqD at h
  split at h
  · rename_i p q e1 e2
    split at h
    · rename_i hd
      cases h
      exact ⟨p, q, toPy_ok S e1 r1, toPy_ok S e2 r2, shaped_of (toPy_lay S e1 r1) hd.1, shaped_of (toPy_lay S e2 r2) hd.2, rfl⟩
    · cases h
  · cases h
def rInT (K : PySem.W.Frag) (neg : Bool) : R2 := fun x y H Q => ∃ d ds, Dp K H x d ∧ (Dp K H y (.list ds) ∨ Dp K H y (.tuple ds)) ∧ SeqAt.shaped d = true ∧ PyData.canLayAll0 ds = true ∧ Q (.bl (if neg then !(ds.any fun z => PyData.eqv z d) else ds.any fun z => PyData.eqv z d)) H
theorem op_inT (hu : X.A.units + 65 < cLine) : OpR X (compareOp .In) (rInT X.K false) := by
  intro pins s σ H x y v u Q I rx ry h
  obtain ⟨d, ds, hd, he, sd, se, q⟩ := h
  obtain ⟨as, r1⟩ := Dp.reads I d x v hd rx
  rcases he with he | he
  · obtain ⟨bs, r2⟩ := Dp.reads I (.list ds) y u he ry
    exact SeqAt.in_list_reads r2 r1 se (SeqAt.canLay_of_shaped sd) (room_in_shaped sd hu) ⟨.bl _, H, I, rfl, q⟩
  · obtain ⟨bs, r2⟩ := Dp.reads I (.tuple ds) y u he ry
    exact SeqAt.in_tuple_reads r2 r1 se (SeqAt.canLay_of_shaped sd) (room_in_shaped sd hu) ⟨.bl _, H, I, rfl, q⟩
theorem op_notInT (hu : X.A.units + 65 < cLine) : OpR X (compareOp .NotIn) (rInT X.K true) := by
  intro pins s σ H x y v u Q I rx ry h
  obtain ⟨d, ds, hd, he, sd, se, q⟩ := h
  obtain ⟨as, r1⟩ := Dp.reads I d x v hd rx
  rcases he with he | he
  · obtain ⟨bs, r2⟩ := Dp.reads I (.list ds) y u he ry
    exact SeqAt.notIn_list_reads r2 r1 se (SeqAt.canLay_of_shaped sd) (room_in_shaped sd hu) ⟨.bl _, H, I, rfl, q⟩
  · obtain ⟨bs, r2⟩ := Dp.reads I (.tuple ds) y u he ry
    exact SeqAt.notIn_tuple_reads r2 r1 se (SeqAt.canLay_of_shaped sd) (room_in_shaped sd hu) ⟨.bl _, H, I, rfl, q⟩
theorem memD_ok {K : PySem.W.Frag} {G F H : Hp} {m : List Addr} {st : Store} {d : D} {ds : List D} {x : V} {b : Bool} {a : Addr} {vs : List V} (S : Sim K G F H m st) (r1 : Rep K F m d x) (hs : SqL K H a vs ∨ SqT K H a vs) (r2 : RepL K F m ds vs) (h : memD st d ds = some b) :
    ∃ p ps, Dp K H x p ∧ (Dp K H (.ref a) (.list ps) ∨ Dp K H (.ref a) (.tuple ps)) ∧ SeqAt.shaped p = true ∧ PyData.canLayAll0 ps = true ∧ b = ps.any fun z => PyData.eqv z p := by
  unfold memD at h
  split at h
  · rename_i p ps e1 e2
    split at h
    · rename_i hd
      cases h
      have q := pyL_ok S (fun n p v => pyRec_ok S 3 n p v) ds vs ps e2 r2
      refine ⟨p, ps, toPy_ok S e1 r1, ?_, shaped_of (toPy_lay S e1 r1) hd.1, DpL.lay (fun n p v => pyRec_lay S 3 n p v) ds vs ps e2 r2, rfl⟩
      rcases hs with hs | hs
      · exact .inl (.lst hs q)
      · exact .inr (.tup hs q)
    · cases h
  · cases h
theorem keyEq_iff {a b : D} {p q : Key} (ha : dkey a = some p) (hb : dkey b = some q) : keyEq a b = decide (p = q) := by
  cases a <;> simp [dkey] at ha <;> cases b <;> simp [dkey] at hb <;> subst ha <;> subst hb <;> simp [keyEq]
  all_goals first
    | (rw [Bool.eq_iff_iff]; simp; done)
    | (rw [Bool.eq_iff_iff]; simp [cs])
theorem keyD_dkey {k : D} (h : keyD k = true) : ∃ q, dkey k = some q := by
  cases k <;> simp [keyD] at h <;> exact ⟨_, rfl⟩
theorem keyV {K : PySem.W.Frag} {F : Hp} {m : List Addr} {k : D} {q : Key} {v : V} (h : dkey k = some q) (r : Rep K F m k v) : v = kV q := by
  cases k <;> simp [dkey] at h <;> subst h
  · exact repInt r
  · exact (repStr r).1
end
end T
set_option Elab.async false
set_option linter.all false
set_option autoImplicit false
set_option maxRecDepth 100000
set_option maxHeartbeats 4000000
/-! # T3: comparisons, subscripts, built-ins, methods -/
namespace T
open PySem PySem.Spec PyProof.Rows L2

section
variable {K : PySem.W.Frag} {G F H : Hp} {m : List Addr} {st : Store}
theorem RepKV.val : ∀ {kvs : List (D × D)} {ks : List (Key × V)} {k : D} {q : Key}, RepKV K F m kvs ks → dkey k = some q → (∀ d, look kvs k = some d → ∃ v, valV ks q = some v ∧ Rep K F m d v) ∧ (look kvs k = none → valV ks q = none)
  | [], ks, k, q, h, e => by
    simp only [RepKV] at h; subst h
    exact ⟨fun d h => by simp [look] at h, fun _ => rfl⟩
  | (a, b) :: r, ks, k, q, h, e => by
    simp only [RepKV] at h
    obtain ⟨p, v, s, rfl, h1, h2, h3, h4⟩ := h
    have ih := RepKV.val h4 e
    have ke : keyEq a k = decide (p = q) := keyEq_iff h1 e
    by_cases hpq : p = q
    · have kt : keyEq a k = true := by rw [ke, decide_eq_true hpq]
      have e1 : look ((a, b) :: r) k = some b := by simp [look, List.find?_cons, kt]
      have e2 : valV ((p, v) :: s) q = some v := valV_pos hpq
      exact ⟨fun d hd => by rw [e1] at hd; cases hd; exact ⟨v, e2, h3⟩, fun hn => by rw [e1] at hn; cases hn⟩
    · have kf : keyEq a k = false := by rw [ke, decide_eq_false hpq]
      have e1 : look ((a, b) :: r) k = look r k := by simp [look, List.find?_cons, kf]
      have e2 : valV ((p, v) :: s) q = valV s q := valV_neg hpq
      rw [e1, e2]; exact ih
theorem RepKV.length : ∀ {kvs : List (D × D)} {ks : List (Key × V)}, RepKV K F m kvs ks → kvs.length = ks.length
  | [], ks, h => by simp only [RepKV] at h; subst h; rfl
  | (a, b) :: r, ks, h => by
    simp only [RepKV] at h
    obtain ⟨p, v, s, rfl, h1, h2, h3, h4⟩ := h
    simp [RepKV.length h4]
theorem RepKV.app : ∀ {kvs : List (D × D)} {ks : List (Key × V)} {k d : D} {q : Key} {v : V}, RepKV K F m kvs ks → dkey k = some q → Rep K F m k (kV q) → Rep K F m d v → RepKV K F m (kvs ++ [(k, d)]) (ks ++ [(q, v)])
  | [], ks, k, d, q, v, h, e, r1, r2 => by
    simp only [RepKV] at h; subst h
    simp only [List.nil_append, RepKV]
    exact ⟨q, v, [], rfl, e, r1, r2, rfl⟩
  | (a, b) :: r, ks, k, d, q, v, h, e, r1, r2 => by
    simp only [RepKV] at h
    obtain ⟨p, w, s, rfl, h1, h2, h3, h4⟩ := h
    have ih := RepKV.app h4 e r1 r2
    simp only [List.cons_append, RepKV]
    exact ⟨p, w, s ++ [(q, v)], rfl, h1, h2, h3, ih⟩
theorem RepKV.any : ∀ {kvs : List (D × D)} {ks : List (Key × V)} {k : D} {q : Key}, RepKV K F m kvs ks → dkey k = some q → (kvs.any fun p => keyEq p.1 k) = ks.any fun p => decide (p.1 = q)
  | [], ks, k, q, h, e => by simp only [RepKV] at h; subst h; rfl
  | (a, b) :: r, ks, k, q, h, e => by
    simp only [RepKV] at h
    obtain ⟨p, w, s, rfl, h1, h2, h3, h4⟩ := h
    simp only [List.any_cons, RepKV.any h4 e, keyEq_iff h1 e]
theorem RepKV.map : ∀ {kvs : List (D × D)} {ks : List (Key × V)} {k d : D} {q : Key} {v : V}, RepKV K F m kvs ks → dkey k = some q → Rep K F m d v → RepKV K F m (kvs.map fun p => if keyEq p.1 k then (p.1, d) else p) (ks.map fun p => if p.1 = q then (p.1, v) else p)
  | [], ks, k, d, q, v, h, e, r => by simp only [RepKV] at h; subst h; simp [RepKV]
  | (a, b) :: r, ks, k, d, q, v, h, e, rd => by
    simp only [RepKV] at h
    obtain ⟨p, w, s, rfl, h1, h2, h3, h4⟩ := h
    have ih := RepKV.map h4 e rd
    simp only [List.map_cons, keyEq_iff h1 e]
    by_cases hpq : p = q
    · simp only [hpq, decide_true, if_true, RepKV]
      subst hpq
      exact ⟨p, v, _, rfl, h1, h2, rd, ih⟩
    · simp only [hpq, decide_false, Bool.false_eq_true, if_false, RepKV]
      exact ⟨p, w, _, rfl, h1, h2, h3, ih⟩
theorem RepKV.put {kvs : List (D × D)} {ks : List (Key × V)} {k d : D} {q : Key} {v : V} (h : RepKV K F m kvs ks) (e : dkey k = some q) (r1 : Rep K F m k (kV q)) (r2 : Rep K F m d v) : RepKV K F m (T.put kvs k d) (putK ks q v) := by
  unfold T.put putK
  rw [h.any e]
  split
  · exact h.map e r2
  · exact h.app e r1 r2
theorem Sim.dict (S : Sim K G F H m st) {n : Nat} {kvs : List (D × D)} (h : st[n]? = some (.dK kvs)) : ∃ a ks, m[n]? = some a ∧ F a = none ∧ H a = some (.dK ks) ∧ RepKV K F m kvs ks := by
  obtain ⟨a, e, f, ks, h1, h2⟩ := S.at h
  exact ⟨a, ks, e, f, h1, h2⟩
theorem dget_ok (S : Sim K G F H m st) {n : Nat} {kvs : List (D × D)} {k : D} {x y : V} (h : st[n]? = some (.dK kvs)) (hk : keyD k = true) (r : Rep K F m (.ref n) x) (r2 : Rep K F m k y) :
    ∃ a o, x = .ref a ∧ DGet H a y o ∧ (∀ d, look kvs k = some d → ∃ v, o = some v ∧ Rep K F m d v) ∧ (look kvs k = none → o = none) := by
  obtain ⟨a, ks, e, f, h1, h2⟩ := S.dict h
  obtain ⟨b, rfl, e'⟩ := repRef r
  rw [e] at e'; cases e'
  obtain ⟨q, hq⟩ := keyD_dkey hk
  have := keyV hq r2
  subst this
  obtain ⟨v1, v2⟩ := h2.val hq
  exact ⟨a, valV ks q, rfl, DGet.k h1, v1, v2⟩
end

section
variable {X : L2.Cx} {W : Wx}
theorem is_bl_plain {v : Value} {b : Bool} {x : V} (r : RelV x v) : PySem.plainIs v (.bool b) = true := by
  cases x with
  | non => cases r; rfl
  | bl _ => cases r; rfl
  | int _ => obtain ⟨t, rfl⟩ := r; rfl
  | str _ => obtain ⟨t, rfl⟩ := r; rfl
  | byt _ => obtain ⟨t, rfl⟩ := r; rfl
  | flt _ => obtain ⟨t, rfl⟩ := r; rfl
  | ref _ => cases r; rfl
  | ty _ => cases r; rfl
theorem ne_bl {v : Value} {b : Bool} {x : V} (r : RelV x v) (h : x ≠ .bl b) : v ≠ .bool b := by
  intro e; subst e
  cases x with
  | bl c =>
    have q : Value.bool b = Value.bool c := r
    cases q; exact h rfl
  | non => have q : Value.bool b = Value.none := r; cases q
  | int _ => obtain ⟨t, e⟩ := r; cases e
  | str _ => obtain ⟨t, e⟩ := r; cases e
  | byt _ => obtain ⟨t, e⟩ := r; cases e
  | flt _ => obtain ⟨t, e⟩ := r; cases e
  | ref _ => have q : Value.bool b = Value.ref _ := r; cases q
  | ty _ => have q : Value.bool b = Value.type _ := r; cases q
theorem isBl_any : OpR X (compareOp .Is) (fun x y H Q => ∃ b, y = .bl b ∧ Q (.bl (decide (x = .bl b))) H) := by
  intro pins s σ H x y v u Q I rx ry h
  obtain ⟨b, rfl, q⟩ := h
  cases (show u = Value.bool b from ry)
  by_cases e : x = .bl b
  · subst e
    cases (show v = Value.bool b from rx)
    exact wpAny_is_self rfl ⟨.bl true, H, I, rfl, by simpa using q⟩
  · exact wpAny_is_other (is_bl_plain rx) (ne_bl rx e) ⟨.bl false, H, I, rfl, by simpa [e] using q⟩
theorem notBl_any : OpR X (compareOp .IsNot) (fun x y H Q => ∃ b, y = .bl b ∧ Q (.bl (!decide (x = .bl b))) H) := by
  intro pins s σ H x y v u Q I rx ry h
  obtain ⟨b, rfl, q⟩ := h
  cases (show u = Value.bool b from ry)
  by_cases e : x = .bl b
  · subst e
    cases (show v = Value.bool b from rx)
    exact wpAny_isNot_self rfl ⟨.bl false, H, I, rfl, by simpa using q⟩
  · exact wpAny_isNot_other (is_bl_plain rx) (ne_bl rx e) ⟨.bl true, H, I, rfl, by simpa [e] using q⟩
theorem rep_ne_bl {K : PySem.W.Frag} {F : Hp} {m : List Addr} {d : D} {x : V} {b : Bool} (r : Rep K F m d x) (h : ∀ c, d ≠ .bl c) : x ≠ .bl b := by
  intro e; subst e
  cases d <;> simp [Rep] at r
  exact h _ rfl
theorem rep_non_iff {K : PySem.W.Frag} {F : Hp} {m : List Addr} {d : D} {x : V} (r : Rep K F m d x) (h : d ≠ .non) : decide (x = .non) = false := by
  rw [decide_eq_false]
  intro e; subst e
  cases d <;> simp [Rep] at r
  exact h rfl
theorem lists_of {K : PySem.W.Frag} {G F H : Hp} {m : List Addr} {st : Store} (S : Sim K G F H m st) {d : D} {y : V} {ds : List D} (r : Rep K F m d y) (h : asSeq st d = some ds) : ∃ a vs, y = .ref a ∧ (SqL K H a vs ∨ SqT K H a vs) ∧ RepL K F m ds vs := asSeq_ok S r h
theorem isIn_ok {K : PySem.W.Frag} {G F H : Hp} {m : List Addr} {st : Store} (S : Sim K G F H m st) {d e : D} {x y : V} {b : Bool} (r1 : Rep K F m d x) (r2 : Rep K F m e y) (h : isIn d e st = some b) :
    (∃ (c : Nat) (z : Str), x = .str ⟨#[c]⟩ ∧ y = .str z ∧ b = decide (c ∈ z.cps.toList)) ∨
    (∃ p ps, Dp K H x p ∧ (Dp K H y (.list ps) ∨ Dp K H y (.tuple ps)) ∧ SeqAt.shaped p = true ∧ PyData.canLayAll0 ps = true ∧ b = ps.any fun z => PyData.eqv z p) ∨
    ∃ a o, y = .ref a ∧ DGet H a x o ∧ b = o.isSome := by
  unfold isIn at h
  split at h
  · simp at h; subst h
    obtain ⟨rfl, _⟩ := repStr r1
    obtain ⟨rfl, _⟩ := repStr r2
    refine .inl ⟨_, _, rfl, rfl, ?_⟩
    simp [cs]
  · split at h
    · rename_i ds hq
      obtain ⟨a, vs, e1, e2, e3, e4⟩ := S.lst hq
      obtain ⟨a', rfl, e5⟩ := repRef r2
      rw [e1] at e5; cases e5
      exact .inr (.inl (memD_ok S r1 (.inl (.inl (.inl e3))) e4 h))
    · rename_i kvs hq
      split at h
      · rename_i hk
        cases h
        obtain ⟨a, o, rfl, g, g1, g2⟩ := dget_ok S hq hk r2 r1
        refine .inr (.inr ⟨a, o, rfl, g, ?_⟩)
        cases hl : look kvs d with
        | none => rw [g2 hl]; rfl
        | some w => obtain ⟨v, rfl, _⟩ := g1 w hl; rfl
      · cases h
    · cases h
  · obtain ⟨a, vs, rfl, h1, h2⟩ := repLst r2
    exact .inr (.inl (memD_ok S r1 (.inl (.inl (.inl (S.sub _ _ h1)))) h2 h))
  · obtain ⟨a, vs, rfl, h1, h2⟩ := repTup r2
    exact .inr (.inl (memD_ok S r1 (.inr (sqT_mono S.sub h1)) h2 h))
  · cases h
theorem cmpop_ok (hu : X.A.units + 65 < cLine) (op : Cop) : OpR X (compareOp (opC op)) (rC X.K (cmpop op)) := by
  intro pins s σ H x y v u Q I rx ry h
  obtain ⟨G, F, m, st, d, e, b, S, r1, r2, k, q⟩ := h
  unfold cmpop at k
  split at k
  · obtain ⟨p, p', h1, h2, h3, h4, rfl⟩ := eqD_ok S r1 r2 k
    exact op_eqD (by omega) pins s σ H x y v u Q I rx ry ⟨p, p', h1, h2, h3, h4, q⟩
  · obtain ⟨b', k', rfl⟩ := Option.map_eq_some_iff.mp k
    obtain ⟨p, p', h1, h2, h3, h4, rfl⟩ := eqD_ok S r1 r2 k'
    exact op_neD (by omega) pins s σ H x y v u Q I rx ry ⟨p, p', h1, h2, h3, h4, q⟩
  · obtain rfl := repInt r1; obtain rfl := repInt r2; cases k
    exact op_lt pins s σ H _ _ v u Q I rx ry ⟨_, _, rfl, rfl, q⟩
  · obtain rfl := repInt r1; obtain rfl := repInt r2; cases k
    exact op_le pins s σ H _ _ v u Q I rx ry ⟨_, _, rfl, rfl, q⟩
  · obtain rfl := repInt r1; obtain rfl := repInt r2; cases k
    exact op_gt pins s σ H _ _ v u Q I rx ry ⟨_, _, rfl, rfl, q⟩
  · obtain rfl := repInt r1; obtain rfl := repInt r2; cases k
    exact op_ge pins s σ H _ _ v u Q I rx ry ⟨_, _, rfl, rfl, q⟩
  · split at k
    · rename_i n n' e1 e2
      cases k
      obtain ⟨a, vs, rfl, h1, h2⟩ := repTup r1
      obtain ⟨a', vs', rfl, h3, h4⟩ := repTup r2
      have := h2.ints e1
      subst this
      have := h4.ints e2
      subst this
      exact op_ltT (by omega) pins s σ H _ _ v u Q I rx ry ⟨a, a', n, n', rfl, rfl, sqT_mono S.sub h1, sqT_mono S.sub h3, q⟩
    · cases k
  · obtain rfl := repNon r1; obtain rfl := repNon r2; cases k
    exact op_isN pins s σ H _ _ v u Q I rx ry ⟨rfl, q⟩
  · rename_i hd
    obtain rfl := repNon r2; cases k
    exact op_isN pins s σ H _ _ v u Q I rx ry ⟨rfl, by rw [rep_non_iff r1 (fun z => hd (by first | exact z | (subst z; rfl)))]; exact q⟩
  · obtain rfl := repNon r1; obtain rfl := repNon r2; cases k
    exact op_notN pins s σ H _ _ v u Q I rx ry ⟨rfl, q⟩
  · rename_i hd
    obtain rfl := repNon r2; cases k
    exact op_notN pins s σ H _ _ v u Q I rx ry ⟨rfl, by rw [rep_non_iff r1 (fun z => hd (by first | exact z | (subst z; rfl)))]; exact q⟩
  · obtain rfl := repBl r1; obtain rfl := repBl r2; cases k
    exact isBl_any pins s σ H _ _ v u Q I rx ry ⟨_, rfl, by simpa using q⟩
  · rename_i hd
    obtain rfl := repBl r2; cases k
    exact isBl_any pins s σ H _ _ v u Q I rx ry ⟨_, rfl, by rw [decide_eq_false (rep_ne_bl r1 fun c z => hd c (by first | exact z | (subst z; rfl)))]; exact q⟩
  · obtain rfl := repBl r1; obtain rfl := repBl r2; cases k
    exact notBl_any pins s σ H _ _ v u Q I rx ry ⟨_, rfl, by simpa using q⟩
  · rename_i hd
    obtain rfl := repBl r2; cases k
    exact notBl_any pins s σ H _ _ v u Q I rx ry ⟨_, rfl, by rw [decide_eq_false (rep_ne_bl r1 fun c z => hd c (by first | exact z | (subst z; rfl)))]; exact q⟩
  · rcases isIn_ok S r1 r2 k with ⟨c, z, rfl, rfl, rfl⟩ | ⟨p, ps, h1, h2, h3, h4, rfl⟩ | ⟨a, o, rfl, g, rfl⟩
    · exact op_in_sign pins s σ H _ _ v u Q I rx ry ⟨c, z, rfl, rfl, q⟩
    · exact op_inT hu pins s σ H _ _ v u Q I rx ry ⟨p, ps, h1, h2, h3, h4, q⟩
    · cases (show u = Value.ref a from ry)
      exact d_in (by omega) I g rx fun s' I' => ⟨.bl o.isSome, H, I', rfl, q⟩
  · obtain ⟨b', k', rfl⟩ := Option.map_eq_some_iff.mp k
    rcases isIn_ok S r1 r2 k' with ⟨c, z, rfl, rfl, rfl⟩ | ⟨p, ps, h1, h2, h3, h4, rfl⟩ | ⟨a, o, rfl, g, rfl⟩
    · exact op_notIn_sign pins s σ H _ _ v u Q I rx ry ⟨c, z, rfl, rfl, q⟩
    · exact op_notInT hu pins s σ H _ _ v u Q I rx ry ⟨p, ps, h1, h2, h3, h4, q⟩
    · cases (show u = Value.ref a from ry)
      exact d_notIn (by omega) I g rx fun s' I' => ⟨.bl (!o.isSome), H, I', rfl, q⟩
  · cases k
end
end T
set_option Elab.async false
set_option linter.all false
set_option autoImplicit false
set_option maxRecDepth 100000
set_option maxHeartbeats 4000000
/-! # T4: subscripts, slices, built-ins, methods, stores -/
namespace T
open PySem PySem.Spec PyProof.Rows L2

section
variable {K : PySem.W.Frag} {mg : Str → Option Value} {G F F' H : Hp} {m m' : List Addr} {st : Store} {W : Wx} {Q : VK}
theorem ofO_ok {o : Option D} (k : Kon K G mg (Rep K) W F m Q (ofO o st)) : ∃ d, o = some d ∧ Kon K G mg (Rep K) W F m Q (.ok d st) := by
  cases o with
  | none => exact k.elim
  | some d => exact ⟨d, rfl, k⟩
theorem atI_rep {ds : List D} {vs : List V} {i : Int} {d : D} (r : RepL K F m ds vs) (h : atI ds i = some d) : ∃ v, atI vs i = some v ∧ Rep K F m d v := by
  unfold atI at h ⊢
  rw [r.length] at h
  cases e : ixN vs.length i with
  | none => rw [e] at h; cases h
  | some j =>
    rw [e] at h
    obtain ⟨v, h1, h2⟩ := r.get (i := j) (d := d) h
    exact ⟨v, h1, h2⟩
theorem StrOk.one {c : Nat} {s : List Nat} (h : StrOk s) (hc : c ∈ s) : StrOk [c] := ⟨by show 1 ≤ lim; rw [lim_v]; omega, fun x hx => by
  have e : x = c := by simpa using hx
  rw [e]; exact h.2 c hc⟩
theorem atI_mem {α : Type} {s : List α} {i : Int} {c : α} (h : atI s i = some c) : c ∈ s := by
  unfold atI at h
  cases e : ixN s.length i with
  | none => rw [e] at h; cases h
  | some j => rw [e] at h; exact List.mem_of_getElem? h
theorem index_len {s : List Nat} : (cs s).cps.toList = s := rfl
end

section
variable {X : L2.Cx} {W : Wx}
def rIxDk : R2 := fun x y H Q => ∃ a v, x = .ref a ∧ DGet H a y (some v) ∧ Q v H
theorem ix_dict (hu : X.A.units + 1 < cLine) : IxR X rIxDk := by
  intro value slice pins s σ H x y v u Q I rx ry h hs
  obtain ⟨a, w, rfl, g, q⟩ := h
  cases (show v = Value.ref a from rx)
  have hT := dict_typeIs I g
  unfold subscriptTail
  refine wpAny_bind ?_
  rw [getitemInPython_of_ne hT.not_modules]
  refine wpAny_bind (wpAny_specialOf hT PySem.F.slot_dict_getitem.lookup ?_)
  have fin : wpAny (model X.prog X.w) X.A (subscripted slice false (.ref a) u) (fun r s₃ => wpAny (model X.prog X.w) X.A (letTemporaryGo value (.ref a) r >>= fun _ => pure r) (EP X pins σ Q) X.xe s₃) X.xe s := by
    rw [hs]
    exact wpAny_operating (d_getItem hu I g ry fun w' s' I' rw' => wpAny_bind (wpAny_letTemporaryGo (wpAny_pure ⟨w, H, I', rw', q⟩)))
  first
    | exact wpAny_pure (wpAny_bind fin)
    | exact wpAny_bind (wpAny_pure (wpAny_bind fin))
    | exact wpAny_bind fin
theorem index_ok (hu : X.A.units + 1 < cLine) : IxR X (rD X.K X.mg W index) := by
  intro value slice pins s σ H x y v u Q I rx ry h hs
  obtain ⟨G, F, m, st, d, e, S, r1, r2, k⟩ := h
  unfold index at k
  split at k
  · obtain ⟨rfl, o1⟩ := repStr r1; obtain rfl := repInt r2
    split at k
    · rename_i c hc
      exact ix_str value slice pins s σ H _ _ v u Q I rx ry ⟨_, _, c, rfl, rfl, by rw [cs_len, ← lim_eq]; exact o1.1, hc, k.here S (rStr (o1.one (atI_mem hc)))⟩ hs
    · exact k.elim
  · split at k
    · rename_i ds i hq
      obtain rfl := repInt r2
      obtain ⟨w, e1, k⟩ := ofO_ok k
      obtain ⟨a, vs, g, f, h1, h2⟩ := S.lst hq
      obtain ⟨b, rfl, g'⟩ := repRef r1
      rw [g] at g'; cases g'
      obtain ⟨z, e2, e3⟩ := atI_rep h2 e1
      exact ix_list value slice pins s σ H _ _ v u Q I rx ry ⟨a, vs, i, z, rfl, rfl, .inl (.inl h1), e2, k.here S e3⟩ hs
    · rename_i kvs hq
      split at k
      · rename_i hk
        obtain ⟨w, e1, k⟩ := ofO_ok k
        obtain ⟨a, o, rfl, g, g1, g2⟩ := dget_ok S hq hk r1 r2
        obtain ⟨z, rfl, e3⟩ := g1 w e1
        exact ix_dict hu value slice pins s σ H _ _ v u Q I rx ry ⟨a, z, rfl, g, k.here S e3⟩ hs
      · exact k.elim
    · exact k.elim
  · obtain rfl := repInt r2
    obtain ⟨w, e1, k⟩ := ofO_ok k
    obtain ⟨a, vs, rfl, h1, h2⟩ := repTup r1
    obtain ⟨z, e2, e3⟩ := atI_rep h2 e1
    exact ix_tup value slice pins s σ H _ _ v u Q I rx ry ⟨a, vs, _, z, rfl, rfl, sqT_mono S.sub h1, e2, k.here S e3⟩ hs
  · obtain rfl := repInt r2
    obtain ⟨w, e1, k⟩ := ofO_ok k
    obtain ⟨a, vs, rfl, h1, h2⟩ := repLst r1
    obtain ⟨z, e2, e3⟩ := atI_rep h2 e1
    exact ix_list value slice pins s σ H _ _ v u Q I rx ry ⟨a, vs, _, z, rfl, rfl, .inl (.inl (S.sub _ _ h1)), e2, k.here S e3⟩ hs
  · exact k.elim

/-! ### slices -/
theorem cut_cutV {vs : List V} {lo hi : Option Int} : cut vs lo hi = cutV vs lo hi := rfl
theorem RepL.cut {K : PySem.W.Frag} {F : Hp} {m : List Addr} {ds : List D} {vs : List V} {lo hi : Option Int} (h : RepL K F m ds vs) : RepL K F m (T.cut ds lo hi) (cutV vs lo hi) := by
  unfold T.cut cutV
  rw [h.length]
  exact (h.drop _).take _
def rSlD (K : PySem.W.Frag) (mg : Str → Option Value) (W : Wx) (fz : Bool) : V → Option Int → Option Int → Hp → VK → Prop := fun x l h H Q => ∃ G F m st d, Sim K G F H m st ∧ Rep K F m d x ∧
  Kon K G mg (Rep K) W F m Q (slice fz d l h st)
theorem cutS_cs (s : List Nat) (lo hi : Option Int) : cutS (cs s) lo hi = cs (cut s lo hi) := by
  apply TL.ext_tl
  rfl
theorem slice_ok (fz : Bool) : SlR X (rSlD X.K X.mg W fz) := by
  intro pins s σ H x v vl vu lo hi sl Q I rx hs pl pu h
  obtain ⟨G, F, m, st, d, S, r1, k⟩ := h
  unfold slice at k
  split at k
  · obtain ⟨rfl, o1⟩ := repStr r1
    refine sl_str pins s σ H _ v vl vu lo hi sl Q I rx hs pl pu ⟨_, rfl, by rw [cs_len, ← lim_eq]; exact o1.1, ?_⟩
    rw [cutS_cs]
    exact k.here S (rStr (o1.sub (by unfold cut; exact (List.take_sublist _ _).trans (List.drop_sublist _ _))))
  · obtain ⟨a, vs, rfl, h1, h2⟩ := repTup r1
    refine sl_tupF pins s σ H _ v vl vu lo hi sl Q I rx hs pl pu ⟨a, vs, rfl, sqT_mono S.sub h1, fun hw => ?_, fun _ => k.newTup S h2.cut⟩
    refine k.here S ?_
    rename_i ds
    have : cut ds lo hi = ds := by
      unfold cut
      rw [h2.length, hw.1, hw.2, List.drop_zero, Nat.sub_zero, ← h2.length, List.take_length]
    rw [this]; exact r1
  · split at k
    · rename_i ds e1
      obtain ⟨a, vs, rfl, h1, h2⟩ := asList_ok S r1 e1
      exact sl_list pins s σ H _ v vl vu lo hi sl Q I rx hs pl pu ⟨a, vs, rfl, .inl (.inl h1), k.newLst S h2.cut⟩
    · exact k.elim

/-! ### built-ins -/
def rB (K : PySem.W.Frag) (mg : Str → Option Value) (W : Wx) (f : List D → Store → R D) : List V → Hp → VK → Prop := fun vs H Q => ∃ G F m st ds, Sim K G F H m st ∧ RepL K F m ds vs ∧ Kon K G mg (Rep K) W F m Q (f ds st)
theorem repL1 {K : PySem.W.Frag} {F : Hp} {m : List Addr} {d : D} {vs : List V} (h : RepL K F m [d] vs) : ∃ v, vs = [v] ∧ Rep K F m d v := by
  obtain ⟨v, r, rfl, h1, h2⟩ := h.cons_inv
  simp only [RepL] at h2; subst h2
  exact ⟨v, rfl, h1⟩
theorem repL2 {K : PySem.W.Frag} {F : Hp} {m : List Addr} {d e : D} {vs : List V} (h : RepL K F m [d, e] vs) : ∃ v w, vs = [v, w] ∧ Rep K F m d v ∧ Rep K F m e w := by
  obtain ⟨v, r, rfl, h1, h2⟩ := h.cons_inv
  obtain ⟨w, rfl, h3⟩ := repL1 h2
  exact ⟨v, w, rfl, h1, h3⟩
theorem repL0 {K : PySem.W.Frag} {F : Hp} {m : List Addr} {vs : List V} (h : RepL K F m [] vs) : vs = [] := by simpa only [RepL] using h
theorem minI_le : ∀ (l : List Int) (m : Int), minI l m ≤ m ∧ (∀ y ∈ l, minI l m ≤ y) ∧ (minI l m = m ∨ minI l m ∈ l)
  | [], m => by simp [minI]
  | x :: xs, m => by
    by_cases hx : x < m
    · have e : minI (x :: xs) m = minI xs x := by simp only [minI, hx, if_true]
      rw [e]
      obtain ⟨h1, h2, h3⟩ := minI_le xs x
      refine ⟨by omega, fun y hy => ?_, ?_⟩
      · rcases List.mem_cons.mp hy with rfl | hy
        · exact h1
        · exact h2 y hy
      · rcases h3 with h3 | h3
        · right; rw [h3]; simp
        · right; exact List.mem_cons_of_mem _ h3
    · have e : minI (x :: xs) m = minI xs m := by simp only [minI, hx, if_false]
      rw [e]
      obtain ⟨h1, h2, h3⟩ := minI_le xs m
      refine ⟨by omega, fun y hy => ?_, ?_⟩
      · rcases List.mem_cons.mp hy with rfl | hy
        · omega
        · exact h2 y hy
      · rcases h3 with h3 | h3
        · left; exact h3
        · right; exact List.mem_cons_of_mem _ h3
theorem maxI_ge : ∀ (l : List Int) (m : Int), m ≤ maxI l m ∧ (∀ y ∈ l, y ≤ maxI l m) ∧ (maxI l m = m ∨ maxI l m ∈ l)
  | [], m => by simp [maxI]
  | x :: xs, m => by
    by_cases hx : x > m
    · have e : maxI (x :: xs) m = maxI xs x := by simp only [maxI, hx, if_true]
      rw [e]
      obtain ⟨h1, h2, h3⟩ := maxI_ge xs x
      refine ⟨by omega, fun y hy => ?_, ?_⟩
      · rcases List.mem_cons.mp hy with rfl | hy
        · exact h1
        · exact h2 y hy
      · rcases h3 with h3 | h3
        · right; rw [h3]; simp
        · right; exact List.mem_cons_of_mem _ h3
    · have e : maxI (x :: xs) m = maxI xs m := by simp only [maxI, hx, if_false]
      rw [e]
      obtain ⟨h1, h2, h3⟩ := maxI_ge xs m
      refine ⟨by omega, fun y hy => ?_, ?_⟩
      · rcases List.mem_cons.mp hy with rfl | hy
        · omega
        · exact h2 y hy
      · rcases h3 with h3 | h3
        · left; exact h3
        · right; exact List.mem_cons_of_mem _ h3
theorem ints_list {K : PySem.W.Frag} {G F H : Hp} {m : List Addr} {st : Store} (S : Sim K G F H m st) {d : D} {v : V} {l : List Int} (r : Rep K F m d v) (h : (asList st d).bind intsD = some l) : ∃ a, v = .ref a ∧ SqL K H a (l.map V.int) := by
  cases e : asList st d with
  | none => rw [e] at h; cases h
  | some ds =>
    rw [e] at h
    obtain ⟨a, vs, rfl, h1, h2⟩ := asList_ok S r e
    have := h2.ints (l := l) h
    subst this
    exact ⟨a, rfl, .inl (.inl h1)⟩
theorem bls_list {K : PySem.W.Frag} {G F H : Hp} {m : List Addr} {st : Store} (S : Sim K G F H m st) {d : D} {v : V} {l : List Bool} (r : Rep K F m d v) (h : (asList st d).bind blsD = some l) : ∃ a, v = .ref a ∧ SqL K H a (l.map V.bl) := by
  cases e : asList st d with
  | none => rw [e] at h; cases h
  | some ds =>
    rw [e] at h
    obtain ⟨a, vs, rfl, h1, h2⟩ := asList_ok S r e
    have := h2.bls (l := l) h
    subst this
    exact ⟨a, rfl, .inl (.inl h1)⟩
theorem RepL.ofInts {K : PySem.W.Frag} {F : Hp} {m : List Addr} : ∀ l : List Int, RepL K F m (l.map D.int) (l.map V.int)
  | [] => RepL.nil
  | i :: l => RepL.cons rInt (RepL.ofInts l)
theorem numS_cs (i : Int) : (Str.ofString (toString i)) = cs (numS i) := by
  rw [Str.ofString_eq_toList]; rfl
theorem numS_ok (i : Int) (h : (numS i).length ≤ lim) : StrOk (numS i) := ⟨h, fun c hc => by
  unfold numS at hc
  obtain ⟨x, _, rfl⟩ := List.mem_map.mp hc
  have := x.valid
  simp only [UInt32.isValidChar, Nat.isValidChar] at this
  show x.val.toNat < _
  omega⟩

/-- what the built-in's name stands for -/
def btV : Bt → Value
  | .len => .builtin "len" | .abs => .builtin "abs" | .int => .type "int" | .str => .type "str" | .sum => .builtin "sum" | .min2 => .builtin "min" | .max2 => .builtin "max" | .min1 => .builtin "min" | .max1 => .builtin "max"
  | .tuple => .type "tuple" | .list => .type "list" | .tupRg1 => .type "tuple" | .tupRg2 => .type "tuple" | .lstRg1 => .type "list" | .lstRg2 => .type "list" | .all => .builtin "all" | .any => .builtin "any" | .sorted => .builtin "sorted"
  | .chr => .builtin "chr" | .ord => .builtin "ord"
def rgBt : Bt → Bool | .tupRg1 => true | .tupRg2 => true | .lstRg1 => true | .lstRg2 => true | _ => false
theorem builtin_ok (hc : X.calm = true) (b : Bt) (fz : Bool) (hb : rgBt b = false) : CallR X (btV b) (rB X.K X.mg W (builtin b fz)) := by
  intro pins s σ H xs us Q I r h
  obtain ⟨G, F, m, st, ds, S, rl, k⟩ := h
  unfold builtin at k
  split at k
  · obtain ⟨v, rfl, r1⟩ := repL1 rl
    obtain ⟨rfl, o1⟩ := repStr r1
    exact call_len_str pins s σ H _ us Q I r ⟨_, rfl, by rw [cs_len, ← lim_eq]; exact o1.1, by rw [cs_len]; exact k.here S rInt⟩
  · obtain ⟨v, rfl, r1⟩ := repL1 rl
    split at k
    · rename_i ds hq
      obtain ⟨a, vs, g, f, h1, h2⟩ := S.lst hq
      obtain ⟨b, rfl, g'⟩ := repRef r1
      rw [g] at g'; cases g'
      exact call_len_seq pins s σ H _ us Q I r ⟨a, vs, rfl, .inl (.inl (.inl h1)), by rw [← h2.length]; exact k.here S rInt⟩
    · rename_i kvs hq
      obtain ⟨a, ks, g, f, h1, h2⟩ := S.dict hq
      obtain ⟨b, rfl, g'⟩ := repRef r1
      rw [g] at g'; cases g'
      exact call_lenD pins s σ H _ us Q I r ⟨a, ks, rfl, h1, by rw [← h2.length]; exact k.here S rInt⟩
    · exact k.elim
  · obtain ⟨v, rfl, r1⟩ := repL1 rl
    obtain ⟨a, vs, rfl, h1, h2⟩ := repTup r1
    exact call_len_seq pins s σ H _ us Q I r ⟨a, vs, rfl, .inr (sqT_mono S.sub h1), by rw [← h2.length]; exact k.here S rInt⟩
  · obtain ⟨v, rfl, r1⟩ := repL1 rl
    obtain ⟨a, vs, rfl, h1, h2⟩ := repLst r1
    exact call_len_seq pins s σ H _ us Q I r ⟨a, vs, rfl, .inl (.inl (.inl (S.sub _ _ h1))), by rw [← h2.length]; exact k.here S rInt⟩
  · obtain ⟨v, rfl, r1⟩ := repL1 rl
    obtain rfl := repInt r1
    exact call_abs pins s σ H _ us Q I r ⟨_, rfl, k.here S rInt⟩
  · obtain ⟨v, rfl, r1⟩ := repL1 rl
    obtain rfl := repInt r1
    exact call_int1 pins s σ H _ us Q I r (.inl ⟨_, rfl, k.here S rInt⟩)
  · obtain ⟨v, rfl, r1⟩ := repL1 rl
    obtain rfl := repBl r1
    exact call_int1 pins s σ H _ us Q I r (.inr ⟨_, rfl, k.here S rInt⟩)
  · obtain ⟨v, rfl, r1⟩ := repL1 rl
    obtain ⟨rfl, o1⟩ := repStr r1
    split at k
    · rename_i hl
      split at k
      · rename_i n hn
        exact call_int_str pins s σ H _ us Q I r ⟨_, n, rfl, hn, by rw [cs_len]; exact hl, k.here S rInt⟩
      · exact k.elim
    · exact k.elim
  · obtain ⟨v, rfl, r1⟩ := repL1 rl
    obtain rfl := repInt r1
    split at k
    · rename_i hl
      obtain ⟨h2, k⟩ := lim1_ok k
      exact call_str_int pins s σ H _ us Q I r ⟨_, rfl, hl, by rw [numS_cs]; exact k.here S (rStr (numS_ok _ h2))⟩
    · exact k.elim
  · obtain ⟨v, rfl, r1⟩ := repL1 rl
    obtain ⟨d, e1, k⟩ := ofO_ok k
    obtain ⟨l, e2, rfl⟩ := Option.map_eq_some_iff.mp e1
    obtain ⟨a, rfl, h1⟩ := ints_list S r1 e2
    exact cr_sum hc pins s σ H _ us Q I r ⟨a, l, rfl, h1, k.here S rInt⟩
  · obtain ⟨v, w, rfl, r1, r2⟩ := repL2 rl
    obtain rfl := repInt r1; obtain rfl := repInt r2
    exact call_min2 hc pins s σ H _ us Q I r ⟨_, _, rfl, k.here S rInt⟩
  · obtain ⟨v, w, rfl, r1, r2⟩ := repL2 rl
    obtain rfl := repInt r1; obtain rfl := repInt r2
    exact call_max2 hc pins s σ H _ us Q I r ⟨_, _, rfl, k.here S rInt⟩
  · obtain ⟨v, rfl, r1⟩ := repL1 rl
    split at k
    · rename_i i l e2
      obtain ⟨a, rfl, h1⟩ := ints_list S r1 e2
      refine cr_min hc pins s σ H _ us Q I r ⟨a, i :: l, rfl, h1, by simp, fun mm h3 h4 => ?_⟩
      obtain ⟨g1, g2, g3⟩ := minI_le l i
      have : mm = minI l i := by
        have a1 : mm ≤ minI l i := h4 _ (by rcases g3 with g3 | g3; rw [g3]; simp; exact List.mem_cons_of_mem _ g3)
        have a2 : minI l i ≤ mm := by rcases List.mem_cons.mp h3 with rfl | h3; exact g1; exact g2 _ h3
        omega
      subst this
      exact k.here S rInt
    · exact k.elim
  · obtain ⟨v, rfl, r1⟩ := repL1 rl
    split at k
    · rename_i i l e2
      obtain ⟨a, rfl, h1⟩ := ints_list S r1 e2
      refine cr_max hc pins s σ H _ us Q I r ⟨a, i :: l, rfl, h1, by simp, fun mm h3 h4 => ?_⟩
      obtain ⟨g1, g2, g3⟩ := maxI_ge l i
      have : mm = maxI l i := by
        have a1 : maxI l i ≤ mm := h4 _ (by rcases g3 with g3 | g3; rw [g3]; simp; exact List.mem_cons_of_mem _ g3)
        have a2 : mm ≤ maxI l i := by rcases List.mem_cons.mp h3 with rfl | h3; exact g1; exact g2 _ h3
        omega
      subst this
      exact k.here S rInt
    · exact k.elim
  · obtain ⟨v, rfl, r1⟩ := repL1 rl
    obtain ⟨a, vs, e0, h1, h2⟩ := repTup r1
    subst e0
    exact call_tuple_ofF pins s σ H _ us Q I r ⟨a, vs, rfl, .inr ⟨sqT_mono S.sub h1, k.here S r1⟩⟩
  · obtain ⟨v, rfl, r1⟩ := repL1 rl
    obtain ⟨d, e1, k⟩ := ofO_ok k
    obtain ⟨l, e2, rfl⟩ := Option.map_eq_some_iff.mp e1
    obtain ⟨a, vs, rfl, h1, h2⟩ := asList_ok S r1 e2
    exact call_tuple_ofF pins s σ H _ us Q I r ⟨a, vs, rfl, .inl ⟨.inl (.inl h1), k.newTup S h2⟩⟩
  · obtain ⟨v, rfl, r1⟩ := repL1 rl
    split at k
    · rename_i l e2
      obtain ⟨a, vs, rfl, h1, h2⟩ := asSeq_ok S r1 e2
      exact call_list_of pins s σ H _ us Q I r ⟨a, vs, rfl, h1, k.newLst S h2⟩
    · exact k.elim
  · cases hb
  · cases hb
  · cases hb
  · cases hb
  · obtain ⟨v, rfl, r1⟩ := repL1 rl
    obtain ⟨d, e1, k⟩ := ofO_ok k
    obtain ⟨l, e2, rfl⟩ := Option.map_eq_some_iff.mp e1
    obtain ⟨a, rfl, h1⟩ := bls_list S r1 e2
    exact cr_all hc pins s σ H _ us Q I r ⟨a, l, rfl, h1, k.here S rBl⟩
  · obtain ⟨v, rfl, r1⟩ := repL1 rl
    obtain ⟨d, e1, k⟩ := ofO_ok k
    obtain ⟨l, e2, rfl⟩ := Option.map_eq_some_iff.mp e1
    obtain ⟨a, rfl, h1⟩ := bls_list S r1 e2
    exact cr_any hc pins s σ H _ us Q I r ⟨a, l, rfl, h1, k.here S rBl⟩
  · obtain ⟨v, rfl, r1⟩ := repL1 rl
    split at k
    · rename_i l e2
      obtain ⟨a, rfl, h1⟩ := ints_list S r1 e2
      refine cr_sortedI pins s σ H _ us Q I r ⟨a, l, rfl, h1, fun ns' p hp hs hn => ?_⟩
      have : ns' = sortI l := PySem.W.os_sorted_mergeSort hp hs
      subst this
      exact k.newLst S (RepL.ofInts _) p hn
    · exact k.elim
  · exact k.elim
end
end T
set_option Elab.async false
set_option linter.all false
set_option autoImplicit false
set_option maxRecDepth 100000
set_option maxHeartbeats 4000000
/-! # T5: methods, stores, kinds, truth -/
namespace T
open PySem PySem.Spec PyProof.Rows L2

section
variable {X : L2.Cx} {W : Wx}
/-! ### what a method is asked of -/
def tyD (K : PySem.W.Frag) (T : String) (x : V) (H : Hp) : Prop := match x with
  | .str _ => T = "str"
  | .ref p => (T = "list" ∧ ∃ xs, H p = some (.lst xs)) ∨ (T = "tuple" ∧ ∃ vs, TupAt K H p vs) ∨ (T = "dict" ∧ ∃ kvs, H p = some (.dK kvs))
  | _ => False
theorem tyD_is {pins : List (Addr × Obj)} {σ : L2.St} {H : Hp} {s : Shared} {T : String} {x : V} {v : Value} (I : Inv X pins σ H s) (r : RelV x v) (ty : tyD X.K T x H) :
    s.TypeIs v T ∧ ∀ a, v = .ref a → ∃ ob, s.heap.get? a = some ob ∧ ob.dict = none := by
  cases x with
  | str z =>
    obtain ⟨t, rfl⟩ := r
    cases (show T = "str" from ty)
    exact ⟨typeIs_str s z t, fun _ e => nomatch e⟩
  | ref p =>
    cases r
    rcases ty with ⟨rfl, xs, hq⟩ | ⟨rfl, vs, hq⟩ | ⟨rfl, kvs, hk⟩
    · exact tyV_is (x := .ref p) I rfl (.inl ⟨rfl, xs, .inl (.inl hq)⟩)
    · rcases hq with ⟨o, hq, hd⟩ | ⟨o, its, n, hk, hc, hd, hdt, _⟩
      · obtain ⟨e, _, its, _, o', e', hc, _⟩ := (show ObjOk X.prog X.w H s.heap p (.frz o (.tup vs)) from I.hok p _ hq)
        rw [e] at e'; cases e'
        exact ⟨⟨o, e, hc⟩, fun a q => by cases q; exact ⟨o, e, hd⟩⟩
      · exact ⟨⟨o, I.kIn p o hk, hc⟩, fun a q => by cases q; exact ⟨o, I.kIn _ o hk, hd⟩⟩
    · exact tyV_is (x := .ref p) I rfl (.inr (.inr (.inl ⟨rfl, .inl ⟨kvs, hk⟩⟩)))
  | _ => exact False.elim ty
structure MI (name : Str) (T id : String) : Prop where
  pa : PlainAttrs T
  slot : Slot T name id
  ty : typeOf (.builtin id) = pure (.type "method_descriptor")
abbrev RM := V → List V → Hp → VK → Prop
def tMd (X : L2.Cx) (name : Str) (to : TE) (t : TA) : TE := fun σ H Q => to σ H fun x H1 => ∃ (T id : String) (r : RM), MI name T id ∧ tyD X.K T x H1 ∧ MtR X id r ∧ t σ H1 fun vs H2 => r x vs H2 Q
theorem pe_md0 {o : Expr} {name : Str} {apos cpos : Pos} {to : TE} (ho : PE X o to) (hbase : attributeBase o name X.env (eval o X.env) = eval o X.env) (hline : (apos.endLine == cpos.line) = true) :
    PE X (.Call (.Attribute o name apos) [] [] cpos) (tMd X name to tNil) := by
  refine ⟨fun pins s σ H Q I h => ?_⟩
  refine wpAny_Call_method0_late hbase hline (thn (ho.run pins s σ H _ I h) fun v s1 ⟨x, H1, I1, r1, T, id, r, M, ty, hm, q1⟩ => ?_)
  obtain ⟨h1, h2⟩ := tyD_is I1 r1 ty
  exact ⟨T, id, M.pa, M.slot, M.ty, h1, h2, Calls.callWith_builtin rfl (PySem.evalArgs_none (hm pins s1 σ H1 x [] v [] Q I1 r1 .nil q1))⟩
theorem pe_md {o e : Expr} {es : List Expr} {name : Str} {apos cpos : Pos} {to : TE} {t : TA} (ho : PE X o to) (ha : PA X (e :: es) t)
    (hbase : attributeBase o name X.env (eval o X.env) = eval o X.env)
    (hfew : ((backTo cpos (starEach (e :: es) X.env)).all (fun x => !x.1) && (backToKw cpos (keywordEach [] X.env)).all (fun x => x.1.isSome)
      && decide ((e :: es).length + ([] : List Keyword).length + (if ([] : List Keyword).isEmpty then 0 else 1) < 30)) = true)
    (hline : (apos.endLine == cpos.line) = true) (hs : starEach (e :: es) X.env = (false, eval e X.env) :: starEach es X.env) (hplain : (backTo cpos (starEach es X.env)).any (·.1) = false) :
    PE X (.Call (.Attribute o name apos) (e :: es) [] cpos) (tMd X name to t) := by
  refine ⟨fun pins s σ H Q I h => ?_⟩
  refine wpAny_Call_method_late hbase hfew hline rfl (thn (ho.run pins s σ H _ I h) fun v s1 ⟨x, H1, I1, r1, T, id, r, M, ty, hm, q1⟩ => ?_)
  obtain ⟨h1, h2⟩ := tyD_is I1 r1 ty
  refine ⟨T, id, M.pa, M.slot, M.ty, h1, h2, ?_⟩
  have hA := ha.run cpos pins s1 σ H1 _ I1 q1
  rw [hs] at hA ⊢
  refine Calls.callWith_builtin (by show (false || (backTo cpos (starEach es X.env)).any (·.1)) = false; rw [hplain] <;> rfl) (Calls.evalArgs_plain ?_)
  exact thn hA fun us s2 ⟨vs, H2, I2, r2, q2⟩ => hm pins s2 σ H2 x vs v us Q I2 r1 r2 q2

/-! ### the methods -/
def rExtendR : RM := fun x vs H Q => ∃ l b xs zs, x = .ref l ∧ vs = [.ref b] ∧ H l = some (.lst xs) ∧ H b = some (.lst zs) ∧ xs.length + zs.length ≤ sizeLine ∧ Q .non (upd H l (.lst (xs ++ zs)))
/-- t.index(x), data of any depth -/
def rTIndexD (K : PySem.W.Frag) : RM := fun x xs H Q => ∃ (a : Addr) (y : V) (d : PyData) (ds : List PyData) (j : Nat) (z : PyData), x = V.ref a ∧ xs = [y] ∧ Dp K H (V.ref a) (.tuple ds) ∧ Dp K H y d ∧
  PyData.canLayAll0 ds = true ∧ SeqAt.shaped d = true ∧ ds[j]? = some z ∧ PyData.eqv z d = true ∧ (∀ (m : Nat) (z' : PyData), m < j → ds[m]? = some z' → PyData.eqv z' d = false) ∧ Q (.int (j : Nat)) H
theorem mt_tindexD (hu : X.A.units + 65 < cLine) : MtR X "tuple.index" (rTIndexD X.K) := by
  intro pins s σ H x xs v us Q I rx rxs h
  obtain ⟨a, y, d, ds, j, z, rfl, rfl, hl, hy, hxs, sd, hz, hzj, hno, q⟩ := h
  cases rx
  cases rxs with
  | cons ry rt =>
    rename_i uy ut
    cases rt
    obtain ⟨bs, r1⟩ := Dp.reads I d y uy hy ry
    have hroom : X.A.units + 1 + min (PyData.depthAll ds) d.depth < cLine := room_in_shaped sd hu
    cases hl with
    | tup hs ha =>
      obtain ⟨its, rv, pl, hlen⟩ := I.tuple hs
      obtain ⟨⟨cls, dd, data, sls⟩, ho, hc, n, hdt⟩ := pl
      simp only at hc hdt
      subst hc hdt
      obtain ⟨as, h4⟩ := Dp.readsAll I ds _ its ha rv
      have hn : its.length = ds.length := SeqAt.ReadsAll.length ds its as h4
      have hmap : its.map (SeqAt.readOf s.heap) = ds := SeqAt.readsAll_map ds its as hxs h4
      obtain ⟨hjd, _⟩ := List.getElem?_eq_some_iff.mp hz
      have hjl : j < its.length := by omega
      have hj : j < its.toArray.size := by simpa using hjl
      have at_ : ∀ (m : Nat) (hm : m < its.toArray.size) (z' : PyData), ds[m]? = some z' → SeqAt.readOf s.heap its.toArray[m] = z' := by
        intro m hm z' hz'
        have hml : m < its.length := by simpa using hm
        rw [← hmap, List.getElem?_map, List.getElem?_eq_getElem hml] at hz'
        have e1 : SeqAt.readOf s.heap its[m] = z' := Option.some.inj (show some (SeqAt.readOf s.heap its[m]) = some z' from hz')
        simpa using e1
      refine call_meets PySem.F.slot_tuple_index ⟨_, ho, rfl⟩ PySem.F.entry_tuple_index (PySem.F.args_tuple_index_2 _ _)
        (TI.tuple_indexAt a its.toArray n dd sls uy (fun u => PyData.eqv (SeqAt.readOf s.heap u) d) j hj ?_ ?_) ⟨ho, SeqAt.items_eqAt (vs := its.toArray) (show ReadsAll s.heap its.toArray.toList ds as from h4) r1 hxs (SeqAt.canLay_of_shaped sd) hroom, ⟨.int (j : Nat), H, I.tok _, ⟨_, rfl⟩, q⟩⟩
      · rw [at_ j hj z hz]; exact hzj
      · intro m hm hmj
        have hml : m < ds.length := by
          have : m < its.length := by simpa using hm
          omega
        rw [at_ m hm ds[m] (List.getElem?_eq_getElem hml)]
        exact hno m _ hmj (List.getElem?_eq_getElem hml)
theorem mt_dget1 (hu : X.A.units + 1 < cLine) : MtR X "dict.get" (fun x xs H Q => ∃ a y o, x = .ref a ∧ xs = [y] ∧ DGet H a y o ∧ Q (o.getD .non) H) := by
  intro pins s σ H x xs v us Q I rx rxs h
  obtain ⟨a, y, o, rfl, rfl, g, q⟩ := h
  cases (show v = Value.ref a from rx)
  obtain ⟨u, rfl, ru⟩ := vals1 rxs
  exact d_get1 hu I g ru fun w' s' I' rw' => ⟨_, H, I', rw', q⟩
theorem mt_dget2 (hu : X.A.units + 1 < cLine) : MtR X "dict.get" (fun x xs H Q => ∃ a y z o, x = .ref a ∧ xs = [y, z] ∧ DGet H a y o ∧ Q (o.getD z) H) := by
  intro pins s σ H x xs v us Q I rx rxs h
  obtain ⟨a, y, z, o, rfl, rfl, g, q⟩ := h
  cases (show v = Value.ref a from rx)
  obtain ⟨u, u2, rfl, ru, ru2⟩ := vals2 rxs
  exact d_get2 hu I g ru ru2 fun w' s' I' rw' => ⟨_, H, I', rw', q⟩
def mtN : Mt → String
  | .append => "append" | .pop0 => "pop" | .pop1 => "pop" | .extend => "extend" | .index => "index" | .join => "join" | .get1 => "get" | .get2 => "get" | .insert => "insert" | .remove => "remove" | .count => "count" | .upper => "upper" | .clear => "clear"
def rM (K : PySem.W.Frag) (mg : Str → Option Value) (W : Wx) (f : D → List D → Store → R D) (d : D) (F0 : Hp) (m0 : List Addr) : RM := fun x vs H Q => ∃ G F m st ds, Ext F0 m0 F m ∧ Sim K G F H m st ∧ Rep K F m d x ∧ RepL K F m ds vs ∧ Kon K G mg (Rep K) W F m Q (f d ds st)
theorem tyName_list {K : PySem.W.Frag} {G F H : Hp} {m : List Addr} {st : Store} (S : Sim K G F H m st) {d : D} {x : V} (r : Rep K F m d x) {t : String} (h : tyName st d = some t) (ht : t = "list" ∨ t = "tuple" ∨ t = "str" ∨ t = "dict") : tyD K t x H := by
  cases d with
  | non => simp [tyName] at h; subst h; simp at ht
  | bl b => simp [tyName] at h; subst h; simp at ht
  | int b => simp [tyName] at h; subst h; simp at ht
  | str s => simp [tyName] at h; subst h; rw [(repStr r).1]; rfl
  | tup ds =>
    simp [tyName] at h; subst h
    obtain ⟨a, vs, rfl, h1, h2⟩ := repTupA r
    exact .inr (.inl ⟨rfl, vs, h1.mono S.sub⟩)
  | lst ds =>
    simp [tyName] at h; subst h
    obtain ⟨a, vs, rfl, h1, h2⟩ := repLst r
    exact .inl ⟨rfl, vs, S.sub _ _ h1⟩
  | ref n =>
    simp only [tyName] at h
    split at h
    · cases h
      rename_i hq
      obtain ⟨a, vs, g, f, h1, h2⟩ := S.lst hq
      obtain ⟨b, rfl, g'⟩ := repRef r
      rw [g] at g'; cases g'
      exact .inl ⟨rfl, vs, h1⟩
    · cases h
      rename_i hq
      obtain ⟨a, vs, g, f, h1, h2⟩ := S.dict hq
      obtain ⟨b, rfl, g'⟩ := repRef r
      rw [g] at g'; cases g'
      exact .inr (.inr ⟨rfl, vs, h1⟩)
    · cases h
  | scr ds => simp [tyName] at h
def rPopI : RM := fun x vs H Q => ∃ l xs i k y, x = .ref l ∧ vs = [.int i] ∧ H l = some (.lst xs) ∧ ixN xs.length i = some k ∧ xs[k]? = some y ∧ Q y (upd H l (.lst (xs.eraseIdx k)))
theorem mt_popI : MtR X "list.pop" rPopI := by
  intro pins s σ H x xs v us Q I rx rxs h
  obtain ⟨l, ys, i, k, y, rfl, rfl, hH, hk, hy, q⟩ := h
  obtain ⟨h1, h2, h3, h4⟩ := ixN_seq hk
  have := line63
  have hz := (I.lstM hH).1
  exact mt_popAt pins s σ H _ _ v us Q I rx rxs ⟨l, ys, i, k, y, rfl, rfl, hH, by omega, by omega, h1, hy, q⟩
theorem len_joinL (S : List Nat) : ∀ l : List (List Nat), (TL.joinL S l).length ≤ (l.map (·.length)).sum + l.length * S.length
  | [] => by simp [TL.joinL]
  | [p] => by simp [TL.joinL]
  | p :: q :: r => by
    have ih := len_joinL S (q :: r)
    simp only [TL.joinL, List.length_append, List.map_cons, List.sum_cons, List.length_cons] at ih ⊢
    rw [Nat.add_mul] 
    omega
theorem joinL_ok (S : List Nat) (hS : ∀ c ∈ S, c < 0x110000) : ∀ l : List (List Nat), (∀ x ∈ l, ∀ c ∈ x, c < 0x110000) → ∀ c ∈ TL.joinL S l, c < 0x110000
  | [], _ => by simp [TL.joinL]
  | [p], h => by simp only [TL.joinL]; exact h p (by simp)
  | p :: q :: r, h => by
    intro c hc
    simp only [TL.joinL, List.mem_append] at hc
    rcases hc with hc | hc | hc
    · exact h p (by simp) c hc
    · exact hS c hc
    · exact joinL_ok S hS (q :: r) (fun x hx => h x (List.mem_cons_of_mem _ hx)) c hc
theorem join_cs (s : List Nat) (l : List (List Nat)) : Txt.join (cs s) (l.map cs) = cs (TL.joinL s l) := by
  apply TL.ext_tl
  rw [TL.join_eq, TL.tl_join, List.map_map]
  show TL.joinL s (l.map (TL.tl ∘ cs)) = TL.joinL s l
  congr 1
  have : (TL.tl ∘ cs) = id := rfl
  rw [this, List.map_id]
theorem pyL_ok' {K : PySem.W.Frag} {G F H : Hp} {m : List Addr} {st : Store} (S : Sim K G F H m st) {ds : List D} {vs : List V} {ps : List PyData} (e : pyL (pyRec st 3) ds = some ps) (r : RepL K F m ds vs) : DpAll K H vs ps ∧ PyData.canLayAll0 ps = true :=
  ⟨pyL_ok S (fun n p v => pyRec_ok S 3 n p v) ds vs ps e r, DpL.lay (fun n p v => pyRec_lay S 3 n p v) ds vs ps e r⟩
theorem find_first {α : Type} {p : α → Bool} {l : List α} {j : Nat} (h : l.findIdx? p = some j) : ∃ z, l[j]? = some z ∧ p z = true ∧ ∀ (m : Nat) (z' : α), m < j → l[m]? = some z' → p z' = false := by
  rw [List.findIdx?_eq_some_iff_getElem] at h
  obtain ⟨h1, h2, h3⟩ := h
  refine ⟨l[j], List.getElem?_eq_getElem h1, h2, fun m z' hm e => ?_⟩
  have := h3 m hm
  obtain ⟨q, rfl⟩ := List.getElem?_eq_some_iff.mp e
  simpa using this
/-- the method m of a thing of the type t: its rule and what it asks -/
theorem method_ok (hu : X.A.units + 65 < cLine) {m : Mt} {fz : Bool} {d : D} {st0 : Store} {x : V} {G F0 H0 : Hp} {m0 : List Addr} (S0 : Sim X.K G F0 H0 m0 st0) (r0 : Rep X.K F0 m0 d x) (h : rcvOk m (tyName st0 d) = true) :
    ∃ (T id : String) (r : RM), MI (Str.ofString (mtN m)) T id ∧ tyD X.K T x H0 ∧ MtR X id r ∧ ∀ vs H Q, rM X.K X.mg W (method m fz) d F0 m0 x vs H Q → r x vs H Q := by
  cases ht : tyName st0 d with
  | none => rw [ht] at h; cases m <;> simp [rcvOk] at h
  | some t =>
    rw [ht] at h
    unfold rcvOk at h
    split at h
    · rename_i e; cases e
      refine ⟨"list", _, _, ⟨PySem.F.plainAttrs_list, PySem.F.slot_list_append, PySem.F.type_list_append⟩, tyName_list S0 r0 ht (by simp), mt_append, fun vs H Q ⟨G, F, m, st, ds, ex, S, r, rl, k⟩ => ?_⟩
      change Kon _ _ _ _ _ _ _ _ (mAppend d ds st) at k
      unfold mAppend at k
      split at k
      · split at k
        · rename_i ds' hq
          split at k
          · rename_i hl
            obtain ⟨y, rfl, ry⟩ := repL1 rl
            obtain ⟨a, ws, g, f, h1, h2⟩ := S.lst hq
            obtain ⟨b, rfl, g'⟩ := repRef r
            rw [g] at g'; cases g'
            exact ⟨a, ws, y, rfl, rfl, h1, by rw [← h2.length, ← lim_eq]; exact hl, k.here (S.write g f ⟨f, _, upd_same, h2.append (RepL.one ry)⟩) rNon⟩
          · exact k.elim
        · exact k.elim
      · exact k.elim
    · rename_i e; cases e
      refine ⟨"list", _, _, ⟨PySem.F.plainAttrs_list, PySem.F.slot_list_pop, PySem.F.type_list_pop⟩, tyName_list S0 r0 ht (by simp), mt_pop, fun vs H Q ⟨G, F, m, st, ds, ex, S, r, rl, k⟩ => ?_⟩
      change Kon _ _ _ _ _ _ _ _ (mPop0 d ds st) at k
      unfold mPop0 at k
      split at k
      · split at k
        · rename_i ds' hq
          split at k
          · rename_i y hy
            have := repL0 rl
            subst this
            obtain ⟨a, ws, g, f, h1, h2⟩ := S.lst hq
            obtain ⟨b, rfl, g'⟩ := repRef r
            rw [g] at g'; cases g'
            obtain ⟨yv, e1, e2⟩ := h2.get hy
            rw [h2.length] at e1
            exact ⟨a, ws, yv, rfl, rfl, h1, e1, k.here (S.write g f ⟨f, _, upd_same, h2.dropLast⟩) e2⟩
          · exact k.elim
        · exact k.elim
      · exact k.elim
    · rename_i e; cases e
      refine ⟨"list", _, _, ⟨PySem.F.plainAttrs_list, PySem.F.slot_list_pop, PySem.F.type_list_pop⟩, tyName_list S0 r0 ht (by simp), mt_popI, fun vs H Q ⟨G, F, m, st, ds, ex, S, r, rl, k⟩ => ?_⟩
      change Kon _ _ _ _ _ _ _ _ (mPop1 d ds st) at k
      unfold mPop1 at k
      split at k
      · split at k
        · rename_i ds' hq
          split at k
          · rename_i kk hk
            split at k
            · rename_i y hy
              obtain ⟨iv, rfl, ri⟩ := repL1 rl
              obtain rfl := repInt ri
              obtain ⟨a, ws, g, f, h1, h2⟩ := S.lst hq
              obtain ⟨b, rfl, g'⟩ := repRef r
              rw [g] at g'; cases g'
              obtain ⟨yv, e1, e2⟩ := h2.get hy
              rw [h2.length] at hk
              exact ⟨a, ws, _, kk, yv, rfl, rfl, h1, hk, e1, k.here (S.write g f ⟨f, _, upd_same, h2.eraseIdx kk⟩) e2⟩
            · exact k.elim
          · exact k.elim
        · exact k.elim
      · exact k.elim
    · rename_i e; cases e
      refine ⟨"list", _, _, ⟨PySem.F.plainAttrs_list, PySem.F.slot_list_extend, PySem.F.type_list_extend⟩, tyName_list S0 r0 ht (by simp), mt_extend, fun vs H Q ⟨G, F, m, st, ds, ex, S, r, rl, k⟩ => ?_⟩
      change Kon _ _ _ _ _ _ _ _ (mExtend d ds st) at k
      unfold mExtend at k
      split at k
      · split at k
        · rename_i ds' es hq he
          split at k
          · rename_i hl
            obtain ⟨y, rfl, ry⟩ := repL1 rl
            obtain ⟨c, zs, rfl, h3, h4⟩ := asList_ok S ry he
            obtain ⟨a, ws, g, f, h1, h2⟩ := S.lst hq
            obtain ⟨b, rfl, g'⟩ := repRef r
            rw [g] at g'; cases g'
            exact ⟨a, c, ws, zs, rfl, rfl, h1, h3, by rw [← h2.length, ← h4.length, ← lim_eq]; exact hl, k.here (S.write g f ⟨f, _, upd_same, h2.append h4⟩) rNon⟩
          · exact k.elim
        · exact k.elim
      · exact k.elim
    · rename_i e; cases e
      refine ⟨"list", _, _, ⟨PySem.F.plainAttrs_list, PySem.F.slot_list_index, PySem.F.type_list_index⟩, tyName_list S0 r0 ht (by simp), mt_indexD hu, fun vs H Q ⟨G, F, m, st, ds, ex, S, r, rl, k⟩ => ?_⟩
      change Kon _ _ _ _ _ _ _ _ (mIndex d ds st) at k
      unfold mIndex at k
      split at k
      · split at k
        · rename_i ps p hq he
          split at k
          · rename_i hl
            split at k
            · rename_i j hj
              obtain ⟨y, rfl, ry⟩ := repL1 rl
              cases e1 : asSeq st d with
              | none => rw [e1] at hq; cases hq
              | some ds' =>
                rw [e1] at hq
                have hne : ∀ es, d ≠ .tup es := fun es z => by subst z; simp [tyName] at ht
                have e2 : asList st d = some ds' := by cases d <;> first | exact absurd rfl (hne _) | exact e1
                obtain ⟨a, ws, rfl, h1, h2⟩ := asList_ok S r e2
                obtain ⟨q1, q2⟩ := pyL_ok' S hq h2
                obtain ⟨z, z1, z2, z3⟩ := find_first hj
                exact ⟨a, y, p, ps, j, z, rfl, rfl, .lst (.inl (.inl h1)) q1, toPy_ok S he ry, by unfold SeqAt.shaped; simp only [PyData.canLay0, q2, PyData.depth, Bool.true_and]; exact decide_eq_true (by omega), shaped_of (toPy_lay S he ry) hl.1, z1, z2, z3, k.here S rInt⟩
            · exact k.elim
          · exact k.elim
        · exact k.elim
      · exact k.elim
    · rename_i e; cases e
      refine ⟨"tuple", _, _, ⟨PySem.F.plainAttrs_tuple, PySem.F.slot_tuple_index, PySem.F.type_tuple_index⟩, tyName_list S0 r0 ht (by simp), mt_tindexD hu, fun vs H Q ⟨G, F, m, st, ds, ex, S, r, rl, k⟩ => ?_⟩
      change Kon _ _ _ _ _ _ _ _ (mIndex d ds st) at k
      unfold mIndex at k
      split at k
      · split at k
        · rename_i ps p hq he
          split at k
          · rename_i hl
            split at k
            · rename_i j hj
              obtain ⟨y, rfl, ry⟩ := repL1 rl
              cases d with
              | tup es =>
                simp [asSeq] at hq
                obtain ⟨a, ws, rfl, h1, h2⟩ := repTup r
                obtain ⟨q1, q2⟩ := pyL_ok' S hq h2
                obtain ⟨z, z1, z2, z3⟩ := find_first hj
                exact ⟨a, y, p, ps, j, z, rfl, rfl, .tup (sqT_mono S.sub h1) q1, toPy_ok S he ry, q2, shaped_of (toPy_lay S he ry) hl.1, z1, z2, z3, k.here S rInt⟩
              | ref n => simp only [tyName] at ht; split at ht <;> simp at ht
              | _ => simp [tyName] at ht
            · exact k.elim
          · exact k.elim
        · exact k.elim
      · exact k.elim
    · rename_i e; cases e
      refine ⟨"str", _, _, ⟨PySem.F.plainAttrs_str, PySem.F.slot_str_join, PySem.F.type_str_join⟩, tyName_list S0 r0 ht (by simp), mt_join, fun vs H Q ⟨G, F, m, st, ds, ex, S, r, rl, k⟩ => ?_⟩
      change Kon _ _ _ _ _ _ _ _ (mJoin d ds st) at k
      unfold mJoin at k
      split at k
      · rename_i s' y' _
        split at k
        · rename_i l hq
          obtain ⟨hl, k⟩ := lim1_ok k
          obtain ⟨y, rfl, ry⟩ := repL1 rl
          obtain ⟨rfl, o1⟩ := repStr r
          cases e1 : asSeq st y' with
          | none => rw [e1] at hq; cases hq
          | some ds' =>
            rw [e1] at hq
            obtain ⟨a, ws, rfl, h1, h2⟩ := asSeq_ok S ry e1
            obtain ⟨e3, ok⟩ := h2.strs (l := l) hq
            subst e3
            refine ⟨_, a, l.map cs, rfl, rfl, h1, ?_, by rw [join_cs]; exact k.here S (rStr ⟨Nat.le_trans (len_joinL _ _) hl, joinL_ok _ o1.2 _ fun x hx => (ok x hx).2⟩)⟩
            rw [List.map_map, List.length_map, cs_len]
            have : ((fun x : Str => x.length) ∘ cs) = fun x : List Nat => x.length := by funext x; exact cs_len x
            rw [this, ← lim_v]
            exact hl
        · exact k.elim
      · exact k.elim
    · rename_i e; cases e
      refine ⟨"dict", _, _, ⟨PySem.F.plainAttrs_dict, PySem.F.slot_dict_get, PySem.F.type_dict_get⟩, tyName_list S0 r0 ht (by simp), mt_dget1 (by omega), fun vs H Q ⟨G, F, m, st, ds, ex, S, r, rl, k⟩ => ?_⟩
      change Kon _ _ _ _ _ _ _ _ (mGet1 d ds st) at k
      unfold mGet1 at k
      split at k
      · rename_i n' kd _
        split at k
        · rename_i kvs hq
          split at k
          · rename_i hk
            obtain ⟨y, rfl, ry⟩ := repL1 rl
            obtain ⟨a, o, rfl, g, g1, g2⟩ := dget_ok S hq hk r ry
            refine ⟨a, y, o, rfl, rfl, g, k.here S ?_⟩
            cases hl : look kvs kd with
            | none => rw [g2 hl]; exact rNon
            | some w => obtain ⟨v, rfl, rv⟩ := g1 w hl; exact rv
          · exact k.elim
        · exact k.elim
      · exact k.elim
    · rename_i e; cases e
      refine ⟨"dict", _, _, ⟨PySem.F.plainAttrs_dict, PySem.F.slot_dict_get, PySem.F.type_dict_get⟩, tyName_list S0 r0 ht (by simp), mt_dget2 (by omega), fun vs H Q ⟨G, F, m, st, ds, ex, S, r, rl, k⟩ => ?_⟩
      change Kon _ _ _ _ _ _ _ _ (mGet2 d ds st) at k
      unfold mGet2 at k
      split at k
      · rename_i n' kd zd _
        split at k
        · rename_i kvs hq
          split at k
          · rename_i hk
            obtain ⟨y, z, rfl, ry, rz⟩ := repL2 rl
            obtain ⟨a, o, rfl, g, g1, g2⟩ := dget_ok S hq hk r ry
            refine ⟨a, y, z, o, rfl, rfl, g, k.here S ?_⟩
            cases hl : look kvs kd with
            | none => rw [g2 hl]; exact rz
            | some w => obtain ⟨v, rfl, rv⟩ := g1 w hl; exact rv
          · exact k.elim
        · exact k.elim
      · exact k.elim
    · cases h
/-! ### stores -/
def rSet (K : PySem.W.Frag) (mg : Str → Option Value) (W : Wx) : TSet := fun o i v H Q => ∃ G F m st d e w, Sim K G F H m st ∧ Rep K F m d o ∧ Rep K F m e i ∧ Rep K F m w v ∧ Kon K G mg repU W F m (fun _ H' => Q H') (setIx d e w st)
theorem setIx_ok (hu : X.A.units + 1 < cLine) : PSet X (rSet X.K X.mg W) := by
  intro pins s σ H o i v ov iv u Q I ro ri rv h
  obtain ⟨G, F, m, st, d, e, w, S, r1, r2, r3, k⟩ := h
  unfold setIx at k
  split at k
  · split at k
    · rename_i ds kk hq
      split at k
      · rename_i j hj
        obtain rfl := repInt r2
        obtain ⟨a, ws, g, f, h1, h2⟩ := S.lst hq
        obtain ⟨b, rfl, g'⟩ := repRef r1
        rw [g] at g'; cases g'
        rw [h2.length] at hj
        exact set_list pins s σ H _ _ v ov iv u Q I ro ri rv ⟨a, ws, kk, j, rfl, rfl, h1, hj, k F m _ () Ext.refl (S.write g f ⟨f, _, upd_same, RepL.set r3 j h2⟩) trivial⟩
      · exact k.elim
    · rename_i kvs hq
      split at k
      · rename_i hk
        obtain ⟨a, ks, g, f, h1, h2⟩ := S.dict hq
        obtain ⟨b, rfl, g'⟩ := repRef r1
        rw [g] at g'; cases g'
        obtain ⟨q, hq'⟩ := keyD_dkey hk.1
        have hv := keyV hq' r2
        subst hv
        cases (show ov = Value.ref a from ro)
        refine d_setItem hu I (DPut.k h1 (by rw [← h2.length, ← lim_eq]; exact hk.2)) ri rv fun s' I' => ⟨_, I', ?_⟩
        exact k F m _ () Ext.refl (S.write g f ⟨f, _, upd_same, h2.put hq' r2 r3⟩) trivial
      · exact k.elim
    · exact k.elim
  · exact k.elim

/-! ### truth -/
theorem truthy_ok {K : PySem.W.Frag} {G F H : Hp} {m : List Addr} {st : Store} (S : Sim K G F H m st) {d : D} {x : V} {b : Bool} (r : Rep K F m d x) (h : truthy st d = some b) : TruV K x H b := by
  cases d with
  | non => rw [repNon r]; simp only [truthy, Option.some.injEq] at h; show b = false; exact h.symm
  | bl c => rw [repBl r]; simp only [truthy, Option.some.injEq] at h; show b = c; exact h.symm
  | int i => rw [repInt r]; simp only [truthy, Option.some.injEq] at h; show b = (i != 0); exact h.symm
  | str s =>
    obtain ⟨rfl, o⟩ := repStr r
    simp only [truthy, Option.some.injEq] at h
    refine ⟨by rw [cs_len, ← lim_eq]; exact o.1, ?_⟩
    subst h
    rw [cs_len]
    cases s <;> simp
    omega
  | tup ds =>
    obtain ⟨a, vs, rfl, h1, h2⟩ := repTup r
    simp only [truthy, Option.some.injEq] at h; subst h
    exact .inr (.inl ⟨vs, sqT_mono S.sub h1, by have := h2.length; cases ds <;> cases vs <;> simp at this ⊢⟩)
  | lst ds =>
    obtain ⟨a, vs, rfl, h1, h2⟩ := repLst r
    simp only [truthy, Option.some.injEq] at h; subst h
    exact .inl ⟨vs, .inl (.inl (S.sub _ _ h1)), by have := h2.length; cases ds <;> cases vs <;> simp at this ⊢⟩
  | ref n =>
    simp only [truthy] at h
    split at h
    · rename_i ds hq
      cases h
      obtain ⟨a, vs, g, f, h1, h2⟩ := S.lst hq
      obtain ⟨b, rfl, g'⟩ := repRef r
      rw [g] at g'; cases g'
      exact .inl ⟨vs, .inl (.inl h1), by have := h2.length; cases ds <;> cases vs <;> simp at this ⊢⟩
    · rename_i kvs hq
      cases h
      obtain ⟨a, ks, g, f, h1, h2⟩ := S.dict hq
      obtain ⟨b, rfl, g'⟩ := repRef r
      rw [g] at g'; cases g'
      exact .inr (.inr ⟨ks, h1, by have := h2.length; cases kvs <;> cases ks <;> simp at this ⊢⟩)
    · cases h
  | scr ds => simp [truthy] at h

/-! ### kinds -/
theorem tyX_ok {K : PySem.W.Frag} {G F H : Hp} {m : List Addr} {st : Store} (S : Sim K G F H m st) {d : D} {x : V} {t : String} (r : Rep K F m d x) (h : tyName st d = some t) : TyX K H x (.type t) ∧ t ∈ ["NoneType", "bool", "int", "str", "tuple", "list", "dict"] := by
  cases d with
  | non => rw [repNon r]; simp [tyName] at h; subst h; exact ⟨.base .non, by simp⟩
  | bl c => rw [repBl r]; simp [tyName] at h; subst h; exact ⟨.base (.bl c), by simp⟩
  | int i => rw [repInt r]; simp [tyName] at h; subst h; exact ⟨.base (.int i), by simp⟩
  | str s => rw [(repStr r).1]; simp [tyName] at h; subst h; exact ⟨.base (.str _), by simp⟩
  | tup ds =>
    obtain ⟨a, vs, rfl, h1, h2⟩ := repTupA r
    simp [tyName] at h; subst h
    refine ⟨?_, by simp⟩
    rcases h1 with ⟨o, h1, _⟩ | ⟨o, its, n, hk, hc, _⟩
    · exact .fTuple (S.sub _ _ h1)
    · exact .kTuple hk hc
  | lst ds =>
    obtain ⟨a, vs, rfl, h1, h2⟩ := repLst r
    simp [tyName] at h; subst h
    exact ⟨.base (.lst (S.sub _ _ h1)), by simp⟩
  | ref n =>
    simp only [tyName] at h
    split at h
    · rename_i ds hq
      cases h
      obtain ⟨a, vs, g, f, h1, h2⟩ := S.lst hq
      obtain ⟨b, rfl, g'⟩ := repRef r
      rw [g] at g'; cases g'
      exact ⟨.base (.lst h1), by simp⟩
    · rename_i kvs hq
      cases h
      obtain ⟨a, ks, g, f, h1, h2⟩ := S.dict hq
      obtain ⟨b, rfl, g'⟩ := repRef r
      rw [g] at g'; cases g'
      exact ⟨.base (.dK h1), by simp⟩
    · cases h
  | scr ds => simp [tyName] at h
/-- the kinds asked for -/
def tyNames : List String := ["int", "bool", "str", "tuple", "list"]
theorem kit_all {K : PySem.W.Frag} : ∀ t ∈ ["NoneType", "bool", "int", "str", "tuple", "list", "dict"], ∀ c ∈ tyNames, PySem.W.kitOne K (.type t) (.type c) = some (isTy t c) := by
  have h : ∀ t ∈ ["NoneType", "bool", "int", "str", "tuple", "list", "dict"], ∀ c ∈ tyNames, kitB t c = some (isTy t c) := by decide +kernel
  exact fun t ht c hc => kit_ty (h t ht c hc)
theorem kitAny_all {K : PySem.W.Frag} {t : String} (ht : t ∈ ["NoneType", "bool", "int", "str", "tuple", "list", "dict"]) : ∀ ts : List String, (∀ c ∈ ts, c ∈ tyNames) → PySem.W.kitAny K (.type t) (ts.map Value.type) = some (ts.any (isTy t))
  | [], _ => kitAny_nil
  | c :: ts, h => by
    have ih := kitAny_all (K := K) ht ts fun x hx => h x (List.mem_cons_of_mem _ hx)
    refine kitAny_cons (kit_all t ht c (h c (by simp))) (fun e => ?_) (fun e => ?_)
    · rw [List.any_cons, e, Bool.false_or]; exact ih
    · rw [List.any_cons, e]; rfl
end
end T
set_option Elab.async false
set_option linter.all false
set_option autoImplicit false
set_option maxRecDepth 100000
set_option maxHeartbeats 4000000
/-! # T6: the check of a def's text against its term; the context -/
namespace T
open PySem PySem.Spec PyProof.Rows L2

/-- what the check knows of a block -/
structure Bl where
  N : List Str
  sc : Scope
  fn : Str → Bool := fun _ => true
  defs : List (String × Nat) := []
  gl : List String := []
  cal : Bool := true
  hx : Option Nat := none
  isn : List String := []

def bltNames : List String := ["len", "abs", "int", "str", "sum", "min", "max", "tuple", "list", "all", "any", "sorted", "chr", "ord", "range", "isinstance", "reversed", "zip", "enumerate", "bool"]
def btName : Bt → String
  | .len => "len" | .abs => "abs" | .int => "int" | .str => "str" | .sum => "sum" | .min2 => "min" | .max2 => "max" | .min1 => "min" | .max1 => "max"
  | .tuple => "tuple" | .list => "list" | .tupRg1 => "tuple" | .tupRg2 => "tuple" | .lstRg1 => "list" | .lstRg2 => "list" | .all => "all" | .any => "any" | .sorted => "sorted"
  | .chr => "chr" | .ord => "ord"

/-- a name's slot -/
def visB (b : Bl) (i : Nat) (x : Str) : Bool := decide (b.N[i]? = some x) && (match b.sc.names.lookup x with | some .local => true | some .cell => true | some .free => true | _ => false) && !(x == ("__debug__" : Str)) && !(x == ("__classdict__" : Str))
/-- a slot that may be stored to -/
def locB (b : Bl) (i : Nat) (x : Str) : Bool := decide (b.N[i]? = some x) && (match b.sc.names.lookup x with | some .local => true | some .cell => b.fn x | _ => false) && !(b.hx == some i)
/-- a global name -/
def glbB (b : Bl) (n : String) (x : Str) : Bool := decide (x = Str.ofString n) && (match b.sc.names.lookup x with | some .globalImplicit => true | _ => false) && !(x == ("__debug__" : Str))
/-- forms whose truth is their value's -/
def plainX : Expr → Bool
  | .Name .. => true | .Call .. => true | .Subscript .. => true | .Constant .. => true | .BinOp .. => true | .Attribute .. => true | .List .. => true | .Tuple .. => true
  | .UnaryOp .USub _ _ => true | .ListComp .. => true
  | _ => false
/-- forms with no rule of their own in a list, as an index, as what is walked -/
def simpX : Expr → Bool
  | .Starred .. => false | .Slice .. => false | .Set .. => false | .NamedExpr .. => false | .Yield .. => false | .YieldFrom .. => false | .Await .. => false | .Lambda .. => false
  | _ => true
/-- not f() with a name f -/
def recvX : Expr → Bool
  | .Call (.Name ..) [] [] _ => false
  | _ => true

def own' (l : List (String × Nat)) : List (Str × Nat) := l.map fun p => (Str.ofString p.1, p.2)
def blkOf (b : Bl) (scope : Scope) : Bl := { b with sc := relS scope b.sc, fn := fun x => scope.names.lookup x == some .cell, hx := none }

mutual
def okTg (b : Bl) : Tg → Expr → Bool
  | .nm i, x => match x with | .Name y _ => locB b i y | _ => false
  | .tup ts, x => match x with | .Tuple xs _ _ => b.cal && okTgs b ts xs | _ => false
def okTgs (b : Bl) : List Tg → List Expr → Bool
  | [], xs => xs.isEmpty
  | t :: ts, xs => match xs with | x :: r => okTg b t x && okTgs b ts r | _ => false
end
def tyNameOk (b : Bl) (n : String) : Expr → Bool
  | .Name y _ => glbB b n y && tyNames.contains n
  | _ => false
def tyNamesOk (b : Bl) : List String → List Expr → Bool
  | [], xs => xs.isEmpty
  | n :: ns, xs => match xs with | x :: r => tyNameOk b n x && tyNamesOk b ns r | _ => false
def Es.len : Es → Nat | .nil => 0 | .cons _ es => es.len + 1
mutual
def tgSlots : Tg → List Nat
  | .nm i => [i]
  | .tup ts => tgsSlots ts
def tgsSlots : List Tg → List Nat
  | [] => []
  | t :: ts => tgSlots t ++ tgsSlots ts
end

mutual
/-- t: as a test -/
def okE (b : Bl) (t : Bool) : E → Expr → Bool
  | .var i, x => match x with | .Name y _ => visB b i y | _ => false
  | .int i, x => match x with | .Constant (.int j) _ _ => decide (i = j) | _ => false
  | .str s, x => match x with | .Constant (.str y) _ _ => decide (y = Str.ofString s) && decide (s.toList.length ≤ 1000) | _ => false
  | .bl c, x => match x with | .Constant (.bool d) _ _ => decide (c = d) | _ => false
  | .non, x => match x with | .Constant .none _ _ => true | _ => false
  | .glob g, x => match x with | .Name y _ => glbB b g y && b.gl.contains g | _ => false
  | .bin op _ a c, x => match x with | .BinOp l o r _ => decide (o = opB op) && okE b false a l && okE b false c r | _ => false
  | .neg a, x => match x with | .UnaryOp .USub y _ => okE b false a y | _ => false
  | .cmp op a c, x => match x with | .Compare l [o] [r] _ => decide (o = opC op) && okE b false a l && okE b false c r | _ => false
  | .chain o1 o2 a c d, x => match x with | .Compare l [p1, p2] [r1, r2] _ => decide (p1 = opC o1) && decide (p2 = opC o2) && okE b false a l && okE b false c r1 && okE b false d r2 | _ => false
  | .and es, x => match x with | .BoolOp .And xs _ => okEs b t es xs && !xs.isEmpty | _ => false
  | .or es, x => match x with | .BoolOp .Or xs _ => okEs b t es xs && !xs.isEmpty | _ => false
  | .not a, x => match x with | .UnaryOp .Not y _ => okE b t a y | _ => false
  | .ife c a d, x => match x with | .IfExp y p q _ => !t && okE b true c y && okE b false a p && okE b false d q | _ => false
  | .call f es, x => match x with | .Call (.Name y _) args [] _ => glbB b f y && b.cal && (b.defs.lookup f == some es.len) && okEs b false es args | _ => false
  | .bi o _ es, x => match x with
    | .Call (.Name y _) args [] _ => glbB b (btName o) y && b.cal && (match rgBt o with
      | false => okEs b false es args && !args.isEmpty
      | true => match args with
        | [.Call (.Name z _) as [] _] => glbB b "range" z && okEs b false es as && (match o, as with | .tupRg1, [_] => true | .lstRg1, [_] => true | .tupRg2, [_, _] => true | .lstRg2, [_, _] => true | _, _ => false)
        | _ => false)
    | _ => false
  | .meth m _ o es, x => match x with | .Call (.Attribute v name apos) args [] cpos => decide (name = Str.ofString (mtN m)) && (apos.endLine == cpos.line) && recvX v && decide (args.length < 20) && okE b false o v && okEs b false es args | _ => false
  | .idx a i, x => match x with | .Subscript v j _ => okE b false a v && okE b false i j | _ => false
  | .slc _ a lo hi, x => match x with | .Subscript v (.Slice l h none _) _ => okE b false a v && okEo b lo l && okEo b hi h | _ => false
  | .tup es, x => match x with | .Tuple xs _ _ => okEs b false es xs && decide (xs.length ≤ 1000) | _ => false
  | .lst _ es, x => match x with | .List xs _ => okEs b false es xs && decide (xs.length ≤ 1000) | _ => false
  | .lc _ elt tg it cond own, x => match x with
    | .ListComp e [⟨tx, ix, ifs, as⟩] scope _ => b.cal && decide (as = 0) && blkC b.N b.sc scope (own' own) && okIt b tg tx it ix && okTg (blkOf b scope) tg tx && ((tgSlots tg).all fun i => (own.map (·.2)).contains i) && okE (blkOf b scope) false elt e && okIf (blkOf b scope) cond ifs
    | _ => false
  | .dict0, x => match x with | .Dict [] [] _ => !t | _ => false
  | .isi a ts, x => match x with
    | .Call (.Name y _) [v, w] [] _ => glbB b "isinstance" y && okE b false a v && (match w with
      | .Tuple xs _ _ => tyNamesOk b ts xs && decide (xs.length ≤ 1000)
      | w => match ts with | [n] => tyNameOk b n w | _ => false)
    | _ => false
  | .isx i cs, x => match x with
    | .Call (.Name y _) [.Name v _, w] [] _ => glbB b "isinstance" y && visB b i v && (b.hx == some i) && (match w, cs with | .Name z _, [c] => glbB b c z && b.isn.contains c | _, _ => false)
    | _ => false
  | .xattr i f, x => match x with | .Attribute (.Name v _) a _ => visB b i v && (b.hx == some i) && decide (a = Str.ofString f) | _ => false
  | .attr _ _, _ => false
def okEs (b : Bl) (t : Bool) : Es → List Expr → Bool
  | .nil, xs => xs.isEmpty
  | .cons e es, xs => match xs with | x :: r => okE b t e x && okEs b t es r && (!t || plainX x || simpX x) && simpX x | _ => false
def okEo (b : Bl) : Eo → Option Expr → Bool
  | .no, x => x.isNone
  | .yes e, x => match x with | some y => okE b false e y | none => false
def okIf (b : Bl) : Eo → List Expr → Bool
  | .no, x => x.isEmpty
  | .yes e, x => match x with | [y] => okE b true e y | _ => false
def okIt (b : Bl) (tg : Tg) (tx : Expr) : It → Expr → Bool
  | .val e, x => okE b false e x
  | .rg1 a, x => match x with | .Call (.Name y _) [p] [] _ => glbB b "range" y && okE b false a p | _ => false
  | .rg2 a c, x => match x with | .Call (.Name y _) [p, q] [] _ => glbB b "range" y && okE b false a p && okE b false c q | _ => false
  | .rg3 a c d, x => match x with | .Call (.Name y _) [p, q, r] [] _ => glbB b "range" y && okE b false a p && okE b false c q && okE b false d r | _ => false
  | .enum e, x => match x, tx, tg with | .Call (.Name y _) [p] [] _, .Tuple .., .tup _ => glbB b "enumerate" y && okE b false e p | _, _, _ => false
  | .zip a c, x => match x, tx, tg with | .Call (.Name y _) [p, q] [] _, .Tuple .., .tup _ => glbB b "zip" y && okE b false a p && okE b false c q | _, _, _ => false
  | .rev e, x => match x with | .Call (.Name y _) [p] [] _ => glbB b "reversed" y && okE b false e p | _ => false
  | .items _, _ => false
end

/-! ### the context -/
def spC (K : PySem.W.Frag) (mg : Str → Option Value) (n : Nat) (c : List D → Store → R D) : Sp := fun vs H Q E => vs.length = n ∧ ∃ G F m st ds, Sim K G F H m st ∧ RepL K F m ds vs ∧ Kon K G mg (Rep K) E F m Q (c ds st)
structure CallOk (X : L2.Cx) (f : String) (n : Nat) (c : List D → Store → R D) : Prop where
  ex : ∃ (k : Nat) (a : Addr) (fd : FuncData) (ps : List Str), ps.length = n ∧ X.mg (Str.ofString f) = some (.ref a) ∧ PySem.W.keepIn X.K (.ref a) = true ∧ FnOk X.prog X.w X.K X.mg X.base (L2.CX X.prog X.w) k a fd ps (spC X.K X.mg n c) ∧ Room k X.A ∧ Binds X.K fd ps []
/-- what a name of a class stands for -/
def clsV (mg : Str → Option Value) (z : String) (v : Value) : Prop := mg (Str.ofString z) = some v ∨ (mg (Str.ofString z) = none ∧ bootBuiltins (Str.ofString z) = some v ∧ Str.ofString z ≠ "__name__")
def isCls (v : Value) : Prop := (∃ n, v = .type n) ∨ ∃ a, v = .ref a
/-- the exception that is handled -/
def HxOk (X : L2.Cx) (hx : Option HX) (i : Nat) (x : Exn) : Prop := ∃ (h : HX) (D : Addr) (d : Option Addr) (oe : Obj) (X0 : L2.Cx) (pn : List (Addr × Obj)), hx = some h ∧ h.i = i ∧ X = X0.suite h.a ((h.a, oe) :: pn) ∧ Zc (.ref D) d oe ∧ (∃ vs, oe.data = .fields vs) ∧ ∀ F m, h.P F m → RepX X0.K X0.mg F m x D d
/-- what the class of a handled exception says -/
structure XqOk (K : PySem.W.Frag) (mg : Str → Option Value) (isn : List String) (D : Addr) (xd : Xd) : Prop where
  ec : ExcC K D
  xf : XfC K D
  nf : ∀ f ∈ xd.fs, PySem.W.findIn K (.ref D) (Str.ofString f) = some none
  kit : ∀ z ∈ isn, ∃ v, clsV mg z v ∧ isCls v ∧ PySem.W.kitOne K (.ref D) v = some (xd.mro.contains z)
structure EC (b : Bl) (X : L2.Cx) (Γ : Cx) (W : WX) (hx : Option HX) : Prop where
  N : X.N = b.N
  nd : X.N.Nodup
  sc : X.env.scope = b.sc
  fn : X.fn = b.fn
  takes : Takes X W
  cal : b.cal = true → X.calm = true
  hu : X.A.units + 65 < cLine
  blt : ∀ x ∈ bltNames, X.mg (Str.ofString x) = none
  glob : ∀ x d, x ∈ b.gl → Γ.glob x = some d → ∃ v u, X.mg (Str.ofString x) = some u ∧ RelV v u ∧ ∀ F m, Rep X.K F m d v
  call : b.cal = true → ∀ f n, b.defs.lookup f = some n → CallOk X f n (Γ.call f)
  hxs : b.hx = hx.map (·.i)
  hxo : ∀ i, b.hx = some i → ∃ x, Γ.hx = some (i, x) ∧ HxOk X hx i x
  xcl : ∀ x xd D, Γ.exc x = some xd → X.mg (Str.ofString x) = some (.ref D) → XqOk X.K X.mg b.isn D xd
section
variable {b : Bl} {X : L2.Cx} {Γ : Cx} {W : WX} {hx : Option HX} {pos : Pos}
theorem EC.vis (C : EC b X Γ W hx) {i : Nat} {x : Str} (h : visB b i x = true) : PE X (.Name x pos) (tVar i) := by
  unfold visB at h
  simp only [Bool.and_eq_true, decide_eq_true_eq, Bool.not_eq_true'] at h
  obtain ⟨⟨⟨h1, h2⟩, h3⟩, h4⟩ := h
  refine pe_var (by rw [C.N]; exact h1) ?_ h3 h4
  unfold Vis
  rw [C.sc]
  split at h2
  · rename_i e; rw [e]; exact .inl rfl
  · rename_i e; rw [e]; exact .inr (.inl rfl)
  · rename_i e; rw [e]; exact .inr (.inr rfl)
  · cases h2
theorem EC.loc (C : EC b X Γ W hx) {i : Nat} {x : Str} (h : locB b i x = true) : X.N[i]? = some x ∧ L2.Loc X.env.scope x ∧ (X.fn x = true ∨ X.env.scope.names.lookup x = some .local) ∧ ∀ h : HX, hx = some h → h.i ≠ i := by
  unfold locB at h
  simp only [Bool.and_eq_true, decide_eq_true_eq, Bool.not_eq_true'] at h
  obtain ⟨⟨h1, h2⟩, h3⟩ := h
  refine ⟨by rw [C.N]; exact h1, ?_, ?_, fun j e z => ?_⟩
  · unfold L2.Loc
    rw [C.sc]
    split at h2
    · rename_i e; rw [e]; exact .inl rfl
    · rename_i e; rw [e]; exact .inr rfl
    · cases h2
  · rw [C.sc, C.fn]
    split at h2
    · rename_i e; exact .inr e
    · exact .inl h2
    · cases h2
  · have hh := C.hxs
    rw [e] at hh
    rw [hh] at h3
    simp at h3
    exact h3 z
theorem EC.pgn (C : EC b X Γ W hx) {i : Nat} {x : Str} (h : locB b i x = true) : PG X (.Name x pos) (gName i) := by
  obtain ⟨h1, h2, h3, _⟩ := C.loc h
  exact pg_name C.nd h1 h2 h3
theorem EC.gl (C : EC b X Γ W hx) {n : String} {x : Str} (h : glbB b n x = true) : x = Str.ofString n ∧ Gl X x ∧ (x == ("__debug__" : Str)) = false := by
  unfold glbB at h
  simp only [Bool.and_eq_true, decide_eq_true_eq, Bool.not_eq_true'] at h
  obtain ⟨⟨h1, h2⟩, h3⟩ := h
  refine ⟨h1, ?_, h3⟩
  unfold Gl
  show X.env.scope.names.lookup x = _
  rw [C.sc]
  split at h2
  · rename_i e; exact e
  · cases h2
end

theorem starOk {x : Expr} {xs : List Expr} {env : Env} (h : simpX x = true) : starEach (x :: xs) env = (false, eval x env) :: starEach xs env := by
  cases x <;> first | rfl | cases h
theorem foldOk {x : Expr} {env : Env} (h : simpX x = true) : ∀ v, foldedSetIterable x env v = pure v := by
  intro v
  cases x <;> first | rfl | cases h
theorem ixOk {x : Expr} (h : simpX x = true) : PlainIx x := by
  intro o i
  cases x <;> first | rfl | cases h
theorem markOk {x : Expr} {op : CmpOp} (h : simpX x = true) : behindInMarks op x = false := by
  cases x <;> first | rfl | cases h
theorem trueOk {x : Expr} {env : Env} (h : plainX x = true) : ∀ whole, isTrue x env whole = (do let v ← whole; standAt x.pos; holding [v] (PySem.truthy v)) := by
  intro whole
  cases x <;> first | rfl | cases h | (rename_i op _ _; cases op <;> first | rfl | cases h)
theorem baseOk {x : Expr} {name : Str} {env : Env} {w : Sem Value} (h : recvX x = true) : attributeBase x name env w = w := by
  unfold attributeBase
  split
  · cases h
  · rfl
theorem backOk : ∀ {xs : List Expr} {env : Env} {pos : Pos}, (∀ x ∈ xs, simpX x = true) → (backTo pos (starEach xs env)).any (·.1) = false
  | [], _, _, _ => rfl
  | x :: xs, env, pos, h => by
    rw [starOk (h x (by simp))]
    have ih := backOk (xs := xs) (env := env) (pos := pos) fun y hy => h y (by simp [hy])
    unfold backTo at ih ⊢
    simpa using ih
theorem okE_simp (b : Bl) (t : Bool) : ∀ (e : E) (x : Expr), okE b t e x = true → simpX x = true
  | .var i, x, h => by unfold okE at h; split at h <;> first | rfl | cases h
  | .int i, x, h => by unfold okE at h; split at h <;> first | rfl | cases h
  | .str s, x, h => by unfold okE at h; split at h <;> first | rfl | cases h
  | .bl c, x, h => by unfold okE at h; split at h <;> first | rfl | cases h
  | .non, x, h => by unfold okE at h; split at h <;> first | rfl | cases h
  | .glob g, x, h => by unfold okE at h; split at h <;> first | rfl | cases h
  | .bin op _ a c, x, h => by unfold okE at h; split at h <;> first | rfl | cases h
  | .neg a, x, h => by unfold okE at h; split at h <;> first | rfl | cases h
  | .cmp op a c, x, h => by unfold okE at h; split at h <;> first | rfl | cases h
  | .chain o1 o2 a c d, x, h => by unfold okE at h; split at h <;> first | rfl | cases h
  | .and es, x, h => by unfold okE at h; split at h <;> first | rfl | cases h
  | .or es, x, h => by unfold okE at h; split at h <;> first | rfl | cases h
  | .not a, x, h => by unfold okE at h; split at h <;> first | rfl | cases h
  | .ife c a d, x, h => by unfold okE at h; split at h <;> first | rfl | cases h
  | .call f es, x, h => by unfold okE at h; split at h <;> first | rfl | cases h
  | .bi o _ es, x, h => by unfold okE at h; split at h <;> first | rfl | cases h
  | .meth m _ o es, x, h => by unfold okE at h; split at h <;> first | rfl | cases h
  | .idx a i, x, h => by unfold okE at h; split at h <;> first | rfl | cases h
  | .slc _ a lo hi, x, h => by unfold okE at h; split at h <;> first | rfl | cases h
  | .tup es, x, h => by unfold okE at h; split at h <;> first | rfl | cases h
  | .lst _ es, x, h => by unfold okE at h; split at h <;> first | rfl | cases h
  | .lc _ elt tg it cond own, x, h => by unfold okE at h; split at h <;> first | rfl | cases h
  | .dict0, x, h => by unfold okE at h; split at h <;> first | rfl | cases h
  | .isi a ts, x, h => by unfold okE at h; split at h <;> first | rfl | cases h
  | .isx _ _, x, h => by unfold okE at h; split at h <;> first | rfl | cases h
  | .xattr _ _, x, h => by unfold okE at h; split at h <;> first | rfl | cases h
  | .attr _ _, _, h => by unfold okE at h; cases h
end T
set_option Elab.async false
set_option linter.all false
set_option autoImplicit false
set_option maxRecDepth 100000
set_option maxHeartbeats 4000000
/-! # T7: targets, what is walked -/
namespace T
open PySem PySem.Spec PyProof.Rows L2

def RepW (K : PySem.W.Frag) (F : Hp) (m : List Addr) (d : D) (x : V) : Prop := Rep K F m d x ∨ ∃ ds a vs, d = .tup ds ∧ x = .ref a ∧ F a = some (.tup vs) ∧ RepL K F m ds vs
def tTg (K : PySem.W.Frag) (hx : Option HX) (tg : Tg) : TG := fun v σ H Q => ∃ G F m st env d env', Sim K G F H m st ∧ RepE K F m hx env σ ∧ RepW K F m d v ∧ (∀ i, tg = .nm i → Rep K F m d v) ∧ bindT st tg d env = some env' ∧
  ∀ σ', RepE K F m hx env' σ' → (∀ i, i ∉ tgSlots tg → σ'[i]? = σ[i]?) → σ'.length = σ.length → Q σ' H
def tTgs (K : PySem.W.Frag) (hx : Option HX) (ts : List Tg) : TGs := fun vs σ H Q => ∃ G F m st env ds env', Sim K G F H m st ∧ RepE K F m hx env σ ∧ RepL K F m ds vs ∧ bindTs st ts ds env = some env' ∧
  ∀ σ', RepE K F m hx env' σ' → (∀ i, i ∉ tgsSlots ts → σ'[i]? = σ[i]?) → σ'.length = σ.length → Q σ' H
section
variable {b : Bl} {X : L2.Cx} {Γ : Cx} {W : WX} {hx : Option HX}
theorem okTg_form {t : Tg} {x : Expr} (h : okTg b t x = true) : (∃ y p, x = .Name y p) ∨ ∃ xs k p, x = .Tuple xs k p := by
  cases t with
  | nm i => unfold okTg at h; split at h; exact .inl ⟨_, _, rfl⟩; cases h
  | tup ts => unfold okTg at h; split at h; exact .inr ⟨_, _, _, rfl⟩; cases h
theorem okTg_each {t : Tg} {x : Expr} {xs : List Expr} {env : Env} (h : okTg b t x = true) : assignEach (x :: xs) env = (false, assign x env) :: assignEach xs env := by
  rcases okTg_form h with ⟨y, p, rfl⟩ | ⟨ys, k, p, rfl⟩ <;> rfl
theorem okTgs_each {env : Env} : ∀ {ts : List Tg} {xs : List Expr}, okTgs b ts xs = true → (assignEach xs env).length = ts.length ∧ (assignEach xs env).findIdx? (·.1) = none ∧ ∀ p ∈ assignEach xs env, p.1 = false
  | [], xs, h => by
    unfold okTgs at h
    cases xs with
    | nil => exact ⟨rfl, rfl, fun p hp => by cases hp⟩
    | cons x r => cases h
  | t :: ts, xs, h => by
    unfold okTgs at h
    split at h
    · rename_i x r
      simp only [Bool.and_eq_true] at h
      obtain ⟨h1, h2, h3⟩ := okTgs_each (env := env) h.2
      have a3 : ∀ p ∈ assignEach (x :: r) env, p.1 = false := fun p hp => by
        rw [okTg_each h.1] at hp
        rcases List.mem_cons.mp hp with e | hp
        · rw [e]
        · exact h3 p hp
      refine ⟨by rw [okTg_each h.1]; simp [h1], ?_, a3⟩
      rw [List.findIdx?_eq_none_iff]
      exact a3
    · cases h
theorem bindTs_len {st : Store} : ∀ {ts : List Tg} {ds : List D} {env env' : Ev}, bindTs st ts ds env = some env' → ds.length = ts.length
  | [], ds, env, env', h => by
    cases ds with
    | nil => rfl
    | cons => simp [bindTs] at h
  | t :: ts, ds, env, env', h => by
    cases ds with
    | nil => simp [bindTs] at h
    | cons d ds =>
      simp only [bindTs] at h
      split at h
      · simp [bindTs_len h]
      · cases h
mutual
theorem tg_ok (C : EC b X Γ W hx) : ∀ (t : Tg) (x : Expr), okTg b t x = true → PG X x (tTg X.K hx t)
  | .nm i, x, h => by
    unfold okTg at h
    split at h
    · refine ⟨fun pins s σ H v u Q I r hq => ?_⟩
      obtain ⟨G, F, m, st, env, d, env', S, E, rw_, rn, hb, q⟩ := hq
      simp only [bindT, Option.some.injEq] at hb
      subst hb
      obtain ⟨_, _, _, hh⟩ := C.loc h
      exact (C.pgn h).run pins s σ H v u Q I r (q _ (E.set (rn i rfl) hh) (fun j hj => List.getElem?_set_ne (by intro e; subst e; simp [tgSlots] at hj)) (by simp))
    · cases h
  | .tup ts, x, h => by
    unfold okTg at h
    split at h
    · rename_i xs k p
      simp only [Bool.and_eq_true] at h
      obtain ⟨hc, h⟩ := h
      have P := tgs_ok C ts xs h
      obtain ⟨h1, h2, _⟩ := okTgs_each (env := X.env) h
      refine ⟨fun pins s σ H v u Q I r hq => ?_⟩
      obtain ⟨G, F, m, st, env, d, env', S, E, rw_, rn, hb, q⟩ := hq
      have go : ∀ {ds : List D} {a : Addr} {vs : List V}, v = .ref a → (SqL X.K H a vs ∨ SqT X.K H a vs) → RepL X.K F m ds vs → bindTs st ts ds env = some env' → wpAny (model X.prog X.w) X.A (assign (.Tuple xs k p) X.env u) (fun _ s' => ∃ σ' H', Inv X pins σ' H' s' ∧ Q σ' H') X.xe s := by
        intro ds a vs e hs rl hb
        have hl : vs.length = ts.length := by
          rw [← rl.length]; exact bindTs_len hb
        have q' : tTgs X.K hx ts vs σ H Q := ⟨G, F, m, st, env, ds, env', S, E, rl, hb, fun σ' e1 e2 e3 => q σ' e1 (fun i hi => e2 i (by simpa [tgSlots] using hi)) e3⟩
        rcases hs with hs | hs
        · exact (pg_lst (n := ts.length) (C.cal hc) P h1 h2).run pins s σ H v u Q I r ⟨a, vs, e, hs, hl, q'⟩
        · exact (pg_tup (n := ts.length) (C.cal hc) P h1 h2).run pins s σ H v u Q I r ⟨a, vs, e, hs, hl, q'⟩
      rcases rw_ with rw_ | ⟨ds, a, vs, rfl, rfl, hF, rl⟩
      · simp only [bindT] at hb
        split at hb
        · rename_i ds e
          obtain ⟨a, vs, rfl, hs, rl⟩ := asSeq_ok S rw_ e
          exact go rfl hs rl hb
        · cases hb
      · simp only [bindT, asSeq] at hb
        exact go rfl (.inr (.inl (.inl (S.sub _ _ hF)))) rl hb
    · cases h
theorem tgs_ok (C : EC b X Γ W hx) : ∀ (ts : List Tg) (xs : List Expr), okTgs b ts xs = true → PGs X xs (tTgs X.K hx ts)
  | [], xs, h => by
    unfold okTgs at h
    cases xs with
    | nil =>
      refine ⟨fun pins s σ H vs us Q I r hq => ?_⟩
      obtain ⟨G, F, m, st, env, ds, env', S, E, rl, hb, q⟩ := hq
      cases ds with
      | nil =>
        simp only [bindTs, Option.some.injEq] at hb
        subst hb
        exact pgs_nil.run pins s σ H vs us Q I r ⟨repL0 rl, q _ E (fun _ _ => rfl) rfl⟩
      | cons d ds => simp [bindTs] at hb
    | cons x r => cases h
  | t :: ts, xs, h => by
    unfold okTgs at h
    split at h
    · rename_i x r
      simp only [Bool.and_eq_true] at h
      have P1 := tg_ok C t x h.1
      have P2 := tgs_ok C ts r h.2
      refine ⟨fun pins s σ H vs us Q I rv hq => ?_⟩
      obtain ⟨G, F, m, st, env, ds, env', S, E, rl, hb, q⟩ := hq
      cases ds with
      | nil => simp [bindTs] at hb
      | cons d ds =>
        simp only [bindTs] at hb
        split at hb
        · rename_i env1 e1
          obtain ⟨v, vr, rfl, r1, r2⟩ := rl.cons_inv
          refine (pgs_cons P1 P2 (by rw [okTg_each h.1]; rfl)).run pins s σ H _ us Q I rv ⟨v, vr, rfl, G, F, m, st, env, d, env1, S, E, .inl r1, fun _ _ => r1, e1, fun σ1 E1 c1 l1 => ?_⟩
          exact ⟨G, F, m, st, env1, ds, env', S, E1, r2, hb, fun σ2 E2 c2 l2 => q σ2 E2 (fun i hi => (c2 i (by simp [tgsSlots] at hi; exact hi.2)).trans (c1 i (by simp [tgsSlots] at hi; exact hi.1))) (l2.trans l1)⟩
        · cases hb
    · cases h
end
end

/-! ### what is walked -/
def Snap (K : PySem.W.Frag) (ds : List D) (J : L2.It) (F : Hp) (m : List Addr) : Prop := ∀ G F' m' H st, Ext F m F' m' → Sim K G F' H m' st →
  (∀ (i : Nat) (d : D), ds[i]? = some d → J.go i H ∧ ∀ x H', J.yld i H x H' → ∃ F'', Ext F' m' F'' m' ∧ Sim K G F'' H' m' st ∧ RepW K F'' m' d x) ∧ (∀ i, ds.length ≤ i → J.stop i H)
def srcRel (K : PySem.W.Frag) (tp : Bool) : Rl Src L2.It := fun F m src J => match src with
  | .snap ds => Snap K ds J F m ∧ (tp = false → ∀ G F' m' H st, Ext F m F' m' → Sim K G F' H m' st → ∀ (i : Nat) (d : D), ds[i]? = some d → ∀ x H', J.yld i H x H' → H' = H ∧ Rep K F' m' d x)
  | .live n => ∃ a, m[n]? = some a ∧ J = Itl K a
section
variable {K : PySem.W.Frag} {F : Hp} {m : List Addr}
theorem srcSame {ds : List D} {J : L2.It} {tp : Bool} (h : ∀ G F' m' H st, Ext F m F' m' → Sim K G F' H m' st →
    (∀ (i : Nat) (d : D), ds[i]? = some d → J.go i H ∧ ∀ x H', J.yld i H x H' → H' = H ∧ Rep K F' m' d x) ∧ (∀ i, ds.length ≤ i → J.stop i H)) : srcRel K tp F m (.snap ds) J :=
  ⟨fun G F' m' H st e S => ⟨fun i d hd => ⟨((h G F' m' H st e S).1 i d hd).1, fun x H' y => by
    obtain ⟨rfl, r⟩ := ((h G F' m' H st e S).1 i d hd).2 x H' y
    exact ⟨F', Ext.refl, S, .inl r⟩⟩, (h G F' m' H st e S).2⟩, fun _ G F' m' H st e S i d hd x H' y => ((h G F' m' H st e S).1 i d hd).2 x H' y⟩
theorem src_list {ds : List D} {a : Addr} {vs : List V} {tp : Bool} (hs : SqL K F a vs) (r : RepL K F m ds vs) : srcRel K tp F m (.snap ds) (Itl K a) :=
  srcSame fun G F' m' H st e S => by
    have hs' : SqL K H a vs := sqL_mono S.sub (sqL_mono e.sub hs)
    refine ⟨fun i d hd => ?_, fun i hi => ⟨vs, hs', by rw [← r.length]; exact hi⟩⟩
    obtain ⟨v, e1, e2⟩ := r.get hd
    refine ⟨⟨vs, v, hs', e1⟩, fun x H' y => ⟨y.1, ?_⟩⟩
    have := y.2 vs hs'
    rw [e1] at this; cases this
    exact Rep.mono e _ _ e2
theorem src_tup {ds : List D} {a : Addr} {vs : List V} {tp : Bool} (hs : SqT K F a vs) (r : RepL K F m ds vs) : srcRel K tp F m (.snap ds) (Itt K a) :=
  srcSame fun G F' m' H st e S => by
    have hs' : SqT K H a vs := sqT_mono S.sub (sqT_mono e.sub hs)
    refine ⟨fun i d hd => ?_, fun i hi => ⟨vs, hs', by rw [← r.length]; exact hi⟩⟩
    obtain ⟨v, e1, e2⟩ := r.get hd
    refine ⟨⟨vs, v, hs', e1⟩, fun x H' y => ⟨y.1, ?_⟩⟩
    have := y.2 vs hs'
    rw [e1] at this; cases this
    exact Rep.mono e _ _ e2
theorem src_rev {ds : List D} {a : Addr} {vs : List V} {tp : Bool} (hs : SqL K F a vs) (r : RepL K F m ds vs) : srcRel K tp F m (.snap ds.reverse) (Itv K a vs.length) :=
  srcSame fun G F' m' H st e S => by
    have hs' : SqL K H a vs := sqL_mono S.sub (sqL_mono e.sub hs)
    refine ⟨fun i d hd => ?_, fun i hi => ?_⟩
    · obtain ⟨v, e1, e2⟩ := r.reverse.get hd
      have hl : i < vs.length := by simpa using (List.getElem?_eq_some_iff.mp e1).1
      rw [List.getElem?_reverse (by simpa using hl)] at e1
      refine ⟨⟨hl, vs, v, hs', e1⟩, fun x H' y => ⟨y.1, ?_⟩⟩
      have := y.2 vs hs'
      rw [e1] at this; cases this
      exact Rep.mono e _ _ e2
    · show vs.length ≤ i
      rw [← r.length]; simpa using hi
theorem src_revT {ds : List D} {a : Addr} {vs : List V} {tp : Bool} (hs : SqT K F a vs) (r : RepL K F m ds vs) : srcRel K tp F m (.snap ds.reverse) (RT.ItvT K a vs.length) :=
  srcSame fun G F' m' H st e S => by
    have hs' : SqT K H a vs := sqT_mono S.sub (sqT_mono e.sub hs)
    refine ⟨fun i d hd => ?_, fun i hi => ?_⟩
    · obtain ⟨v, e1, e2⟩ := r.reverse.get hd
      have hl : i < vs.length := by simpa using (List.getElem?_eq_some_iff.mp e1).1
      rw [List.getElem?_reverse (by simpa using hl)] at e1
      refine ⟨⟨hl, vs, v, hs', e1⟩, fun x H' y => ⟨y.1, ?_⟩⟩
      have := y.2 vs hs'
      rw [e1] at this; cases this
      exact Rep.mono e _ _ e2
    · show vs.length ≤ i
      rw [← r.length]; simpa using hi
theorem src_range {lo : Int} {hi : Int} {tp : Bool} : srcRel K tp F m (.snap (rgD lo hi)) (Itr lo (hi - lo).toNat) :=
  srcSame fun G F' m' H st e S => by
    refine ⟨fun i d hd => ?_, fun i h => by show (hi - lo).toNat ≤ i; simp [rgD] at h; omega⟩
    unfold rgD at hd
    rw [List.getElem?_map] at hd
    obtain ⟨j, hj, rfl⟩ := Option.map_eq_some_iff.mp hd
    obtain ⟨hl, e1⟩ := List.getElem?_eq_some_iff.mp hj
    simp at hl e1
    subst e1
    refine ⟨show i < _ by omega, fun x H' y => ⟨y.1, ?_⟩⟩
    rw [y.2]; exact rInt
theorem src_rangeC {lo c : Int} {n : Nat} {tp : Bool} : srcRel K tp F m (.snap ((List.range n).map fun (i : Nat) => D.int (lo + i * c))) (Itc lo c n) :=
  srcSame fun G F' m' H st e S => by
    refine ⟨fun i d hd => ?_, fun i h => by show n ≤ i; simpa using h⟩
    rw [List.getElem?_map] at hd
    obtain ⟨j, hj, rfl⟩ := Option.map_eq_some_iff.mp hd
    obtain ⟨hl, e1⟩ := List.getElem?_eq_some_iff.mp hj
    simp at hl e1
    subst e1
    refine ⟨hl, fun x H' y => ⟨y.1, ?_⟩⟩
    rw [y.2]; exact rInt
theorem src_str {s : List Nat} {tp : Bool} (ok : StrOk s) : srcRel K tp F m (.snap (s.map fun c => D.str [c])) (Its (cs s)) :=
  srcSame fun G F' m' H st e S => by
    refine ⟨fun i d hd => ?_, fun i h => ?_⟩
    · rw [List.getElem?_map] at hd
      obtain ⟨c, hc, rfl⟩ := Option.map_eq_some_iff.mp hd
      obtain ⟨hl, e1⟩ := List.getElem?_eq_some_iff.mp hc
      refine ⟨show i < (cs s).cps.size by simpa [cs] using hl, fun x H' y => ?_⟩
      obtain ⟨e2, c', e3, e4⟩ := y
      refine ⟨e2, ?_⟩
      have : c' = c := by
        have z : (cs s).cps[i]? = s[i]? := by simp [cs]
        rw [z, hc] at e3
        exact (Option.some.inj e3).symm
      subst this
      subst e4
      exact rStr (ok.one (List.mem_of_getElem? hc))
    · show (cs s).cps.size ≤ i
      simpa [cs] using h
theorem src_enum {ds : List D} {a : Addr} {vs : List V} (hs : SqL K F a vs) (r : RepL K F m ds vs) : srcRel K true F m (.snap (ds.zipIdx.map fun p => D.tup [.int p.2, p.1])) (Ite K a) :=
  ⟨fun G F' m' H st e S => by
    have hs' : SqL K H a vs := sqL_mono S.sub (sqL_mono e.sub hs)
    refine ⟨fun i d hd => ?_, fun i hi => ⟨vs, hs', by rw [← r.length]; simpa using hi⟩⟩
    rw [List.getElem?_map] at hd
    obtain ⟨p, hp, rfl⟩ := Option.map_eq_some_iff.mp hd
    rw [List.getElem?_zipIdx] at hp
    obtain ⟨d0, hd0, rfl⟩ := Option.map_eq_some_iff.mp hp
    obtain ⟨v, e1, e2⟩ := r.get hd0
    refine ⟨⟨vs, v, hs', e1⟩, fun x H' y => ?_⟩
    obtain ⟨T, z, rfl, hT, rfl, hz⟩ := y
    have := hz vs hs'
    rw [e1] at this; cases this
    obtain ⟨S', e'⟩ := S.newF (o := .tup [.int (i : Nat), v]) hT
    refine ⟨_, e', S', .inr ⟨_, T, _, rfl, rfl, upd_same, ?_⟩⟩
    exact RepL.cons (by simpa using rInt) (RepL.one (Rep.mono (e.trans e') _ _ e2)), fun h => by cases h⟩
theorem src_zip {ds es : List D} {a b : Addr} {vs ws : List V} (hs : SqL K F a vs) (r : RepL K F m ds vs) (hs2 : SqL K F b ws) (r2 : RepL K F m es ws) : srcRel K true F m (.snap ((ds.zip es).map fun p => D.tup [p.1, p.2])) (Itz K a b) :=
  ⟨fun G F' m' H st e S => by
    have h1 : SqL K H a vs := sqL_mono S.sub (sqL_mono e.sub hs)
    have h2 : SqL K H b ws := sqL_mono S.sub (sqL_mono e.sub hs2)
    refine ⟨fun i d hd => ?_, fun i hi => ⟨vs, ws, h1, h2, by have a1 := r.length; have a2 := r2.length; simp at hi; omega⟩⟩
    rw [List.getElem?_map] at hd
    obtain ⟨p, hp, rfl⟩ := Option.map_eq_some_iff.mp hd
    rw [List.getElem?_zip_eq_some] at hp
    obtain ⟨v, e1, e2⟩ := r.get hp.1
    obtain ⟨w, e3, e4⟩ := r2.get hp.2
    refine ⟨⟨vs, ws, v, w, h1, h2, e1, e3⟩, fun x H' y => ?_⟩
    obtain ⟨T, z, z2, rfl, hT, rfl, hz, hz2⟩ := y
    have := hz vs h1
    rw [e1] at this; cases this
    have := hz2 ws h2
    rw [e3] at this; cases this
    obtain ⟨S', e'⟩ := S.newF (o := .tup [v, w]) hT
    exact ⟨_, e', S', .inr ⟨_, T, _, rfl, rfl, upd_same, RepL.cons (Rep.mono (e.trans e') _ _ e2) (RepL.one (Rep.mono (e.trans e') _ _ e4))⟩⟩, fun h => by cases h⟩
theorem src_zipT {ds es : List D} {a b : Addr} {vs ws : List V} (hs : SqT K F a vs) (r : RepL K F m ds vs) (hs2 : SqT K F b ws) (r2 : RepL K F m es ws) : srcRel K true F m (.snap ((ds.zip es).map fun p => D.tup [p.1, p.2])) (RZ.ItzT K a b) :=
  ⟨fun G F' m' H st e S => by
    have h1 : SqT K H a vs := sqT_mono S.sub (sqT_mono e.sub hs)
    have h2 : SqT K H b ws := sqT_mono S.sub (sqT_mono e.sub hs2)
    refine ⟨fun i d hd => ?_, fun i hi => ⟨vs, ws, h1, h2, by have a1 := r.length; have a2 := r2.length; simp at hi; omega⟩⟩
    rw [List.getElem?_map] at hd
    obtain ⟨p, hp, rfl⟩ := Option.map_eq_some_iff.mp hd
    rw [List.getElem?_zip_eq_some] at hp
    obtain ⟨v, e1, e2⟩ := r.get hp.1
    obtain ⟨w, e3, e4⟩ := r2.get hp.2
    refine ⟨⟨vs, ws, v, w, h1, h2, e1, e3⟩, fun x H' y => ?_⟩
    obtain ⟨T, z, z2, rfl, hT, rfl, hz, hz2⟩ := y
    have := hz vs h1
    rw [e1] at this; cases this
    have := hz2 ws h2
    rw [e3] at this; cases this
    obtain ⟨S', e'⟩ := S.newF (o := .tup [v, w]) hT
    exact ⟨_, e', S', .inr ⟨_, T, _, rfl, rfl, upd_same, RepL.cons (Rep.mono (e.trans e') _ _ e2) (RepL.one (Rep.mono (e.trans e') _ _ e4))⟩⟩, fun h => by cases h⟩
end
end T
set_option Elab.async false
set_option linter.all false
set_option autoImplicit false
set_option maxRecDepth 100000
set_option maxHeartbeats 8000000
/-! # T8: expressions -/
namespace T
open PySem PySem.Spec PyProof.Rows L2

theorem R.assoc {α β γ : Type} (r : R α) (f : α → Store → R β) (g : β → Store → R γ) : (r.bind f).bind g = r.bind fun a s => (f a s).bind g := by cases r <;> rfl
def tru (x : D) (st : Store) : R Bool := match truthy st x with | some b => .ok b st | none => .bad
noncomputable def evT (Γ : Cx) (e : E) (env : Ev) (st : Store) : R Bool := (evE Γ e env st).bind tru
theorem evT_not (Γ : Cx) (a : E) (env : Ev) (st : Store) : evT Γ (.not a) env st = (evT Γ a env st).bind fun b s => .ok (!b) s := by
  unfold evT
  rw [evE, R.assoc, R.assoc]
  congr 1; funext x s
  unfold tru
  cases truthy s x <;> simp [ofO, truthy]
theorem evT_ife (Γ : Cx) (t a b : E) (env : Ev) (st : Store) : evE Γ (.ife t a b) env st = (evT Γ t env st).bind fun c s => if c = true then evE Γ a env s else evE Γ b env s := by
  unfold evT
  rw [evE, R.assoc]
  congr 1; funext x s
  unfold tru
  cases truthy s x with
  | none => rfl
  | some c => cases c <;> rfl

def tG {α β : Type} (K : PySem.W.Frag) (mg : Str → Option Value) (W : WX) (hx : Option HX) (Rel : Rl α β) (f : Ev → Store → R α) : L2.St → Hp → (β → Hp → Prop) → Prop :=
  fun σ H Q => ∃ G F m st env, Sim K G F H m st ∧ RepE K F m hx env σ ∧ Kon K G mg Rel (fun c d H => W c d σ H) F m Q (f env st)
/-- a comprehension's condition -/
noncomputable def evC (Γ : Cx) (c : Eo) (env : Ev) (st : Store) : R Bool := match c with | .no => .ok true st | .yes e => evT Γ e env st
def tpOf : It → Bool | .enum _ => true | .zip _ _ => true | _ => false
section
variable (X : L2.Cx) (W : WX) (hx : Option HX)
abbrev tE (Γ : Cx) (e : E) : TE := tG X.K X.mg W hx (Rep X.K) (evE Γ e)
abbrev tT (Γ : Cx) (e : E) : TT := tG X.K X.mg W hx repB (evT Γ e)
abbrev tA (Γ : Cx) (es : Es) : TA := tG X.K X.mg W hx (RepL X.K) (evA Γ es)
abbrev tP (Γ : Cx) (e : Eo) : TO := tG X.K X.mg W hx (fun _ _ (a b : Option Int) => a = b) (evP Γ e)
abbrev tC' (Γ : Cx) (c : Eo) : TT := tG X.K X.mg W hx repB (evC Γ c)
abbrev tI (Γ : Cx) (it : It) : TI := tG X.K X.mg W hx (srcRel X.K (tpOf it)) (evIt Γ it)
end

section
variable {b : Bl} {X : L2.Cx} {Γ : Cx} {W : WX} {hx : Option HX} {pos : Pos}
/-- one step -/
theorem tG.bind {α β α' β' : Type} {Rel : Rl α β} {Rel' : Rl α' β'} {f : Ev → Store → R α} {g : Ev → α → Store → R α'} {σ : L2.St} {H : Hp} {Q : β' → Hp → Prop} {Q1 : β → Hp → Prop} (h : tG X.K X.mg W hx Rel' (fun env st => (f env st).bind (g env)) σ H Q)
    (k : ∀ v H1 G F m st env a, Sim X.K G F H1 m st → RepE X.K F m hx env σ → Rel F m a v → Kon X.K G X.mg Rel' (fun c d H => W c d σ H) F m Q (g env a st) → Q1 v H1) : tG X.K X.mg W hx Rel f σ H Q1 := by
  obtain ⟨G, F, m, st, env, S, E, q⟩ := h
  exact ⟨G, F, m, st, env, S, E, (Kon.bind q).imp fun v H1 ⟨F1, m1, a, st1, e1, S1, r1, q1⟩ => k v H1 G F1 m1 st1 env a S1 (E.mono e1) r1 q1⟩
theorem tG.mk {α β : Type} {Rel : Rl α β} {f : Ev → Store → R α} {σ : L2.St} {H : Hp} {Q : β → Hp → Prop} {G F : Hp} {m : List Addr} {st : Store} {env : Ev} (S : Sim X.K G F H m st) (E : RepE X.K F m hx env σ) (q : Kon X.K G X.mg Rel (fun c d H => W c d σ H) F m Q (f env st)) : tG X.K X.mg W hx Rel f σ H Q :=
  ⟨G, F, m, st, env, S, E, q⟩
theorem PE.of {x : Expr} {t' : TE} (h : ∀ σ : L2.St, ∀ H Q, t' σ H Q → ∃ t, PE X x t ∧ t σ H Q) : PE X x t' := ⟨fun pins s σ H Q I q => by
  obtain ⟨t, p, z⟩ := h σ H Q q
  exact p.run pins s σ H Q I z⟩
theorem PT.of {x : Expr} {t' : TT} (h : ∀ σ : L2.St, ∀ H Q, t' σ H Q → ∃ t, PT X x t ∧ t σ H Q) : PT X x t' := ⟨fun pins s σ H Q I q => by
  obtain ⟨t, p, z⟩ := h σ H Q q
  exact p.run pins s σ H Q I z⟩
theorem PI.of {tg x : Expr} {t' : TI} (h : ∀ σ : L2.St, ∀ H Q, t' σ H Q → ∃ t, PI X tg x t ∧ t σ H Q) : PI X tg x t' := ⟨fun pins s σ H Q I q => by
  obtain ⟨t, p, z⟩ := h σ H Q q
  exact p.run pins s σ H Q I z⟩

structure Snd (X : L2.Cx) (W : WX) (hx : Option HX) (Γ : Cx) (t : Bool) (e : E) (x : Expr) : Prop where
  v : t = false → PE X x (tE X W hx Γ e)
  t : t = true → PT X x (tT X W hx Γ e)
theorem Snd.val {t : Bool} {e : E} {x : Expr} (hp : plainX x = true) (h : PE X x (tE X W hx Γ e)) : Snd X W hx Γ t e x :=
  ⟨fun _ => h, fun _ => PT.of fun σ H Q q => ⟨_, pt_truth h (trueOk hp), tG.bind q fun v H1 G F m st env a S E r k => by
    unfold tru at k
    split at k
    · rename_i b' hb
      exact ⟨b', truthy_ok S r hb, k F m _ _ Ext.refl S rfl⟩
    · exact k.elim⟩⟩
theorem Snd.noT {e : E} {x : Expr} (h : PE X x (tE X W hx Γ e)) : Snd X W hx Γ false e x := ⟨fun _ => h, fun z => by cases z⟩

theorem pe_callV {f : Value} {r : List V → Hp → VK → Prop} {x : Str} {p : Pos} {e : Expr} {es : List Expr} {t : TA} (hf : (∃ id, f = .builtin id) ∨ ∃ T, f = .type T) (hc : CallR X f r) (hg : Gl X x) (hm : X.mg x = none) (hv : bootBuiltins x = some f) (ha : PA X (e :: es) t) (hn : x ≠ "__name__") (hdb : (x == ("__debug__" : Str)) = false)
    (he : starEach (e :: es) X.env = (false, eval e X.env) :: starEach es X.env) (hpl : (backTo pos (starEach es X.env)).any (·.1) = false) : PE X (.Call (.Name x p) (e :: es) [] pos) (tCB r t) := by
  rcases hf with ⟨id, rfl⟩ | ⟨T, rfl⟩
  · exact pe_callB hc hg hm hv ha hn hdb he hpl
  · exact pe_callTy hc hg hm hv ha hn hdb he hpl
theorem bt_boot (o : Bt) : bootBuiltins (Str.ofString (btName o)) = some (btV o) := by
  cases o
  · exact boot_len
  · exact boot_abs
  · exact boot_int
  · exact boot_str
  · exact boot_sum
  · exact boot_min
  · exact boot_max
  · exact boot_min
  · exact boot_max
  · exact boot_tuple
  · exact boot_list
  · exact boot_tuple
  · exact boot_tuple
  · exact boot_list
  · exact boot_list
  · exact boot_all
  · exact boot_any
  · exact boot_sorted
  · exact boot_chr
  · exact boot_ord
theorem bt_form (o : Bt) : (∃ id, btV o = .builtin id) ∨ ∃ T, btV o = .type T := by cases o <;> first | exact .inl ⟨_, rfl⟩ | exact .inr ⟨_, rfl⟩
theorem bt_in (o : Bt) : btName o ∈ bltNames := by cases o <;> decide
theorem blt_nn : ∀ n ∈ bltNames, (Str.ofString n) ≠ "__name__" := by decide +kernel
theorem ty_boot {n : String} (h : n ∈ tyNames) : bootBuiltins (Str.ofString n) = some (.type n) ∧ n ∈ bltNames := by
  simp only [tyNames, List.mem_cons, List.not_mem_nil, or_false] at h
  rcases h with rfl | rfl | rfl | rfl | rfl
  · exact ⟨boot_int, by decide⟩
  · exact ⟨boot_bool, by decide⟩
  · exact ⟨boot_str, by decide⟩
  · exact ⟨boot_tuple, by decide⟩
  · exact ⟨boot_list, by decide⟩
theorem strLit (s : String) : Str.ofString s = cs (s.toList.map Char.toNat) := by rw [Str.ofString_eq_toList]
theorem strLit_ok {s : String} (h : s.toList.length ≤ 1000) : StrOk (s.toList.map Char.toNat) := ⟨by
  have : (s.toList.map Char.toNat).length = s.toList.length := List.length_map _
  rw [lim_v]; omega, fun c hc => by
  obtain ⟨x, _, rfl⟩ := List.mem_map.mp hc
  have := x.valid
  show x.val.toNat < _
  rcases this with h | h
  · have h : x.val.toNat < 0xd800 := h
    omega
  · have h := h.2
    have h : x.val.toNat < 0x110000 := h
    exact h⟩
/-- the names of kinds, as arguments -/
theorem tyName_ok (C : EC b X Γ W hx) {n : String} {x : Expr} (h : tyNameOk b n x = true) : PE X x (tC (.ty n)) ∧ n ∈ tyNames ∧ simpX x = true := by
  unfold tyNameOk at h
  split at h
  · simp only [Bool.and_eq_true] at h
    obtain ⟨rfl, g, d⟩ := C.gl h.1
    have hn : n ∈ tyNames := by simpa using h.2
    obtain ⟨b1, b2⟩ := ty_boot hn
    exact ⟨pe_bltn g (C.blt n b2) b1 rfl (blt_nn n b2) d, hn, rfl⟩
  · cases h
def tKs (ns : List String) : TA := fun _ H Q => Q (ns.map V.ty) H
theorem tyNames_ok (C : EC b X Γ W hx) : ∀ (ns : List String) (xs : List Expr), tyNamesOk b ns xs = true → PA X xs (tKs ns) ∧ ∀ n ∈ ns, n ∈ tyNames
  | [], xs, h => by
    unfold tyNamesOk at h
    cases xs with
    | nil => exact ⟨⟨fun pos pins s σ H Q I q => pa_nil.run pos pins s σ H Q I q⟩, fun n hn => by cases hn⟩
    | cons => cases h
  | n :: ns, xs, h => by
    unfold tyNamesOk at h
    split at h
    · rename_i x r
      simp only [Bool.and_eq_true] at h
      obtain ⟨p1, h1, s1⟩ := tyName_ok C h.1
      obtain ⟨p2, h2⟩ := tyNames_ok C ns r h.2
      exact ⟨⟨fun pos pins s σ H Q I q => (pa_cons p1 p2 (starOk s1)).run pos pins s σ H Q I q⟩, fun z hz => by rcases List.mem_cons.mp hz with rfl | hz; exact h1; exact h2 z hz⟩
    · cases h
theorem clsV_all : ∀ ns : List String, Paired ClsV (ns.map V.ty) (ns.map Value.type)
  | [] => .nil
  | n :: ns => .cons (.ty n) (clsV_all ns)
theorem okEs_simp {t : Bool} : ∀ {es : Es} {xs : List Expr}, okEs b t es xs = true → (∀ x ∈ xs, simpX x = true) ∧ xs.length = es.len
  | .nil, xs, h => by
    unfold okEs at h
    cases xs with
    | nil => exact ⟨fun x hx => (List.not_mem_nil hx).elim, rfl⟩
    | cons => cases h
  | .cons e es, xs, h => by
    unfold okEs at h
    split at h
    · rename_i x r
      simp only [Bool.and_eq_true] at h
      obtain ⟨h1, h2⟩ := okEs_simp h.1.1.2
      exact ⟨fun y hy => by rcases List.mem_cons.mp hy with rfl | hy; exact h.2; exact h1 y hy, by simp [Es.len, h2]⟩
    · cases h
theorem evA_len {Γ : Cx} : ∀ (es : Es) (env : Ev) (st st' : Store) (ds : List D), evA Γ es env st = .ok ds st' → ds.length = es.len
  | .nil, env, st, st', ds, h => by simp [evA] at h; rw [h.1]; rfl
  | .cons e es, env, st, st', ds, h => by
    rw [evA] at h
    cases h1 : evE Γ e env st with
    | bad => rw [h1] at h; cases h
    | ex => rw [h1] at h; cases h
    | ok x s1 =>
      rw [h1] at h
      simp only [R.bind] at h
      cases h2 : evA Γ es env s1 with
      | bad => rw [h2] at h; cases h
      | ex => rw [h2] at h; cases h
      | ok xs s2 =>
        rw [h2] at h
        simp only [R.ok.injEq] at h
        rw [← h.1]
        simp [Es.len, evA_len es env s1 s2 xs h2]
end
end T
set_option Elab.async false
set_option linter.all false
set_option autoImplicit false
set_option maxRecDepth 100000
set_option maxHeartbeats 8000000
/-! # T9: comprehensions -/
namespace T
open PySem PySem.Spec PyProof.Rows L2

section
variable {K : PySem.W.Frag} {mg : Str → Option Value} {G F H : Hp} {m : List Addr} {st : Store}
theorem upd_upd {f : Hp} {a : Addr} {x y : HO} : upd (upd f a x) a y = upd f a y := by
  funext c; unfold upd; split <;> rfl
theorem Sim.open_ (S : Sim K G F H m st) {p : Addr} {u : HO} (hp : H p = none) : Sim K (upd G p u) F (upd H p u) m st := by
  have ne : ∀ {a w}, H a = some w → a ≠ p := fun h => ne_of_none h hp
  refine ⟨fun a w h => by rw [upd_ne (ne (S.sub _ _ h))]; exact S.sub _ _ h, S.len, S.nd, fun n o a e1 e2 => ?_, fun a ha => ?_, fun a w h => ?_⟩
  · obtain ⟨w, hw⟩ := S.trk a (List.mem_of_getElem? e2)
    exact (S.obj n o a e1 e2).keep (ne hw) Ext.refl
  · obtain ⟨w, hw⟩ := S.trk a ha
    exact ⟨w, by rw [upd_ne (ne hw)]; exact hw⟩
  · by_cases hap : a = p
    · subst hap
      rw [upd_same] at h ⊢
      refine ⟨h, ?_, fun hm => ?_⟩
      · cases q : F a with
        | none => rfl
        | some w => rw [S.sub _ _ q] at hp; cases hp
      · obtain ⟨w, hw⟩ := S.trk a hm
        rw [hp] at hw; cases hw
    · rw [upd_ne hap] at h ⊢
      exact S.fr a w h
theorem Sim.tend {p : Addr} {u u' : HO} (S : Sim K (upd G p u) F H m st) : Sim K (upd G p u') F (upd H p u') m st := by
  obtain ⟨h1, h2, h3⟩ := S.fr p u upd_same
  refine ⟨fun a w h => by rw [upd_ne (ne_of_none h h2)]; exact S.sub _ _ h, S.len, S.nd, fun n o a e1 e2 => ?_, fun a ha => ?_, fun a w h => ?_⟩
  · exact (S.obj n o a e1 e2).keep (fun e => h3 (e ▸ List.mem_of_getElem? e2)) Ext.refl
  · obtain ⟨w, hw⟩ := S.trk a ha
    exact ⟨w, by rw [upd_ne (fun e : a = p => h3 (by rw [← e]; exact ha))]; exact hw⟩
  · by_cases hap : a = p
    · subst hap
      rw [upd_same] at h ⊢
      exact ⟨h, h2, h3⟩
    · rw [upd_ne hap] at h ⊢
      exact S.fr a w (by rw [upd_ne hap]; exact h)
/-- the list that was tended becomes a value -/
theorem Kon.adopt {W : Wx} {Q : VK} {fz : Bool} {ds : List D} {vs : List V} {p : Addr} (k : Kon K G mg (Rep K) W F m Q (newL fz ds st)) (S : Sim K (upd G p (.lst vs)) F H m st) (hG : G p = none) (r : RepL K F m ds vs) : Q (.ref p) H := by
  obtain ⟨h1, h2, h3⟩ := S.fr p _ upd_same
  have gne : ∀ {a w}, G a = some w → a ≠ p := fun h => ne_of_none h hG
  have fr : ∀ a w, G a = some w → H a = some w ∧ F a = none ∧ a ∉ m := fun a w h => S.fr a w (by rw [upd_ne (gne h)]; exact h)
  cases fz with
  | true =>
    have e : Ext F m (upd F p (.lst vs)) m := ⟨fun a u h => by rw [upd_ne (ne_of_none h h2)]; exact h, fun _ _ h => h⟩
    refine k _ _ H _ e ⟨fun a w h => ?_, S.len, S.nd, fun n o a e1 e2 => ?_, S.trk, fun a w h => ?_⟩ (by simp only [Rep]; exact ⟨p, vs, rfl, upd_same, r.mono e⟩)
    · by_cases hap : a = p
      · subst hap; rw [upd_same] at h; cases h; exact h1
      · rw [upd_ne hap] at h; exact S.sub _ _ h
    · have ne : a ≠ p := fun z => h3 (z ▸ List.mem_of_getElem? e2)
      have q := S.obj n o a e1 e2
      cases o with
      | lst ds =>
        obtain ⟨f, vs, h1, h2⟩ := q
        exact ⟨by rw [upd_ne ne]; exact f, vs, h1, h2.mono e⟩
      | dK kvs =>
        obtain ⟨f, ks, h1, h2⟩ := q
        exact ⟨by rw [upd_ne ne]; exact f, ks, h1, h2.mono e⟩
      | ins c fs => exact q.elim
      | dead => trivial
    · obtain ⟨a1, a2, a3⟩ := fr a w h
      exact ⟨a1, by rw [upd_ne (gne h)]; exact a2, a3⟩
  | false =>
    have e : Ext F m F (m ++ [p]) := ⟨fun _ _ h => h, fun n a h => by
      rw [List.getElem?_append_left (List.getElem?_eq_some_iff.mp h).1]; exact h⟩
    have g : (m ++ [p])[st.length]? = some p := by
      rw [List.getElem?_append_right (by rw [S.len]; exact Nat.le_refl _)]
      simp [S.len]
    refine k _ _ H _ e ⟨S.sub, by simp [S.len], ?_, fun n o a e1 e2 => ?_, fun a ha => ?_, fun a w h => ?_⟩ (by simp only [Rep]; exact ⟨p, rfl, g⟩)
    · rw [List.nodup_append]
      exact ⟨S.nd, by simp, fun a ha b hb => by simp at hb; subst hb; exact fun z => h3 (z ▸ ha)⟩
    · by_cases hn : n < st.length
      · rw [List.getElem?_append_left hn] at e1
        rw [List.getElem?_append_left (by rw [S.len]; exact hn)] at e2
        have q := S.obj n o a e1 e2
        cases o with
        | lst ds =>
          obtain ⟨f, vs, h1, h2⟩ := q
          exact ⟨f, vs, h1, h2.mono e⟩
        | dK kvs =>
          obtain ⟨f, ks, h1, h2⟩ := q
          exact ⟨f, ks, h1, h2.mono e⟩
        | ins c fs => exact q.elim
        | dead => trivial
      · have l1 := (List.getElem?_eq_some_iff.mp e1).1
        simp at l1
        have : n = st.length := by omega
        subst this
        rw [List.getElem?_append_right (Nat.le_refl _)] at e1
        rw [g] at e2
        simp at e1
        cases e2
        subst e1
        exact ⟨h2, vs, h1, r.mono e⟩
    · rcases List.mem_append.mp ha with ha | ha
      · exact S.trk a ha
      · simp at ha; subst ha
        exact ⟨_, h1⟩
    · obtain ⟨a1, a2, a3⟩ := fr a w h
      exact ⟨a1, a2, fun hm => (List.mem_append.mp hm).elim a3 fun hm => gne h (by simpa using hm)⟩
theorem Kon.cases {α β : Type} {Rel : Rl α β} {W : Wx} {Q : β → Hp → Prop} {r : R α} (hok : ∀ a st1 F' m' H' v, r = .ok a st1 → Ext F m F' m' → Sim K G F' H' m' st1 → Rel F' m' a v → Q v H') (hex : ∀ x st1, r = .ex x st1 → False) (hbad : r = .bad → False) : Kon K G mg Rel W F m Q r := by
  cases r with
  | ok a st1 => exact fun F' m' H' v e S r => hok a st1 F' m' H' v rfl e S r
  | ex x st1 => exact (hex x st1 rfl).elim
  | bad => exact (hbad rfl).elim
end

/-- a comprehension's turn -/
noncomputable def lcF (Γ : Cx) (elt : E) (tg : Tg) (cond : Eo) (vs : List Nat) (env : Ev) (d : D) (s2 : Store) : R (Option D) := match bindT s2 tg d (wipeE env vs) with
  | none => .bad
  | some env' => (evC Γ cond env' s2).bind fun c s3 => if c = true then (evE Γ elt env' s3).bind fun y s4 => .ok (some y) s4 else .ok none s3
theorem evE_lc (Γ : Cx) (fz : Bool) (elt : E) (tg : Tg) (it : It) (cond : Eo) (own : List (String × Nat)) (env : Ev) (st : Store) :
    evE Γ (.lc fz elt tg it cond own) env st = (evIt Γ it env st).bind fun src s1 => (noX (match src with | .snap ds => lcGo (lcF Γ elt tg cond (own.map (·.2)) env) ds [] s1 | .live n => lcLive (lcF Γ elt tg cond (own.map (·.2)) env) n Γ.wf 0 [] s1)).bind fun ys s5 => newL fz ys s5 := by
  rw [evE]
  congr 1; funext src s1
  have e : (fun d s2 => match bindT s2 tg d (wipeE env (own.map (·.2))) with
        | none => R.bad
        | some env' => (evO Γ cond env' s2).bind fun c s3 => match (match c with | none => some true | some x => truthy s3 x) with
          | some true => (evE Γ elt env' s3).bind fun y s4 => .ok (some y) s4
          | some false => .ok none s3
          | none => .bad) = lcF Γ elt tg cond (own.map (·.2)) env := by
    funext d s2
    unfold lcF
    split
    · rfl
    · rename_i env' h
      cases cond with
      | no => rw [evO]; rfl
      | yes c =>
        rw [evO]
        show _ = (evT Γ c env' s2).bind _
        unfold evT
        rw [R.assoc, R.assoc]
        show (evE Γ c env' s2).bind _ = (evE Γ c env' s2).bind _
        congr 1; funext x s3
        show (match truthy s3 x with | some true => _ | some false => _ | none => _) = _
        unfold tru
        cases truthy s3 x with
        | none => rfl
        | some q => cases q <;> rfl
  rw [← e]
  all_goals (cases src <;> rfl)

theorem wipe_same {σ σ' : L2.St} (hl : σ'.length = σ.length) : ∀ (vs : List Nat), (∀ i, i ∉ vs → σ'[i]? = σ[i]?) → L2.wipe σ' vs = L2.wipe σ vs := by
  intro vs h
  apply List.ext_getElem?
  intro i
  have key : ∀ (τ : L2.St) (vs : List Nat), (L2.wipe τ vs)[i]? = if i ∈ vs ∧ i < τ.length then some none else τ[i]? := by
    intro τ vs
    induction vs with
    | nil => simp [L2.wipe]
    | cons v vs ih =>
      unfold L2.wipe
      by_cases hv : v = i
      · subst hv
        by_cases hlt : v < τ.length
        · rw [List.getElem?_set_self (by rw [L2.wipe_length]; exact hlt), if_pos ⟨by simp, hlt⟩]
        · rw [if_neg (fun z => hlt z.2), List.getElem?_eq_none (by rw [List.length_set, L2.wipe_length]; omega), List.getElem?_eq_none (by omega)]
      · rw [List.getElem?_set_ne hv, ih]
        by_cases hm : i ∈ vs
        · simp [hm]
        · have : ¬ i ∈ v :: vs := by simp [hm, Ne.symm hv]
          simp [hm, this]
  rw [key, key]
  by_cases hm : i ∈ vs
  · simp only [hm, true_and, hl]
    split
    · rfl
    · rename_i hlt
      rw [List.getElem?_eq_none (by omega), List.getElem?_eq_none (by omega)]
  · simp only [hm, false_and, if_false]
    exact h i hm
theorem RepE.noHx {K : PySem.W.Frag} {F : Hp} {m : List Addr} {hx : Option HX} {env : Ev} {σ : L2.St} (h : RepE K F m hx env σ) : RepE K F m none env σ := ⟨h.len, h.at_, fun _ e => by cases e⟩

theorem lc_turn {Γ : Cx} {K : PySem.W.Frag} {mg : Str → Option Value} {elt : E} {tg : Tg} {cond : Eo} {vs : List Nat} {env : Ev} {σ : L2.St} {G F H : Hp} {m : List Addr} {st : Store} {d : D} {x : V} {D0 : Addr} {acc : List V} {Nx : Hp → Prop}
    (hG : G D0 = some (.lst acc)) (S : Sim K G F H m st) (E : RepE K F m none env σ) (r : RepW K F m d x) (rn : ∀ i, tg = .nm i → Rep K F m d x) (hv : ∀ i ∈ tgSlots tg, i ∈ vs)
    (hk : ∀ o s1, lcF Γ elt tg cond vs env d st = .ok o s1 → ∀ F' m' H', Ext F m F' m' → Sim K G F' H' m' s1 → match o with | none => Nx H' | some y => acc.length < sizeLine ∧ ∀ v, Rep K F' m' y v → Nx (upd H' D0 (.lst (acc ++ [v]))))
    (hx : ∀ e s1, lcF Γ elt tg cond vs env d st = .ex e s1 → False) (hb : lcF Γ elt tg cond vs env d st = .bad → False) :
    tTg K none tg x (L2.wipe σ vs) H (fun σ2 H2 => L2.wipe σ2 vs = L2.wipe σ vs ∧ tG K mg (fun _ _ _ _ => False) none repB (evC Γ cond) σ2 H2 fun b H3 =>
      if b = true then tG K mg (fun _ _ _ _ => False) none (Rep K) (evE Γ elt) σ2 H3 fun y H4 => ∃ acc, H4 D0 = some (.lst acc) ∧ acc.length < sizeLine ∧ Nx (upd H4 D0 (.lst (acc ++ [y]))) else Nx H3) := by
  cases hbt : bindT st tg d (wipeE env vs) with
  | none => exact (hb (by unfold lcF; rw [hbt])).elim
  | some env' =>
    have ef : lcF Γ elt tg cond vs env d st = (evC Γ cond env' st).bind fun c s3 => if c = true then (evE Γ elt env' s3).bind fun y s4 => .ok (some y) s4 else .ok none s3 := by unfold lcF; rw [hbt]
    rw [ef] at hk hx hb
    refine ⟨G, F, m, st, wipeE env vs, d, env', S, E.wipe vs, r, rn, hbt, fun σ2 E2 c2 l2 => ⟨?_, G, F, m, st, env', S, E2, Kon.cases (fun c s3 F3 m3 H3 v e3 X3 S3 r3 => ?_) (fun e s1 z => hx e s1 (by rw [z]; rfl)) (fun z => hb (by rw [z]; rfl))⟩⟩
    · have := wipe_same (σ := L2.wipe σ vs) (σ' := σ2) l2 vs fun i hi => c2 i fun z => hi (hv i z)
      rw [this]
      refine wipe_same (L2.wipe_length _ _) vs fun i hi => ?_
      have key : ∀ (τ : L2.St) (vs : List Nat), i ∉ vs → (L2.wipe τ vs)[i]? = τ[i]? := by
        intro τ vs
        induction vs with
        | nil => intro _; rfl
        | cons v vs ih =>
          intro h
          unfold L2.wipe
          rw [List.getElem?_set_ne (fun z => h (by simp [z]))]
          exact ih fun z => h (by simp [z])
      exact key σ vs hi
    · rw [e3] at hk hx hb
      have r3 : c = v := r3
      subst r3
      cases c with
      | false =>
        rw [if_neg Bool.false_ne_true]
        exact hk none s3 rfl F3 m3 H3 X3 S3
      | true =>
        rw [if_pos rfl]
        refine ⟨G, F3, m3, s3, env', S3, E2.mono X3, Kon.cases (fun y s4 F4 m4 H4 v e4 X4 S4 r4 => ?_) (fun e s1 z => hx e s1 (by simp [z])) (fun z => hb (by simp [z]))⟩
        obtain ⟨q1, q2⟩ := hk (some y) s4 (by simp [e4]) F4 m4 H4 (X3.trans X4) S4
        exact ⟨acc, (S4.fr _ _ hG).1, q1, q2 v r4⟩
/-- a comprehension's loop -/
theorem lc_loop {Γ : Cx} {K : PySem.W.Frag} {mg : Str → Option Value} {fz : Bool} {elt : E} {tg : Tg} {cond : Eo} {vs : List Nat} {env : Ev} {σ : L2.St} {G F H : Hp} {m : List Addr} {st : Store} {src : Src} {J : L2.It} {D0 : Addr} {Q : VK} {W : Wx} {tp : Bool}
    (S : Sim K G F H m st) (E : RepE K F m none env σ) (rj : srcRel K tp F m src J) (hv : ∀ i ∈ tgSlots tg, i ∈ vs) (htp : ∀ i, tg = .nm i → tp = false)
    (k : Kon K G mg (Rep K) W F m Q ((noX (match src with | .snap ds => lcGo (lcF Γ elt tg cond vs env) ds [] st | .live n => lcLive (lcF Γ elt tg cond vs env) n Γ.wf 0 [] st)).bind fun ys s5 => newL fz ys s5)) (hD : H D0 = none) :
    ∃ W : Nat → Nat → Hp → Prop, (∃ m, W 0 m (upd H D0 (.lst []))) ∧ ∀ i m H, W i m H →
      (J.stop i H ∧ Q (.ref D0) H) ∨ (J.go i H ∧ ∃ Nx : Hp → Prop, (∀ H', Nx H' → ∃ m', m' < m ∧ W (i + 1) m' H') ∧ ∀ x H', J.yld i H x H' → tTg K none tg x (L2.wipe σ vs) H' fun σ2 H2 => L2.wipe σ2 vs = L2.wipe σ vs ∧ tG K mg (fun _ _ _ _ => False) none repB (evC Γ cond) σ2 H2 fun b H3 =>
        if b = true then tG K mg (fun _ _ _ _ => False) none (Rep K) (evE Γ elt) σ2 H3 fun y H4 => ∃ acc, H4 D0 = some (.lst acc) ∧ acc.length < sizeLine ∧ Nx (upd H4 D0 (.lst (acc ++ [y]))) else Nx H3) := by
  have hG : G D0 = none := by
    cases q : G D0 with
    | none => rfl
    | some w => rw [(S.fr _ _ q).1] at hD; cases hD
  cases src with
  | snap ds =>
    obtain ⟨rs, rs2⟩ := rj
    refine ⟨fun i mm H' => mm = ds.length - i ∧ i ≤ ds.length ∧ ∃ F' m' st' accd acc, Ext F m F' m' ∧ Sim K (upd G D0 (.lst acc)) F' H' m' st' ∧ RepL K F' m' accd acc ∧ Kon K G mg (Rep K) W F' m' Q ((noX (lcGo (lcF Γ elt tg cond vs env) (ds.drop i) accd st')).bind fun ys s5 => newL fz ys s5),
      ⟨ds.length, rfl, Nat.zero_le _, F, m, st, [], [], Ext.refl, S.open_ hD, RepL.nil, k⟩, ?_⟩
    rintro i mm H' ⟨rfl, hi, F', m', st', accd, acc, X', S', ra, kk⟩
    obtain ⟨g1, g2⟩ := rs _ F' m' H' st' X' S'
    by_cases hlt : i < ds.length
    · obtain ⟨go, gy⟩ := g1 i ds[i] (List.getElem?_eq_getElem hlt)
      refine .inr ⟨go, fun H'' => ds.length - (i + 1) < ds.length - i ∧ ∃ F'' m'' st'' accd acc, Ext F m F'' m'' ∧ Sim K (upd G D0 (.lst acc)) F'' H'' m'' st'' ∧ RepL K F'' m'' accd acc ∧ Kon K G mg (Rep K) W F'' m'' Q ((noX (lcGo (lcF Γ elt tg cond vs env) (ds.drop (i + 1)) accd st'')).bind fun ys s5 => newL fz ys s5),
        fun H'' ⟨z1, z2⟩ => ⟨_, z1, rfl, hlt, z2⟩, fun x H2 y => ?_⟩
      obtain ⟨F2, X2, S2, r2⟩ := gy x H2 y
      rw [List.drop_eq_getElem_cons hlt, lcGo] at kk
      refine lc_turn (acc := acc) upd_same S2 ((E.mono X').mono X2) r2 (fun j hj => ?_) hv (fun o s1 hf F3 m3 H3 X3 S3 => ?_) (fun e s1 hf => ?_) (fun hf => ?_)
      · obtain ⟨rfl, rr⟩ := rs2 (htp j hj) _ F' m' H' st' X' S' i ds[i] (List.getElem?_eq_getElem hlt) x H2 y
        exact Rep.mono X2 _ _ rr
      · rw [hf] at kk
        cases o with
        | none => exact ⟨by omega, F3, m3, s1, accd, acc, (X'.trans X2).trans X3, S3, (ra.mono X2).mono X3, kk.mono (X2.trans X3)⟩
        | some y =>
          simp only [R.bind] at kk
          by_cases hl : accd.length < lim
          · rw [if_pos hl] at kk
            refine ⟨by rw [← ra.length, ← lim_eq]; exact hl, fun v rv => ⟨by omega, F3, m3, s1, accd ++ [y], acc ++ [v], (X'.trans X2).trans X3, S3.tend, (RepL.mono X3 _ _ (ra.mono X2)).append (RepL.one rv), kk.mono (X2.trans X3)⟩⟩
          · rw [if_neg hl] at kk; exact kk.elim
      · rw [hf] at kk; exact kk.elim
      · rw [hf] at kk; exact kk.elim
    · have e : i = ds.length := by omega
      subst e
      refine .inl ⟨g2 _ (Nat.le_refl _), ?_⟩
      rw [List.drop_length, lcGo] at kk
      exact Kon.adopt kk S' hG ra
  | live n =>
    obtain ⟨a, ha, rfl⟩ := rj
    refine ⟨fun i mm H' => ∃ F' m' st' accd acc, Ext F m F' m' ∧ Sim K (upd G D0 (.lst acc)) F' H' m' st' ∧ RepL K F' m' accd acc ∧ Kon K G mg (Rep K) W F' m' Q ((noX (lcLive (lcF Γ elt tg cond vs env) n mm i accd st')).bind fun ys s5 => newL fz ys s5),
      ⟨Γ.wf, F, m, st, [], [], Ext.refl, S.open_ hD, RepL.nil, k⟩, ?_⟩
    rintro i mm H' ⟨F', m', st', accd, acc, X', S', ra, kk⟩
    cases mm with
    | zero => rw [lcLive] at kk; exact kk.elim
    | succ mm =>
      rw [lcLive] at kk
      split at kk
      · rename_i ds hq
        obtain ⟨a', ws, g, f, h1, h2⟩ := S'.lst hq
        rw [X'.pre n a ha] at g; cases g
        split at kk
        · rename_i d hd
          obtain ⟨w, e1, e2⟩ := h2.get hd
          refine .inr ⟨⟨ws, w, .inl (.inl h1), e1⟩, fun H'' => ∃ F'' m'' st'' accd acc, Ext F m F'' m'' ∧ Sim K (upd G D0 (.lst acc)) F'' H'' m'' st'' ∧ RepL K F'' m'' accd acc ∧ Kon K G mg (Rep K) W F'' m'' Q ((noX (lcLive (lcF Γ elt tg cond vs env) n mm (i + 1) accd st'')).bind fun ys s5 => newL fz ys s5),
            fun H'' z => ⟨mm, Nat.lt_succ_self _, z⟩, fun x H2 y => ?_⟩
          obtain ⟨rfl, y⟩ := y
          have := y ws (.inl (.inl h1))
          rw [e1] at this; cases this
          refine lc_turn (acc := acc) upd_same S' (E.mono X') (.inl e2) (fun _ _ => e2) hv (fun o s1 hf F3 m3 H3 X3 S3 => ?_) (fun e s1 hf => ?_) (fun hf => ?_)
          · rw [hf] at kk
            cases o with
            | none => exact ⟨F3, m3, s1, accd, acc, X'.trans X3, S3, ra.mono X3, kk.mono X3⟩
            | some y =>
              simp only [R.bind] at kk
              by_cases hl : accd.length < lim
              · rw [if_pos hl] at kk
                exact ⟨by rw [← ra.length, ← lim_eq]; exact hl, fun v rv => ⟨F3, m3, s1, accd ++ [y], acc ++ [v], X'.trans X3, S3.tend, (ra.mono X3).append (RepL.one rv), kk.mono X3⟩⟩
              · rw [if_neg hl] at kk; exact kk.elim
          · rw [hf] at kk; exact kk.elim
          · rw [hf] at kk; exact kk.elim
        · rename_i hd
          refine .inl ⟨⟨ws, .inl (.inl h1), by rw [← h2.length]; exact List.getElem?_eq_none_iff.mp hd⟩, ?_⟩
          exact Kon.adopt kk S' hG ra
      · exact kk.elim
end T
set_option Elab.async false
set_option linter.all false
set_option autoImplicit false
set_option maxRecDepth 100000
set_option maxHeartbeats 16000000
/-! # T10: the expressions' theorem -/
namespace T
open PySem PySem.Spec PyProof.Rows L2

theorem EC.blk {b : Bl} {X : L2.Cx} {Γ : Cx} {W : WX} {hx : Option HX} (C : EC b X Γ W hx) (s : Shared) (H : Hp) (scope : Scope) (A : Addr) (cl : List (Str × Addr)) (fp : List Addr) :
    EC (blkOf b scope) (X.blk s H scope (compEnvC scope cl A X.env) fp) Γ (fun _ _ _ _ => False) none where
  N := C.N
  nd := C.nd
  sc := by
    show relabel scope X.env = relS scope b.sc
    rw [← C.sc]; rfl
  fn := rfl
  takes := takes0
  cal := C.cal
  hu := C.hu
  blt := C.blt
  glob := C.glob
  call := fun hc f n h => ⟨(C.call hc f n h).ex⟩
  hxs := rfl
  hxo := fun _ h => by cases h
  xcl := C.xcl
theorem ofO_b {K : PySem.W.Frag} {mg : Str → Option Value} {G F : Hp} {m : List Addr} {st : Store} {W : Wx} {Q : VK} {o : Option Bool} (k : Kon K G mg (Rep K) W F m Q (ofO (o.map D.bl) st)) : ∃ c, o = some c ∧ Kon K G mg (Rep K) W F m Q (.ok (.bl c) st) := by
  cases o with
  | none => exact k.elim
  | some c => exact ⟨c, rfl, k⟩
theorem tru_b {K : PySem.W.Frag} {mg : Str → Option Value} {G F : Hp} {m : List Addr} {st : Store} {W : Wx} {Q : Bool → Hp → Prop} {o : Option Bool} (k : Kon K G mg repB W F m Q ((ofO (o.map D.bl) st).bind tru)) : ∃ c, o = some c ∧ Kon K G mg repB W F m Q (.ok c st) := by
  cases o with
  | none => exact k.elim
  | some c => exact ⟨c, rfl, k⟩
theorem PO.of {X : L2.Cx} {x : Option Expr} {t' : TO} (h : ∀ σ : L2.St, ∀ H Q, t' σ H Q → ∃ t, PO X x t ∧ t σ H Q) : PO X x t' := ⟨fun pins s σ H Q I q => by
  obtain ⟨t, p, z⟩ := h σ H Q q
  exact p.run pins s σ H Q I z⟩
theorem PA.of {X : L2.Cx} {x : List Expr} {t' : TA} (h : ∀ σ : L2.St, ∀ H Q, t' σ H Q → ∃ t, PA X x t ∧ t σ H Q) : PA X x t' := ⟨fun pos pins s σ H Q I q => by
  obtain ⟨t, p, z⟩ := h σ H Q q
  exact p.run pos pins s σ H Q I z⟩
theorem PW.of {X : L2.Cx} {x : Expr} {t' : TT} (h : ∀ σ : L2.St, ∀ H Q, t' σ H Q → ∃ t, PW X x t ∧ t σ H Q) : PW X x t' := ⟨fun wh pins s σ H Q I q => by
  obtain ⟨t, p, z⟩ := h σ H Q q
  exact p.run wh pins s σ H Q I z⟩
structure SndB (op : BoolOp) (X : L2.Cx) (W : WX) (hx : Option HX) (Γ : Cx) (t : Bool) (e : E) (xs : List Expr) : Prop where
  v : t = false → ∀ pos, PE X (.BoolOp op xs pos) (tE X W hx Γ e)
  t : t = true → ∀ pos, PW X (.BoolOp op xs pos) (tT X W hx Γ e)
theorem evAnd2 (Γ : Cx) (e e2 : E) (es : Es) (env : Ev) (st : Store) : evE Γ (.and (.cons e (.cons e2 es))) env st = (evE Γ e env st).bind fun x s1 => match truthy s1 x with | some true => evE Γ (.and (.cons e2 es)) env s1 | some false => .ok x s1 | none => .bad := by
  rw [evE, evAnd]
  · simp only [evE]
    all_goals congr 1
  · intro h; cases h
theorem evOr2 (Γ : Cx) (e e2 : E) (es : Es) (env : Ev) (st : Store) : evE Γ (.or (.cons e (.cons e2 es))) env st = (evE Γ e env st).bind fun x s1 => match truthy s1 x with | some true => .ok x s1 | some false => evE Γ (.or (.cons e2 es)) env s1 | none => .bad := by
  rw [evE, evOr]
  · simp only [evE]
    all_goals congr 1
  · intro h; cases h
theorem evTAnd2 (Γ : Cx) (e e2 : E) (es : Es) (env : Ev) (st : Store) : evT Γ (.and (.cons e (.cons e2 es))) env st = (evT Γ e env st).bind fun c s1 => if c = true then evT Γ (.and (.cons e2 es)) env s1 else .ok false s1 := by
  unfold evT
  rw [evAnd2, R.assoc, R.assoc]
  congr 1; funext x s
  cases h : truthy s x with
  | none => simp [tru, h]
  | some c => cases c <;> simp [tru, h]
theorem evTOr2 (Γ : Cx) (e e2 : E) (es : Es) (env : Ev) (st : Store) : evT Γ (.or (.cons e (.cons e2 es))) env st = (evT Γ e env st).bind fun c s1 => if c = true then .ok true s1 else evT Γ (.or (.cons e2 es)) env s1 := by
  unfold evT
  rw [evOr2, R.assoc, R.assoc]
  congr 1; funext x s
  cases h : truthy s x with
  | none => simp [tru, h]
  | some c => cases c <;> simp [tru, h]
theorem evAnd1 (Γ : Cx) (e : E) (env : Ev) (st : Store) : evE Γ (.and (.cons e .nil)) env st = evE Γ e env st := by rw [evE, evAnd]
theorem evOr1 (Γ : Cx) (e : E) (env : Ev) (st : Store) : evE Γ (.or (.cons e .nil)) env st = evE Γ e env st := by rw [evE, evOr]

variable {Γ : Cx}
/-- a call of a def -/
theorem call_ok {b : Bl} {X : L2.Cx} {W : WX} {hx : Option HX} (C : EC b X Γ W hx) {f : String} {es : Es} {y : Str} {p pos : Pos} {args : List Expr} (h1 : glbB b f y = true) (h2 : b.cal = true) (h3 : b.defs.lookup f = some es.len) (ha : PA X args (tA X W hx Γ es)) (hs : ∀ x ∈ args, simpX x = true) (hl : args.length = es.len) :
    PE X (.Call (.Name y p) args [] pos) (tE X W hx Γ (.call f es)) := by
  obtain ⟨rfl, hg, hd⟩ := C.gl h1
  obtain ⟨k, a, fd, ps, hps, hm, hk, F, hr, hb⟩ := (C.call h2 f es.len h3).ex
  have step : ∀ σ H Q, tE X W hx Γ (.call f es) σ H Q → tA X W hx Γ es σ H fun vs H1 => spC X.K X.mg es.len (Γ.call f) vs H1 Q (WE W σ) := fun σ H Q q => by
    obtain ⟨G, F, m, st, env, S, E, k⟩ := q
    rw [evE] at k
    refine ⟨G, F, m, st, env, S, E, ?_⟩
    cases hev : evA Γ es env st with
    | bad => rw [hev] at k; exact k
    | ex => rw [hev] at k; exact k
    | ok ds s1 =>
      rw [hev] at k
      exact fun F1 m1 H1 vs X1 S1 r1 => ⟨by rw [← r1.length]; exact evA_len es env st s1 ds hev, G, F1, m1, s1, ds, S1, r1, k.mono X1⟩
  refine PE.of fun σ H Q q => ?_
  cases args with
  | nil =>
    refine ⟨tE X W hx Γ (.call f es), ⟨fun pins s σ H Q I q => ?_⟩, q⟩
    refine wpAny_Call_Name_kw (ld_glob I hg hm ?_ hd)
    refine PySem.W.callWith_K0 I.kIn hk ?_
    obtain ⟨G, F', m, st, env, S, E, z⟩ := step σ H Q q
    cases es with
    | cons => simp [Es.len] at hl
    | nil =>
      rw [evA] at z
      exact run_fnS F hr hb (passAt C.takes σ) I .nil (z.here S RepL.nil)
  | cons x xs => exact ⟨_, pe_callS F hr hg hm hk hb (fun σ => passAt C.takes σ) ha hd (starOk (hs x (by simp))) (backOk fun z hz => hs z (by simp [hz])), step σ H Q q⟩
theorem lastOk {p1 p2 : CmpOp} {r1 r2 : Expr} (h : simpX r2 = true) : lastMarks [p1, p2] [r1, r2] = false := by
  show lastMarks [p2] [r2] = false
  exact markOk h
theorem fewOk {xs : List Expr} {env : Env} {pos : Pos} (h : ∀ x ∈ xs, simpX x = true) (hl : xs.length < 20) : ((backTo pos (starEach xs env)).all (fun x => !x.1) && (backToKw pos (keywordEach [] env)).all (fun x => x.1.isSome)
      && decide (xs.length + ([] : List Keyword).length + (if ([] : List Keyword).isEmpty then 0 else 1) < 30)) = true := by
  have h1 : (backTo pos (starEach xs env)).all (fun x => !x.1) = true := by
    have := backOk (xs := xs) (env := env) (pos := pos) h
    rw [List.any_eq_false] at this
    rw [List.all_eq_true]
    intro x hx
    have := this x hx
    simpa using this
  rw [h1]
  simp [keywordEach, backToKw]
  omega

theorem it_simp (it : It) (tg : Tg) (tx ix : Expr) (b : Bl) (h : okIt b tg tx it ix = true) : simpX ix = true := by
  cases it with
  | val e => unfold okIt at h; exact okE_simp b false e ix h
  | rg1 => unfold okIt at h; split at h <;> first | rfl | cases h
  | rg2 => unfold okIt at h; split at h <;> first | rfl | cases h
  | rg3 => unfold okIt at h; split at h <;> first | rfl | cases h
  | enum => unfold okIt at h; split at h <;> first | rfl | cases h
  | zip => unfold okIt at h; split at h <;> first | rfl | cases h
  | rev => unfold okIt at h; split at h <;> first | rfl | cases h
  | items => unfold okIt at h; cases h

theorem evT_chain (Γ : Cx) (o1 o2 : Cop) (a c d : E) (env : Ev) (st : Store) : evT Γ (.chain o1 o2 a c d) env st = (evE Γ a env st).bind fun x s1 => (evE Γ c env s1).bind fun y s2 => match cmpop o1 x y s2 with
    | some true => (evE Γ d env s2).bind fun z s3 => (ofO ((cmpop o2 y z s3).map D.bl) s3).bind tru
    | some false => .ok false s2
    | none => .bad := by
  unfold evT
  rw [evE, R.assoc]
  congr 1; funext x s1
  rw [R.assoc]
  congr 1; funext y s2
  cases cmpop o1 x y s2 with
  | none => rfl
  | some cc => cases cc with
    | false => rfl
    | true => show R.bind (R.bind _ _) _ = _; rw [R.assoc]
theorem evT_cmp (Γ : Cx) (op : Cop) (a c : E) (env : Ev) (st : Store) : evT Γ (.cmp op a c) env st = (evE Γ a env st).bind fun x s1 => (evE Γ c env s1).bind fun y s2 => (ofO ((cmpop op x y s2).map D.bl) s2).bind tru := by
  unfold evT
  rw [evE, R.assoc]
  congr 1; funext x s1
  rw [R.assoc]

/-- range(..) handed to tuple, list -/
theorem prg_args {X : L2.Cx} {a : Expr} {as : List Expr} {ta : TA} {p pos : Pos} (hg : Gl X (Str.ofString "range")) (hm : X.mg (Str.ofString "range") = none) (ha : PA X (a :: as) ta) (hs : starEach (a :: as) X.env = (false, eval a X.env) :: starEach as X.env) (hpl : (backTo pos (starEach as X.env)).any (·.1) = false) :
    PRg X (.Call (.Name (Str.ofString "range") p) (a :: as) [] pos) (fun σ H Q => ta σ H fun vs H1 => (∃ n, vs = [.int n] ∧ Q 0 n H1) ∨ ∃ i j, vs = [.int i, .int j] ∧ Q i j H1) := fun pins s σ H Q I h => by
  refine Call_ (ld_blt I hg hm boot_range (PyProof.Rows.callWith_type1 (thn (ha.run pos pins s σ H _ I h) fun us s1 hz => ?_) hs hpl))
  obtain ⟨vs, H1, I1, rv, hz⟩ := hz
  rcases hz with ⟨n, rfl, q⟩ | ⟨i, j, rfl, q⟩
  · obtain ⟨u, rfl, t, rfl⟩ := vals1 rv
    refine call_range_1 ⟨_, 0, n, _, _, _, H1, rfl, IsRange.new _ _ _ _ _ _ _, ?_, q⟩
    exact I1.kept fun z o hz => Heap.get?_push_of_some _ hz
  · obtain ⟨u, w, rfl, ⟨t, rfl⟩, ⟨t', rfl⟩⟩ := vals2 rv
    refine call_range_2 ⟨_, i, j, _, _, _, H1, rfl, IsRange.new _ _ _ _ _ _ _, ?_, q⟩
    exact I1.kept fun z o hz => Heap.get?_push_of_some _ hz
theorem RepL.rg {K : PySem.W.Frag} {F : Hp} {m : List Addr} (a c : Int) : RepL K F m (rgD a c) (rgV a c) := by
  unfold rgD rgV
  generalize List.range (c - a).toNat = l
  induction l with
  | nil => exact RepL.nil
  | cons i l ih => exact RepL.cons rInt ih
theorem rgOk_ok {a c : Int} (h : rgOk a c = true) : RgOk a c := by
  have := of_decide_eq_true h
  rw [c62_v, lim_v] at this
  exact this
theorem bi_rg {o : Bt} {fz : Bool} {xs : List D} {st : Store} (hr : rgBt o = true) (h : builtin o fz xs st ≠ .bad) : ∃ i j, (xs = [.int i, .int j] ∨ (i = 0 ∧ xs = [.int j])) ∧ rgOk i j = true ∧
    builtin o fz xs st = (if o = .tupRg1 ∨ o = .tupRg2 then .ok (.tup (rgD i j)) st else newL fz (rgD i j) st) := by
  unfold builtin at h
  split at h <;> first | exact absurd rfl h | exact absurd hr (by decide) | skip
  all_goals (split at h <;> first | exact absurd rfl h | skip)
  all_goals (rename_i hz; first
    | exact ⟨0, _, .inr ⟨rfl, rfl⟩, hz, by show (if rgOk 0 _ = true then R.ok (D.tup (rgD 0 _)) st else R.bad) = _; rw [if_pos hz, if_pos (by decide)]⟩
    | exact ⟨0, _, .inr ⟨rfl, rfl⟩, hz, by show (if rgOk 0 _ = true then newL fz (rgD 0 _) st else R.bad) = _; rw [if_pos hz, if_neg (by decide)]⟩
    | exact ⟨_, _, .inl rfl, hz, by show (if rgOk _ _ = true then R.ok (D.tup (rgD _ _)) st else R.bad) = _; rw [if_pos hz, if_pos (by decide)]⟩
    | exact ⟨_, _, .inl rfl, hz, by show (if rgOk _ _ = true then newL fz (rgD _ _) st else R.bad) = _; rw [if_pos hz, if_neg (by decide)]⟩)

/-- isinstance(e, c), e the exception that the suite holds -/
theorem call_held {X : L2.Cx} {a D : Addr} {d : Option Addr} {oe : Obj} {pn : List (Addr × Obj)} (C : ExcC X.K D) (hz : Zc (.ref D) d oe) (hf : ∃ vs, oe.data = .fields vs) :
    CallR (X.suite a ((a, oe) :: pn)) (.builtin "isinstance") (fun xs H Q => ∃ c cv q, xs = [.ref a, c] ∧ (∀ u, RelV c u → u = cv) ∧ (d = none ∨ ∃ dd fs, d = some dd ∧ H dd = some (.xd fs)) ∧ PySem.W.kitOne X.K (.ref D) cv = some q ∧ Q (.bl q) H) := by
  intro pins s σ H xs us Q I r h
  obtain ⟨c, cv, q, rfl, hcv, hdd, hk, hq⟩ := h
  obtain ⟨u1, u2, rfl, r1, r2⟩ := vals2 r
  cases r1
  have := hcv _ r2
  subst this
  obtain ⟨hget, _⟩ := I.pin (a, oe) (List.mem_append_left _ List.mem_cons_self)
  obtain ⟨vs, hv⟩ := hf
  have hcl : (PySem.W.clsIn X.K D).isSome = true := by
    obtain ⟨cd, hc, _⟩ := PySem.W.any_some C.hd
    rw [hc]; rfl
  have fin : ∀ tk, EP (X.suite a ((a, oe) :: pn)) pins σ Q (.bool q) { s with toks := tk } := fun tk => ⟨.bl q, H, I.kept (t' := tk) fun _ _ z => z, rfl, hq⟩
  have nc : PySem.W.notCls oe = true := by unfold PySem.W.notCls; rw [hv]
  rcases hdd with hdd | ⟨dd, fs, rfl, hx⟩
  · subst hdd
    have J : PySem.W.InstAt s.heap a oe D none := ⟨hget, hz.1, nc, by rw [hz.2]; trivial⟩
    exact PySem.W.kia_one (PySem.W.kitx_exc hcl C.hg C.hk C.hs C.ha C.hn C.ht C.hm) I.kIn J hk (fun z => nomatch z) fin
  · obtain ⟨mA, hns, hr⟩ := (show ObjOk X.prog X.w H s.heap dd (.xd fs) from I.hok dd _ hx)
    obtain ⟨od, ho, _⟩ := lookIn_ns hns
    have J : PySem.W.InstAt s.heap a oe D (some od) := ⟨hget, hz.1, nc, by rw [hz.2]; exact ho⟩
    exact PySem.W.kia_one (PySem.W.kitx_exc hcl C.hg C.hk C.hs C.ha C.hn C.ht C.hm) I.kIn J hk (fun z => nomatch z) fin
theorem ofString_inj {a b : String} (h : Str.ofString a = Str.ofString b) : a = b := by
  rw [strLit, strLit] at h
  have h1 : a.toList.map Char.toNat = b.toList.map Char.toNat := by
    have := congrArg (fun s : Str => s.cps.toList) h
    simpa [cs] using this
  have h2 : a.toList = b.toList := by
    have inj : ∀ l m : List Char, l.map Char.toNat = m.map Char.toNat → l = m := by
      intro l
      induction l with
      | nil => intro m e; cases m <;> simp at e ⊢
      | cons x l ih =>
        intro m e
        cases m with
        | nil => simp at e
        | cons y m =>
          simp only [List.map_cons, List.cons.injEq] at e
          rw [ih m e.2, Char.toNat_inj.mp e.1]
    exact inj _ _ h1
  exact String.toList_inj.mp h2
theorem fld_look {K : PySem.W.Frag} {F : Hp} {m : List Addr} : ∀ {fs : List (String × D)} {vs : List V} {f : String} {d : D}, RepL K F m (fs.map (·.2)) vs → fs.lookup f = some d → ∃ v, ((fs.map fun p => Str.ofString p.1).zip vs).lookup (Str.ofString f) = some v ∧ Rep K F m d v
  | [], vs, f, d, r, h => by simp at h
  | (g, e) :: fs, vs, f, d, r, h => by
    obtain ⟨v, w, rfl, r1, r2⟩ := r.cons_inv
    rw [List.lookup_cons] at h
    rw [List.map_cons, List.zip_cons_cons, List.lookup_cons]
    by_cases q : f = g
    · subst q
      simp at h
      subst h
      exact ⟨v, by simp, r1⟩
    · have q1 : (f == g) = false := by simpa using q
      have q2 : (Str.ofString f == Str.ofString g) = false := by
        have : Str.ofString f ≠ Str.ofString g := fun z => q (ofString_inj z)
        simpa using this
      rw [q1] at h
      simp only [q2]
      exact fld_look r2 h
end T
set_option Elab.async false
set_option linter.all false
set_option autoImplicit false
set_option maxRecDepth 100000
set_option maxHeartbeats 32000000
/-! # T11: every expression that is checked does what its term does -/
namespace T
open PySem PySem.Spec PyProof.Rows L2
variable {Γ : Cx}

mutual
theorem e_ok : ∀ (e : E) (x : Expr) (t : Bool) (b : Bl) (X : L2.Cx) (W : WX) (hx : Option HX), EC b X Γ W hx → okE b t e x = true → Snd X W hx Γ t e x
  | .var i, x, t, b, X, W, hx, C, h => by
    unfold okE at h
    split at h
    · refine Snd.val rfl (PE.of fun σ H Q q => ⟨_, C.vis h, ?_⟩)
      obtain ⟨G, F, m, st, env, S, E, k⟩ := q
      rw [evE] at k
      split at k
      · rename_i d hd
        obtain ⟨v, h1, h2⟩ := E.at_ i d hd
        exact ⟨v, h1, k.here S h2⟩
      · exact k.elim
    · cases h
  | .int i, x, t, b, X, W, hx, C, h => by
    unfold okE at h
    split at h
    · rename_i j _ _
      have h : i = j := of_decide_eq_true h
      subst h
      refine Snd.val rfl (PE.of fun σ H Q q => ⟨_, pe_int, ?_⟩)
      obtain ⟨G, F, m, st, env, S, E, k⟩ := q
      rw [evE] at k
      exact k.here S rInt
    · cases h
  | .str s, x, t, b, X, W, hx, C, h => by
    unfold okE at h
    split at h
    · simp only [Bool.and_eq_true, decide_eq_true_eq] at h
      obtain ⟨rfl, hl⟩ := h
      refine Snd.val rfl (PE.of fun σ H Q q => ⟨_, pe_str, ?_⟩)
      obtain ⟨G, F, m, st, env, S, E, k⟩ := q
      rw [evE] at k
      exact k.here S (rStr' (strLit_ok hl) (strLit s))
    · cases h
  | .bl c, x, t, b, X, W, hx, C, h => by
    unfold okE at h
    split at h
    · rename_i j _ _
      have h : c = j := of_decide_eq_true h
      subst h
      refine Snd.val rfl (PE.of fun σ H Q q => ⟨_, pe_bl, ?_⟩)
      obtain ⟨G, F, m, st, env, S, E, k⟩ := q
      rw [evE] at k
      exact k.here S rBl
    · cases h
  | .non, x, t, b, X, W, hx, C, h => by
    unfold okE at h
    split at h
    · refine Snd.val rfl (PE.of fun σ H Q q => ⟨_, pe_non, ?_⟩)
      obtain ⟨G, F, m, st, env, S, E, k⟩ := q
      rw [evE] at k
      exact k.here S rNon
    · cases h
  | .glob g, x, t, b, X, W, hx, C, h => by
    unfold okE at h
    split at h
    · simp only [Bool.and_eq_true] at h
      obtain ⟨rfl, hg, hd⟩ := C.gl h.1
      have hgl : g ∈ b.gl := by simpa using h.2
      refine Snd.val rfl (PE.of fun σ H Q q => ?_)
      obtain ⟨G, F, m, st, env, S, E, k⟩ := q
      rw [evE] at k
      obtain ⟨d, e1, k⟩ := ofO_ok k
      obtain ⟨v, u, hm, r, rep⟩ := C.glob g d hgl e1
      exact ⟨_, pe_glob hg hm r hd, k.here S (rep F m)⟩
    · cases h
  | .bin op fz a c, x, t, b, X, W, hx, C, h => by
    unfold okE at h
    split at h
    · simp only [Bool.and_eq_true, decide_eq_true_eq] at h
      obtain ⟨⟨rfl, ha⟩, hc⟩ := h
      refine Snd.val rfl (PE.of fun σ H Q q => ⟨_, pe_op (binop_ok (W := fun c d H => W c d σ H) op fz) ((e_ok a _ false b X W hx C ha).v rfl) ((e_ok c _ false b X W hx C hc).v rfl), ?_⟩)
      have q : tG X.K X.mg W hx (Rep X.K) (fun env st => (evE Γ a env st).bind fun x s1 => (evE Γ c env s1).bind fun y s2 => binop op fz x y s2) σ H Q := by
        obtain ⟨G, F, m, st, env, S, E, k⟩ := q; rw [evE] at k; exact ⟨G, F, m, st, env, S, E, k⟩
      refine tG.bind q fun v H1 G F m st env x S E r1 k => ⟨G, F, m, st, env, S, E, (Kon.bind k).imp fun w H2 ⟨F2, m2, y, st2, e2, S2, r2, k2⟩ => ?_⟩
      exact ⟨G, F2, m2, st2, x, y, S2, Rep.mono e2 _ _ r1, r2, k2⟩
    · cases h
  | .neg a, x, t, b, X, W, hx, C, h => by
    unfold okE at h
    split at h
    · refine Snd.val rfl (PE.of fun σ H Q q => ⟨_, pe_un un_neg ((e_ok a _ false b X W hx C h).v rfl), ?_⟩)
      have q : tG X.K X.mg W hx (Rep X.K) (fun env st => (evE Γ a env st).bind fun x s1 => match x with | .int i => .ok (.int (-i)) s1 | _ => .bad) σ H Q := by
        obtain ⟨G, F, m, st, env, S, E, k⟩ := q; rw [evE] at k; exact ⟨G, F, m, st, env, S, E, k⟩
      refine tG.bind q fun v H1 G F m st env x S E r1 k => ?_
      split at k
      · obtain rfl := repInt r1
        exact ⟨_, rfl, k.here S rInt⟩
      · exact k.elim
    · cases h
  | .cmp op a c, x, t, b, X, W, hx, C, h => by
    unfold okE at h
    split at h
    · simp only [Bool.and_eq_true, decide_eq_true_eq] at h
      obtain ⟨⟨rfl, ha⟩, hc⟩ := h
      have hm := fun o => markOk (op := o) (okE_simp b false c _ hc)
      have Pa := (e_ok a _ false b X W hx C ha).v rfl
      have Pc := (e_ok c _ false b X W hx C hc).v rfl
      refine ⟨fun _ => PE.of fun σ H Q q => ⟨_, pe_cmpR (cmpop_ok C.hu op) Pa Pc (hm _), ?_⟩, fun _ => PT.of fun σ H Q q => ⟨_, pt_cmpR (cmpop_ok C.hu op) Pa Pc (hm _), ?_⟩⟩
      · have q : tG X.K X.mg W hx (Rep X.K) (fun env st => (evE Γ a env st).bind fun x s1 => (evE Γ c env s1).bind fun y s2 => ofO ((cmpop op x y s2).map D.bl) s2) σ H Q := by
          obtain ⟨G, F, m, st, env, S, E, k⟩ := q; rw [evE] at k; exact ⟨G, F, m, st, env, S, E, k⟩
        refine tG.bind q fun v H1 G F m st env x S E r1 k => ⟨G, F, m, st, env, S, E, (Kon.bind k).imp fun w H2 ⟨F2, m2, y, st2, e2, S2, r2, k2⟩ => ?_⟩
        obtain ⟨d, e3, k2⟩ := ofO_b k2
        exact ⟨G, F2, m2, st2, x, y, d, S2, Rep.mono e2 _ _ r1, r2, e3, k2.here S2 rBl⟩
      · have q : tG X.K X.mg W hx repB (fun env st => (evE Γ a env st).bind fun x s1 => (evE Γ c env s1).bind fun y s2 => (ofO ((cmpop op x y s2).map D.bl) s2).bind tru) σ H Q := by
          obtain ⟨G, F, m, st, env, S, E, k⟩ := q; rw [evT_cmp] at k; exact ⟨G, F, m, st, env, S, E, k⟩
        refine tG.bind q fun v H1 G F m st env x S E r1 k => ⟨G, F, m, st, env, S, E, (Kon.bind k).imp fun w H2 ⟨F2, m2, y, st2, e2, S2, r2, k2⟩ => ?_⟩
        obtain ⟨d, e3, k2⟩ := tru_b k2
        exact ⟨G, F2, m2, st2, x, y, d, S2, Rep.mono e2 _ _ r1, r2, e3, d, rfl, k2.here S2 rfl⟩
    · cases h
  | .chain o1 o2 a c d, x, t, b, X, W, hx, C, h => by
    unfold okE at h
    split at h
    · simp only [Bool.and_eq_true, decide_eq_true_eq] at h
      obtain ⟨⟨⟨⟨rfl, rfl⟩, ha⟩, hc⟩, hd⟩ := h
      have hm := fun p1 p2 r1 => lastOk (p1 := p1) (p2 := p2) (r1 := r1) (okE_simp b false d _ hd)
      have Pa := (e_ok a _ false b X W hx C ha).v rfl
      have Pc := (e_ok c _ false b X W hx C hc).v rfl
      have Pd := (e_ok d _ false b X W hx C hd).v rfl
      refine ⟨fun _ => PE.of fun σ H Q q => ⟨_, pe_chain (cmpop_ok C.hu o1) (cmpop_ok C.hu o2) Pa Pc Pd (hm _ _ _), ?_⟩, fun _ => PT.of fun σ H Q q => ⟨_, pt_chain (cmpop_ok C.hu o1) (cmpop_ok C.hu o2) Pa Pc Pd (hm _ _ _), ?_⟩⟩
      · have q : tG X.K X.mg W hx (Rep X.K) (fun env st => (evE Γ a env st).bind fun x s1 => (evE Γ c env s1).bind fun y s2 => match cmpop o1 x y s2 with
            | some true => (evE Γ d env s2).bind fun z s3 => ofO ((cmpop o2 y z s3).map D.bl) s3
            | some false => .ok (.bl false) s2
            | none => .bad) σ H Q := by
          obtain ⟨G, F, m, st, env, S, E, k⟩ := q; rw [evE] at k; exact ⟨G, F, m, st, env, S, E, k⟩
        refine tG.bind q fun v H1 G F m st env x S E r1 k => ⟨G, F, m, st, env, S, E, (Kon.bind k).imp fun w H2 ⟨F2, m2, y, st2, e2, S2, r2, k2⟩ => ?_⟩
        cases hcm : cmpop o1 x y st2 with
        | none => rw [hcm] at k2; exact k2.elim
        | some cc =>
          rw [hcm] at k2
          refine ⟨G, F2, m2, st2, x, y, cc, S2, Rep.mono e2 _ _ r1, r2, hcm, cc, rfl, ?_⟩
          cases cc with
          | false => rw [if_neg Bool.false_ne_true]; exact k2.here S2 rBl
          | true =>
            rw [if_pos rfl]
            refine ⟨G, F2, m2, st2, env, S2, E.mono e2, (Kon.bind k2).imp fun w3 H3 ⟨F3, m3, z, st3, e3, S3, r3, k3⟩ => ?_⟩
            obtain ⟨dd, e4, k3⟩ := ofO_b k3
            exact ⟨G, F3, m3, st3, y, z, dd, S3, Rep.mono e3 _ _ r2, r3, e4, k3.here S3 rBl⟩
      · have q : tG X.K X.mg W hx repB (fun env st => (evE Γ a env st).bind fun x s1 => (evE Γ c env s1).bind fun y s2 => match cmpop o1 x y s2 with
            | some true => (evE Γ d env s2).bind fun z s3 => (ofO ((cmpop o2 y z s3).map D.bl) s3).bind tru
            | some false => .ok false s2
            | none => .bad) σ H Q := by
          obtain ⟨G, F, m, st, env, S, E, k⟩ := q; rw [evT_chain] at k; exact ⟨G, F, m, st, env, S, E, k⟩
        refine tG.bind q fun v H1 G F m st env x S E r1 k => ⟨G, F, m, st, env, S, E, (Kon.bind k).imp fun w H2 ⟨F2, m2, y, st2, e2, S2, r2, k2⟩ => ?_⟩
        cases hcm : cmpop o1 x y st2 with
        | none => rw [hcm] at k2; exact k2.elim
        | some cc =>
          rw [hcm] at k2
          refine ⟨G, F2, m2, st2, x, y, cc, S2, Rep.mono e2 _ _ r1, r2, hcm, cc, rfl, ?_⟩
          cases cc with
          | false => rw [if_neg Bool.false_ne_true]; exact ⟨false, rfl, k2.here S2 rfl⟩
          | true =>
            rw [if_pos rfl]
            refine ⟨G, F2, m2, st2, env, S2, E.mono e2, (Kon.bind k2).imp fun w3 H3 ⟨F3, m3, z, st3, e3, S3, r3, k3⟩ => ?_⟩
            obtain ⟨dd, e4, k3⟩ := tru_b k3
            exact ⟨G, F3, m3, st3, y, z, dd, S3, Rep.mono e3 _ _ r2, r3, e4, dd, rfl, k3.here S3 rfl⟩
    · cases h
  | .and es, x, t, b, X, W, hx, C, h => by
    unfold okE at h
    split at h
    · simp only [Bool.and_eq_true] at h
      have B := and_ok es _ t b X W hx C h.1 (by intro e; rw [e] at h; simp at h)
      exact ⟨fun z => B.v z _, fun z => (B.t z _).pt⟩
    · cases h
  | .or es, x, t, b, X, W, hx, C, h => by
    unfold okE at h
    split at h
    · simp only [Bool.and_eq_true] at h
      have B := or_ok es _ t b X W hx C h.1 (by intro e; rw [e] at h; simp at h)
      exact ⟨fun z => B.v z _, fun z => (B.t z _).pt⟩
    · cases h
  | .not a, x, t, b, X, W, hx, C, h => by
    unfold okE at h
    split at h
    · have A := e_ok a _ t b X W hx C h
      refine ⟨fun z => PE.of fun σ H Q q => ⟨_, pe_notT (A.v z), ?_⟩, fun z => PT.of fun σ H Q q => ⟨_, pt_not (A.t z), ?_⟩⟩
      · have q : tG X.K X.mg W hx (Rep X.K) (fun env st => (evE Γ a env st).bind fun x s1 => ofO ((truthy s1 x).map fun b => D.bl (!b)) s1) σ H Q := by
          obtain ⟨G, F, m, st, env, S, E, k⟩ := q; rw [evE] at k; exact ⟨G, F, m, st, env, S, E, k⟩
        refine tG.bind q fun v H1 G F m st env x S E r1 k => ?_
        obtain ⟨d, e1, k⟩ := ofO_ok k
        obtain ⟨c, e2, rfl⟩ := Option.map_eq_some_iff.mp e1
        exact ⟨c, truthy_ok S r1 e2, k.here S rBl⟩
      · have q : tG X.K X.mg W hx repB (fun env st => (evT Γ a env st).bind fun b s => .ok (!b) s) σ H Q := by
          obtain ⟨G, F, m, st, env, S, E, k⟩ := q; rw [evT_not] at k; exact ⟨G, F, m, st, env, S, E, k⟩
        refine tG.bind q fun v H1 G F m st env x S E r1 k => ?_
        have r1 : x = v := r1
        subst r1
        exact k.here S rfl
    · cases h
  | .ife c a d, x, t, b, X, W, hx, C, h => by
    unfold okE at h
    split at h
    · simp only [Bool.and_eq_true, Bool.not_eq_true'] at h
      obtain ⟨⟨⟨rfl, hc⟩, ha⟩, hd⟩ := h
      refine Snd.noT (PE.of fun σ H Q q => ⟨_, pe_ifExp ((e_ok c _ true b X W hx C hc).t rfl) ((e_ok a _ false b X W hx C ha).v rfl) ((e_ok d _ false b X W hx C hd).v rfl), ?_⟩)
      have q : tG X.K X.mg W hx (Rep X.K) (fun env st => (evT Γ c env st).bind fun c s => if c = true then evE Γ a env s else evE Γ d env s) σ H Q := by
        obtain ⟨G, F, m, st, env, S, E, k⟩ := q; rw [evT_ife] at k; exact ⟨G, F, m, st, env, S, E, k⟩
      refine tG.bind q fun v H1 G F m st env x S E r1 k => ?_
      have r1 : x = v := r1
      subst r1
      cases x with
      | false => rw [if_neg Bool.false_ne_true] at k ⊢; exact ⟨G, F, m, st, env, S, E, k⟩
      | true => rw [if_pos rfl] at k ⊢; exact ⟨G, F, m, st, env, S, E, k⟩
    · cases h
  | .call f es, x, t, b, X, W, hx, C, h => by
    unfold okE at h
    split at h
    · simp only [Bool.and_eq_true, beq_iff_eq] at h
      obtain ⟨⟨⟨h1, h2⟩, h3⟩, h4⟩ := h
      obtain ⟨hs, hl⟩ := okEs_simp h4
      exact Snd.val rfl (call_ok C h1 h2 h3 (es_ok es _ b X W hx C h4) hs hl)
    · cases h
  | .bi o fz es, x, t, b, X, W, hx, C, h => by
    unfold okE at h
    split at h
    · rename_i y p args pos
      simp only [Bool.and_eq_true] at h
      obtain ⟨⟨h1, h2⟩, h3⟩ := h
      obtain ⟨rfl, hg, hd⟩ := C.gl h1
      have hm := C.blt _ (bt_in o)
      refine Snd.val rfl ?_
      cases hr : rgBt o with
      | false =>
        rw [hr] at h3
        simp only [Bool.and_eq_true] at h3
        obtain ⟨h4, h5⟩ := h3
        obtain ⟨hs, hl⟩ := okEs_simp h4
        cases args with
        | nil => simp at h5
        | cons a0 as =>
          refine PE.of fun σ H Q q => ⟨_, pe_callV (bt_form o) (builtin_ok (W := fun c d H => W c d σ H) (C.cal h2) o fz hr) hg hm (bt_boot o) (es_ok es _ b X W hx C h4) (blt_nn _ (bt_in o)) hd (starOk (hs a0 (by simp))) (backOk fun z hz => hs z (by simp [hz])), ?_⟩
          have q : tG X.K X.mg W hx (Rep X.K) (fun env st => (evA Γ es env st).bind fun xs s1 => builtin o fz xs s1) σ H Q := by
            obtain ⟨G, F, m, st, env, S, E, k⟩ := q; rw [evE] at k; exact ⟨G, F, m, st, env, S, E, k⟩
          exact tG.bind q fun v H1 G F m st env x S E r1 k => ⟨G, F, m, st, x, S, r1, k⟩
      | true =>
        rw [hr] at h3
        split at h3
        · cases ‹true = false›
        · split at h3
          · rename_i z zp as zpos
            simp only [Bool.and_eq_true] at h3
            obtain ⟨⟨h4, h5⟩, h6⟩ := h3
            obtain ⟨rfl, hgr, hdr⟩ := C.gl h4
            have hmr := C.blt "range" (by decide)
            have A := es_ok es _ b X W hx C h5
            obtain ⟨hs, hl⟩ := okEs_simp h5
            cases as with
            | nil => cases o <;> simp at h6
            | cons a0 as =>
              have PR := prg_args (p := zp) (pos := zpos) hgr hmr A (starOk (hs a0 (by simp))) (backOk fun z hz => hs z (by simp [hz]))
              have step : ∀ σ H Q, tE X W hx Γ (.bi o fz es) σ H Q → tA X W hx Γ es σ H fun vs H1 => (∃ n, vs = [.int n] ∧ (RgOk 0 n ∧ ((o = .tupRg1 ∨ o = .tupRg2) → NewT (rgV 0 n) H1 Q) ∧ (¬ (o = .tupRg1 ∨ o = .tupRg2) → ∀ q, H1 q = none → Q (.ref q) (upd H1 q (.lst (rgV 0 n)))))) ∨
                  ∃ i j, vs = [.int i, .int j] ∧ (RgOk i j ∧ ((o = .tupRg1 ∨ o = .tupRg2) → NewT (rgV i j) H1 Q) ∧ (¬ (o = .tupRg1 ∨ o = .tupRg2) → ∀ q, H1 q = none → Q (.ref q) (upd H1 q (.lst (rgV i j))))) := fun σ H Q q => by
                have q : tG X.K X.mg W hx (Rep X.K) (fun env st => (evA Γ es env st).bind fun xs s1 => builtin o fz xs s1) σ H Q := by
                  obtain ⟨G, F, m, st, env, S, E, k⟩ := q; rw [evE] at k; exact ⟨G, F, m, st, env, S, E, k⟩
                refine tG.bind q fun vs H1 G F m st env x S E r1 k => ?_
                obtain ⟨i, j, hij, ok, eb⟩ := bi_rg (st := st) (fz := fz) (xs := x) hr (fun z => by rw [z] at k; exact k)
                rw [eb] at k
                have fin : RgOk i j ∧ ((o = .tupRg1 ∨ o = .tupRg2) → NewT (rgV i j) H1 Q) ∧ (¬ (o = .tupRg1 ∨ o = .tupRg2) → ∀ q, H1 q = none → Q (.ref q) (upd H1 q (.lst (rgV i j)))) :=
                  ⟨rgOk_ok ok, fun z => by rw [if_pos z] at k; exact k.newTup S (RepL.rg i j), fun z => by rw [if_neg z] at k; exact k.newLst S (RepL.rg i j)⟩
                rcases hij with rfl | ⟨rfl, rfl⟩
                · obtain ⟨v, w, rfl, e1, e2⟩ := repL2 r1
                  obtain rfl := repInt e1; obtain rfl := repInt e2
                  exact .inr ⟨i, j, rfl, fin⟩
                · obtain ⟨v, rfl, e1⟩ := repL1 r1
                  obtain rfl := repInt e1
                  exact .inl ⟨j, rfl, fin⟩
              by_cases ht : o = .tupRg1 ∨ o = .tupRg2
              · have hn : btName o = "tuple" := by rcases ht with rfl | rfl <;> rfl
                rw [hn] at hg hm ⊢
                refine PE.of fun σ H Q q => ⟨_, pe_tupRgF (C.cal h2) hg hm PR rfl, ?_⟩
                obtain ⟨G, F, m, st, env, S, E, kk⟩ := step σ H Q q
                refine ⟨G, F, m, st, env, S, E, kk.imp fun vs H1 z => ?_⟩
                rcases z with ⟨n, e, z1, z2, _⟩ | ⟨i, j, e, z1, z2, _⟩
                · exact .inl ⟨n, e, z1, z2 ht⟩
                · exact .inr ⟨i, j, e, z1, z2 ht⟩
              · have hn : btName o = "list" := by cases o <;> first | rfl | (simp [rgBt] at hr; done) | (exfalso; exact ht (by simp))
                rw [hn] at hg hm ⊢
                refine PE.of fun σ H Q q => ⟨_, pe_listRg (C.cal h2) hg hm PR rfl, ?_⟩
                obtain ⟨G, F, m, st, env, S, E, kk⟩ := step σ H Q q
                refine ⟨G, F, m, st, env, S, E, kk.imp fun vs H1 z => ?_⟩
                rcases z with ⟨n, e, z1, _, z2⟩ | ⟨i, j, e, z1, _, z2⟩
                · exact .inl ⟨n, e, z1, z2 ht⟩
                · exact .inr ⟨i, j, e, z1, z2 ht⟩
          · cases h3
    · cases h
  | .meth m0 fz o es, x, t, b, X, W, hx, C, h => by
    unfold okE at h
    split at h
    · rename_i v name apos args cpos
      simp only [Bool.and_eq_true, decide_eq_true_eq] at h
      obtain ⟨⟨⟨⟨⟨rfl, hline⟩, hrv⟩, hlen⟩, ho⟩, ha⟩ := h
      obtain ⟨hs, hl⟩ := okEs_simp ha
      have Po := (e_ok o _ false b X W hx C ho).v rfl
      have Pa := es_ok es _ b X W hx C ha
      have q0 : ∀ σ H Q, tE X W hx Γ (.meth m0 fz o es) σ H Q → tMd X (Str.ofString (mtN m0)) (tE X W hx Γ o) (tA X W hx Γ es) σ H Q := fun σ H Q q => by
        have q : tG X.K X.mg W hx (Rep X.K) (fun env st => (evE Γ o env st).bind fun x s1 => if rcvOk m0 (tyName s1 x) then (evA Γ es env s1).bind fun xs s2 => method m0 fz x xs s2 else .bad) σ H Q := by
          obtain ⟨G, F, m, st, env, S, E, k⟩ := q; rw [evE] at k; exact ⟨G, F, m, st, env, S, E, k⟩
        refine tG.bind q fun v H1 G F m st env x S E r1 k => ?_
        split at k
        · rename_i hrc
          obtain ⟨T, id, r, M, ty, hm, imp⟩ := method_ok (W := fun c d H => W c d σ H) (fz := fz) C.hu S r1 hrc
          refine ⟨T, id, r, M, ty, hm, G, F, m, st, env, S, E, (Kon.bind k).imp fun vs H2 ⟨F2, m2, ds, st2, e2, S2, r2, k2⟩ => imp vs H2 Q ?_⟩
          exact ⟨G, F2, m2, st2, ds, e2, S2, Rep.mono e2 _ _ r1, r2, k2⟩
        · exact k.elim
      refine Snd.val rfl ?_
      cases args with
      | nil =>
        refine PE.of fun σ H Q q => ⟨_, pe_md0 Po (baseOk hrv) hline, ?_⟩
        obtain ⟨G, F, m, st, env, S, E, kk⟩ := q0 σ H Q q
        cases es with
        | cons => simp [Es.len] at hl
        | nil =>
          refine ⟨G, F, m, st, env, S, E, kk.imp fun v H1 ⟨T, id, r, M, ty, hm, G1, F1, m1, st1, env1, S1, E1, k1⟩ => ⟨T, id, r, M, ty, hm, ?_⟩⟩
          rw [evA] at k1
          exact k1.here S1 RepL.nil
      | cons a0 as => exact PE.of fun σ H Q q => ⟨_, pe_md Po Pa (baseOk hrv) (fewOk hs hlen) hline (starOk (hs a0 (by simp))) (backOk fun z hz => hs z (by simp [hz])), q0 σ H Q q⟩
    · cases h
  | .idx a i, x, t, b, X, W, hx, C, h => by
    unfold okE at h
    split at h
    · simp only [Bool.and_eq_true] at h
      refine Snd.val rfl (PE.of fun σ H Q q => ⟨_, pe_ix (index_ok (W := fun c d H => W c d σ H) (Nat.lt_of_le_of_lt (Nat.add_le_add_left (by decide) _) C.hu)) ((e_ok a _ false b X W hx C h.1).v rfl) ((e_ok i _ false b X W hx C h.2).v rfl) (ixOk (okE_simp b false i _ h.2)), ?_⟩)
      have q : tG X.K X.mg W hx (Rep X.K) (fun env st => (evE Γ a env st).bind fun x s1 => (evE Γ i env s1).bind fun y s2 => index x y s2) σ H Q := by
        obtain ⟨G, F, m, st, env, S, E, k⟩ := q; rw [evE] at k; exact ⟨G, F, m, st, env, S, E, k⟩
      refine tG.bind q fun v H1 G F m st env x S E r1 k => ⟨G, F, m, st, env, S, E, (Kon.bind k).imp fun w H2 ⟨F2, m2, y, st2, e2, S2, r2, k2⟩ => ?_⟩
      exact ⟨G, F2, m2, st2, x, y, S2, Rep.mono e2 _ _ r1, r2, k2⟩
    · cases h
  | .slc fz a lo hi, x, t, b, X, W, hx, C, h => by
    unfold okE at h
    split at h
    · simp only [Bool.and_eq_true] at h
      obtain ⟨⟨h1, h2⟩, h3⟩ := h
      refine Snd.val rfl (PE.of fun σ H Q q => ⟨_, pe_slice (slice_ok (W := fun c d H => W c d σ H) fz) ((e_ok a _ false b X W hx C h1).v rfl) (p_ok lo _ b X W hx C h2) (p_ok hi _ b X W hx C h3), ?_⟩)
      have q : tG X.K X.mg W hx (Rep X.K) (fun env st => (evE Γ a env st).bind fun x s1 => (evP Γ lo env s1).bind fun l s2 => (evP Γ hi env s2).bind fun h s3 => slice fz x l h s3) σ H Q := by
        obtain ⟨G, F, m, st, env, S, E, k⟩ := q; rw [evE] at k; exact ⟨G, F, m, st, env, S, E, k⟩
      refine tG.bind q fun v H1 G F m st env x S E r1 k => ⟨G, F, m, st, env, S, E, (Kon.bind k).imp fun l' H2 ⟨F2, m2, l, st2, e2, S2, r2, k2⟩ => ⟨G, F2, m2, st2, env, S2, E.mono e2, (Kon.bind k2).imp fun u' H3 ⟨F3, m3, u, st3, e3, S3, r3, k3⟩ => ?_⟩⟩
      have r2 : l = l' := r2
      have r3 : u = u' := r3
      subst r2 r3
      exact ⟨G, F3, m3, st3, x, S3, Rep.mono (e2.trans e3) _ _ r1, k3⟩
    · cases h
  | .tup es, x, t, b, X, W, hx, C, h => by
    unfold okE at h
    split at h
    · simp only [Bool.and_eq_true, decide_eq_true_eq] at h
      obtain ⟨hs, hl⟩ := okEs_simp h.1
      refine Snd.val rfl (PE.of fun σ H Q q => ⟨_, pe_tupF (es_ok es _ b X W hx C h.1), ?_⟩)
      obtain ⟨G, F, m, st, env, S, E, k⟩ := q
      rw [evE] at k
      refine ⟨G, F, m, st, env, S, E, ?_⟩
      cases hev : evA Γ es env st with
      | bad => rw [hev] at k; exact k
      | ex => rw [hev] at k; exact k
      | ok ds s1 =>
        rw [hev] at k
        exact fun F1 m1 H1 vs X1 S1 r1 => ⟨by
          have := evA_len es env st s1 ds hev
          rw [← r1.length, this, ← hl]
          have z : (1000 : Nat) ≤ sizeLine := by rw [← lim_eq, lim_v]; decide
          omega, (Kon.mono (r := R.ok (D.tup ds) s1) k X1).newTup S1 r1⟩
    · cases h
  | .lst fz es, x, t, b, X, W, hx, C, h => by
    unfold okE at h
    split at h
    · simp only [Bool.and_eq_true, decide_eq_true_eq] at h
      obtain ⟨hs, hl⟩ := okEs_simp h.1
      refine Snd.val rfl (PE.of fun σ H Q q => ⟨_, pe_lst (es_ok es _ b X W hx C h.1), ?_⟩)
      obtain ⟨G, F, m, st, env, S, E, k⟩ := q
      rw [evE] at k
      refine ⟨G, F, m, st, env, S, E, ?_⟩
      cases hev : evA Γ es env st with
      | bad => rw [hev] at k; exact k
      | ex => rw [hev] at k; exact k
      | ok ds s1 =>
        rw [hev] at k
        exact fun F1 m1 H1 vs X1 S1 r1 => ⟨by
          have := evA_len es env st s1 ds hev
          rw [← r1.length, this, ← hl]
          have z : (1000 : Nat) ≤ sizeLine := by rw [← lim_eq, lim_v]; decide
          omega, (Kon.mono (r := newL fz ds s1) k X1).newLst S1 r1⟩
    · cases h
  | .lc fz elt tg it cond own, x, t, b, X, W, hx, C, h => by
    unfold okE at h
    split at h
    · rename_i e tx ix ifs as scope pos
      simp only [Bool.and_eq_true, decide_eq_true_eq] at h
      obtain ⟨⟨⟨⟨⟨⟨⟨hcal, rfl⟩, hblk⟩, hit⟩, htg⟩, hsl⟩, helt⟩, hif⟩ := h
      have P := pe_lc (pos := pos) (C.cal hcal) C.nd (it_ok it tg tx ix b X W hx C hit) (blkOk_by (own := own' own) (by rw [C.N, C.sc]; exact hblk)) (g := tTg X.K none tg) (tt := tC' X (fun _ _ _ _ => False) none Γ cond) (te := tE X (fun _ _ _ _ => False) none Γ elt)
        (fun s H A cl fp => tg_ok (C.blk s H scope A cl fp) tg tx htg) (fun s H A cl fp => if_ok cond ifs _ _ _ _ (C.blk s H scope A cl fp) hif) (fun s H A cl fp => (e_ok elt e false _ _ _ _ (C.blk s H scope A cl fp) helt).v rfl) (foldOk (it_simp it tg tx ix b hit))
      refine Snd.val rfl (PE.of fun σ H Q q => ⟨_, P, ?_⟩)
      have ov : (own' own).map (·.2) = own.map (·.2) := by unfold own'; rw [List.map_map]; rfl
      have q : tG X.K X.mg W hx (Rep X.K) (fun env st => (evIt Γ it env st).bind fun src s1 => (noX (match src with | .snap ds => lcGo (lcF Γ elt tg cond (own.map (·.2)) env) ds [] s1 | .live n => lcLive (lcF Γ elt tg cond (own.map (·.2)) env) n Γ.wf 0 [] s1)).bind fun ys s5 => newL fz ys s5) σ H Q := by
        obtain ⟨G, F, m, st, env, S, E, k⟩ := q; rw [evE_lc] at k; exact ⟨G, F, m, st, env, S, E, k⟩
      refine tG.bind q fun J H1 G F m st env src S E rj k D0 hD => ?_
      rw [ov]
      refine lc_loop S E.noHx rj (fun i hi => ?_) (fun i hi => ?_) k hD
      · have := List.all_eq_true.mp hsl i hi
        simpa using this
      · subst hi
        cases it with
        | enum => unfold okIt at hit; split at hit <;> first | (rename_i e; cases e) | cases hit
        | zip => unfold okIt at hit; split at hit <;> first | (rename_i e; cases e) | cases hit
        | _ => rfl
    · cases h
  | .dict0, x, t, b, X, W, hx, C, h => by
    unfold okE at h
    split at h
    · cases t with
      | true => cases h
      | false =>
        refine Snd.noT (PE.of fun σ H Q q => ⟨_, pe_dnewK, ?_⟩)
        obtain ⟨G, F, m, st, env, S, E, k⟩ := q
        rw [evE] at k
        intro p hp
        obtain ⟨S', e, g⟩ := S.newO (o := .dK []) (u := .dK []) hp fun e f => ⟨f, [], upd_same, by simp [RepKV]⟩
        exact k _ _ _ _ e S' (by simp only [Rep]; exact ⟨p, rfl, g⟩)
    · cases h
  | .isi a ts, x, t, b, X, W, hx, C, h => by
    unfold okE at h
    split at h
    · rename_i y p v w pos
      simp only [Bool.and_eq_true] at h
      obtain ⟨⟨h1, h2⟩, h3⟩ := h
      obtain ⟨rfl, hg, hd⟩ := C.gl h1
      have hm := C.blt "isinstance" (by decide)
      have hnn := blt_nn "isinstance" (by decide)
      have P := (e_ok a _ false b X W hx C h2).v rfl
      have sv := okE_simp b false a _ h2
      have q0 : ∀ σ H Q, tE X W hx Γ (.isi a ts) σ H Q → tG X.K X.mg W hx (Rep X.K) (fun env st => (evE Γ a env st).bind fun x s1 => match tyName s1 x with | some t => .ok (.bl (ts.any (isTy t))) s1 | none => .bad) σ H Q := fun σ H Q q => by
        obtain ⟨G, F, m, st, env, S, E, k⟩ := q; rw [evE] at k; exact ⟨G, F, m, st, env, S, E, k⟩
      refine Snd.val rfl ?_
      split at h3
      · rename_i xs kk tpos
        simp only [Bool.and_eq_true, decide_eq_true_eq] at h3
        obtain ⟨pk, hts⟩ := tyNames_ok C ts xs h3.1
        refine PE.of fun σ H Q q => ⟨_, pe_callB call_isiT hg hm boot_isinstance (pa_cons P (pa_cons (pe_tup pk) pa_nil rfl) (starOk sv)) hnn hd (starOk sv) rfl, ?_⟩
        refine tG.bind (q0 σ H Q q) fun v H1 G F m st env x S E r1 k => ?_
        split at k
        · rename_i ty hty
          refine ⟨?_, fun p hp => ?_⟩
          · rw [List.length_map]
            have : ∀ (ns : List String) (xs : List Expr), tyNamesOk b ns xs = true → ns.length = xs.length := by
              intro ns
              induction ns with
              | nil => intro xs h; unfold tyNamesOk at h; cases xs <;> first | rfl | cases h
              | cons n ns ih =>
                intro xs h
                unfold tyNamesOk at h
                split at h
                · simp only [Bool.and_eq_true] at h
                  simp [ih _ h.2]
                · cases h
            rw [this ts xs h3.1]
            have z : (1000 : Nat) ≤ sizeLine := by rw [← lim_eq, lim_v]; decide
            omega
          · obtain ⟨S', e'⟩ := S.newF (o := .tup (ts.map V.ty)) hp
            obtain ⟨tx, hmem⟩ := tyX_ok S' (Rep.mono e' _ _ r1) hty
            exact ⟨v, p, ts.map V.ty, .type ty, ts.map Value.type, _, rfl, upd_same, clsV_all ts, tx, kitAny_all hmem ts hts, k _ _ _ _ e' S' rBl⟩
        · exact k.elim
      · split at h3
        · rename_i n
          obtain ⟨pn, hn, sn⟩ := tyName_ok C h3
          refine PE.of fun σ H Q q => ⟨_, pe_callB call_isi hg hm boot_isinstance (pa_cons P (pa_cons pn pa_nil (starOk sn)) (starOk sv)) hnn hd (starOk sv) (backOk (by intro z hz; simp at hz; subst hz; exact sn)), ?_⟩
          refine tG.bind (q0 σ H Q q) fun v H1 G F m st env x S E r1 k => ?_
          split at k
          · rename_i ty hty
            obtain ⟨tx, hmem⟩ := tyX_ok S r1 hty
            refine ⟨v, .ty n, .type ty, .type n, _, rfl, .ty n, tx, kit_all ty hmem n hn, k.here S ?_⟩
            simp only [List.any_cons, List.any_nil, Bool.or_false]
            exact rBl
          · exact k.elim
        · cases h3
    · cases h
  | .isx i cs, x, t, b, X, W, hx, C, h => by
    unfold okE at h
    split at h
    · rename_i y p v vp w pos
      simp only [Bool.and_eq_true, beq_iff_eq] at h
      obtain ⟨⟨⟨h1, h2⟩, h3⟩, h4⟩ := h
      obtain ⟨rfl, hg, hd⟩ := C.gl h1
      have hm := C.blt "isinstance" (by decide)
      have hnn := blt_nn "isinstance" (by decide)
      split at h4
      · rename_i z zp c
        simp only [Bool.and_eq_true] at h4
        obtain ⟨rfl, gz, dz⟩ := C.gl h4.1
        have hc : c ∈ b.isn := by simpa using h4.2
        obtain ⟨xn, hΓ, h, D, d, oe, X0, pn, rfl, rfl, rfl, hz, hf, hP⟩ := C.hxo i h3
        refine Snd.val rfl (PE.of fun σ H Q q => ?_)
        obtain ⟨G, F, m, st, env, S, E, k⟩ := q
        rw [evE, hΓ] at k
        simp only at k
        split at k
        · rename_i hi
          split at k
          · rename_i xd hxd
            obtain ⟨e1, e2⟩ := E.hx h rfl
            obtain ⟨gD, rx⟩ := hP F m e2
            have XQ := C.xcl xn.cls xd D hxd gD
            obtain ⟨cv, hcv, hic, hkit⟩ := XQ.kit c hc
            have hσ := e1 (by rw [← E.len]; exact hi.2)
            have dd : d = none ∨ ∃ dd fs, d = some dd ∧ H dd = some (.xd fs) := by
              rcases rx with ⟨_, rx⟩ | ⟨dd, vs, r1, r2, _⟩
              · exact .inl rx
              · exact .inr ⟨dd, _, r1, S.sub _ _ r2⟩
            have done : ∀ cV : V, (∀ u, RelV cV u → u = cv) → PE (X0.suite h.a ((h.a, oe) :: pn)) (.Name (Str.ofString c) zp) (L2.tC cV) → ∃ t, PE (X0.suite h.a ((h.a, oe) :: pn)) (.Call (.Name (Str.ofString "isinstance") p) [.Name v vp, .Name (Str.ofString c) zp] [] pos) t ∧ t σ H Q := fun cV hu hp =>
              ⟨_, pe_callB (call_held XQ.ec hz hf) hg hm boot_isinstance (pa_cons (C.vis h2) (pa_cons hp pa_nil rfl) rfl) hnn hd rfl rfl, ⟨_, hσ, cV, cv, _, rfl, hu, dd, hkit, by
                have k := k.here S rBl
                simpa using k⟩⟩
            rcases hic with ⟨n, rfl⟩ | ⟨a, rfl⟩
            · refine done (.ty n) (fun u r => r) ?_
              rcases hcv with hcv | ⟨hcv, hb, hnm⟩
              · exact pe_glob gz hcv rfl dz
              · exact pe_bltn gz hcv hb rfl hnm dz
            · refine done (.ref a) (fun u r => r) ?_
              rcases hcv with hcv | ⟨hcv, hb, hnm⟩
              · exact pe_glob gz hcv rfl dz
              · exact pe_bltn gz hcv hb rfl hnm dz
          · exact k.elim
        · exact k.elim
      · cases h4
    · cases h
  | .xattr i f, x, t, b, X, W, hx, C, h => by
    unfold okE at h
    split at h
    · rename_i v vp an apos
      simp only [Bool.and_eq_true, beq_iff_eq, decide_eq_true_eq] at h
      obtain ⟨⟨h2, h3⟩, rfl⟩ := h
      obtain ⟨xn, hΓ, h, D, d, oe, X0, pn, rfl, rfl, rfl, hz, hf, hP⟩ := C.hxo i h3
      refine Snd.val rfl (PE.of fun σ H Q q => ?_)
      obtain ⟨G, F, m, st, env, S, E, k⟩ := q
      rw [evE, hΓ] at k
      simp only at k
      split at k
      · rename_i hi
        split at k
        · rename_i xd hxd
          split at k
          · rename_i hfm
            obtain ⟨dv, hlk, k⟩ := ofO_ok k
            obtain ⟨e1, e2⟩ := E.hx h rfl
            obtain ⟨gD, rx⟩ := hP F m e2
            have XQ := C.xcl xn.cls xd D hxd gD
            have hσ := e1 (by rw [← E.len]; exact hi.2)
            rcases rx with ⟨rx, _⟩ | ⟨dd, vs, r1, r2, r3⟩
            · rw [rx] at hlk; cases hlk
            · obtain ⟨fv, hl, rv⟩ := fld_look r3 hlk
              exact ⟨_, pe_xf XQ.xf (XQ.nf f hfm) hz hf (C.vis h2) (baseOk rfl), _, hσ, rfl, rfl, dd, _, fv, r1, S.sub _ _ r2, hl, k.here S rv⟩
          · exact k.elim
        · exact k.elim
      · exact k.elim
    · cases h
  | .attr _ _, x, t, b, X, W, hx, C, h => by unfold okE at h; cases h
theorem es_ok : ∀ (es : Es) (xs : List Expr) (b : Bl) (X : L2.Cx) (W : WX) (hx : Option HX), EC b X Γ W hx → okEs b false es xs = true → PA X xs (tA X W hx Γ es)
  | .nil, xs, b, X, W, hx, C, h => by
    unfold okEs at h
    cases xs with
    | nil =>
      refine PA.of fun σ H Q q => ⟨_, pa_nil, ?_⟩
      obtain ⟨G, F, m, st, env, S, E, k⟩ := q
      rw [evA] at k
      exact k.here S RepL.nil
    | cons => cases h
  | .cons e es, xs, b, X, W, hx, C, h => by
    unfold okEs at h
    split at h
    · simp only [Bool.and_eq_true] at h
      refine PA.of fun σ H Q q => ⟨_, pa_cons ((e_ok e _ false b X W hx C h.1.1.1).v rfl) (es_ok es _ b X W hx C h.1.1.2) (starOk h.2), ?_⟩
      have q : tG X.K X.mg W hx (RepL X.K) (fun env st => (evE Γ e env st).bind fun x s1 => (evA Γ es env s1).bind fun xs s2 => .ok (x :: xs) s2) σ H Q := by
        obtain ⟨G, F, m, st, env, S, E, k⟩ := q; rw [evA] at k; exact ⟨G, F, m, st, env, S, E, k⟩
      refine tG.bind q fun v H1 G F m st env x S E r1 k => ⟨G, F, m, st, env, S, E, (Kon.bind k).imp fun ws H2 ⟨F2, m2, ys, st2, e2, S2, r2, k2⟩ => ?_⟩
      exact k2.here S2 (RepL.cons (Rep.mono e2 _ _ r1) r2)
    · cases h
theorem p_ok : ∀ (o : Eo) (x : Option Expr) (b : Bl) (X : L2.Cx) (W : WX) (hx : Option HX), EC b X Γ W hx → okEo b o x = true → PO X x (tP X W hx Γ o)
  | .no, x, b, X, W, hx, C, h => by
    unfold okEo at h
    cases x with
    | some => cases h
    | none =>
      refine PO.of fun σ H Q q => ⟨_, po_none, ?_⟩
      obtain ⟨G, F, m, st, env, S, E, k⟩ := q
      rw [evP] at k
      exact k.here S rfl
  | .yes e, x, b, X, W, hx, C, h => by
    unfold okEo at h
    split at h
    · refine PO.of fun σ H Q q => ⟨_, po_some ((e_ok e _ false b X W hx C h).v rfl), ?_⟩
      have q : tG X.K X.mg W hx (fun _ _ (a b : Option Int) => a = b) (fun env st => (evE Γ e env st).bind fun x s1 => match x with | .int i => .ok (some i) s1 | _ => .bad) σ H Q := by
        obtain ⟨G, F, m, st, env, S, E, k⟩ := q; rw [evP] at k; exact ⟨G, F, m, st, env, S, E, k⟩
      refine tG.bind q fun v H1 G F m st env x S E r1 k => ?_
      split at k
      · obtain rfl := repInt r1
        exact ⟨_, rfl, k.here S rfl⟩
      · exact k.elim
    · cases h
theorem if_ok : ∀ (o : Eo) (xs : List Expr) (b : Bl) (X : L2.Cx) (W : WX) (hx : Option HX), EC b X Γ W hx → okIf b o xs = true → PTs X xs (tC' X W hx Γ o)
  | .no, xs, b, X, W, hx, C, h => by
    unfold okIf at h
    cases xs with
    | cons => cases h
    | nil => exact ⟨fun pins s σ H Q I q => pts_nil.run pins s σ H Q I (by
        obtain ⟨G, F, m, st, env, S, E, k⟩ := q
        exact Kon.here (d := true) k S rfl)⟩
  | .yes e, xs, b, X, W, hx, C, h => by
    unfold okIf at h
    split at h
    · exact pts_one ((e_ok e _ true b X W hx C h).t rfl)
    · cases h
theorem and_ok : ∀ (es : Es) (xs : List Expr) (t : Bool) (b : Bl) (X : L2.Cx) (W : WX) (hx : Option HX), EC b X Γ W hx → okEs b t es xs = true → xs ≠ [] → SndB .And X W hx Γ t (.and es) xs
  | .nil, xs, t, b, X, W, hx, C, h, hn => by
    unfold okEs at h
    cases xs with
    | nil => exact absurd rfl hn
    | cons => cases h
  | .cons e .nil, xs, t, b, X, W, hx, C, h, hn => by
    unfold okEs at h
    split at h
    · rename_i x r
      simp only [Bool.and_eq_true] at h
      have hr : r = [] := by
        have := h.1.1.2
        unfold okEs at this
        simpa using this
      subst hr
      have A := e_ok e x t b X W hx C h.1.1.1
      refine ⟨fun z pos => pe_one (PE.of fun σ H Q q => ⟨_, A.v z, ?_⟩), fun z pos => pw_and1 (PT.of fun σ H Q q => ⟨_, A.t z, ?_⟩)⟩
      · obtain ⟨G, F, m, st, env, S, E, k⟩ := q; rw [evAnd1] at k; exact ⟨G, F, m, st, env, S, E, k⟩
      · obtain ⟨G, F, m, st, env, S, E, k⟩ := q; unfold evT at k; rw [evAnd1] at k; exact ⟨G, F, m, st, env, S, E, k⟩
    · cases h
  | .cons e (.cons e2 es), xs, t, b, X, W, hx, C, h, hn => by
    unfold okEs at h
    split at h
    · rename_i x r
      simp only [Bool.and_eq_true] at h
      have hr : ∃ y r', r = y :: r' := by
        have := h.1.1.2
        unfold okEs at this
        split at this
        · exact ⟨_, _, rfl⟩
        · cases this
      obtain ⟨y, r', rfl⟩ := hr
      have A := e_ok e x t b X W hx C h.1.1.1
      have B := and_ok (.cons e2 es) (y :: r') t b X W hx C h.1.1.2 (by simp)
      refine ⟨fun z pos => PE.of fun σ H Q q => ⟨_, pe_andT (A.v z) (B.v z pos), ?_⟩, fun z pos => PW.of fun σ H Q q => ⟨_, pw_and (A.t z) (B.t z pos), ?_⟩⟩
      · have q : tG X.K X.mg W hx (Rep X.K) (fun env st => (evE Γ e env st).bind fun x s1 => match truthy s1 x with | some true => evE Γ (.and (.cons e2 es)) env s1 | some false => .ok x s1 | none => .bad) σ H Q := by
          obtain ⟨G, F, m, st, env, S, E, k⟩ := q; rw [evAnd2] at k; exact ⟨G, F, m, st, env, S, E, k⟩
        refine tG.bind q fun v H1 G F m st env x S E r1 k => ?_
        split at k
        · rename_i ht
          exact ⟨true, truthy_ok S r1 ht, by rw [if_pos rfl]; exact ⟨G, F, m, st, env, S, E, k⟩⟩
        · rename_i ht
          exact ⟨false, truthy_ok S r1 ht, by rw [if_neg Bool.false_ne_true]; exact k.here S r1⟩
        · exact k.elim
      · have q : tG X.K X.mg W hx repB (fun env st => (evT Γ e env st).bind fun c s1 => if c = true then evT Γ (.and (.cons e2 es)) env s1 else .ok false s1) σ H Q := by
          obtain ⟨G, F, m, st, env, S, E, k⟩ := q; rw [evTAnd2] at k; exact ⟨G, F, m, st, env, S, E, k⟩
        refine tG.bind q fun v H1 G F m st env x S E r1 k => ?_
        have r1 : x = v := r1
        subst r1
        cases x with
        | false => rw [if_neg Bool.false_ne_true] at k ⊢; exact k.here S rfl
        | true => rw [if_pos rfl] at k ⊢; exact ⟨G, F, m, st, env, S, E, k⟩
    · cases h
theorem or_ok : ∀ (es : Es) (xs : List Expr) (t : Bool) (b : Bl) (X : L2.Cx) (W : WX) (hx : Option HX), EC b X Γ W hx → okEs b t es xs = true → xs ≠ [] → SndB .Or X W hx Γ t (.or es) xs
  | .nil, xs, t, b, X, W, hx, C, h, hn => by
    unfold okEs at h
    cases xs with
    | nil => exact absurd rfl hn
    | cons => cases h
  | .cons e .nil, xs, t, b, X, W, hx, C, h, hn => by
    unfold okEs at h
    split at h
    · rename_i x r
      simp only [Bool.and_eq_true] at h
      have hr : r = [] := by
        have := h.1.1.2
        unfold okEs at this
        simpa using this
      subst hr
      have A := e_ok e x t b X W hx C h.1.1.1
      refine ⟨fun z pos => pe_one (PE.of fun σ H Q q => ⟨_, A.v z, ?_⟩), fun z pos => pw_or1 (PT.of fun σ H Q q => ⟨_, A.t z, ?_⟩)⟩
      · obtain ⟨G, F, m, st, env, S, E, k⟩ := q; rw [evOr1] at k; exact ⟨G, F, m, st, env, S, E, k⟩
      · obtain ⟨G, F, m, st, env, S, E, k⟩ := q; unfold evT at k; rw [evOr1] at k; exact ⟨G, F, m, st, env, S, E, k⟩
    · cases h
  | .cons e (.cons e2 es), xs, t, b, X, W, hx, C, h, hn => by
    unfold okEs at h
    split at h
    · rename_i x r
      simp only [Bool.and_eq_true] at h
      have hr : ∃ y r', r = y :: r' := by
        have := h.1.1.2
        unfold okEs at this
        split at this
        · exact ⟨_, _, rfl⟩
        · cases this
      obtain ⟨y, r', rfl⟩ := hr
      have A := e_ok e x t b X W hx C h.1.1.1
      have B := or_ok (.cons e2 es) (y :: r') t b X W hx C h.1.1.2 (by simp)
      refine ⟨fun z pos => PE.of fun σ H Q q => ⟨_, pe_orT (A.v z) (B.v z pos), ?_⟩, fun z pos => PW.of fun σ H Q q => ⟨_, pw_or (A.t z) (B.t z pos), ?_⟩⟩
      · have q : tG X.K X.mg W hx (Rep X.K) (fun env st => (evE Γ e env st).bind fun x s1 => match truthy s1 x with | some true => .ok x s1 | some false => evE Γ (.or (.cons e2 es)) env s1 | none => .bad) σ H Q := by
          obtain ⟨G, F, m, st, env, S, E, k⟩ := q; rw [evOr2] at k; exact ⟨G, F, m, st, env, S, E, k⟩
        refine tG.bind q fun v H1 G F m st env x S E r1 k => ?_
        split at k
        · rename_i ht
          exact ⟨true, truthy_ok S r1 ht, by rw [if_pos rfl]; exact k.here S r1⟩
        · rename_i ht
          exact ⟨false, truthy_ok S r1 ht, by rw [if_neg Bool.false_ne_true]; exact ⟨G, F, m, st, env, S, E, k⟩⟩
        · exact k.elim
      · have q : tG X.K X.mg W hx repB (fun env st => (evT Γ e env st).bind fun c s1 => if c = true then .ok true s1 else evT Γ (.or (.cons e2 es)) env s1) σ H Q := by
          obtain ⟨G, F, m, st, env, S, E, k⟩ := q; rw [evTOr2] at k; exact ⟨G, F, m, st, env, S, E, k⟩
        refine tG.bind q fun v H1 G F m st env x S E r1 k => ?_
        have r1 : x = v := r1
        subst r1
        cases x with
        | false => rw [if_neg Bool.false_ne_true] at k ⊢; exact ⟨G, F, m, st, env, S, E, k⟩
        | true => rw [if_pos rfl] at k ⊢; exact k.here S rfl
    · cases h
theorem it_ok : ∀ (it : It) (tg : Tg) (tx ix : Expr) (b : Bl) (X : L2.Cx) (W : WX) (hx : Option HX), EC b X Γ W hx → okIt b tg tx it ix = true → PI X tx ix (tI X W hx Γ it)
  | .val e, tg, tx, ix, b, X, W, hx, C, h => by
    unfold okIt at h
    have P := (e_ok e _ false b X W hx C h).v rfl
    refine PI.of fun σ H Z q => ?_
    obtain ⟨G, F, m, st, env, S, E, k⟩ := q
    rw [evIt] at k
    cases hev : evE Γ e env st with
    | bad => rw [hev] at k; exact k.elim
    | ex x s1 => rw [hev] at k; exact ⟨_, pi_tup P, G, F, m, st, env, S, E, by rw [hev]; exact k⟩
    | ok d s1 =>
      rw [hev] at k
      cases d with
      | tup ds =>
        refine ⟨_, pi_tup P, G, F, m, st, env, S, E, ?_⟩
        rw [hev]
        intro F1 m1 H1 v X1 S1 r1
        obtain ⟨a, vs, rfl, h1, h2⟩ := repTup r1
        exact ⟨a, rfl, ⟨vs, sqT_mono S1.sub h1⟩, k F1 m1 H1 _ X1 S1 (src_tup h1 h2)⟩
      | lst ds =>
        refine ⟨_, pi_list P, G, F, m, st, env, S, E, ?_⟩
        rw [hev]
        intro F1 m1 H1 v X1 S1 r1
        obtain ⟨a, vs, rfl, h1, h2⟩ := repLst r1
        exact ⟨a, rfl, ⟨vs, .inl (.inl (S1.sub _ _ h1))⟩, k F1 m1 H1 _ X1 S1 (src_list (.inl (.inl h1)) h2)⟩
      | scr ds =>
        refine ⟨_, pi_list P, G, F, m, st, env, S, E, ?_⟩
        rw [hev]
        intro F1 m1 H1 v X1 S1 r1
        simp only [Rep] at r1
        obtain ⟨a, vs, rfl, h1, h2⟩ := r1
        exact ⟨a, rfl, ⟨vs, sqL_mono S1.sub h1⟩, k F1 m1 H1 _ X1 S1 (src_list h1 h2)⟩
      | str z =>
        refine ⟨_, pi_str P, G, F, m, st, env, S, E, ?_⟩
        rw [hev]
        intro F1 m1 H1 v X1 S1 r1
        obtain ⟨rfl, ok⟩ := repStr r1
        exact ⟨cs z, rfl, k F1 m1 H1 _ X1 S1 (src_str ok)⟩
      | ref n =>
        refine ⟨_, pi_list P, G, F, m, st, env, S, E, ?_⟩
        rw [hev]
        intro F1 m1 H1 v X1 S1 r1
        simp only [R.bind] at k
        split at k
        · rename_i ds hq
          obtain ⟨a, vs, g, f, h1, h2⟩ := S1.lst hq
          obtain ⟨a', rfl, g'⟩ := repRef r1
          rw [g] at g'; cases g'
          exact ⟨a, rfl, ⟨vs, .inl (.inl h1)⟩, k F1 m1 H1 _ X1 S1 ⟨a, g, rfl⟩⟩
        · exact k.elim
      | non => exact k.elim
      | bl => exact k.elim
      | int => exact k.elim
  | .rg1 a, tg, tx, ix, b, X, W, hx, C, h => by
    unfold okIt at h
    split at h
    · rename_i y p v pos
      simp only [Bool.and_eq_true] at h
      obtain ⟨rfl, hg, hd⟩ := C.gl h.1
      have hm := C.blt "range" (by decide)
      have P := (e_ok a _ false b X W hx C h.2).v rfl
      have sv := okE_simp b false a _ h.2
      refine PI.of fun σ H Z q => ⟨_, pi_range1 hg hm (pa_cons P pa_nil (starOk sv)) (starOk sv), ?_⟩
      have q : tG X.K X.mg W hx (srcRel X.K false) (fun env st => (evE Γ a env st).bind fun x s1 => match x with | .int n => ofO ((rgLoop 0 n 1).map Src.snap) s1 | _ => .bad) σ H Z := by
        obtain ⟨G, F, m, st, env, S, E, k⟩ := q; rw [evIt] at k; exact ⟨G, F, m, st, env, S, E, k⟩
      refine tG.bind q fun v H1 G F m st env x S E r1 k => ?_
      split at k
      · rename_i n
        obtain rfl := repInt r1
        unfold rgLoop at k
        rw [if_pos rfl] at k
        split at k
        · rename_i hb
          simp only [c62_v] at hb
          refine ⟨n, rfl, hb.2.2.1, hb.2.2.2, ?_⟩
          have := Kon.here (d := Src.snap (rgD 0 n)) k S (src_range (lo := 0) (hi := n))
          simpa using this
        · exact k.elim
      · exact k.elim
    · cases h
  | .rg2 a c, tg, tx, ix, b, X, W, hx, C, h => by
    unfold okIt at h
    split at h
    · rename_i y p v w pos
      simp only [Bool.and_eq_true] at h
      obtain ⟨rfl, hg, hd⟩ := C.gl h.1.1
      have hm := C.blt "range" (by decide)
      have P := (e_ok a _ false b X W hx C h.1.2).v rfl
      have sv := okE_simp b false a _ h.1.2
      have P2 := (e_ok c _ false b X W hx C h.2).v rfl
      have sw := okE_simp b false c _ h.2
      have st1 : starEach [w] X.env = [(false, eval w X.env)] := starOk sw
      have st2 : starEach [v, w] X.env = [(false, eval v X.env), (false, eval w X.env)] := by rw [starOk sv, st1]
      refine PI.of fun σ H Z q => ⟨_, pi_range2 hg hm (pa_cons P (pa_cons P2 pa_nil (starOk sw)) (starOk sv)) st2 st1, ?_⟩
      have q : tG X.K X.mg W hx (srcRel X.K false) (fun env st => (evE Γ a env st).bind fun x s1 => (evE Γ c env s1).bind fun y s2 => match x, y with | .int i, .int j => ofO ((rgLoop i j 1).map Src.snap) s2 | _, _ => .bad) σ H Z := by
        obtain ⟨G, F, m, st, env, S, E, k⟩ := q; rw [evIt] at k; exact ⟨G, F, m, st, env, S, E, k⟩
      refine tG.bind q fun v H1 G F m st env x S E r1 k => ⟨G, F, m, st, env, S, E, (Kon.bind k).imp fun w H2 ⟨F2, m2, y, st2, e2, S2, r2, k2⟩ => ?_⟩
      cases x with
      | int i => cases y with
        | int j =>
          obtain rfl := repInt r1
          obtain rfl := repInt r2
          change Kon _ _ _ _ _ _ _ _ (ofO ((rgLoop i j 1).map Src.snap) st2) at k2
          unfold rgLoop at k2
          rw [if_pos rfl] at k2
          split at k2
          · rename_i hb
            simp only [c62_v] at hb
            exact ⟨i, j, rfl, hb, Kon.here (d := Src.snap (rgD i j)) k2 S2 src_range⟩
          · exact k2.elim
        | _ => exact k2.elim
      | _ => exact k2.elim
    · cases h
  | .rg3 a c d, tg, tx, ix, b, X, W, hx, C, h => by
    unfold okIt at h
    split at h
    · rename_i y p v w z pos
      simp only [Bool.and_eq_true] at h
      obtain ⟨⟨⟨h0, h1⟩, h2⟩, h3⟩ := h
      obtain ⟨rfl, hg, hd⟩ := C.gl h0
      have hm := C.blt "range" (by decide)
      have P := (e_ok a _ false b X W hx C h1).v rfl
      have sv := okE_simp b false a _ h1
      have P2 := (e_ok c _ false b X W hx C h2).v rfl
      have sw := okE_simp b false c _ h2
      have P3 := (e_ok d _ false b X W hx C h3).v rfl
      have sz := okE_simp b false d _ h3
      refine PI.of fun σ H Z q => ⟨_, pi_range3 hg hm (pa_cons P (pa_cons P2 (pa_cons P3 pa_nil (starOk sz)) (starOk sw)) (starOk sv)) (starOk sv) (backOk (by intro u hu; simp at hu; rcases hu with rfl | rfl; exact sw; exact sz)), ?_⟩
      have q : tG X.K X.mg W hx (srcRel X.K false) (fun env st => (evE Γ a env st).bind fun x s1 => (evE Γ c env s1).bind fun y s2 => (evE Γ d env s2).bind fun z s3 => match x, y, z with | .int i, .int j, .int k => ofO ((rgLoop i j k).map Src.snap) s3 | _, _, _ => .bad) σ H Z := by
        obtain ⟨G, F, m, st, env, S, E, k⟩ := q; rw [evIt] at k; exact ⟨G, F, m, st, env, S, E, k⟩
      refine tG.bind q fun v H1 G F m st env x S E r1 k => ⟨G, F, m, st, env, S, E, (Kon.bind k).imp fun w H2 ⟨F2, m2, y, st2, e2, S2, r2, k2⟩ => ⟨G, F2, m2, st2, env, S2, E.mono e2, (Kon.bind k2).imp fun w' H3 ⟨F3, m3, z, st3, e3, S3, r3, k3⟩ => ?_⟩⟩
      cases x with
      | int i => cases y with
        | int j => cases z with
          | int l =>
            obtain rfl := repInt r1
            obtain rfl := repInt r2
            obtain rfl := repInt r3
            change Kon _ _ _ _ _ _ _ _ (ofO ((rgLoop i j l).map Src.snap) st3) at k3
            unfold rgLoop at k3
            split at k3
            · rename_i hl
              subst hl
              split at k3
              · rename_i hb
                simp only [c62_v] at hb
                refine ⟨i, j, 1, (j - i).toNat, rfl, ⟨by decide, by decide, small_one hb.1 hb.2.1 hb.2.2.1 hb.2.2.2, rangeSize_nat i j⟩, ?_⟩
                refine Kon.here (d := Src.snap (rgD i j)) k3 S3 ?_
                have := src_rangeC (K := X.K) (F := F3) (m := m3) (lo := i) (c := 1) (n := (j - i).toNat) (tp := false)
                simpa [rgD] using this
              · exact k3.elim
            · split at k3
              · rename_i hl
                subst hl
                split at k3
                · rename_i hb
                  simp only [c62_v] at hb
                  refine ⟨i, j, -1, (i - j).toNat, rfl, RgC.neg hb.1 hb.2.1 hb.2.2.1 hb.2.2.2, ?_⟩
                  refine Kon.here (d := Src.snap _) k3 S3 ?_
                  have := src_rangeC (K := X.K) (F := F3) (m := m3) (lo := i) (c := -1) (n := (i - j).toNat) (tp := false)
                  have e : (fun (n : Nat) => D.int (i + (n : Int) * -1)) = fun (n : Nat) => D.int (i - n) := by funext n; congr 1; omega
                  rw [e] at this
                  exact this
                · exact k3.elim
              · exact k3.elim
          | _ => exact k3.elim
        | _ => exact k3.elim
      | _ => exact k3.elim
    · cases h
  | .enum e, tg, tx, ix, b, X, W, hx, C, h => by
    unfold okIt at h
    split at h
    · rename_i y p v pos elts kk tpos ts
      simp only [Bool.and_eq_true] at h
      obtain ⟨rfl, hg, hd⟩ := C.gl h.1
      have hm := C.blt "enumerate" (by decide)
      have P := (e_ok e _ false b X W hx C h.2).v rfl
      have sv := okE_simp b false e _ h.2
      refine PI.of fun σ H Z q => ⟨_, pi_enum hg hm (pa_cons P pa_nil (starOk sv)) (starOk sv), ?_⟩
      have q : tG X.K X.mg W hx (srcRel X.K true) (fun env st => (evE Γ e env st).bind fun x s1 => match x with | .lst ds => .ok (.snap (ds.zipIdx.map fun p => D.tup [.int p.2, p.1])) s1 | _ => .bad) σ H Z := by
        obtain ⟨G, F, m, st, env, S, E, k⟩ := q; rw [evIt] at k; exact ⟨G, F, m, st, env, S, E, k⟩
      refine tG.bind q fun v H1 G F m st env x S E r1 k => ?_
      split at k
      · obtain ⟨a, vs, rfl, h1, h2⟩ := repLst r1
        exact ⟨a, vs, rfl, .inl (.inl (S.sub _ _ h1)), Kon.here k S (src_enum (.inl (.inl h1)) h2)⟩
      · exact k.elim
    · cases h
  | .zip a c, tg, tx, ix, b, X, W, hx, C, h => by
    unfold okIt at h
    split at h
    · rename_i y p v w pos elts kk tpos ts
      simp only [Bool.and_eq_true] at h
      obtain ⟨rfl, hg, hd⟩ := C.gl h.1.1
      have hm := C.blt "zip" (by decide)
      have P := (e_ok a _ false b X W hx C h.1.2).v rfl
      have sv := okE_simp b false a _ h.1.2
      have P2 := (e_ok c _ false b X W hx C h.2).v rfl
      have sw := okE_simp b false c _ h.2
      refine PI.of fun σ H Z q => ⟨_, RZ.pi_zipA hg hm (pa_cons P (pa_cons P2 pa_nil (starOk sw)) (starOk sv)) (starOk sv) (backOk (by intro u hu; simp at hu; subst hu; exact sw)), ?_⟩
      have q : tG X.K X.mg W hx (srcRel X.K true) (fun env st => (evE Γ a env st).bind fun x s1 => (evE Γ c env s1).bind fun y s2 => match x, y with
          | .tup ds, .tup es => .ok (.snap ((ds.zip es).map fun p => D.tup [p.1, p.2])) s2
          | .lst ds, .lst es => .ok (.snap ((ds.zip es).map fun p => D.tup [p.1, p.2])) s2
          | _, _ => .bad) σ H Z := by
        obtain ⟨G, F, m, st, env, S, E, k⟩ := q; rw [evIt] at k; exact ⟨G, F, m, st, env, S, E, k⟩
      refine tG.bind q fun v H1 G F m st env x S E r1 k => ⟨G, F, m, st, env, S, E, (Kon.bind k).imp fun w H2 ⟨F2, m2, y, st2, e2, S2, r2, k2⟩ => ?_⟩
      have r1 := Rep.mono e2 _ _ r1
      split at k2
      · obtain ⟨a, vs, rfl, h1, h2⟩ := repTup r1
        obtain ⟨a2, vs2, rfl, h3, h4⟩ := repTup r2
        exact ⟨a, a2, vs, vs2, rfl, .inr ⟨sqT_mono S2.sub h1, sqT_mono S2.sub h3, Kon.here k2 S2 (src_zipT h1 h2 h3 h4)⟩⟩
      · obtain ⟨a, vs, rfl, h1, h2⟩ := repLst r1
        obtain ⟨a2, vs2, rfl, h3, h4⟩ := repLst r2
        exact ⟨a, a2, vs, vs2, rfl, .inl ⟨.inl (.inl (S2.sub _ _ h1)), .inl (.inl (S2.sub _ _ h3)), Kon.here k2 S2 (src_zip (.inl (.inl h1)) h2 (.inl (.inl h3)) h4)⟩⟩
      · exact k2.elim
    · cases h
  | .rev e, tg, tx, ix, b, X, W, hx, C, h => by
    unfold okIt at h
    split at h
    · rename_i y p v pos
      simp only [Bool.and_eq_true] at h
      obtain ⟨rfl, hg, hd⟩ := C.gl h.1
      have hm := C.blt "reversed" (by decide)
      have P := (e_ok e _ false b X W hx C h.2).v rfl
      have sv := okE_simp b false e _ h.2
      refine PI.of fun σ H Z q => ⟨_, RT.pi_revA hg hm P (starOk sv), ?_⟩
      have q : tG X.K X.mg W hx (srcRel X.K false) (fun env st => (evE Γ e env st).bind fun x s1 => match x with | .lst ds => .ok (.snap ds.reverse) s1 | .tup ds => .ok (.snap ds.reverse) s1 | _ => .bad) σ H Z := by
        obtain ⟨G, F, m, st, env, S, E, k⟩ := q; rw [evIt] at k; exact ⟨G, F, m, st, env, S, E, k⟩
      refine tG.bind q fun v H1 G F m st env x S E r1 k => ?_
      split at k
      · obtain ⟨a, vs, rfl, h1, h2⟩ := repLst r1
        exact ⟨a, vs, rfl, .inl ⟨.inl (.inl (S.sub _ _ h1)), Kon.here k S (src_rev (.inl (.inl h1)) h2)⟩⟩
      · obtain ⟨a, vs, rfl, h1, h2⟩ := repTup r1
        exact ⟨a, vs, rfl, .inr ⟨sqT_mono S.sub h1, Kon.here k S (src_revT h1 h2)⟩⟩
      · exact k.elim
    · cases h
  | .items _, tg, tx, ix, b, X, W, hx, C, h => by unfold okIt at h; cases h
end
end T
set_option Elab.async false
set_option linter.all false
set_option autoImplicit false
set_option maxRecDepth 100000
set_option maxHeartbeats 16000000
/-! # T12: statements: the check, the small rules -/
namespace T
open PySem PySem.Spec PyProof.Rows L2

/-- a comprehension whose list is stored as its names go -/
def swB (b : Bl) (y : Str) (py : Pos) : Expr → Option Bool
  | .ListComp _ _ scope pos => some (b.sc.names.lookup y == some .local && py.line == pos.line && !(scope.names.any fun (n, k) => n == y && (k == .local || k == .cell)))
  | .SetComp .. => none
  | .DictComp .. => none
  | _ => some false
def noComp : Expr → Bool
  | .ListComp .. => false | .SetComp .. => false | .DictComp .. => false
  | _ => true
def noTupX : Expr → Bool | .Tuple .. => false | _ => true
def isFn (b : Bl) : Bool := match b.sc.kind with | .function => true | _ => false
def ipOp : Bop → Bool | .add => true | .sub => true | .mul => true | _ => false

mutual
def okS (b : Bl) (xs : List (String × Nat)) (cs : List String) : S → Stmt → Bool
  | .set i e, x => match x with | .Assign [.Name y py] v _ => locB b i y && okE b false e v && (match swB b y py v with | some false => noComp v || isFn b | some true => b.cal && isFn b | none => false) | _ => false
  | .unp tg e, x => match x with | .Assign [.Tuple ys k p] v _ => okTg b tg (.Tuple ys k p) && okE b false e v && noTupX v && noComp v | _ => false
  | .sub o i e, x => match x with | .Assign [.Subscript ox ix _] v _ => okE b false e v && okE b false o ox && okE b false i ix && noComp v | _ => false
  | .attr _ _ _, _ => false
  | .aug i op e, x => match x with | .AugAssign (.Name y _) o v _ => locB b i y && visB b i y && decide (o = opB op) && ipOp op && okE b false e v | _ => false
  | .augS o i op e, x => match x with | .AugAssign (.Subscript ox ix _) oo v _ => decide (oo = opB op) && ipOp op && okE b false o ox && okE b false i ix && okE b false e v | _ => false
  | .expr e, x => match x with | .Expr v _ => okE b false e v && noComp v | _ => false
  | .ret e, x => match x with | .Return (some v) _ => okE b false e v | _ => false
  | .retN, x => match x with | .Return none _ => true | _ => false
  | .ifs t p q, x => match x with | .If tx px qx _ => okE b true t tx && okSs b xs cs p px && okSs b xs cs q qx | _ => false
  | .while t p, x => match x with | .While tx px [] _ => okE b true t tx && okSs b xs cs p px && b.cal | _ => false
  | .for tg it p, x => match x with | .For tx ix px [] _ => b.cal && okTg b tg tx && okIt b tg tx it ix && okSs b xs cs p px | _ => false
  | .raise c es, x => match x with | .Raise (some (.Call (.Name y _) args [] _)) none _ => b.cal && glbB b c y && xs.contains (c, args.length) && okEs b false es args | _ => false
  | .tryAs p c i h, x => match x with
    | .Try px [.ExceptHandler (some (.Name y _)) (some n) (h0 :: hr) _] [] [] _ => b.cal && b.hx.isNone && glbB b c y && cs.contains c && decide (b.N[i]? = some n) && decide (b.sc.names.lookup n = some .local) && okSs b xs cs p px && okSs { b with cal := false, hx := some i } xs cs h (h0 :: hr)
    | _ => false
  | .pass, x => match x with | .Pass _ => true | _ => false
  | .brk, x => match x with | .Break _ => true | _ => false
  | .cont, x => match x with | .Continue _ => true | _ => false
  | .never, _ => true
def okSs (b : Bl) (xs : List (String × Nat)) (cs : List String) : Ss → List Stmt → Bool
  | .nil, x => x.isEmpty
  | .cons s ss, x => match x with | y :: r => okS b xs cs s y && okSs b xs cs ss r | _ => false
end

/-! ### the readings -/
def KonS (K : PySem.W.Frag) (G : Hp) (mg : Str → Option Value) (W : WX) (hx : Option HX) (F : Hp) (m : List Addr) (N : Ends) : SR → Prop
  | .nx env st => ∀ F' m' H' σ', Ext F m F' m' → Sim K G F' H' m' st → RepE K F' m' hx env σ' → N.nx σ' H'
  | .rt d st => ∀ F' m' H' v, Ext F m F' m' → Sim K G F' H' m' st → Rep K F' m' d v → N.rt v H'
  | .bk env st => ∀ F' m' H' σ', Ext F m F' m' → Sim K G F' H' m' st → RepE K F' m' hx env σ' → N.bk σ' H'
  | .ct env st => ∀ F' m' H' σ', Ext F m F' m' → Sim K G F' H' m' st → RepE K F' m' hx env σ' → N.ct σ' H'
  | .ex x env st => ∀ F' m' H' σ' C d, Ext F m F' m' → Sim K G F' H' m' st → RepE K F' m' hx env σ' → RepX K mg F' m' x C d → W (.ref C) d σ' H'
  | .bad => False
section
variable {K : PySem.W.Frag} {G : Hp} {mg : Str → Option Value} {W : WX} {hx : Option HX} {F F' : Hp} {m m' : List Addr} {N : Ends}
theorem KonS.mono {r : SR} (k : KonS K G mg W hx F m N r) (e : Ext F m F' m') : KonS K G mg W hx F' m' N r := by
  cases r with
  | nx env st => exact fun F2 m2 H2 σ2 e2 => k F2 m2 H2 σ2 (e.trans e2)
  | rt d st => exact fun F2 m2 H2 v e2 => k F2 m2 H2 v (e.trans e2)
  | bk env st => exact fun F2 m2 H2 σ2 e2 => k F2 m2 H2 σ2 (e.trans e2)
  | ct env st => exact fun F2 m2 H2 σ2 e2 => k F2 m2 H2 σ2 (e.trans e2)
  | ex x env st => exact fun F2 m2 H2 σ2 C d e2 => k F2 m2 H2 σ2 C d (e.trans e2)
  | bad => exact k
/-- an expression ahead of the rest -/
theorem KonS.then {α β : Type} {Rel : Rl α β} {r : R α} {env : Ev} {f : α → Store → SR} {σ : L2.St} (E : RepE K F m hx env σ) (k : KonS K G mg W hx F m N (r.then env f)) :
    Kon K G mg Rel (fun c d H => W c d σ H) F m (fun v H1 => ∃ F1 m1 a st1, Ext F m F1 m1 ∧ Sim K G F1 H1 m1 st1 ∧ Rel F1 m1 a v ∧ KonS K G mg W hx F1 m1 N (f a st1)) r := by
  cases r with
  | ok a st => exact fun F1 m1 H1 v e s q => ⟨F1, m1, a, st, e, s, q, KonS.mono k e⟩
  | ex x st => exact fun F1 m1 H1 C d e s q => k F1 m1 H1 σ C d e s (E.mono e) q
  | bad => exact k
end
def tGS (K : PySem.W.Frag) (mg : Str → Option Value) (W : WX) (hx : Option HX) (f : Ev → Store → SR) : TS := fun N σ H => ∃ G F m st env, Sim K G F H m st ∧ RepE K F m hx env σ ∧ KonS K G mg W hx F m N (f env st)
abbrev tS (X : L2.Cx) (W : WX) (hx : Option HX) (Γ : Cx) (s : S) : TS := tGS X.K X.mg W hx (evS Γ s)
abbrev tSs (X : L2.Cx) (W : WX) (hx : Option HX) (Γ : Cx) (s : Ss) : TS := tGS X.K X.mg W hx (evSs Γ s)
theorem PS.of {X : L2.Cx} {x : Stmt} {t' : TS} (h : ∀ D (σ : L2.St) H, t' D σ H → ∃ t, PS X x t ∧ t D σ H) : PS X x t' := ⟨fun pins s σ H D I q => by
  obtain ⟨t, p, z⟩ := h D σ H q
  exact p.run pins s σ H D I z⟩
theorem PSs.of {X : L2.Cx} {x : List Stmt} {t' : TS} (h : ∀ D (σ : L2.St) H, t' D σ H → ∃ t, PSs X x t ∧ t D σ H) : PSs X x t' := ⟨fun pins s σ H D I q => by
  obtain ⟨t, p, z⟩ := h D σ H q
  exact p.run pins s σ H D I z⟩

/-! ### exceptions -/
/-- the class c may be made: its fields are its arguments -/
def tMkX (mg : Str → Option Value) (c : String) (fs : List String) (ta : TA) : L2.St → Hp → XK → Prop := fun σ H Q => ta σ H fun vs H1 => vs.length = fs.length ∧ ∀ C, mg (Str.ofString c) = some (.ref C) →
  (∀ dd, H1 dd = none → Q (.ref C) (some dd) (upd H1 dd (.xd ((fs.map Str.ofString).zip vs)))) ∧ (fs = [] → Q (.ref C) none H1)
structure XOk (X : L2.Cx) (c : String) (fs : List String) : Prop where
  make : ∀ (pn : List (Addr × Obj)) (xe : Value → Shared → Prop) (p pos : Pos) (args : List Expr) (ta : TA), Gl X (Str.ofString c) → ((Str.ofString c) == ("__debug__" : Str)) = false → PA (X.tr pn xe) args ta → (∀ x ∈ args, simpX x = true) → args.length = fs.length → (args = [] → ∀ σ H R, ta σ H R → R [] H) → PMk (X.tr pn xe) (.Call (.Name (Str.ofString c) p) args [] pos) (tMkX X.mg c fs ta)
structure SC (b : Bl) (xs : List (String × Nat)) (cs : List String) (X : L2.Cx) (Γ : Cx) (W : WX) (hx : Option HX) : Prop extends EC b X Γ W hx where
  pass : b.cal = true → PassesOwn (model X.prog X.w) X.A X.env X.xe
  stk : b.cal = true → X.stack = X.env :: X.outer ∧ X.env.frame = some X.env.locals
  exc : b.cal = true → ∀ c n, (c, n) ∈ xs → ∃ xd, Γ.exc c = some xd ∧ xd.fs.length = n ∧ XOk X c xd.fs
  cat : ∀ c ∈ cs, ∃ v, clsV X.mg c v ∧ ∀ x xd C, Γ.exc x = some xd → X.mg (Str.ofString x) = some (.ref C) → PySem.W.exmOne X.K (.ref C) v = some (xd.mro.contains c)

section
variable {b : Bl} {xs : List (String × Nat)} {cs : List String} {X : L2.Cx} {Γ : Cx} {W : WX} {hx : Option HX}
theorem noComp_sw {v : Expr} {t : Option Expr} {l : Nat} {env : Env} (h : noComp v = true) : swapsWith v t l env = pure false := by
  cases v <;> first | rfl | cases h
theorem sw_val (C : EC b X Γ W hx) (hk : isFn b = true) {elt : Expr} {gens : List Comprehension} {scope : Scope} {pos py : Pos} {y : Str} {l : Nat} {q : Bool} (h : swB b y py (.ListComp elt gens scope pos) = some q) : swapsWith (.ListComp elt gens scope pos) (some (.Name y py)) l X.env = pure q := by
  have kd : X.env.scope.kind = .function := by
    rw [C.sc]
    unfold isFn at hk
    split at hk
    · assumption
    · cases hk
  have bk : X.env.blockKind = .function := by unfold Env.blockKind; rw [kd]; rfl
  simp only [swB, Option.some.injEq] at h
  show (pure (X.env.blockKind == .function && X.env.scope.names.lookup y == some .local && py.line == pos.line && !(scope.names.any fun (n, k) => n == y && (k == .local || k == .cell))) : Sem Bool) = _
  rw [bk, C.sc, ← h]
  rfl
theorem ipRule (op : Bop) (h : ipOp op = true) : PIp X (opB op) (fun x y H Q => ∃ G F m st d e, Sim X.K G F H m st ∧ Rep X.K F m d x ∧ Rep X.K F m e y ∧ ((∃ i j, d = .int i ∧ e = .int j) ∨ ∃ i j, d = .str i ∧ e = .str j) ∧ ∃ W, Kon X.K G X.mg (Rep X.K) W F m Q (binop op false d e st)) := by
  intro pins s σ H x y v u Q I rx ry hq
  obtain ⟨G, F, m, st, d, e, S, r1, r2, hde, W, k⟩ := hq
  rcases hde with ⟨i, j, rfl, rfl⟩ | ⟨i, j, rfl, rfl⟩
  · obtain rfl := repInt r1
    obtain rfl := repInt r2
    cases op <;> first | (exfalso; cases h; done) | skip
    · exact iop_add pins s σ H _ _ v u Q I rx ry ⟨i, j, rfl, rfl, Kon.here k S rInt⟩
    · exact iop_sub pins s σ H _ _ v u Q I rx ry ⟨i, j, rfl, rfl, Kon.here k S rInt⟩
    · change Kon _ _ _ _ _ _ _ _ (if mulOk i j = true then R.ok (D.int (i * j)) st else R.bad) at k
      split at k
      · rename_i hc
        obtain ⟨t, rfl⟩ := rx
        obtain ⟨t', rfl⟩ := ry
        simp only [mulOk, c64_v, Bool.or_eq_true, decide_eq_true_eq] at hc
        refine imul_int ⟨.int _, H, I.tok _, ⟨_, rfl⟩, Kon.here k S rInt⟩ ?_
        rcases hc with (hc | hc) | hc
        · exact CMulW.ok hc
        · exact CMul.ok (.inl hc)
        · exact CMul.ok (.inr hc)
      · exact k.elim
  · obtain ⟨rfl, o1⟩ := repStr r1
    obtain ⟨rfl, o2⟩ := repStr r2
    cases op <;> first | (exfalso; cases h; done) | exact k.elim | skip
    obtain ⟨hl, k⟩ := lim1_ok k
    refine iop_add_str pins s σ H _ _ v u Q I rx ry ⟨cs i, cs j, rfl, rfl, by rw [cs_len, cs_len, ← lim_eq]; exact hl, ?_⟩
    rw [cs_app]
    exact k.here S (rStr (o1.app o2 hl))

theorem index_ref (n : Nat) (i : D) (st : Store) : index (.ref n) i st = (match st[n]?, i with
    | some (.lst ds), .int i => ofO (L2.atI ds i) st
    | some (.dK kvs), i => if keyD i then ofO (look kvs i) st else .bad
    | _, _ => .bad) := by
  unfold index; rfl
theorem get_ok (hu : X.A.units + 1 < cLine) : PGet X (fun o i H Q => ∃ G F m st d e W, Sim X.K G F H m st ∧ Rep X.K F m d o ∧ Rep X.K F m e i ∧ isRef d = true ∧ Kon X.K G X.mg (Rep X.K) W F m Q (index d e st)) := by
  intro pins s σ H o i ov iv Q I ro ri hq
  obtain ⟨G, F, m, st, d, e, W, S, r1, r2, hd, k⟩ := hq
  cases d <;> first | (exfalso; cases hd; done) | skip
  rename_i n
  rw [index_ref] at k
  split at k
  · rename_i ds j hq
    obtain rfl := repInt r2
    obtain ⟨w, e1, k⟩ := ofO_ok k
    obtain ⟨a, vs, g, f, h1, h2⟩ := S.lst hq
    obtain ⟨z, e2, e3⟩ := atI_rep h2 e1
    obtain ⟨a', rfl, g'⟩ := repRef r1
    rw [g] at g'; cases g'
    obtain ⟨its, rv, pl, hz⟩ := I.list (.inl (.inl h1))
    obtain ⟨jj, q1, q2, q3, q4, q5⟩ := atI_get e2
    obtain ⟨w2, ew, rw'⟩ := rv.get q2
    have hl := rv.length
    have hn := line63
    cases ro
    obtain ⟨t, rfl⟩ := ri
    have fin : EP X pins σ Q w2 s := ⟨z, H, I, rw', k.here S e3⟩
    by_cases h0 : 0 ≤ j
    · have hj : j.toNat = jj := by
        rw [seqIndex_of h0 q5] at q1
        exact Option.some.inj q1
      exact wpAny_getItem_list pl.isList h0 (by omega) (by rw [hj]; simpa using ew) fin
    · have hj : (j + (its.toArray.size : Int)).toNat = jj := by
        rw [seqIndex_neg (by omega) q4] at q1
        rw [List.size_toArray, ← hl]
        exact Option.some.inj q1
      exact wpAny_getItem_list_neg pl.isList (by omega) (by rw [List.size_toArray]; omega) (by omega) (by rw [hj]; simpa using ew) fin
  · rename_i kvs hq
    split at k
    · rename_i hk
      obtain ⟨w, e1, k⟩ := ofO_ok k
      obtain ⟨a, o', rfl, g, g1, g2⟩ := dget_ok S hq hk r1 r2
      obtain ⟨z, rfl, e3⟩ := g1 w e1
      cases (show ov = Value.ref a from ro)
      exact d_getItem hu I g ri fun w' s' I' rw' => ⟨z, H, I', rw', k.here S e3⟩
    · exact k.elim
  · exact k.elim
theorem evT_then (e : E) (env : Ev) (st : Store) (A B : Store → SR) : ((evE Γ e env st).then env fun x s1 => match truthy s1 x with | some true => A s1 | some false => B s1 | none => .bad) = (evT Γ e env st).then env fun c s1 => if c = true then A s1 else B s1 := by
  unfold evT
  cases evE Γ e env st with
  | bad => rfl
  | ex => rfl
  | ok x s1 =>
    show (match truthy s1 x with | some true => A s1 | some false => B s1 | none => SR.bad) = (tru x s1).then env _
    unfold tru
    cases truthy s1 x with
    | none => rfl
    | some c => cases c <;> rfl
end
end T
set_option Elab.async false
set_option linter.all false
set_option autoImplicit false
set_option maxRecDepth 100000
set_option maxHeartbeats 32000000
/-! # T13: every statement that is checked does what its term does -/
namespace T
open PySem PySem.Spec PyProof.Rows L2

theorem KonS.here {K : PySem.W.Frag} {G : Hp} {mg : Str → Option Value} {W : WX} {hx : Option HX} {F H : Hp} {m : List Addr} {N : Ends} {env : Ev} {st : Store} {σ : L2.St} (k : KonS K G mg W hx F m N (.nx env st)) (S : Sim K G F H m st) (E : RepE K F m hx env σ) : N.nx σ H := k F m H σ Ext.refl S E
/-- the end of a loop's turn -/
theorem KonS.turn {K : PySem.W.Frag} {G : Hp} {mg : Str → Option Value} {W : WX} {hx : Option HX} {F : Hp} {m : List Addr} {N : Ends} {r : SR} {go : Ev → Store → SR} {Nx : L2.St → Hp → Prop}
    (k : KonS K G mg W hx F m N (match r with | .nx env st => go env st | .ct env st => go env st | .bk env st => .nx env st | r => r))
    (h : ∀ F' m' H' σ' env st, (r = .nx env st ∨ r = .ct env st) → Ext F m F' m' → Sim K G F' H' m' st → RepE K F' m' hx env σ' → KonS K G mg W hx F' m' N (go env st) → Nx σ' H') : KonS K G mg W hx F m { N with nx := Nx, ct := Nx, bk := N.nx } r := by
  cases r with
  | nx env st => exact fun F' m' H' σ' e S E => h F' m' H' σ' env st (.inl rfl) e S E (k.mono e)
  | ct env st => exact fun F' m' H' σ' e S E => h F' m' H' σ' env st (.inr rfl) e S E (k.mono e)
  | bk env st => exact k
  | rt d st => exact k
  | ex x env st => exact k
  | bad => exact k

theorem SC.tr {b : Bl} {xs : List (String × Nat)} {cs : List String} {X : L2.Cx} {Γ : Cx} {W W' : WX} {hx : Option HX} (C : SC b xs cs X Γ W hx) (pn : List (Addr × Obj)) (xe : Value → Shared → Prop) (tk : Takes (X.tr pn xe) W') (ps : PassesOwn (model X.prog X.w) X.A X.env xe) (hn : b.hx = none) :
    SC b xs cs (X.tr pn xe) Γ W' hx where
  N := C.N
  nd := C.nd
  sc := C.sc
  fn := C.fn
  takes := tk
  cal := C.cal
  hu := C.hu
  blt := C.blt
  glob := C.glob
  call := fun hc f n h => ⟨(C.call hc f n h).ex⟩
  hxs := C.hxs
  hxo := fun i hi => by rw [hn] at hi; cases hi
  xcl := C.xcl
  pass := fun _ => ps
  stk := C.stk
  exc := fun hc c n hm => let ⟨xd, h1, h2, h3⟩ := C.exc hc c n hm; ⟨xd, h1, h2, ⟨fun pn' xe' => h3.make pn' xe'⟩⟩
  cat := C.cat
theorem SC.suite {b : Bl} {xs : List (String × Nat)} {cs : List String} {X : L2.Cx} {Γ : Cx} {W : WX} {hx : Option HX} (C : SC b xs cs X Γ W hx) (h : HX) (x : Exn) (oe : Obj) (pn : List (Addr × Obj)) {D : Addr} {d : Option Addr} (hz : Zc (.ref D) d oe) (hf : ∃ vs, oe.data = .fields vs) (hP : ∀ F m, h.P F m → RepX X.K X.mg F m x D d) :
    SC { b with cal := false, hx := some h.i } xs cs (X.suite h.a ((h.a, oe) :: pn)) { Γ with hx := some (h.i, x) } (fun _ _ _ _ => False) (some h) where
  N := C.N
  nd := C.nd
  sc := C.sc
  fn := C.fn
  takes := takes0
  cal := fun z => by cases z
  hu := C.hu
  blt := C.blt
  glob := C.glob
  call := fun z => by cases z
  hxs := rfl
  hxo := fun i hi => ⟨x, by have : h.i = i := Option.some.inj hi; rw [← this], ⟨h, D, d, oe, X, pn, rfl, Option.some.inj hi, rfl, hz, hf, hP⟩⟩
  xcl := C.xcl
  pass := fun z => by cases z
  stk := fun z => by cases z
  exc := fun z => by cases z
  cat := C.cat

section
variable {K : PySem.W.Frag} {G : Hp} {mg : Str → Option Value} {W : WX} {hx : Option HX} {F H : Hp} {m : List Addr} {N : Ends} {st : Store}
/-- the turns of a for -/
theorem for_loop {Γ : Cx} {tg : Tg} {src : Src} {J : L2.It} {tp : Bool} {bd : Ev → Store → SR} {env : Ev} {σ : L2.St} (S : Sim K G F H m st) (E : RepE K F m hx env σ) (rj : srcRel K tp F m src J) (htp : ∀ i, tg = .nm i → tp = false)
    (k : KonS K G mg W hx F m N (match (generalizing := false) src with
      | .snap ds => forGo (fun d env s2 => match bindT s2 tg d env with | some env' => bd env' s2 | none => .bad) ds env st
      | .live n => forLive (fun d env s2 => match bindT s2 tg d env with | some env' => bd env' s2 | none => .bad) n Γ.wf 0 env st)) :
    ∃ Wt : Nat → Nat → L2.St → Hp → Prop, (∃ m, Wt 0 m σ H) ∧ ∀ i m σ H, Wt i m σ H →
      (J.stop i H ∧ N.nx σ H) ∨ (J.go i H ∧ ∃ Nx : L2.St → Hp → Prop, (∀ σ' H', Nx σ' H' → ∃ m', m' < m ∧ Wt (i + 1) m' σ' H') ∧ ∀ x H', J.yld i H x H' → tTg K hx tg x σ H' fun σ2 H2 => tGS K mg W hx bd { N with nx := Nx, ct := Nx, bk := N.nx } σ2 H2) := by
  cases src with
  | snap ds =>
    obtain ⟨rs, rs2⟩ := rj
    refine ⟨fun i mm σ' H' => mm = ds.length - i ∧ i ≤ ds.length ∧ ∃ F' m' st' env', Ext F m F' m' ∧ Sim K G F' H' m' st' ∧ RepE K F' m' hx env' σ' ∧ KonS K G mg W hx F' m' N (forGo (fun d env s2 => match bindT s2 tg d env with | some env' => bd env' s2 | none => .bad) (ds.drop i) env' st'),
      ⟨ds.length, rfl, Nat.zero_le _, F, m, st, env, Ext.refl, S, E, k⟩, ?_⟩
    rintro i mm σ' H' ⟨rfl, hi, F', m', st', env', X', S', E', kk⟩
    obtain ⟨g1, g2⟩ := rs _ F' m' H' st' X' S'
    by_cases hlt : i < ds.length
    · obtain ⟨go, gy⟩ := g1 i ds[i] (List.getElem?_eq_getElem hlt)
      refine .inr ⟨go, fun σ'' H'' => ds.length - (i + 1) < ds.length - i ∧ ∃ F'' m'' st'' env'', Ext F m F'' m'' ∧ Sim K G F'' H'' m'' st'' ∧ RepE K F'' m'' hx env'' σ'' ∧ KonS K G mg W hx F'' m'' N (forGo (fun d env s2 => match bindT s2 tg d env with | some env' => bd env' s2 | none => .bad) (ds.drop (i + 1)) env'' st''),
        fun σ'' H'' ⟨z1, z2⟩ => ⟨_, z1, rfl, hlt, z2⟩, fun x H2 y => ?_⟩
      obtain ⟨F2, X2, S2, r2⟩ := gy x H2 y
      rw [List.drop_eq_getElem_cons hlt, forGo] at kk
      have kk := kk.mono X2
      cases hb : bindT st' tg ds[i] env' with
      | none => rw [hb] at kk; exact kk.elim
      | some env1 =>
        rw [hb] at kk
        refine ⟨G, F2, m', st', env', ds[i], env1, S2, E'.mono X2, r2, fun j hj => ?_, hb, fun σ2 E2 _ _ => ⟨G, F2, m', st', env1, S2, E2, KonS.turn kk fun F3 m3 H3 σ3 env3 st3 _ X3 S3 E3 k3 => ⟨by omega, F3, m3, st3, env3, (X'.trans X2).trans X3, S3, E3, k3⟩⟩⟩
        obtain ⟨rfl, rr⟩ := rs2 (htp j hj) _ F' m' H' st' X' S' i ds[i] (List.getElem?_eq_getElem hlt) x H2 y
        exact Rep.mono X2 _ _ rr
    · have e : i = ds.length := by omega
      subst e
      refine .inl ⟨g2 _ (Nat.le_refl _), ?_⟩
      rw [List.drop_length, forGo] at kk
      exact kk.here S' E'
  | live n =>
    obtain ⟨a, ha, rfl⟩ := rj
    refine ⟨fun i mm σ' H' => ∃ F' m' st' env', Ext F m F' m' ∧ Sim K G F' H' m' st' ∧ RepE K F' m' hx env' σ' ∧ KonS K G mg W hx F' m' N (forLive (fun d env s2 => match bindT s2 tg d env with | some env' => bd env' s2 | none => .bad) n mm i env' st'),
      ⟨Γ.wf, F, m, st, env, Ext.refl, S, E, k⟩, ?_⟩
    rintro i mm σ' H' ⟨F', m', st', env', X', S', E', kk⟩
    cases mm with
    | zero => rw [forLive] at kk; exact kk.elim
    | succ mm =>
      rw [forLive] at kk
      split at kk
      · rename_i ds hq
        obtain ⟨a', ws, g, f, h1, h2⟩ := S'.lst hq
        rw [X'.pre n a ha] at g; cases g
        split at kk
        · rename_i d hd
          obtain ⟨w, e1, e2⟩ := h2.get hd
          refine .inr ⟨⟨ws, w, .inl (.inl h1), e1⟩, fun σ'' H'' => ∃ F'' m'' st'' env'', Ext F m F'' m'' ∧ Sim K G F'' H'' m'' st'' ∧ RepE K F'' m'' hx env'' σ'' ∧ KonS K G mg W hx F'' m'' N (forLive (fun d env s2 => match bindT s2 tg d env with | some env' => bd env' s2 | none => .bad) n mm (i + 1) env'' st''),
            fun σ'' H'' z => ⟨mm, Nat.lt_succ_self _, z⟩, fun x H2 y => ?_⟩
          obtain ⟨rfl, y⟩ := y
          have := y ws (.inl (.inl h1))
          rw [e1] at this; cases this
          cases hb : bindT st' tg d env' with
          | none => simp only [hb] at kk; exact kk.elim
          | some env1 =>
            simp only [hb] at kk
            exact ⟨G, F', m', st', env', d, env1, S', E', .inl e2, fun _ _ => e2, hb, fun σ2 E2 _ _ => ⟨G, F', m', st', env1, S', E2, KonS.turn kk fun F3 m3 H3 σ3 env3 st3 _ X3 S3 E3 k3 => ⟨F3, m3, st3, env3, X'.trans X3, S3, E3, k3⟩⟩⟩
        · rename_i hd
          exact .inl ⟨⟨ws, .inl (.inl h1), by rw [← h2.length]; exact List.getElem?_eq_none_iff.mp hd⟩, kk.here S' E'⟩
      · exact kk.elim
theorem whileGo_eq {Γ : Cx} (t : E) (bd : Ev → Store → SR) (k : Nat) (env : Ev) (st : Store) : whileGo (evE Γ t) bd (k + 1) env st = (evT Γ t env st).then env fun c s1 => if c = true then (match bd env s1 with
      | .nx env' s2 => whileGo (evE Γ t) bd k env' s2
      | .ct env' s2 => whileGo (evE Γ t) bd k env' s2
      | .bk env' s2 => .nx env' s2
      | r => r) else .nx env s1 := by
  rw [whileGo, ← evT_then t env st (fun s1 => (match bd env s1 with
      | .nx env' s2 => whileGo (evE Γ t) bd k env' s2
      | .ct env' s2 => whileGo (evE Γ t) bd k env' s2
      | .bk env' s2 => .nx env' s2
      | r => r)) (fun s1 => .nx env s1)]
  all_goals congr 1
/-- the turns of a while -/
theorem while_loop {Γ : Cx} {t : E} {bd : Ev → Store → SR} {env : Ev} {σ : L2.St} (S : Sim K G F H m st) (E : RepE K F m hx env σ) (k : KonS K G mg W hx F m N (whileGo (evE Γ t) bd Γ.wf env st)) :
    tWhile (tG K mg W hx repB (evT Γ t)) (tGS K mg W hx bd) N σ H := by
  refine ⟨fun mm σ' H' => ∃ F' m' st' env', Ext F m F' m' ∧ Sim K G F' H' m' st' ∧ RepE K F' m' hx env' σ' ∧ KonS K G mg W hx F' m' N (whileGo (evE Γ t) bd mm env' st'), ⟨Γ.wf, F, m, st, env, Ext.refl, S, E, k⟩, ?_⟩
  rintro mm σ' H' ⟨F', m', st', env', X', S', E', kk⟩
  cases mm with
  | zero => rw [whileGo] at kk; exact kk.elim
  | succ mm =>
    rw [whileGo_eq] at kk
    refine ⟨G, F', m', st', env', S', E', (KonS.then E' kk).imp fun c H1 ⟨F1, m1, c', st1, X1, S1, r1, k1⟩ => ?_⟩
    have r1 : c' = c := r1
    subst r1
    cases c' with
    | false =>
      rw [if_neg Bool.false_ne_true] at k1 ⊢
      exact k1.here S1 (E'.mono X1)
    | true =>
      rw [if_pos rfl] at k1 ⊢
      refine ⟨fun σ'' H'' => ∃ F'' m'' st'' env'', Ext F m F'' m'' ∧ Sim K G F'' H'' m'' st'' ∧ RepE K F'' m'' hx env'' σ'' ∧ KonS K G mg W hx F'' m'' N (whileGo (evE Γ t) bd mm env'' st''), fun σ'' H'' z => ⟨mm, Nat.lt_succ_self _, z⟩, ?_⟩
      exact ⟨G, F1, m1, st1, env', S1, E'.mono X1, KonS.turn k1 fun F3 m3 H3 σ3 env3 st3 _ X3 S3 E3 k3 => ⟨F3, m3, st3, env3, (X'.trans X1).trans X3, S3, E3, k3⟩⟩
end
theorem it_nm {it : It} {tg : Tg} {tx ix : Expr} {b : Bl} (h : okIt b tg tx it ix = true) (i : Nat) (hi : tg = .nm i) : tpOf it = false := by
  subst hi
  cases it with
  | enum => unfold okIt at h; split at h <;> first | (rename_i e; cases e) | cases h
  | zip => unfold okIt at h; split at h <;> first | (rename_i e; cases e) | cases h
  | _ => rfl
/-- the suite of an except clause -/
def tSuite (X : L2.Cx) (Γ : Cx) (i : Nat) (s : Ss) : Addr → Value → Option Addr → TS := fun a cls d N σ H => ∃ (h : HX) (x : Exn) (D : Addr), h.i = i ∧ h.a = a ∧ cls = .ref D ∧ (∀ F m, h.P F m → RepX X.K X.mg F m x D d) ∧ tSs X (fun _ _ _ _ => False) (some h) { Γ with hx := some (i, x) } s N σ H
end T
set_option Elab.async false
set_option linter.all false
set_option autoImplicit false
set_option maxRecDepth 100000
set_option maxHeartbeats 32000000
/-! # T14: the statements' theorem -/
namespace T
open PySem PySem.Spec PyProof.Rows L2

theorem tGS.step {K : PySem.W.Frag} {mg : Str → Option Value} {W : WX} {hx : Option HX} {α β : Type} {Rel : Rl α β} {f : Ev → Store → R α} {g : Ev → α → Store → SR} {N : Ends} {σ : L2.St} {H : Hp} {Q1 : β → Hp → Prop} (h : tGS K mg W hx (fun env st => (f env st).then env (g env)) N σ H)
    (k : ∀ v H1 G F m st env a, Sim K G F H1 m st → RepE K F m hx env σ → Rel F m a v → KonS K G mg W hx F m N (g env a st) → Q1 v H1) : tG K mg W hx Rel f σ H Q1 := by
  obtain ⟨G, F, m, st, env, S, E, q⟩ := h
  exact ⟨G, F, m, st, env, S, E, (KonS.then E q).imp fun v H1 ⟨F1, m1, a, st1, e1, S1, r1, q1⟩ => k v H1 G F1 m1 st1 env a S1 (E.mono e1) r1 q1⟩
theorem KonS.then' {K : PySem.W.Frag} {G : Hp} {mg : Str → Option Value} {W : WX} {hx : Option HX} {F : Hp} {m : List Addr} {N : Ends} {α β : Type} {Rel : Rl α β} {r : R α} {env : Ev} {f : α → Store → SR} {σ : L2.St} {Q : β → Hp → Prop} (E : RepE K F m hx env σ) (k : KonS K G mg W hx F m N (r.then env f))
    (h : ∀ v H1 F1 m1 a st1, Ext F m F1 m1 → Sim K G F1 H1 m1 st1 → RepE K F1 m1 hx env σ → Rel F1 m1 a v → KonS K G mg W hx F1 m1 N (f a st1) → Q v H1) : Kon K G mg Rel (fun c d H => W c d σ H) F m Q r :=
  (KonS.then E k).imp fun v H1 ⟨F1, m1, a, st1, e1, S1, r1, q1⟩ => h v H1 F1 m1 a st1 e1 S1 (E.mono e1) r1 q1
theorem wAs_of {b : Bl} {xs : List (String × Nat)} {cs : List String} {X : L2.Cx} {Γ : Cx} {W : WX} {hx : Option HX} (C : SC b xs cs X Γ W hx) {c : String} {i : Nat} {hd : Ss} {v : Value} (hn : hx = none) (hil : i < X.N.length)
    (hv : ∀ x xd D, Γ.exc x = some xd → X.mg (Str.ofString x) = some (.ref D) → PySem.W.exmOne X.K (.ref D) v = some (xd.mro.contains c)) {N : Ends} {G F : Hp} {m : List Addr} {body : SR}
    (hlen : ∀ x env st, body = .ex x env st → True)
    (k : KonS X.K G X.mg W hx F m N (match (generalizing := false) body with
      | .ex x env' s1 => match isX Γ x.cls c with
        | some true => match evSs { Γ with hx := some (i, x) } hd (env'.set i none) s1 with
          | .nx e2 s2 => .nx (e2.set i none) s2
          | .bk e2 s2 => .bk (e2.set i none) s2
          | .ct e2 s2 => .ct (e2.set i none) s2
          | .rt d s2 => .rt d s2
          | _ => .bad
        | some false => .ex x env' s1
        | none => .bad
      | r => r)) : KonS X.K G X.mg (wAs X.K v i (tSuite X Γ i hd) W N) hx F m N body := by
  subst hn
  cases body with
  | nx env st => exact k
  | rt d st => exact k
  | bk env st => exact k
  | ct env st => exact k
  | bad => exact k
  | ex x env st =>
    intro F' m' H' σ' D d X' S' E' rx
    have hr := rx
    obtain ⟨gD, _⟩ := rx
    cases hg : Γ.exc x.cls with
    | none =>
      have : isX Γ x.cls c = none := by unfold isX; rw [hg]; rfl
      simp only [this] at k
      exact k.elim
    | some xd =>
      have e1 : isX Γ x.cls c = some (xd.mro.contains c) := by unfold isX; rw [hg]; rfl
      have e2 := hv x.cls xd D hg gD
      refine ⟨_, e2, fun hb a ha => ?_, fun hb => ?_⟩
      · simp only [e1, hb] at k
        refine ⟨⟨i, a, fun F m => RepX X.K X.mg F m x D d, fun F m F' m' e r => ?_⟩, x, D, rfl, rfl, rfl, fun _ _ z => z, G, F', m', st, env.set i none, S', ?_, ?_⟩
        · obtain ⟨r1, r2⟩ := r
          refine ⟨r1, r2.imp id ?_⟩
          rintro ⟨dd, vs, z1, z2, z3⟩
          exact ⟨dd, vs, z1, e.sub _ _ z2, RepL.mono e _ _ z3⟩
        · refine ⟨by simp [E'.len], fun j dj hj => ?_, fun z hz => ?_⟩
          · by_cases hji : i = j
            · subst hji
              have hl : i < env.length := by
                have := (List.getElem?_eq_some_iff.mp hj).1
                simpa using this
              rw [List.getElem?_set_self hl] at hj
              cases hj
            · rw [List.getElem?_set_ne hji] at hj ⊢
              exact E'.at_ j dj hj
          · cases hz
            exact ⟨fun hl => List.getElem?_set_self (by simpa using hl), hr⟩
        · have gone : ∀ {F2 m2 env2 σ2} {h : HX}, h.i = i → RepE X.K F2 m2 (some h) env2 σ2 → RepE X.K F2 m2 none (env2.set i none) (σ2.set i none) := by
            intro F2 m2 env2 σ2 h hh E2
            refine ⟨by simp [E2.len], fun j dj hj => ?_, fun z hz => by cases hz⟩
            by_cases hji : i = j
            · subst hji
              have hl : i < env2.length := by
                have := (List.getElem?_eq_some_iff.mp hj).1
                simpa using this
              rw [List.getElem?_set_self hl] at hj
              cases hj
            · rw [List.getElem?_set_ne hji] at hj ⊢
              exact E2.at_ j dj hj
          have k := k.mono X'
          cases hev : evSs { Γ with hx := some (i, x) } hd (env.set i none) st with
          | nx e2 s2 => simp only [hev] at k; exact fun F2 m2 H2 σ2 X2 S2 E2 => k F2 m2 H2 _ X2 S2 (gone rfl E2)
          | bk e2 s2 => simp only [hev] at k; exact fun F2 m2 H2 σ2 X2 S2 E2 => k F2 m2 H2 _ X2 S2 (gone rfl E2)
          | ct e2 s2 => simp only [hev] at k; exact fun F2 m2 H2 σ2 X2 S2 E2 => k F2 m2 H2 _ X2 S2 (gone rfl E2)
          | rt d s2 => simp only [hev] at k; exact k
          | ex y e2 s2 => simp only [hev] at k; exact k.elim
          | bad => simp only [hev] at k; exact k.elim
      · simp only [e1, hb] at k
        exact k F' m' H' σ' D d X' S' E' hr
/-- a comprehension's parts -/
structure LcOk (X : L2.Cx) (elt tg iter : Expr) (ifs : List Expr) (scope : Scope) (wi : TI) (g : TG) (tt : TT) (te : TE) (own : List (Str × Nat)) : Prop where
  hi : PI X tg iter wi
  ok : BlkOk X.N X.env.scope scope own
  hg : ∀ (s : Shared) (H : Hp) (C : Addr) (cl : List (Str × Addr)) (fp : List Addr), PG (X.blk s H scope (compEnvC scope cl C X.env) fp) tg g
  ht : ∀ (s : Shared) (H : Hp) (C : Addr) (cl : List (Str × Addr)) (fp : List Addr), PTs (X.blk s H scope (compEnvC scope cl C X.env) fp) ifs tt
  he : ∀ (s : Shared) (H : Hp) (C : Addr) (cl : List (Str × Addr)) (fp : List Addr), PE (X.blk s H scope (compEnvC scope cl C X.env) fp) elt te
  hs : ∀ x, foldedSetIterable iter X.env x = pure x
theorem lcp_ok {Γ : Cx} {b : Bl} {X : L2.Cx} {W : WX} {hx : Option HX} {e : E} {t : Bool} {ex : Expr} {gens : List Comprehension} {scope : Scope} {pos : Pos} (C : EC b X Γ W hx) (h : okE b t e (.ListComp ex gens scope pos) = true) :
    ∃ tx ix ifs wi g tt te own, gens = [⟨tx, ix, ifs, 0⟩] ∧ LcOk X ex tx ix ifs scope wi g tt te own ∧ ∀ σ H Q, tE X W hx Γ e σ H Q → tLc wi g tt te (own.map (·.2)) σ H Q := by
  cases e <;> first | (unfold okE at h; cases h; done) | skip
  rename_i fz elt tg it cond own
  unfold okE at h
  split at h
  · rename_i e1 tx ix ifs as scope1 pos1 heq
    cases heq
    simp only [Bool.and_eq_true, decide_eq_true_eq] at h
    obtain ⟨⟨⟨⟨⟨⟨⟨hcal, rfl⟩, hblk⟩, hit⟩, htg⟩, hsl⟩, helt⟩, hif⟩ := h
    refine ⟨tx, ix, ifs, tI X W hx Γ it, tTg X.K none tg, tC' X (fun _ _ _ _ => False) none Γ cond, tE X (fun _ _ _ _ => False) none Γ elt, own' own, rfl, ⟨it_ok it tg tx ix b X W hx C hit, blkOk_by (by rw [C.N, C.sc]; exact hblk), fun s H A cl fp => tg_ok (C.blk s H scope A cl fp) tg tx htg, fun s H A cl fp => if_ok cond ifs _ _ _ _ (C.blk s H scope A cl fp) hif, fun s H A cl fp => (e_ok elt ex false _ _ _ _ (C.blk s H scope A cl fp) helt).v rfl, foldOk (it_simp it tg tx ix b hit)⟩, fun σ H Q q => ?_⟩
    have ov : (own' own).map (·.2) = own.map (·.2) := by unfold own'; rw [List.map_map]; rfl
    have q : tG X.K X.mg W hx (Rep X.K) (fun env st => (evIt Γ it env st).bind fun src s1 => (noX (match src with | .snap ds => lcGo (lcF Γ elt tg cond (own.map (·.2)) env) ds [] s1 | .live n => lcLive (lcF Γ elt tg cond (own.map (·.2)) env) n Γ.wf 0 [] s1)).bind fun ys s5 => newL fz ys s5) σ H Q := by
      obtain ⟨G, F, m, st, env, S, E, k⟩ := q; rw [evE_lc] at k; exact ⟨G, F, m, st, env, S, E, k⟩
    refine tG.bind q fun J H1 G F m st env src S E rj k D0 hD => ?_
    rw [ov]
    refine lc_loop S E.noHx rj (fun i hi => ?_) (fun i hi => ?_) k hD
    · have := List.all_eq_true.mp hsl i hi
      simpa using this
    · exact it_nm hit i hi
  · cases h
variable {xs : List (String × Nat)} {cs : List String}
mutual
theorem s_ok : ∀ (s : S) (x : Stmt) (b : Bl) (X : L2.Cx) (Γ : Cx) (W : WX) (hx : Option HX), SC b xs cs X Γ W hx → okS b xs cs s x = true → PS X x (tS X W hx Γ s)
  | .set i e, x, b, X, Γ, W, hx, C, h => by
    unfold okS at h
    split at h
    · rename_i y py v pos
      simp only [Bool.and_eq_true] at h
      obtain ⟨⟨hl, he⟩, hsw⟩ := h
      obtain ⟨hN, hloc, hf, hh⟩ := C.loc hl
      have P := (e_ok (Γ := Γ) e v false b X W hx C.toEC he).v rfl
      have go : ∀ D σ H, tS X W hx Γ (.set i e) D σ H → tAsg (tE X W hx Γ e) (gName i) D σ H := fun D σ H q => by
        have q : tGS X.K X.mg W hx (fun env st => (evE Γ e env st).then env fun x s1 => .nx (env.set i (some x)) s1) D σ H := by
          obtain ⟨G, F, m, st, env, S, E, k⟩ := q; rw [evS] at k; exact ⟨G, F, m, st, env, S, E, k⟩
        exact tGS.step q fun v H1 G F m st env a S E r k => k.here S (E.set r hh)
      refine PS.of fun D σ H q => ?_
      split at hsw
      · rename_i hs
        refine ⟨_, ps_set C.nd hN hloc P ?_ hf, go D σ H q⟩
        by_cases hc : noComp v = true
        · exact noComp_sw hc
        · simp only [hc, Bool.false_or] at hsw
          cases v <;> first | exact absurd rfl hc | (simp [swB] at hs; done) | skip
          exact sw_val C.toEC hsw hs
      · rename_i hs
        simp only [Bool.and_eq_true] at hsw
        cases v <;> first | (simp [swB] at hs; done) | skip
        rename_i elt gens scope pos2
        have hy : X.env.scope.names.lookup y = some .local := by
          have hs2 := hs
          simp only [swB, Option.some.injEq, Bool.and_eq_true, beq_iff_eq] at hs2
          rw [C.sc]; exact hs2.1.1
        obtain ⟨tx, ix, ifs, wi, g, tt, te, vs, rfl, L, conv⟩ := lcp_ok C.toEC he
        refine ⟨_, ps_setLc (C.cal hsw.1) C.nd hN hy (sw_val C.toEC hsw.2 hs) L.hi L.ok L.hg L.ht L.he L.hs, ?_⟩
        exact conv σ H _ (go D σ H q)
      · cases hsw
    · cases h
  | .unp tg e, x, b, X, Γ, W, hx, C, h => by
    unfold okS at h
    split at h
    · rename_i ys k p v pos
      simp only [Bool.and_eq_true] at h
      obtain ⟨⟨⟨h1, h2⟩, h3⟩, h4⟩ := h
      have P := (e_ok (Γ := Γ) e v false b X W hx C.toEC h2).v rfl
      have hw : swappedStores [.Tuple ys k p] v X.env = pure none := by
        cases v <;> first | rfl | cases h3
      refine PS.of fun D σ H q => ⟨_, ps_asg P (tg_ok C.toEC tg _ h1) (by unfold swapsWithSole; exact noComp_sw h4) hw, ?_⟩
      have q : tGS X.K X.mg W hx (fun env st => (evE Γ e env st).then env fun x s1 => match bindT s1 tg x env with | some env' => .nx env' s1 | none => .bad) D σ H := by
        obtain ⟨G, F, m, st, env, S, E, k⟩ := q; rw [evS] at k; exact ⟨G, F, m, st, env, S, E, k⟩
      refine tGS.step q fun v H1 G F m st env a S E r k => ?_
      split at k
      · rename_i env' hb
        exact ⟨G, F, m, st, env, a, env', S, E, .inl r, fun _ _ => r, hb, fun σ' E' _ _ => k.here S E'⟩
      · exact k.elim
    · cases h
  | .sub o i e, x, b, X, Γ, W, hx, C, h => by
    unfold okS at h
    split at h
    · rename_i ox ix p v pos
      simp only [Bool.and_eq_true] at h
      obtain ⟨⟨⟨h1, h2⟩, h3⟩, h4⟩ := h
      have P := (e_ok (Γ := Γ) e v false b X W hx C.toEC h1).v rfl
      have Po := (e_ok (Γ := Γ) o ox false b X W hx C.toEC h2).v rfl
      have Pi := (e_ok (Γ := Γ) i ix false b X W hx C.toEC h3).v rfl
      have hs := okE_simp b false i ix h3
      have hw : swappedStores [.Subscript ox ix p] v X.env = pure none := by rfl
      have ha : ∀ v, assign (.Subscript ox ix p) X.env v = (do
          let ov ← holding [v] (eval ox X.env)
          let iv ← holding [v, ov] (eval ix X.env)
          standAt p
          holding [v, ov, iv] (setItem ov iv v)
          release [v, ov, iv] []) := fun v => by cases ix <;> first | rfl | cases hs
      refine PS.of fun D σ H q => ⟨_, ps_asg P (pg_sub Po Pi (setIx_ok (W := fun c d H => W c d σ H) (Nat.lt_of_le_of_lt (Nat.add_le_add_left (by decide) _) C.hu)) ha) (by unfold swapsWithSole; exact noComp_sw h4) hw, ?_⟩
      have q : tGS X.K X.mg W hx (fun env st => (evE Γ e env st).then env fun v s1 => (evE Γ o env s1).then env fun x s2 => (evE Γ i env s2).then env fun y s3 => (setIx x y v s3).then env fun _ s4 => .nx env s4) D σ H := by
        obtain ⟨G, F, m, st, env, S, E, k⟩ := q; rw [evS] at k; exact ⟨G, F, m, st, env, S, E, k⟩
      refine tGS.step q fun vv H1 G F m st env a S E r k => ?_
      refine ⟨G, F, m, st, env, S, E, k.then' E fun ov H2 F2 m2 od st2 X2 S2 E2 r2 k2 => ⟨G, F2, m2, st2, env, S2, E2, k2.then' E2 fun iv H3 F3 m3 id st3 X3 S3 E3 r3 k3 => ?_⟩⟩
      refine ⟨G, F3, m3, st3, od, id, a, S3, Rep.mono X3 _ _ r2, r3, Rep.mono (X2.trans X3) _ _ r, ?_⟩
      refine KonS.then' (β := Unit) E3 k3 fun _ H4 F4 m4 _ st4 X4 S4 E4 _ k4 => k4.here S4 E4
    · cases h
  | .attr _ _ _, x, b, X, Γ, W, hx, C, h => by unfold okS at h; cases h
  | .aug i op e, x, b, X, Γ, W, hx, C, h => by
    unfold okS at h
    split at h
    · rename_i y py o v pos
      simp only [Bool.and_eq_true, decide_eq_true_eq] at h
      obtain ⟨⟨⟨⟨h1, h2⟩, rfl⟩, h4⟩, h5⟩ := h
      obtain ⟨hN, hloc, hf, hh⟩ := C.loc h1
      have P := (e_ok (Γ := Γ) e v false b X W hx C.toEC h5).v rfl
      refine PS.of fun D σ H q => ⟨_, ps_aug C.nd hN hloc P (ipRule op h4) hf, ?_⟩
      obtain ⟨G, F, m, st, env, S, E, k⟩ := q
      rw [evS] at k
      split at k
      · rename_i d hd
        obtain ⟨xv, e1, r1⟩ := E.at_ i d hd
        refine ⟨xv, e1, G, F, m, st, env, S, E, KonS.then' E k fun yv H1 F1 m1 ed st1 X1 S1 E1 r2 k1 => ?_⟩
        split at k1
        · rename_i a c
          refine ⟨G, F1, m1, st1, _, _, S1, Rep.mono X1 _ _ r1, r2, .inl ⟨_, _, rfl, rfl⟩, (fun c d H => W c d σ H), KonS.then' E1 k1 fun z H2 F2 m2 zd st2 X2 S2 E2 r3 k2 => k2.here S2 (E2.set r3 hh)⟩
        · rename_i a c
          refine ⟨G, F1, m1, st1, _, _, S1, Rep.mono X1 _ _ r1, r2, .inr ⟨_, _, rfl, rfl⟩, (fun c d H => W c d σ H), KonS.then' E1 k1 fun z H2 F2 m2 zd st2 X2 S2 E2 r3 k2 => k2.here S2 (E2.set r3 hh)⟩
        · exact k1.elim
      · exact k.elim
    · cases h
  | .augS o i op e, x, b, X, Γ, W, hx, C, h => by
    unfold okS at h
    split at h
    · rename_i ox ix p oo v pos
      simp only [Bool.and_eq_true, decide_eq_true_eq] at h
      obtain ⟨⟨⟨⟨rfl, h1⟩, h2⟩, h3⟩, h4⟩ := h
      have P := (e_ok (Γ := Γ) e v false b X W hx C.toEC h4).v rfl
      have Po := (e_ok (Γ := Γ) o ox false b X W hx C.toEC h2).v rfl
      have Pi := (e_ok (Γ := Γ) i ix false b X W hx C.toEC h3).v rfl
      have hs := okE_simp b false i ix h3
      have hu : X.A.units + 1 < cLine := Nat.lt_of_le_of_lt (Nat.add_le_add_left (by decide) _) C.hu
      have ha : ∀ ov iv new, augStore ix ov iv new = (do holding [new, ov, iv] (setItem ov iv new); release [new, ov, iv] []; pure .next) := fun ov iv new => by cases ix <;> first | rfl | cases hs
      refine PS.of fun D σ H q => ⟨_, ps_augS Po Pi (get_ok hu) P (ipRule op h1) (setIx_ok (W := fun c d H => W c d σ H) hu) ha, ?_⟩
      obtain ⟨G, F, m, st, env, S, E, k⟩ := q
      rw [evS] at k
      refine ⟨G, F, m, st, env, S, E, k.then' E fun ov H1 F1 m1 od st1 X1 S1 E1 r1 k1 => ⟨G, F1, m1, st1, env, S1, E1, k1.then' E1 fun iv H2 F2 m2 id st2 X2 S2 E2 r2 k2 => ?_⟩⟩
      by_cases hr : isRef od = true
      · rw [if_pos hr] at k2
        have r1' := Rep.mono X2 _ _ r1
        refine ⟨G, F2, m2, st2, od, id, (fun c d H => W c d σ H), S2, r1', r2, hr, k2.then' E2 fun xv H3 F3 m3 xd st3 X3 S3 E3 r3 k3 => ⟨G, F3, m3, st3, env, S3, E3, k3.then' E3 fun yv H4 F4 m4 yd st4 X4 S4 E4 r4 k4 => ?_⟩⟩
        have fin : (∀ zv H5 F5 m5 zd st5, Ext F4 m4 F5 m5 → Sim X.K G F5 H5 m5 st5 → RepE X.K F5 m5 hx env σ → Rep X.K F5 m5 zd zv → KonS X.K G X.mg W hx F5 m5 D ((setIx od id zd st5).then env fun _ s6 => .nx env s6) → rSet X.K X.mg (fun c d H => W c d σ H) ov iv zv H5 fun H6 => D.nx σ H6) := fun zv H5 F5 m5 zd st5 X5 S5 E5 r5 k5 =>
          ⟨G, F5, m5, st5, od, id, zd, S5, Rep.mono ((X3.trans X4).trans X5) _ _ r1', Rep.mono ((X3.trans X4).trans X5) _ _ r2, r5, KonS.then' (β := Unit) E5 k5 fun _ H6 F6 m6 _ st6 X6 S6 E6 _ k6 => k6.here S6 E6⟩
        split at k4
        · exact ⟨G, F4, m4, st4, _, _, S4, Rep.mono X4 _ _ r3, r4, .inl ⟨_, _, rfl, rfl⟩, (fun c d H => W c d σ H), k4.then' E4 fun zv H5 F5 m5 zd st5 X5 S5 E5 r5 k5 => fin zv H5 F5 m5 zd st5 X5 S5 E5 r5 k5⟩
        · exact k4.elim
      · rw [if_neg hr] at k2; exact k2.elim
    · cases h
  | .expr e, x, b, X, Γ, W, hx, C, h => by
    unfold okS at h
    split at h
    · simp only [Bool.and_eq_true] at h
      refine PS.of fun D σ H q => ⟨_, ps_expr ((e_ok (Γ := Γ) e _ false b X W hx C.toEC h.1).v rfl) (noComp_sw h.2), ?_⟩
      obtain ⟨G, F, m, st, env, S, E, k⟩ := q
      rw [evS] at k
      exact ⟨G, F, m, st, env, S, E, k.then' E fun v H1 F1 m1 d st1 X1 S1 E1 r1 k1 => k1.here S1 E1⟩
    · cases h
  | .ret e, x, b, X, Γ, W, hx, C, h => by
    unfold okS at h
    split at h
    · refine PS.of fun D σ H q => ⟨_, ps_ret ((e_ok (Γ := Γ) e _ false b X W hx C.toEC h).v rfl), ?_⟩
      obtain ⟨G, F, m, st, env, S, E, k⟩ := q
      rw [evS] at k
      exact ⟨G, F, m, st, env, S, E, k.then' E fun v H1 F1 m1 d st1 X1 S1 E1 r1 k1 => k1 F1 m1 H1 v Ext.refl S1 r1⟩
    · cases h
  | .retN, x, b, X, Γ, W, hx, C, h => by
    unfold okS at h
    split at h
    · refine PS.of fun D σ H q => ⟨_, ps_retN, ?_⟩
      obtain ⟨G, F, m, st, env, S, E, k⟩ := q
      rw [evS] at k
      exact k F m H .non Ext.refl S rNon
    · cases h
  | .ifs t p q, x, b, X, Γ, W, hx, C, h => by
    unfold okS at h
    split at h
    · simp only [Bool.and_eq_true] at h
      obtain ⟨⟨h1, h2⟩, h3⟩ := h
      refine PS.of fun D σ H z => ⟨_, ps_if ((e_ok (Γ := Γ) t _ true b X W hx C.toEC h1).t rfl) (ss_ok p _ b X Γ W hx C h2) (ss_ok q _ b X Γ W hx C h3), ?_⟩
      obtain ⟨G, F, m, st, env, S, E, k⟩ := z
      rw [evS] at k
      have k : KonS X.K G X.mg W hx F m D ((evT Γ t env st).then env fun c s1 => if c = true then evSs Γ p env s1 else evSs Γ q env s1) := by
        rw [← evT_then t env st (fun s1 => evSs Γ p env s1) (fun s1 => evSs Γ q env s1)]; exact k
      refine ⟨G, F, m, st, env, S, E, k.then' E fun c H1 F1 m1 c' st1 X1 S1 E1 r1 k1 => ?_⟩
      have r1 : c' = c := r1
      subst r1
      cases c' with
      | false => rw [if_neg Bool.false_ne_true] at k1 ⊢; exact ⟨G, F1, m1, st1, env, S1, E1, k1⟩
      | true => rw [if_pos rfl] at k1 ⊢; exact ⟨G, F1, m1, st1, env, S1, E1, k1⟩
    · cases h
  | .while t p, x, b, X, Γ, W, hx, C, h => by
    unfold okS at h
    split at h
    · simp only [Bool.and_eq_true] at h
      obtain ⟨⟨h1, h2⟩, h3⟩ := h
      refine PS.of fun D σ H z => ⟨_, ps_while (C.pass h3) ((e_ok (Γ := Γ) t _ true b X W hx C.toEC h1).t rfl) (ss_ok p _ b X Γ W hx C h2), ?_⟩
      obtain ⟨G, F, m, st, env, S, E, k⟩ := z
      rw [evS] at k
      exact while_loop S E k
    · cases h
  | .for tg it p, x, b, X, Γ, W, hx, C, h => by
    unfold okS at h
    split at h
    · simp only [Bool.and_eq_true] at h
      obtain ⟨⟨⟨h1, h2⟩, h3⟩, h4⟩ := h
      refine PS.of fun D σ H z => ⟨_, ps_for (C.pass h1) (C.cal h1) (it_ok it tg _ _ b X W hx C.toEC h3) (tg_ok C.toEC tg _ h2) (ss_ok p _ b X Γ W hx C h4) (foldOk (it_simp it tg _ _ b h3)), ?_⟩
      obtain ⟨G, F, m, st, env, S, E, k⟩ := z
      rw [evS] at k
      exact ⟨G, F, m, st, env, S, E, k.then' E fun J H1 F1 m1 src st1 X1 S1 E1 rj k1 => for_loop (Γ := Γ) S1 E1 rj (fun i hi => it_nm h3 i hi) k1⟩
    · cases h
  | .raise c es, x, b, X, Γ, W, hx, C, h => by
    unfold okS at h
    split at h
    · rename_i y p args pos rpos
      simp only [Bool.and_eq_true] at h
      obtain ⟨⟨⟨h1, h2⟩, h3⟩, h4⟩ := h
      obtain ⟨rfl, hg, hd⟩ := C.gl h2
      obtain ⟨hs, hl⟩ := okEs_simp h4
      have PAa := es_ok (Γ := Γ) es args b X W hx C.toEC h4
      obtain ⟨xd, hgx, hlen, xo⟩ := C.exc h1 c args.length (by simpa using h3)
      have mk := xo.make X.pn X.xe p pos args _ hg hd PAa hs hlen.symm (fun hn σ H Z q => by
        subst hn
        obtain ⟨G, F, m, st, env, S, E, k⟩ := q
        cases es with
        | cons => simp [Es.len] at hl
        | nil => rw [evA] at k; exact k.here S RepL.nil)
      refine PS.of fun D σ H z => ⟨_, ps_raise (C.cal h1) C.takes mk, ?_⟩
      obtain ⟨G, F, m, st, env, S, E, k⟩ := z
      rw [evS] at k
      refine ⟨G, F, m, st, env, S, E, ?_⟩
      cases hev : evA Γ es env st with
      | bad => rw [hev] at k; exact k
      | ex y s1 => rw [hev] at k; exact fun F1 m1 H1 Cx dx X1 S1 rx => k F1 m1 H1 σ Cx dx X1 S1 (E.mono X1) rx
      | ok ds s1 =>
        rw [hev] at k
        have hdl : xd.fs.length = ds.length := by rw [hlen, hl, evA_len es env st s1 ds hev]
        have e1 : mkX Γ c ds = some ⟨c, xd.fs.zip ds⟩ := by
          unfold mkX; rw [hgx]; exact if_pos hdl
        simp only [R.then, e1] at k
        intro F1 m1 H1 vs X1 S1 r1
        have hvl : vs.length = xd.fs.length := by rw [← r1.length, hdl]
        have z1 : (xd.fs.zip ds).map (fun p => Str.ofString p.1) = xd.fs.map Str.ofString := by
          rw [show (fun p : String × T.D => Str.ofString p.1) = Str.ofString ∘ Prod.fst from rfl, ← List.map_map, List.map_fst_zip (Nat.le_of_eq hdl)]
        have z2 : (xd.fs.zip ds).map (·.2) = ds := List.map_snd_zip (Nat.le_of_eq hdl.symm)
        refine ⟨hvl, fun Cc hCc => ⟨fun dd hdd => ?_, fun hf => ?_⟩⟩
        · obtain ⟨S2, X2⟩ := S1.newF (o := .xd ((xd.fs.map Str.ofString).zip vs)) hdd
          refine k _ _ _ σ Cc (some dd) (X1.trans X2) S2 (E.mono (X1.trans X2)) ⟨hCc, .inr ⟨dd, vs, rfl, ?_, ?_⟩⟩
          · show upd F1 dd _ dd = _
            rw [upd_same, z1]
          · show RepL _ _ _ ((xd.fs.zip ds).map (·.2)) vs
            rw [z2]; exact r1.mono X2
        · refine k _ _ _ σ Cc none X1 S1 (E.mono X1) ⟨hCc, .inl ⟨?_, rfl⟩⟩
          show xd.fs.zip ds = []
          rw [hf]; rfl
    · cases h
  | .tryAs p c i hd, x, b, X, Γ, W, hx, C, h => by
    unfold okS at h
    split at h
    · rename_i px y np n h0 hr pos' pos
      simp only [Bool.and_eq_true, decide_eq_true_eq] at h
      obtain ⟨⟨⟨⟨⟨⟨⟨h1, h2⟩, h3⟩, h4⟩, h5⟩, h6⟩, h7⟩, h8⟩ := h
      obtain ⟨rfl, hg, hdb⟩ := C.gl h3
      have hc : c ∈ cs := by simpa using h4
      obtain ⟨v, hv, hex⟩ := C.cat c hc
      have hxn : hx = none := by
        have := C.hxs
        cases hx with
        | none => rfl
        | some z => rw [this] at h2; cases h2
      have hNi : X.N[i]? = some n := by rw [C.N]; exact h5
      have nm : Names X (Str.ofString c) v := ⟨hg, hdb, hv⟩
      have P := ps_try_as (Wout := W) (c := v) (i := i) (tb := fun W' => tSs X W' hx Γ p) (ts := tSuite X Γ i hd) (np := np) (pos := pos) (pos' := pos') (C.stk h1).1 (C.stk h1).2 C.nd hNi (by show X.env.scope.names.lookup n = _; rw [C.sc]; exact h6) nm C.takes
        (fun W' pn xe tk ps => ss_ok p px b (X.tr pn xe) Γ W' hx (C.tr pn xe tk ps (by simpa using h2)) h7)
        (fun a oe cls d pn hz hf => PSs.of fun D σ H q => by
          obtain ⟨hh, x, Dc, hi, ha, hcl, hP, q⟩ := q
          subst hi ha hcl
          exact ⟨_, ss_ok hd _ _ _ _ _ _ (C.suite hh x oe pn hz hf hP) h8, q⟩)
      refine PS.of fun D σ H z => ⟨_, P, ?_⟩
      obtain ⟨G, F, m, st, env, S, E, k⟩ := z
      rw [evS] at k
      exact ⟨G, F, m, st, env, S, E, wAs_of C hxn (by have := (List.getElem?_eq_some_iff.mp hNi).1; exact this) hex (fun _ _ _ _ => trivial) k⟩
    · cases h
  | .pass, x, b, X, Γ, W, hx, C, h => by
    unfold okS at h
    split at h
    · refine PS.of fun D σ H q => ⟨_, ps_pass, ?_⟩
      obtain ⟨G, F, m, st, env, S, E, k⟩ := q
      rw [evS] at k
      exact k.here S E
    · cases h
  | .brk, x, b, X, Γ, W, hx, C, h => by
    unfold okS at h
    split at h
    · refine PS.of fun D σ H q => ⟨_, ps_break, ?_⟩
      obtain ⟨G, F, m, st, env, S, E, k⟩ := q
      rw [evS] at k
      exact k F m H σ Ext.refl S E
    · cases h
  | .cont, x, b, X, Γ, W, hx, C, h => by
    unfold okS at h
    split at h
    · refine PS.of fun D σ H q => ⟨_, ps_continue, ?_⟩
      obtain ⟨G, F, m, st, env, S, E, k⟩ := q
      rw [evS] at k
      exact k F m H σ Ext.refl S E
    · cases h
  | .never, x, b, X, Γ, W, hx, C, h => PS.of fun D σ H q => by
    obtain ⟨G, F, m, st, env, S, E, k⟩ := q
    rw [evS] at k
    exact k.elim
theorem ss_ok : ∀ (s : Ss) (x : List Stmt) (b : Bl) (X : L2.Cx) (Γ : Cx) (W : WX) (hx : Option HX), SC b xs cs X Γ W hx → okSs b xs cs s x = true → PSs X x (tSs X W hx Γ s)
  | .nil, x, b, X, Γ, W, hx, C, h => by
    unfold okSs at h
    cases x with
    | cons => cases h
    | nil =>
      refine PSs.of fun D σ H q => ⟨_, pss_nil, ?_⟩
      obtain ⟨G, F, m, st, env, S, E, k⟩ := q
      rw [evSs] at k
      exact k.here S E
  | .cons s ss, x, b, X, Γ, W, hx, C, h => by
    unfold okSs at h
    split at h
    · simp only [Bool.and_eq_true] at h
      refine PSs.of fun D σ H q => ⟨_, pss_cons (s_ok s _ b X Γ W hx C h.1) (ss_ok ss _ b X Γ W hx C h.2), ?_⟩
      obtain ⟨G, F, m, st, env, S, E, k⟩ := q
      rw [evSs] at k
      refine ⟨G, F, m, st, env, S, E, ?_⟩
      cases hev : evS Γ s env st with
      | nx env' s1 =>
        rw [hev] at k
        exact fun F' m' H' σ' X' S' E' => ⟨G, F', m', s1, env', S', E', KonS.mono (r := evSs Γ ss env' s1) k X'⟩
      | rt d s1 => rw [hev] at k; exact k
      | bk env' s1 => rw [hev] at k; exact k
      | ct env' s1 => rw [hev] at k; exact k
      | ex y env' s1 => rw [hev] at k; exact k
      | bad => rw [hev] at k; exact k
    · cases h
end
end T
set_option Elab.async false
set_option linter.all false
set_option autoImplicit false
set_option maxRecDepth 100000
set_option maxHeartbeats 16000000
/-! # T15: defs, the end -/
namespace T
open PySem PySem.Spec PyProof.Rows L2

/-! ### what a call leaves behind is let go -/
section
variable {K : PySem.W.Frag} {G F H : Hp} {m : List Addr} {st : Store}
mutual
theorem Rep.take {n : Nat} : ∀ (d : D) (v : V), d.bel n = true → Rep K F m d v → Rep K F (m.take n) d v
  | .non, v, b, h => by simpa [Rep] using h
  | .bl c, v, b, h => by simpa [Rep] using h
  | .int i, v, b, h => by simpa [Rep] using h
  | .str s, v, b, h => by simpa [Rep] using h
  | .tup ds, v, b, h => by
    simp only [Rep] at h ⊢
    obtain ⟨a, vs, e1, e2, e3⟩ := h
    exact ⟨a, vs, e1, e2, RepL.belTake ds vs (by simpa [D.bel] using b) e3⟩
  | .lst ds, v, b, h => by
    simp only [Rep] at h ⊢
    obtain ⟨a, vs, e1, e2, e3⟩ := h
    exact ⟨a, vs, e1, e2, RepL.belTake ds vs (by simpa [D.bel] using b) e3⟩
  | .scr ds, v, b, h => by
    simp only [Rep] at h ⊢
    obtain ⟨a, vs, e1, e2, e3⟩ := h
    exact ⟨a, vs, e1, e2, RepL.belTake ds vs (by simpa [D.bel] using b) e3⟩
  | .ref k, v, b, h => by
    simp only [Rep] at h ⊢
    obtain ⟨a, e1, e2⟩ := h
    have b : k < n := by simpa [D.bel] using b
    exact ⟨a, e1, by rw [List.getElem?_take_of_lt b]; exact e2⟩
theorem RepL.belTake {n : Nat} : ∀ (ds : List D) (vs : List V), belowL n ds = true → RepL K F m ds vs → RepL K F (m.take n) ds vs
  | [], vs, b, h => by simpa [RepL] using h
  | d :: ds, vs, b, h => by
    simp only [belowL, Bool.and_eq_true] at b
    obtain ⟨v, r, rfl, e2, e3⟩ := h.cons_inv
    exact RepL.cons (Rep.take d v b.1 e2) (RepL.belTake ds r b.2 e3)
end
theorem dkey_bel {k : D} {q : Key} {n : Nat} (h : dkey k = some q) : k.bel n = true := by
  cases k <;> simp [dkey] at h <;> rfl
theorem RepKV.belTake {n : Nat} : ∀ {kvs : List (D × D)} {ks : List (Key × V)}, belowL n (kvs.map (·.2)) = true → RepKV K F m kvs ks → RepKV K F (m.take n) kvs ks
  | [], ks, b, h => by simpa [RepKV] using h
  | (k, d) :: r, ks, b, h => by
    simp only [RepKV] at h ⊢
    simp only [List.map_cons, belowL, Bool.and_eq_true] at b
    obtain ⟨q, v, s, e1, e2, e3, e4, e5⟩ := h
    exact ⟨q, v, s, e1, e2, Rep.take _ _ (dkey_bel e2) e3, Rep.take _ _ b.1 e4, RepKV.belTake b.2 e5⟩
theorem RepO.belTake {n : Nat} {a : Addr} {o : O} (b : o.bel n = true) (h : RepO K F m H a o) : RepO K F (m.take n) H a o := by
  cases o with
  | lst ds => obtain ⟨f, vs, h1, h2⟩ := h; exact ⟨f, vs, h1, h2.belTake _ _ b⟩
  | dK kvs =>
    obtain ⟨f, ks, h1, h2⟩ := h
    simp only [O.bel, Bool.and_eq_true] at b
    exact ⟨f, ks, h1, h2.belTake b.2⟩
  | ins c fs => exact h.elim
  | dead => trivial
theorem Sim.take (S : Sim K G F H m st) {n : Nat} (h : (st.take n).all (O.bel n) = true) : Sim K G F H (m.take n) (st.take n) where
  sub := S.sub
  len := by simp [S.len]
  nd := S.nd.sublist (List.take_sublist _ _)
  obj := fun k o a e1 e2 => by
    have hk : k < n := by
      have := (List.getElem?_eq_some_iff.mp e1).1
      simp at this; omega
    have b : o.bel n = true := List.all_eq_true.mp h o (List.mem_of_getElem? e1)
    rw [List.getElem?_take_of_lt hk] at e1 e2
    exact (S.obj k o a e1 e2).belTake b
  trk := fun a ha => S.trk a (List.mem_of_mem_take ha)
  fr := fun a o e => let ⟨h1, h2, h3⟩ := S.fr a o e; ⟨h1, h2, fun hm => h3 (List.mem_of_mem_take hm)⟩
theorem Ext.take {F' : Hp} {m' : List Addr} {n : Nat} (e : Ext F m F' m') (h : m.length ≤ n) : Ext F m F' (m'.take n) :=
  ⟨e.sub, fun k a q => by rw [List.getElem?_take_of_lt (Nat.lt_of_lt_of_le (List.getElem?_eq_some_iff.mp q).1 h)]; exact e.pre k a q⟩
theorem fin_ok {mg : Str → Option Value} {E : Wx} {Q : VK} {N : Nat} {r : SR} (hn : m.length ≤ N) (k : Kon K G mg (Rep K) E F m Q (fin N r)) : KonS K G mg (fun c d _ H => E c d H) none F m { nx := fun _ H => Q .non H, rt := Q } r := by
  have rt : ∀ {d st}, Kon K G mg (Rep K) E F m Q (gc N d st) → ∀ F' m' H' v, Ext F m F' m' → Sim K G F' H' m' st → Rep K F' m' d v → Q v H' := by
    intro d st k F' m' H' v X S r
    unfold gc at k
    split at k
    · rename_i hb
      simp only [Bool.and_eq_true] at hb
      exact k F' (m'.take N) H' v (X.take hn) (S.take hb.2) (Rep.take d v hb.1 r)
    · exact k F' m' H' v X S r
  cases r with
  | nx env st => exact fun F' m' H' σ' X S _ => rt (d := .non) k F' m' H' .non X S rNon
  | rt d st => exact rt k
  | bk env st => exact k.elim
  | ct env st => exact k.elim
  | bad => exact k.elim
  | ex x env st =>
    intro F' m' H' σ' C d X S _ rx
    have k : Kon K G mg (Rep K) E F m Q (gcX N x st) := k
    unfold gcX at k
    split at k
    · rename_i hb
      simp only [Bool.and_eq_true] at hb
      refine k F' (m'.take N) H' C d (X.take hn) (S.take hb.2) ⟨rx.1, rx.2.imp id ?_⟩
      rintro ⟨dd, vs, z1, z2, z3⟩
      exact ⟨dd, vs, z1, z2, RepL.belTake _ _ hb.1 z3⟩
    · exact k F' m' H' C d X S rx
end

/-! ### the law's table -/
structure Df where
  name : String
  st : Stmt
  N : List Str
  ps : List Str
  fd : Fd
structure Lw where
  defs : List Df
  xs : List (String × Nat)
  cs : List String
  isn : List String
  gl : List String
  prog : Prog
def Lw.calls (L : Lw) : List (String × Nat) := L.defs.map fun d => (d.name, d.fd.np)
def Lw.blk (L : Lw) (d : Df) : Bl := { N := d.N, sc := defScope d.st, defs := L.calls, gl := L.gl, isn := L.isn }
structure DChk (L : Lw) (d : Df) : Prop where
  sc : FnScope d.N d.ps (defScope d.st)
  np : d.fd.np = d.ps.length
  ns : d.fd.ns = d.N.length
  ok : okSs (L.blk d) L.xs L.cs d.fd.body (defBody d.st) = true
def locKind (sc : Scope) (x : Str) : Bool := match sc.names.lookup x with | some .local => true | some .cell => true | _ => false
def scopeB (N ps : List Str) (sc : Scope) : Bool := (match sc.kind with | .function => true | _ => false) && !sc.isCoroutine && !sc.isGenerator && decide N.Nodup && decide (N.take ps.length = ps) && ps.all (locKind sc) && sc.names.all fun y => match y.2 with | .free => false | _ => true
theorem scopeB_ok {N ps : List Str} {sc : Scope} (h : scopeB N ps sc = true) : FnScope N ps sc := by
  unfold scopeB at h
  simp only [Bool.and_eq_true, Bool.not_eq_true', decide_eq_true_eq, List.all_eq_true] at h
  obtain ⟨⟨⟨⟨⟨⟨h1, h2⟩, h3⟩, h4⟩, h5⟩, h6⟩, h7⟩ := h
  refine ⟨?_, h2, h3, h4, h5, fun x hx => ?_, fun y hy e => ?_⟩
  · split at h1
    · assumption
    · cases h1
  · have := h6 x hx
    unfold locKind at this
    split at this
    · rename_i e; exact .inl e
    · rename_i e; exact .inr e
    · cases this
  · have := h7 y hy
    rw [e] at this
    cases this
def dChkB (L : Lw) (d : Df) : Bool := scopeB d.N d.ps (defScope d.st) && (d.fd.np == d.ps.length) && (d.fd.ns == d.N.length) && okSs (L.blk d) L.xs L.cs d.fd.body (defBody d.st)
theorem dChkB_ok {L : Lw} {d : Df} (h : dChkB L d = true) : DChk L d := by
  unfold dChkB at h
  simp only [Bool.and_eq_true, beq_iff_eq] at h
  exact ⟨scopeB_ok h.1.1.1, h.1.1.2, h.1.2, h.2⟩

/-- a def as it stands behind the top -/
structure DFact (K : PySem.W.Frag) (mg : Str → Option Value) (d : Df) (a : Addr) (fdt : FuncData) : Prop where
  fn : Fun K (Str.ofString d.name) (Str.ofString d.name) d.st a fdt
  gl : mg (Str.ofString d.name) = some (.ref a)
  bind : ∀ (s : Shared) (us : List Value), us.length = d.ps.length → BindsTo s fdt ⟨us, []⟩ (d.ps.zip us)
theorem DFact.binds {K : PySem.W.Frag} {mg : Str → Option Value} {d : Df} {a : Addr} {fdt : FuncData} (D : DFact K mg d a fdt) : Binds K fdt d.ps [] := fun s us _ hl => by
  rw [List.append_nil] at hl ⊢
  exact D.bind s us hl
structure MFact (L : Lw) (P : Program) (K : PySem.W.Frag) (mg : Str → Option Value) : Prop where
  blt : ∀ x ∈ bltNames, mg (Str.ofString x) = none
  glob : ∀ x d, x ∈ L.gl → L.prog.glob x = some d → ∃ v u, mg (Str.ofString x) = some u ∧ RelV v u ∧ ∀ F m, Rep K F m d v
  exc : ∀ c n, (c, n) ∈ L.xs → ∃ xd, L.prog.exc c = some xd ∧ xd.fs.length = n ∧ ∀ X : L2.Cx, X.prog = P → X.K = K → X.mg = mg → X.calm = true → Room 0 X.A → XOk X c xd.fs
  xcl : ∀ x xd D, L.prog.exc x = some xd → mg (Str.ofString x) = some (.ref D) → XqOk K mg L.isn D xd
  cat : ∀ c ∈ L.cs, ∃ v, clsV mg c v ∧ ∀ x xd C, L.prog.exc x = some xd → mg (Str.ofString x) = some (.ref C) → PySem.W.exmOne K (.ref C) v = some (xd.mro.contains c)
  defs : ∀ d ∈ L.defs, ∃ a fdt, DFact K mg d a fdt
  names : ∀ d ∈ L.defs, L.prog.defs d.name = some d.fd
theorem lookup_map {L : Lw} {f : String} {n : Nat} (h : L.calls.lookup f = some n) : ∃ d ∈ L.defs, d.name = f ∧ d.fd.np = n := by
  unfold Lw.calls at h
  generalize L.defs = l at h
  induction l with
  | nil => simp at h
  | cons d l ih =>
    rw [List.map_cons, List.lookup_cons] at h
    split at h
    · rename_i e
      have e : f = d.name := by simpa using e
      cases h
      exact ⟨d, by simp, e.symm, rfl⟩
    · obtain ⟨d', h1, h2⟩ := ih h
      exact ⟨d', by simp [h1], h2⟩

section
variable {L : Lw} {P : Program} {w : World} {K : PySem.W.Frag} {mg : Str → Option Value} {base : Heap}
theorem start_rep {F : Hp} {m : List Addr} {fd : Fd} {N : List Str} {ds : List D} {vs : List V} (hns : fd.ns = N.length) (hnp : vs.length = fd.np) (r : RepL K F m ds vs) : RepE K F m none (T.start fd ds) (L2.start N vs) := by
  have hl := r.length
  refine ⟨?_, fun i d e => ?_, fun _ e => by cases e⟩
  · unfold T.start L2.start
    simp [hl, hns, hnp]
  · unfold T.start at e
    unfold L2.start
    have hi : i < ds.length := by
      by_cases hi : i < ds.length
      · exact hi
      · rw [List.getElem?_append_right (by simpa using hi), List.getElem?_replicate] at e
        split at e <;> cases e
    rw [List.getElem?_append_left (by simpa using hi), List.getElem?_map] at e
    rw [List.getElem?_append_left (by rw [List.length_map, ← hl]; exact hi), List.getElem?_map]
    cases q : ds[i]? with
    | none => rw [q] at e; cases e
    | some d' =>
      rw [q] at e
      cases e
      obtain ⟨v, h1, h2⟩ := r.get q
      exact ⟨v, by rw [h1]; rfl, h2⟩
/-- every def does what its term does, at every depth -/
theorem defs_ok (M : MFact L P K mg) (chk : ∀ d ∈ L.defs, DChk L d) : ∀ (n : Nat) (d : Df), d ∈ L.defs → ∀ (a : Addr) (fdt : FuncData), DFact K mg d a fdt →
    FnOk P w K mg base (L2.CX P w) n a fdt d.ps (spC K mg d.fd.np (run L.prog n d.name))
  | 0, d, hd, a, fdt, D => by
    have no : ∀ vs H Q E, ¬ spC K mg d.fd.np (run L.prog 0 d.name) vs H Q E := by
      rintro vs H Q E ⟨_, G, F, m, st, ds, S, r, k⟩
      rw [run] at k
      exact k
    exact ⟨fun vs H Q E h => (no vs H Q E h).elim, fun A outer s H args us vs Q E _ _ _ _ h => (no vs H Q E h).elim⟩
  | n + 1, d, hd, a, fdt, D => by
    have c := chk d hd
    refine D.fn.okX c.sc (fun vs H Q E h => by rw [← c.np]; exact h.1) (fun cdv A outer s H vs Q E hr h => ?_)
    have hr' : Room n (A.deeper (envOfC (Str.ofString d.name) (defScope d.st) s.heap.objs.size a cdv)) := hr
    refine ⟨tSs (cxOf (L2.CX P w) P w K mg base d.N (Str.ofString d.name) (defScope d.st) a cdv A outer s H E) (fun cls d _ H => E cls d H) none (L.prog.cx (run L.prog n)) d.fd.body, ?_, ?_⟩
    · refine ss_ok d.fd.body (defBody d.st) (L.blk d) _ _ _ _ ?_ c.ok
      exact {
        N := rfl
        nd := c.sc.nd
        sc := rfl
        fn := rfl
        takes := takes_of rfl rfl rfl rfl
        cal := fun _ => rfl
        hu := by
          have h1 : (A.deeper (envOfC (Str.ofString d.name) (defScope d.st) s.heap.objs.size a cdv)).units + 16 * n + 200 < cLine := hr'.un
          show (A.deeper (envOfC (Str.ofString d.name) (defScope d.st) s.heap.objs.size a cdv)).units + 65 < cLine
          exact Nat.lt_of_le_of_lt (by omega) h1
        blt := M.blt
        glob := M.glob
        call := fun _ f np hf => by
          obtain ⟨d', hd', hnm, hnp⟩ := lookup_map hf
          obtain ⟨a', fdt', D'⟩ := M.defs d' hd'
          subst hnm hnp
          refine ⟨n, a', fdt', d'.ps, (chk d' hd').np.symm, D'.gl, D'.fn.kp, ?_, hr', D'.binds⟩
          exact defs_ok M chk n d' hd' a' fdt' D'
        hxs := rfl
        hxo := fun _ h => by cases h
        xcl := M.xcl
        pass := fun _ => passes_of (K := fun e s'' => L2.CX P w outer H s E e s'') (E₁ := fun e' s'' => L2.CX P w outer H s E e' s'') rfl
        stk := fun _ => ⟨rfl, rfl⟩
        exc := fun _ cl m hcl => by
          obtain ⟨xd, h1, h2, h3⟩ := M.exc cl m hcl
          exact ⟨xd, h1, h2, h3 _ rfl rfl rfl rfl (hr'.mono (Nat.zero_le _))⟩
        cat := M.cat }
    · obtain ⟨hl, G, F, m, st, ds, S, r, k⟩ := h
      rw [run, M.names d hd] at k
      have hdl : ds.length = d.fd.np := by rw [r.length]; exact hl
      have k : Kon K G mg (Rep K) E F m Q (fin st.length (evSs (L.prog.cx (run L.prog n)) d.fd.body (T.start d.fd ds) st)) := by
        have e : (if ds.length = d.fd.np then fin st.length (evSs (L.prog.cx (run L.prog n)) d.fd.body (T.start d.fd ds) st) else R.bad) = fin st.length (evSs (L.prog.cx (run L.prog n)) d.fd.body (T.start d.fd ds) st) := if_pos hdl
        rw [← e]; exact k
      exact ⟨G, F, m, st, T.start d.fd ds, S, start_rep c.ns hl r, fin_ok (by rw [S.len]; exact Nat.le_refl _) k⟩
/-- the law's own call -/
theorem law_sp {H : Hp} {a : Addr} {ns : List Int} {n : Nat} {f : String} {Q : VK} {E : XK} (hS : SqL K H a (ns.map V.int)) (h : ∃ st, run L.prog n f [.scr (ns.map D.int)] [] = .ok (.bl true) st) (hQ : ∀ H', Q (.bl true) H') : spC K mg 1 (run L.prog n f) [.ref a] H Q E := by
  obtain ⟨st, h⟩ := h
  refine ⟨rfl, fun _ => none, H, [], [], [.scr (ns.map D.int)], ⟨fun _ _ h => h, rfl, List.nodup_nil, fun n o a e => by simp at e, fun a ha => by simp at ha, fun a o e => by cases e⟩, RepL.one ?_, ?_⟩
  · simp only [Rep]
    exact ⟨a, _, rfl, hS, RepL.ofInts ns⟩
  · rw [h]
    exact fun F' m' H' v _ _ r => by rw [repBl r]; exact hQ H'
/-- what the law promises -/
def spLaw (K : PySem.W.Frag) : Sp := fun vs H Q _ => ∃ (a : Addr) (ns : List Int), vs = [.ref a] ∧ SqL K H a (ns.map V.int) ∧ ns.length ≤ 63 ∧ (∀ z ∈ ns, Builtin.Int.intBits z ≤ 1048576) ∧ ∀ H', Q (.bl true) H'
theorem law_fin {fa : Addr} {n : Nat} {x : Str} {d : Df} (M : MFact L P K mg) (chk : L.defs.all (dChkB L) = true) (hd : d ∈ L.defs) (hn : d.name = "law") (hp : d.ps = [x]) (hfa : mg (Str.ofString "law") = some (.ref fa))
    (hl : ∀ ns : List Int, ns.length ≤ 63 → (∀ z ∈ ns, Builtin.Int.intBits z ≤ 1048576) → ∃ st, run L.prog n "law" [.scr (ns.map D.int)] [] = .ok (.bl true) st) :
    ∃ fd : FuncData, (∀ (s : Shared) (u : Value), BindsTo s fd ⟨[u], []⟩ [(x, u)]) ∧ ∀ base : Heap, K.In base → base.Ns mainGlobals mg → FnOk P w K mg base (L2.CX P w) n fa fd [x] (spLaw K) := by
  have chk' : ∀ d ∈ L.defs, DChk L d := fun d h => dChkB_ok (List.all_eq_true.mp chk d h)
  obtain ⟨a, fdt, D⟩ := M.defs d hd
  have ea : a = fa := by
    have := D.gl
    rw [hn, hfa] at this
    cases this; rfl
  subst ea
  refine ⟨fdt, fun s u => ?_, fun base _ _ => ?_⟩
  · have := D.bind s [u] (by rw [hp]; rfl)
    rw [hp] at this
    exact this
  · have F := defs_ok (P := P) (w := w) (base := base) M chk' n d hd a fdt D
    rw [hp, hn, (chk' d hd).np, hp] at F
    refine F.imp fun vs H Q E h => ?_
    obtain ⟨a', ns, rfl, hS, h1, h2, hQ⟩ := h
    exact law_sp hS (hl ns h1 h2) hQ
theorem cx_no {P : Program} {w : World} {H : Hp} {s : Shared} {e : Value} {s' : Shared} (h : L2.CX P w [] H s (fun _ _ _ => False) e s') : False := by
  obtain ⟨_, _, _, _, _, _, _, _, _, _, _, _, z⟩ := h
  exact z
end
end T
set_option Elab.async false
set_option linter.all false
set_option autoImplicit false
set_option maxRecDepth 100000
set_option maxHeartbeats 16000000
/-! # T16: own exceptions whose __init__ hands a text on and stores its fields -/
namespace T
open PySem PySem.W PySem.Calls PyProof.Rows PySem.HandSPX

/-! ### the text of __init__ -/
def storeB (f : String) : Stmt → Bool
  | .Assign [.Attribute (.Name s _) a _] (.Name v _) _ => decide (s = Str.ofString "self") && decide (a = Str.ofString f) && decide (v = Str.ofString f) && !(Str.ofString f == ("__debug__" : Str))
  | _ => false
def storesB : List String → List Stmt → Bool
  | [], ss => ss.isEmpty
  | f :: fs, ss => match ss with | x :: r => storeB f x && storesB fs r | _ => false
def initB (fs : List String) : List Stmt → Bool
  | .Expr (.Call (.Attribute (.Call (.Name sp _) [] [] _) nm ap) [.Constant (.str _) _ _] [] cp) _ :: ss => decide (sp = Str.ofString "super") && decide (nm = Str.ofString "__init__") && (ap.endLine == cp.line) && storesB fs ss
  | _ => false
/-- the fields as a map -/
def mL (l : List (Str × Value)) : Str → Option Value := fun y => l.lookup y
theorem mL_app {l : List (Str × Value)} {n : Str} {v : Value} (h : ∀ w, (n, w) ∉ l) : (fun y => if y = n then some v else mL l y) = mL (l ++ [(n, v)]) := by
  funext y
  unfold mL
  induction l with
  | nil =>
    simp only [List.nil_append, List.lookup_cons, List.lookup_nil]
    by_cases e : y = n
    · simp [e]
    · have : (y == n) = false := by simpa using e
      simp [e, this]
  | cons p l ih =>
    have ih := ih fun w hw => h w (by simp [hw])
    rw [List.cons_append, List.lookup_cons, List.lookup_cons]
    by_cases e : y = p.1
    · have : (y == p.1) = true := by simpa using e
      have ne : y ≠ n := fun z => h p.2 (by rw [← z, e]; simp)
      simp [this, ne]
    · have : (y == p.1) = false := by simpa using e
      simp only [this]
      exact ih
theorem mL_within (l : List (Str × Value)) : Within (mL l) (l.map (·.1)) := by
  intro y hy
  unfold mL at hy
  induction l with
  | nil => simp at hy
  | cons p l ih =>
    rw [List.lookup_cons] at hy
    by_cases e : y = p.1
    · simp [e]
    · have : (y == p.1) = false := by simpa using e
      rw [this] at hy
      simp [ih hy]

/-- what the class says -/
structure XCls (K : Frag) (C : Addr) (cd : ClassData) : Prop where
  hcl : clsIn K C = some cd
  ve : refsVE cd.mro = true
  hd : cd.hasDict = true
  sa : findIn K (.ref C) "__setattr__" = some (some (.builtin "object.__setattr__"))
/-- where the making stands: B the heap ahead of it; x the object, d its dict with the fields l -/
structure XAt (K : Frag) (B : Heap) (L : Addr) (x C : Addr) (fv : Array Value) (m : Str → Option Value) (hp : Heap) (d : Option Addr) (l : List (Str × Value)) : Prop where
  kin : K.In B
  keep : ∀ b o, B.get? b = some o → hp.get? b = some o
  ns : hp.Ns L m
  bL : B.objs.size ≤ L
  bx : B.objs.size ≤ x
  xL : x ≠ L
  obj : hp.get? x = some { cls := .ref C, dict := d, data := .fields fv }
  dct : match d with | none => l = [] | some dx => hp.Ns1 dx (mL l) ∧ B.objs.size ≤ dx ∧ dx ≠ x ∧ dx ≠ L
section
variable {prog : Program} {w : World} {A : Around} {E : Value → Shared → Prop} {g : Array GenState} {dr : Drawn} {os : OsState} {K : Frag} {B : Heap} {x C : Addr} {cd : ClassData} {env : Env} {m : Str → Option Value} {fv : Array Value}
theorem ne_ground {h : Heap} {b a : Addr} {o : Obj} (e : h.get? b = some o) (ha : h.objs.size ≤ a) : b ≠ a := Nat.ne_of_lt (Nat.lt_of_lt_of_le (Heap.lt_size e) ha)
theorem stores_ok (T : XCls K C cd) (hk : env.scope.kind = .function) (hs : env.kindOf (Str.ofString "self") = some .local) (hself : m (Str.ofString "self") = some (.ref x)) {Q : Flow → Shared → Prop} :
    ∀ (fs : List String) (us : List Value) (ss : List Stmt) (d : Option Addr) (l : List (Str × Value)) (hp : Heap) (tk : Nat), storesB fs ss = true → us.length = fs.length → (∀ f ∈ fs, findIn K (.ref C) (Str.ofString f) = some none) → (∀ f ∈ fs, env.kindOf (Str.ofString f) = some .local) →
      (∀ p ∈ (fs.map Str.ofString).zip us, m p.1 = some p.2) → (l.map (·.1) ++ fs.map Str.ofString).Nodup → l.length + fs.length ≤ 900 → XAt K B env.locals x C fv m hp d l →
      (∀ h' tk' d' l', (l' = l ++ (fs.map Str.ofString).zip us) → XAt K B env.locals x C fv m h' d' l' → Q .next ⟨h', g, dr, tk', os⟩) → wpAny (model prog w) A (execs ss env) Q E ⟨hp, g, dr, tk, os⟩
  | [], us, ss, d, l, hp, tk, h, hl, _, _, _, _, _, X, hq => by
    unfold storesB at h
    cases ss with
    | cons => cases h
    | nil =>
      cases us with
      | cons => simp at hl
      | nil => exact wpAny_execs_nil (hq hp tk d l (by simp) X)
  | f :: fs, us, ss, d, l, hp, tk, h, hl, hno, hloc, hm, hnd, hlen, X, hq => by
    unfold storesB at h
    split at h
    · rename_i st r
      simp only [Bool.and_eq_true] at h
      obtain ⟨h1, h2⟩ := h
      unfold storeB at h1
      split at h1
      · rename_i sn p1 an p2 vn p3 p4
        simp only [Bool.and_eq_true, decide_eq_true_eq, Bool.not_eq_true'] at h1
        obtain ⟨⟨⟨rfl, rfl⟩, rfl⟩, hdb⟩ := h1
        cases us with
        | nil => simp at hl
        | cons u us =>
          have hmf : m (Str.ofString f) = some u := hm (Str.ofString f, u) (by simp)
          have kX : K.In hp := X.kin.keeps X.keep
          have dne : ∀ w, (Str.ofString f, w) ∉ l := fun w hw => by
            rw [List.nodup_append] at hnd
            exact hnd.2.2 _ (List.mem_map.mpr ⟨_, hw, rfl⟩) (Str.ofString f) (by simp) rfl
          have hnd' : ((l ++ [(Str.ofString f, u)]).map (·.1) ++ fs.map Str.ofString).Nodup := by
            simpa [List.append_assoc] using hnd
          have next : ∀ h' tk' d', XAt K B env.locals x C fv m h' d' (l ++ [(Str.ofString f, u)]) → wpAny (model prog w) A (execs r env) Q E ⟨h', g, dr, tk', os⟩ := fun h' tk' d' X' =>
            stores_ok T hk hs hself fs us r d' (l ++ [(Str.ofString f, u)]) h' tk' h2 (by simpa using hl) (fun z hz => hno z (by simp [hz])) (fun z hz => hloc z (by simp [hz])) (fun p hp => hm p (by simp [hp])) hnd' (by simp at hlen ⊢; omega) X'
              fun h3 tk3 d3 l3 e3 X3 => hq h3 tk3 d3 l3 (by rw [e3]; simp) X3
          refine wpAny_execs_cons (plainObj_wpAny_Assign_Attribute ?_)
          refine wpAny_Name (wpAny_loadName_local hk (hloc f (by simp)) X.ns hmf ?_) hdb
          refine wpAny_Name (wpAny_loadName_local hk hs X.ns hself ?_) (by decide +kernel)
          have hnf := hno f (by simp)
          have Lsz : B.objs.size ≤ hp.objs.size := Nat.le_trans X.bL (Nat.le_of_lt X.ns.lt)
          cases d with
          | none =>
            have hl0 : l = [] := X.dct
            subst hl0
            refine set_plain kX (ox := { cls := .ref C, data := .fields fv }) (od := none) ⟨X.obj, rfl, rfl, trivial⟩ T.sa ?_
            refine exc_osa kX X.obj T.hcl T.ve T.hd hnf fun h' tk' dx k dn dnx hx hn => ?_
            refine next h' tk' (some dx) ⟨X.kin, fun b o e => k b o (ne_ground e X.bx) (X.keep b o e), ?_, X.bL, X.bx, X.xL, hx, ?_, Nat.le_trans Lsz dn, dnx, ?_⟩
            · obtain ⟨oL, es, ep, h0, r0⟩ := X.ns
              exact ⟨oL, es, ep, k _ _ (Ne.symm X.xL) h0, r0⟩
            · rw [← mL_app (l := []) (n := Str.ofString f) (v := u) (fun w hw => by cases hw)]
              exact hn
            · intro z
              have := X.ns.lt
              rw [← z] at this
              exact absurd (Nat.lt_of_lt_of_le this dn) (Nat.lt_irrefl _)
          | some dx =>
            obtain ⟨hn, bd, dnx, dL⟩ := X.dct
            obtain ⟨oD, esD, epD, hoD, hdD, _⟩ := hn.count (mL_within l)
            refine set_plain kX (ox := { cls := .ref C, dict := some dx, data := .fields fv }) (od := some oD) ⟨X.obj, rfl, rfl, hoD⟩ T.sa ?_
            refine PySem.OEX.osa_old kX X.obj hn (mL_within l) (by rw [List.length_map]; omega) T.hcl T.ve T.hd hnf fun h' tk' k hn' => ?_
            refine next h' tk' (some dx) ⟨X.kin, fun b o e => k b o (ne_ground e bd) (X.keep b o e), ?_, X.bL, X.bx, X.xL, k _ _ (Ne.symm dnx) X.obj, ?_, bd, dnx, dL⟩
            · obtain ⟨oL, es, ep, h0, r0⟩ := X.ns
              exact ⟨oL, es, ep, k _ _ (Ne.symm dL) h0, r0⟩
            · rw [← mL_app dne]
              exact hn'
      · cases h1
    · cases h

/-- the function __init__ as the written part has it -/
structure XIni (P : Program) (K : Frag) (c : String) (fs : List String) (C : Addr) (fI cc cda : Addr) (oc : Value) (od : Option Addr) (kV doc pm : Value) (an : Option Addr) (ct : Value) (osl : Array (Option Value)) (params : Arguments) (body : List Stmt) (scope : Scope) : Prop where
  iC : findIn K (.ref C) (Str.ofString "__init__") = some (some (.ref fI))
  tI : typeIn K (.ref fI) = some (.type "function")
  lk : K.lookup fI = some ⟨oc, od, .func (ksFn (Str.ofString "__init__") (Str.ofString (c ++ ".__init__")) params body scope .none kV doc pm an (.ref cda) ct cc), osl⟩
  cd : codeIn K (.ref cda) (Str.ofString (c ++ ".__init__")) = true
  ob : ∃ ccl cdd vs ccs file tf, K.lookup cda = some ⟨ccl, cdd, .fields vs, ccs⟩ ∧ vs[2]? = some (.str file tf) ∧ ((P.main.file : Str) == file) = true
  ce : ∃ cl cld csl, K.lookup cc = some ⟨cl, cld, .cell (some (.ref C)), csl⟩
  tx : initB fs body = true
  hd : ∃ ar : Arg, (params.posonlyargs ++ params.args).head? = some ar ∧ ar.arg = Str.ofString "self"
  sk : scope.kind = .function
  co : scope.isCoroutine = false
  gn : scope.isGenerator = false
  nc : ∀ y ∈ scope.names, y.2 ≠ .cell
  sp : scope.names.lookup (Str.ofString "super") = some .globalImplicit
  cl : scope.names.lookup (Str.ofString "__class__") = some .free
  lo : ∀ f ∈ "self" :: fs, scope.names.lookup (Str.ofString f) = some .local
  bi : ∀ us : List Value, us.length = fs.length + 1 → bindArgs (ksFn (Str.ofString "__init__") (Str.ofString (c ++ ".__init__")) params body scope .none kV doc pm an (.ref cda) ct cc) ⟨us, []⟩ = pure ((("self" :: fs).map Str.ofString).zip us)
structure XTxt (P : Program) (K : Frag) (mg : Str → Option Value) (c : String) (fs : List String) (C : Addr) (cd : ClassData) : Prop where
  cls : XCls K C cd
  obj : ∃ nm q N bs bm sn sub ab col dd k0 k1 k2 k3 k5, K.lookup C = some (excClassObj nm q C N bs bm true sn sub ab col dd k0 k1 k2 k3 k5 "ValueError.__new__") ∧ refsVE bm = true
  gC : mg (Str.ofString c) = some (.ref C)
  kC : keepIn K (.ref C) = true
  noF : ∀ f ∈ fs, findIn K (.ref C) (Str.ofString f) = some none
  exC : subIn K (.ref C) (.type "BaseException") = some true
  tyC : typeIn K (.ref C) = some (.type "type")
  veC : subIn K (.ref C) (.type "ValueError") = some true
  meC : mroIn K C (.ref C) = some true
  suC : ks_superIn K C C (Str.ofString "__init__") = some (some (.builtin "ValueError.__init__"))
  inC : ∃ bmB newId, ExcBaseFacts "ValueError" newId "ValueError.__init__" bmB ∧ excInitIn K C bmB newId = true
  st : nsIn K cStatics "thirdparty.any" = some none
  sup : mg (Str.ofString "super") = none
  top : (P.main.scope.names.lookup ("super" : Str)).isSome = false
  nd : (("self" :: fs).map Str.ofString).Nodup
  few : fs.length ≤ 800
  ini : ∃ fI cc cda oc od kV doc pm an ct osl params body scope, XIni P K c fs C fI cc cda oc od kV doc pm an ct osl params body scope

theorem boot_super : bootBuiltins (Str.ofString "super") = some (.type "super") := by kernel_rfl
theorem lookup_rev {l : List (Str × Value)} (h : (l.map (·.1)).Nodup) {k : Str} {v : Value} (hm : (k, v) ∈ l) : l.reverse.lookup k = some v := by
  induction l with
  | nil => cases hm
  | cons p l ih =>
    rw [List.map_cons, List.nodup_cons] at h
    rw [List.reverse_cons, List.lookup_append]
    rcases List.mem_cons.mp hm with e | hm
    · subst e
      have : List.lookup k l.reverse = none := by
        rw [List.lookup_eq_none_iff]
        intro q hq
        have hq' : q ∈ l := by simpa using hq
        have : q.1 ≠ k := fun z => h.1 (List.mem_map.mpr ⟨q, hq', z⟩)
        simpa using Ne.symm this
      rw [this]
      simp
    · rw [ih h.2 hm]; rfl
/-- the __init__ of a fresh exception at x -/
theorem x_init {R : Result → Shared → Prop} {c : String} {fs : List String} {mg mb : Str → Option Value} {fI cc cda : Addr} {oc : Value} {od : Option Addr} {kV doc pm : Value} {an : Option Addr} {ct : Value} {osl : Array (Option Value)} {params : Arguments} {body : List Stmt} {scope : Scope}
    (T : XTxt prog K mg c fs C cd) (I : XIni prog K c fs C fI cc cda oc od kV doc pm an ct osl params body scope) {hp : Heap} {tk : Nat} {t0 : Addr} {us : List Value} (hl : us.length = fs.length) (kin : K.In B) (hlim : hp.NoLimit) (keep : ∀ b o, B.get? b = some o → hp.get? b = some o)
    (gg : B.Ns mainGlobals mg) (gb : B.Ns builtinsNs mb) (hmb : ∀ y : Str, y ≠ "__name__" → mb y = bootBuiltins y) (bx : B.objs.size ≤ x) (bs : B.objs.size ≤ hp.objs.size) (hx : hp.get? x = some (excO C t0)) (hroom : A.depth < recursionLimit)
    (hq : ∀ h' tk' L m t1 d, XAt K B L x C #[.ref t1, .none, .none, .none, .bool false, .none] m h' d ((fs.map Str.ofString).zip us) → R (.ok (.ret .none)) ⟨h', g, dr, tk', os⟩) :
    codeAny (model prog w) A (.call (.ref fI) ⟨.ref x :: us, []⟩) R ⟨hp, g, dr, tk, os⟩ := by
  have kX : K.In hp := kin.keeps keep
  have hbl : ((Value.ref x :: us)).length = fs.length + 1 := by simp [hl]
  refine ks_codeAny_call_defAt (fd := ksFn (Str.ofString "__init__") (Str.ofString (c ++ ".__init__")) params body scope .none kV doc pm an (.ref cda) ct cc) (body := body) (binds := (("self" :: fs).map Str.ofString).zip (Value.ref x :: us)) hroom (kX _ _ I.lk) rfl hlim (codeRec_of kX I.cd) rfl (BindsTo.of_eq (I.bi _ hbl)) I.nc (fun y hy => ?_) (fun h₁ hns hk₁ => ?_) I.co I.gn I.sk
  · obtain ⟨f, hf, e⟩ := List.mem_map.mp (List.of_mem_zip hy).1
    rw [← e]; exact I.lo f hf
  · generalize hm : (fun y => (((("self" :: fs).map Str.ofString).zip (Value.ref x :: us)).reverse).lookup y) = m at hns
    have hndz : (((("self" :: fs).map Str.ofString).zip (Value.ref x :: us)).map (·.1)).Nodup := by
      rw [List.map_fst_zip (by simp [hl])]; exact T.nd
    have mget : ∀ p ∈ (("self" :: fs).map Str.ofString).zip (Value.ref x :: us), m p.1 = some p.2 := fun p hp => by
      rw [← hm]; exact lookup_rev hndz hp
    have hself : m (Str.ofString "self") = some (.ref x) := mget (Str.ofString "self", .ref x) (by simp)
    have xs : x < hp.objs.size := Heap.lt_size hx
    have keep₁ : ∀ b o, B.get? b = some o → h₁.get? b = some o := fun b o e => hk₁ b o (keep b o e)
    have F1 : Fr B hp.objs.size h₁ m := ⟨hns, keep₁, bs⟩
    have bn : ∀ a, B.objs.size ≤ a → B.get? a = none := fun a ha => by
      cases e : B.get? a with
      | none => rfl
      | some o => exact absurd (Nat.lt_of_lt_of_le (Heap.lt_size e) ha) (Nat.lt_irrefl _)
    have N1 : News B hp.objs.size h₁ [(x, excObj C t0 none .none)] := fun p hp => by
      simp at hp; subst hp
      exact ⟨hk₁ _ _ hx, Nat.ne_of_lt xs, bn _ bx⟩
    have ID : InstAt h₁ x (excObj C t0 none .none) C none := ⟨hk₁ _ _ hx, rfl, rfl, trivial⟩
    obtain ⟨ccl, cdd, vs, ccs, file, tf, hcode, hvs, hfile⟩ := I.ob
    obtain ⟨cl, cld, csl, hcell⟩ := I.ce
    obtain ⟨ar, har, hself'⟩ := I.hd
    have htx := I.tx
    unfold initB at htx
    split at htx
    · rename_i spn p1 p2 nmn p3 msg j p4 p5 p6 ss
      simp only [Bool.and_eq_true, decide_eq_true_eq] at htx
      obtain ⟨⟨⟨rfl, rfl⟩, hline⟩, hss⟩ := htx
      have X₁ : K.In h₁ := kin.keeps keep₁
      obtain ⟨oD, hD1, hD2⟩ : ∃ oD, h₁.get? C = some oD ∧ oD.data = .cls cd := by
        have hc := T.cls.hcl
        unfold clsIn at hc
        split at hc
        · rename_i c1 d1 cd1 sl1 ho
          cases hc
          exact ⟨_, X₁ _ _ ho, rfl⟩
        · cases hc
      generalize henv : callEnv (ksFn (Str.ofString "__init__") (Str.ofString (c ++ ".__init__")) params _ scope .none kV doc pm an (.ref cda) ct cc) hp.objs.size fI = env
      have ek : env.scope = scope := by rw [← henv]; rfl
      have eL : env.locals = hp.objs.size := by rw [← henv]; rfl
      have kind : ∀ y, env.kindOf y = scope.names.lookup y := fun y => by rw [← henv]; rfl
      have hkn : env.scope.kind = .function := by rw [ek]; exact I.sk
      have hnoD : (Str.ofString "super" == ("__debug__" : Str)) = false := by decide +kernel
      refine ks_wpAt_execs_cons (ks_wpAt_Expr_any ?_ (by unfold interactive; rw [hkn]; rfl))
      rw [arm_eval_Call]
      refine PySem.wpAt_bind (ks_wpAt_mono (ks_wpAt_super_base (prog := prog) (w := w) (f := fI) (cc := cda) (ar := ar) (vs := vs) (file := file) (tf := tf) (by rw [kind]; exact I.sp) (by rw [kind]; exact I.cl) (by decide +kernel) (by rw [← henv]; rfl) (X₁ _ _ I.lk) rfl har (by rw [← henv]; rfl) (X₁ _ _ hcode) rfl hvs hfile T.top
        (Q := fun ov s₁ => PySem.wpAt (model prog w) (A.deeper env) (.func _ env) (do
          standAt p3.atName
          methodCall (.Call (.Name (Str.ofString "super") p1) [] [] p2) (Str.ofString "__init__") p3 p5 env ov ([Expr.Constant (Const.str msg) j p4].length + ([] : List Keyword).length) (backTo p5 (starEach [Expr.Constant (Const.str msg) j p4] env)) (backToKw p5 (keywordEach [] env))) _ _ s₁) ?_) (fun ov s₁ h => h) fun _ _ h => h)
      have eglob : env.globals = mainGlobals := by rw [← henv]; rfl
      have eblt : env.builtins = builtinsNs := by rw [← henv]; rfl
      have ecell : env.cells.lookup (Str.ofString "__class__") = some cc := by rw [← henv]; rfl
      refine ks_loadName_global hkn (by rw [kind]; exact I.sp) (loadGlobal_builtin (by rw [eglob]; exact gg.keeps keep₁) T.sup (by rw [eblt]; exact gb.keeps keep₁) ((hmb _ (by decide +kernel)).trans boot_super) ⟨rfl, ?_⟩)
      refine wpAny_loadName_free hkn (by rw [kind]; exact I.cl) ecell ⟨_, X₁ _ _ hcell, rfl⟩ ?_
      refine wpAny_loadName_local hkn (by rw [kind, hself']; exact I.lo "self" (by simp)) (by rw [eL]; exact hns) (by rw [hself']; exact hself) ?_
      refine ks_wpAny_isType_cls hD1 hD2 ⟨rfl, ?_⟩
      refine ks_wpAny_call_super hD1 hD2 (hk₁ _ _ hx) rfl (fun c e => by cases e) (looks_mroIn X₁ T.meC) (fun h₂ hso k₂ => ?_)
      obtain ⟨F2, N2, lt2⟩ := ks_newsPush (s := ⟨h₁, g, dr, tk + ((("self" :: fs).map Str.ofString).zip (Value.ref x :: us)).length, os⟩) F1 N1 rfl hso k₂
      refine PySem.wpAt_of_wpAny (wpAny_bind (wpAny_standAt ?_))
      unfold methodCall
      have hform : methodCallForm ([Expr.Constant (Const.str msg) j p4].length + ([] : List Keyword).length) (backTo p5 (starEach [Expr.Constant (Const.str msg) j p4] env)) (backToKw p5 (keywordEach [] env)) = true := rfl
      have hpos : methodCallPos true (.Call (.Name (Str.ofString "super") p1) [] [] p2) env p3 p5 = pure p5 := by unfold methodCallPos; simp [hline]
      rw [hform]
      have ID2 : InstAt h₂ x (excObj C t0 none .none) C none := ⟨k₂ _ _ (hk₁ _ _ hx), rfl, rfl, trivial⟩
      refine wpAny_bind (wpAny_holding (kxs_method kxs_ValueError F2 kin N2 (by simp) ID2 T.st T.suC T.veC (by decide +kernel) fun u h₃ F3 N3 lt3 => ?_))
      refine wpAny_bind (wpAny_of_eq hpos ?_)
      refine kxs_callWith1 N3 (u := u) (x := x) (i := "ValueError.__init__") (by simp) ?_ rfl rfl
      refine Calls.spliced_cons (x := eval (Expr.Constant (Const.str msg) j p4) env) ?_
      refine Calls.Constant_str (pos := p4) (k := j) (Calls.spliced_nil ⟨kxs_at N3 (by simp), ?_⟩)
      obtain ⟨bmB, newId, FB, hin⟩ := T.inC
      have xu : h₁.objs.size ≠ x := Nat.ne_of_gt (Heap.lt_size (hk₁ _ _ hx))
      have hux : u ≠ x := Nat.ne_of_gt (lt3 (x, excObj C t0 none .none) (by simp))
      refine kxs_call F3 kin N3 FB hin (by simp) (UpdF.tail hux (UpdF.tail xu (UpdF.head (fun p hp => by cases hp)))) (by simp; rw [sizeLine_eq]; decide) fun t' h₄ F4 N4 lt4 => ?_
      have X4 : XAt K B env.locals x C #[.ref t', .none, .none, .none, .bool false, .none] m h₄ none [] := by
        rw [eL]
        exact ⟨kin, F4.keep, F4.ns, bs, bx, Nat.ne_of_lt xs, (N4 (x, excObj C t' none .none) (by simp)).1, rfl⟩
      refine PySem.wpAt_of_wpAny (stores_ok T.cls hkn (by rw [kind]; exact I.lo "self" (by simp)) hself fs us ss none [] h₄ _ hss hl T.noF (fun f hf => by rw [kind]; exact I.lo f (by simp [hf])) (fun p hp => mget p (by simp [hp])) ?_ (by have := T.few; simp; omega) X4 fun h' tk' d' l' el X' => ?_)
      · have := T.nd
        rw [List.map_cons, List.nodup_cons] at this
        simpa using this.2
      · rw [el, List.nil_append] at X'
        exact hq h' tk' _ m t' d' X'
    · cases htx
end
end T
set_option Elab.async false
set_option linter.all false
set_option autoImplicit false
set_option maxRecDepth 100000
set_option maxHeartbeats 16000000
/-! # T17: own exceptions are made as their terms say -/
namespace T
open PySem PySem.W PySem.Calls PyProof.Rows PySem.HandSPX PySem.Spec L2

theorem relO_zip : ∀ {ks : List Str} {vs : List V} {us : List Value}, Vals vs us → ∀ f, L2.RelO ((ks.zip vs).lookup f) (mL (ks.zip us) f)
  | [], vs, us, r, f => by simp [mL]; trivial
  | k :: ks, _, _, .nil, f => by simp [mL]; trivial
  | k :: ks, v :: vs, u :: us, .cons r rr, f => by
    have ih := relO_zip (ks := ks) rr f
    unfold mL at ih ⊢
    rw [List.zip_cons_cons, List.zip_cons_cons, List.lookup_cons, List.lookup_cons]
    by_cases e : f = k
    · have : (f == k) = true := by simpa using e
      rw [this]; exact r
    · have : (f == k) = false := by simpa using e
      rw [this]; exact ih
theorem x_ok {X : L2.Cx} {c : String} {fs : List String} {C : Addr} {cd : ClassData} (T : XTxt X.prog X.K X.mg c fs C cd) (hr : Room 0 X.A) : XOk X c fs := by
  refine ⟨fun pn xe p pos args ta hg hdb ha hs hl hnil => ?_⟩
  intro pins s σ H Q I h
  obtain ⟨nm, qn, N, bs, bm, sn, sub, ab, col, dd, k0, k1, k2, k3, k5, hC, hbm⟩ := T.obj
  obtain ⟨fI, cc, cda, oc, od, kV, doc, pm, an, ct, osl, params, body, scope, IN⟩ := T.ini
  have go : ∀ (us : List Value) (vs : List V) (s1 : Shared) (H1 : Hp), Inv (X.tr pn xe) pins σ H1 s1 → Vals vs us → (vs.length = fs.length ∧ ∀ C', X.mg (Str.ofString c) = some (.ref C') → (∀ dd, H1 dd = none → Q (.ref C') (some dd) (upd H1 dd (.xd ((fs.map Str.ofString).zip vs)))) ∧ (fs = [] → Q (.ref C') none H1)) →
      wpAny (model X.prog X.w) X.A (call (.ref C) us) (MkP (X.tr pn xe) pins σ Q) xe s1 := by
    intro us vs s1 H1 I1 r1 hq
    obtain ⟨hvl, hq⟩ := hq
    obtain ⟨q1, q2⟩ := hq C T.gC
    have hul : us.length = fs.length := by rw [← r1.length]; exact hvl
    have hlim := I1.nolimit
    obtain ⟨hp, g, dr, tk, os⟩ := s1
    obtain ⟨mb, hb1, hb2⟩ := I1.mod.blt
    have k : ∀ b o, hp.get? b = some o → ((hp.push (kdv_tup us)).push (excO C hp.objs.size)).get? b = some o := fun b o e => Heap.get?_push_of_some _ (Heap.get?_push_of_some _ e)
    have hget : ((hp.push (kdv_tup us)).push (excO C hp.objs.size)).get? (hp.objs.size + 1) = some (excO C hp.objs.size) := by heap_get
    have hus : us.length ≤ sizeLine := by
      have := T.few
      have e : sizeLine = 16777216 := sizeLine_eq
      omega
    refine wpAny_call (call_own F.excBase_ValueError (fun Y => refsVE_contains Y bm hbm) (I1.kIn _ _ hC) (looks_findIn I1.kIn IN.iC) (fun self => bind_fn I1.kIn self IN.tI) hus ?_)
    refine x_init (B := hp) (x := hp.objs.size + 1) (mb := mb) T IN hul I1.kIn (hlim.keeps k) k (I1.mod.glob.keeps I1.bk) (hb1.keeps I1.bk) hb2 (Nat.le_succ _) (by rw [Heap.size_push, Heap.size_push]; omega) hget ?_ fun h' tk' L m t1 d X' => ⟨rfl, ?_⟩
    · have := hr.dp
      have e : (X.A.under (.builtin "type.__call__" ⟨.ref C :: us, []⟩)).depth = X.A.depth + 1 := make_depth
      rw [e]; omega
    show MkP (X.tr pn xe) pins σ Q (.ref (hp.objs.size + 1)) ⟨h', g, dr, tk', os⟩
    obtain ⟨G', g1, g2⟩ := restrict h' fun b => decide (b ≠ hp.objs.size + 1)
    have gk : ∀ b, b ≠ hp.objs.size + 1 → G'.get? b = h'.get? b := fun b hb => g1 b (decide_eq_true hb)
    have ge : G'.get? (hp.objs.size + 1) = none := g2 _ (by simp)
    have old : ∀ b o, hp.get? b = some o → G'.get? b = some o := fun b o q => (gk b (Nat.ne_of_lt (Nat.lt_succ_of_lt (Heap.lt_size q)))).trans (X'.keep b o q)
    have back : ∀ b o, G'.get? b = some o → h'.get? b = some o := fun b o q => by
      by_cases hb : b = hp.objs.size + 1
      · rw [hb, ge] at q; cases q
      · exact (gk b hb).symm.trans q
    have fr1 : H1 (hp.objs.size + 1) = none := I1.hok.fresh (Nat.le_succ _)
    have rs : Raises (X.tr pn xe) (.ref C) := raises_own T.exC T.tyC
    cases d with
    | none =>
      have e0 : (fs.map Str.ofString).zip us = [] := X'.dct
      have hf : fs = [] := by
        cases fs with
        | nil => rfl
        | cons f fs =>
          cases us with
          | nil => simp at hul
          | cons => simp at e0
      have J : Inv (X.tr pn xe) pins σ H1 ⟨G', g, dr, tk', os⟩ := I1.kept (t' := tk') old
      exact ⟨_, _, _, ⟨G', g, dr, tk', os⟩, H1, .ref C, none, rfl, J, back, ge, X'.obj, ⟨rfl, rfl⟩, rfl, rfl, fr1, rfl, I1.bare, rs, q2 hf⟩
    | some dx =>
      obtain ⟨hn, bd, dnx, dL⟩ := X'.dct
      have ob : ObjOk X.prog X.w (upd H1 dx (.xd ((fs.map Str.ofString).zip vs))) G' dx (.xd ((fs.map Str.ofString).zip vs)) :=
        ⟨_, hn.at (fun o q => (gk dx dnx).trans q), fun f => relO_zip r1 f⟩
      have J : Inv (X.tr pn xe) pins σ (upd H1 dx (.xd ((fs.map Str.ofString).zip vs))) ⟨G', g, dr, tk', os⟩ := I1.laid (t' := tk') old bd ob
      exact ⟨_, _, _, ⟨G', g, dr, tk', os⟩, _, .ref C, some dx, rfl, J, back, ge, X'.obj, ⟨rfl, rfl⟩, rfl, rfl, by rw [upd_ne (Ne.symm dnx)]; exact fr1, rfl, I1.bare, rs, q1 dx (I1.hok.fresh bd)⟩
  refine wpAny_Call_Name_kw (ld_glob I hg T.gC ?_ hdb)
  cases args with
  | nil =>
    exact callWith_K0 I.kIn T.kC (go [] [] s H I .nil (hnil rfl σ H _ h))
  | cons a as =>
    refine callWith_K (h₀ := X.base) I.ok.mod.kin T.kC (thn (ha.run pos pins s σ H _ I h) fun us s1 hh => ?_) (starOk (hs a (by simp))) (backOk fun z hz => hs z (by simp [hz]))
    obtain ⟨vs, H1, I1, r1, q⟩ := hh
    exact ⟨I1.kIn, go us vs s1 H1 I1 r1 q⟩
end T
set_option Elab.async false
set_option linter.all false
set_option autoImplicit false
set_option maxRecDepth 100000
set_option maxHeartbeats 16000000
/-! # T18: a law's facts, put together -/
namespace T
open PySem PySem.W PySem.Calls PyProof.Rows PySem.Spec L2

theorem df_mk {K : Frag} {h : Heap} {mg : Str → Option Value} (X : K.In h) (G : h.Ns mainGlobals mg) {d : Df} {f : Addr} {od an : Option Addr} {osl : Array (Option Value)} {oc kV doc pm cdv ct : Value}
    (a : nsIn K mainGlobals (Str.ofString d.name) = some (some (.ref f)))
    (l : K.lookup f = some ⟨oc, od, .func (fnOf (Str.ofString d.name) (Str.ofString d.name) (defArgs d.st) (defBody d.st) (defScope d.st) .none kV doc pm an cdv ct), osl⟩)
    (c : codeIn K cdv (Str.ofString d.name) = true) (k : keepIn K (.ref f) = true)
    (b : ∀ (kV doc pm : Value) (an : Option Addr) (cdv ct : Value) (us : List Value), us.length = d.ps.length → bindArgs (fnOf (Str.ofString d.name) (Str.ofString d.name) (defArgs d.st) (defBody d.st) (defScope d.st) .none kV doc pm an cdv ct) ⟨us, []⟩ = pure (d.ps.zip us)) :
    ∃ a fdt, DFact K mg d a fdt := by
  have F := fun_mk (st := d.st) l c k
  exact ⟨f, _, F, mg_of X G a, fun s us hl => .of_eq (b _ _ _ _ _ _ us hl)⟩

def clsInit : Stmt → Stmt
  | .ClassDef _ _ _ (s :: _) _ _ _ _ _ _ _ => s
  | s => s
theorem xt_mk {P : Program} {K : Frag} {h : Heap} {mg : Str → Option Value} (X : K.In h) (G : h.Ns mainGlobals mg) {c : String} {fs : List String} {s : Stmt} {C fI cc cda N : Addr} {nm qn : Str} {bs bm : List Value} {sn : List Str} {sub : List Value} {ab : Bool} {col : Option Bool} {dd od an ccd cld : Option Addr}
    {k0 k1 k2 k3 k5 : Option Value} {oc kV doc pm ct ccl cl : Value} {osl ccs csl : Array (Option Value)} {vs : Array Value} {file : Str} {tf : Tok}
    (aC : nsIn K mainGlobals (Str.ofString c) = some (some (.ref C)))
    (xL : K.lookup C = some (excClassObj nm qn C N bs bm true sn sub ab col dd k0 k1 k2 k3 k5 "ValueError.__new__")) (ve : HandSPX.refsVE bm = true)
    (sa : findIn K (.ref C) "__setattr__" = some (some (.builtin "object.__setattr__"))) (kC : keepIn K (.ref C) = true) (nF : ∀ f ∈ fs, findIn K (.ref C) (Str.ofString f) = some none)
    (eC : subIn K (.ref C) (.type "BaseException") = some true) (tC : typeIn K (.ref C) = some (.type "type")) (vC : subIn K (.ref C) (.type "ValueError") = some true) (mC : mroIn K C (.ref C) = some true)
    (suC : ks_superIn K C C (Str.ofString "__init__") = some (some (.builtin "ValueError.__init__"))) (inC : excInitIn K C [.type "ValueError", .type "Exception", .type "BaseException", .type "object"] "ValueError.__new__" = true)
    (st : nsIn K cStatics "thirdparty.any" = some none) (sup : nsIn K mainGlobals (Str.ofString "super") = some none) (top : (P.main.scope.names.lookup ("super" : Str)).isSome = false) (nd : (("self" :: fs).map Str.ofString).Nodup) (few : fs.length ≤ 800)
    (iC : findIn K (.ref C) (Str.ofString "__init__") = some (some (.ref fI))) (tI : typeIn K (.ref fI) = some (.type "function"))
    (lI : K.lookup fI = some ⟨oc, od, .func (ksFn (Str.ofString "__init__") (Str.ofString (c ++ ".__init__")) (defArgs s) (defBody s) (defScope s) .none kV doc pm an (.ref cda) ct cc), osl⟩) (cI : codeIn K (.ref cda) (Str.ofString (c ++ ".__init__")) = true)
    (lc : K.lookup cda = some ⟨ccl, ccd, .fields vs, ccs⟩) (hv : vs[2]? = some (.str file tf)) (hf : ((P.main.file : Str) == file) = true) (le : K.lookup cc = some ⟨cl, cld, .cell (some (.ref C)), csl⟩)
    (tx : initB fs (defBody s) = true) (hd : ((defArgs s).posonlyargs ++ (defArgs s).args).head?.map (·.arg) = some (Str.ofString "self")) (sk : scopeB (("self" :: fs).map Str.ofString) [] { defScope s with names := (defScope s).names.filter fun y => !(y.1 == ("__class__" : Str)) } = true)
    (nc : ((defScope s).names.all fun y => match y.2 with | .cell => false | _ => true) = true) (sp : (defScope s).names.lookup (Str.ofString "super") = some .globalImplicit) (cl' : (defScope s).names.lookup (Str.ofString "__class__") = some .free)
    (lo : (("self" :: fs).all fun f => decide ((defScope s).names.lookup (Str.ofString f) = some .local)) = true)
    (bi : ∀ us : List Value, us.length = fs.length + 1 → bindArgs (ksFn (Str.ofString "__init__") (Str.ofString (c ++ ".__init__")) (defArgs s) (defBody s) (defScope s) .none kV doc pm an (.ref cda) ct cc) ⟨us, []⟩ = pure ((("self" :: fs).map Str.ofString).zip us)) :
    ∃ cd, XTxt P K mg c fs C cd := by
  have hcl : clsIn K C = some { name := nm, bases := bs, mro := .ref C :: bm, ns := N, qualname := qn, hasDict := true, slotNames := sn, subclasses := sub, abstract := ab, collection := col, hasDel := false } := by unfold clsIn; rw [xL]
  have S := scopeB_ok sk
  refine ⟨_, ⟨⟨hcl, ve, rfl, sa⟩, ⟨_, _, _, _, _, _, _, _, _, _, _, _, _, _, _, xL, ve⟩, mg_of X G aC, kC, nF, eC, tC, vC, mC, suC, ⟨_, _, F.excBase_ValueError, inC⟩, st, mg_none_of X G sup, top, nd, few,
    ⟨fI, cc, cda, oc, od, kV, doc, pm, an, ct, osl, defArgs s, defBody s, defScope s, ⟨iC, tI, lI, cI, ⟨_, _, _, _, _, _, lc, hv, hf⟩, ⟨_, _, _, le⟩, tx, ?_, S.kind, S.co, S.gen, fun y hy e => ?_, sp, cl', fun f hf => ?_, bi⟩⟩⟩⟩
  · obtain ⟨ar, h1, h2⟩ := Option.map_eq_some_iff.mp hd
    exact ⟨ar, h1, h2⟩
  · have := List.all_eq_true.mp nc y hy
    rw [e] at this; cases this
  · have := List.all_eq_true.mp lo f hf
    exact of_decide_eq_true this
theorem kit_ref {K : Frag} {t C : Addr} {q : Bool} (hne : t ≠ C) (hd : hasDictIn K C = true) (ht : typeIn K (.ref C) = some (.type "type")) (hs : subIn K (.ref t) (.ref C) = some q) : kitOne K (.ref t) (.ref C) = some q := by
  obtain ⟨cd, hc, _⟩ := any_some hd
  unfold kitOne
  rw [if_neg (by simpa using hne)]
  unfold kitCls
  simp [hc, ht, hs]
theorem kit_self {K : Frag} {C : Addr} : kitOne K (.ref C) (.ref C) = some true := by
  unfold kitOne
  rw [if_pos (by simp)]
theorem kit_ve {K : Frag} {t : Addr} (hs : subIn K (.ref t) (.type "ValueError") = some true) : kitOne K (.ref t) (.type "ValueError") = some true := by
  unfold kitOne
  rw [if_neg (by simp)]
  unfold kitCls
  have : kitMeta "ValueError" = true := by decide +kernel
  simp only [this, if_true]
  exact hs
theorem look_mem {α : Type} : ∀ {l : List (String × α)} {x : String} {y : α}, l.lookup x = some y → (x, y) ∈ l
  | [], x, y, h => by simp at h
  | (a, b) :: l, x, y, h => by
    rw [List.lookup_cons] at h
    by_cases e : x = a
    · subst e
      simp at h
      subst h
      simp
    · have : (x == a) = false := by simpa using e
      rw [this] at h
      simp [look_mem h]
/-- a constant of the module -/
theorem gl_str {K : Frag} {h : Heap} {mg : Str → Option Value} (X : K.In h) (G : h.Ns mainGlobals mg) {x s : String} {t : Tok} {d : D} (e : nsIn K mainGlobals (Str.ofString x) = some (some (.str (Str.ofString s) t))) (hd : d = .str (s.toList.map Char.toNat)) (hl : s.toList.length ≤ 1000) : ∃ v u, mg (Str.ofString x) = some u ∧ L2.RelV v u ∧ ∀ F m, Rep K F m d v := by
  subst hd
  exact ⟨.str (Str.ofString s), _, mg_of X G e, ⟨t, rfl⟩, fun F m => rStr' (strLit_ok hl) (strLit s)⟩
theorem gl_int {K : Frag} {h : Heap} {mg : Str → Option Value} (X : K.In h) (G : h.Ns mainGlobals mg) {x : String} {i : Int} {t : Tok} {d : D} (e : nsIn K mainGlobals (Str.ofString x) = some (some (.int i t))) (hd : d = .int i) : ∃ v u, mg (Str.ofString x) = some u ∧ L2.RelV v u ∧ ∀ F m, Rep K F m d v := by
  subst hd
  exact ⟨.int i, _, mg_of X G e, ⟨t, rfl⟩, fun F m => rInt⟩

theorem clsV_inj {mg : Str → Option Value} {z : String} {v w : Value} (h : clsV mg z v) (k : clsV mg z w) : v = w := by
  rcases h with h | ⟨h, hb, _⟩ <;> rcases k with k | ⟨k, kb, _⟩
  · rw [h] at k; cases k; rfl
  · rw [h] at k; cases k
  · rw [h] at k; cases k
  · rw [hb] at kb; cases kb; rfl
/-- all that is told of an exception's class -/
structure ClsOk (P : Program) (K : Frag) (mg : Str → Option Value) (isn cs : List String) (c : String) (xd : Xd) (C : Addr) (cd : ClassData) : Prop where
  tx : XTxt P K mg c xd.fs C cd
  xq : XqOk K mg isn C xd
  cat : ∀ z ∈ cs, ∃ v, clsV mg z v ∧ exmOne K (.ref C) v = some (xd.mro.contains z)
/-- one class by which another is asked for -/
theorem kz_ref {K : Frag} {h : Heap} {mg : Str → Option Value} (X : K.In h) (G : h.Ns mainGlobals mg) {z : String} {C Z : Addr} {q : Bool} (a : nsIn K mainGlobals (Str.ofString z) = some (some (.ref Z))) (hne : (C == Z) = false) (hd : hasDictIn K Z = true) (ht : typeIn K (.ref Z) = some (.type "type")) (hs : subIn K (.ref C) (.ref Z) = some q) : ∃ v, clsV mg z v ∧ isCls v ∧ kitOne K (.ref C) v = some q :=
  ⟨_, .inl (mg_of X G a), .inr ⟨_, rfl⟩, kit_ref (by simpa using hne) hd ht hs⟩
theorem kz_self {K : Frag} {h : Heap} {mg : Str → Option Value} (X : K.In h) (G : h.Ns mainGlobals mg) {z : String} {C : Addr} (a : nsIn K mainGlobals (Str.ofString z) = some (some (.ref C))) : ∃ v, clsV mg z v ∧ isCls v ∧ kitOne K (.ref C) v = some true :=
  ⟨_, .inl (mg_of X G a), .inr ⟨_, rfl⟩, kit_self⟩
theorem kz_ve {K : Frag} {h : Heap} {mg : Str → Option Value} (X : K.In h) (G : h.Ns mainGlobals mg) {C : Addr} (a : nsIn K mainGlobals (Str.ofString "ValueError") = some none) (hs : subIn K (.ref C) (.type "ValueError") = some true) : ∃ v, clsV mg "ValueError" v ∧ isCls v ∧ kitOne K (.ref C) v = some true :=
  ⟨_, .inr ⟨mg_none_of X G a, (by kernel_rfl), by decide +kernel⟩, .inl ⟨_, rfl⟩, kit_ve hs⟩
theorem cz_ref {K : Frag} {h : Heap} {mg : Str → Option Value} (X : K.In h) (G : h.Ns mainGlobals mg) {z : String} {C Z : Addr} {q : Bool} (a : nsIn K mainGlobals (Str.ofString z) = some (some (.ref Z))) (hb : subIn K (.ref Z) (.type "BaseException") = some true) (hd : hasDictIn K Z = true) (ht : typeIn K (.ref Z) = some (.type "type")) (hs : subIn K (.ref C) (.ref Z) = some q) : ∃ v, clsV mg z v ∧ exmOne K (.ref C) v = some q :=
  ⟨_, .inl (mg_of X G a), exm_ref hb hd ht hs⟩
theorem cl_mk {P : Program} {K : Frag} {mg : Str → Option Value} {isn cs : List String} {c : String} {xd : Xd} {C : Addr} (T : ∃ cd, XTxt P K mg c xd.fs C cd)
    (ga : findIn K (.ref C) "__getattribute__" = some (some (.builtin "BaseException.__getattribute__"))) (gg : findIn K (.ref C) "__getattr__" = some none) (hd : hasDictIn K C = true) (ha : findIn K (.ref C) "__class__" = some (some (.builtin "object.__class__")))
    (hn : specialIn K (.builtin "object.__class__") "__get__" = some (some (.builtin "getset_descriptor.__get__"))) (ht : takesIn K (.builtin "object.__class__") = some true) (hm : mroIn K C (.type "object") = some true)
    (kit : ∀ z ∈ isn, ∃ v, clsV mg z v ∧ isCls v ∧ kitOne K (.ref C) v = some (xd.mro.contains z)) (cat : ∀ z ∈ cs, ∃ v, clsV mg z v ∧ exmOne K (.ref C) v = some (xd.mro.contains z)) : ∃ C cd, ClsOk P K mg isn cs c xd C cd := by
  obtain ⟨cd, T⟩ := T
  exact ⟨C, cd, T, ⟨⟨ga, gg, T.exC, hd, ha, hn, ht, hm⟩, ⟨ga, gg, T.exC, hd⟩, T.noF, kit⟩, cat⟩
theorem mf_mk {P : Program} {L : Lw} {K : Frag} {mg : Str → Option Value} (blt : ∀ x ∈ bltNames, mg (Str.ofString x) = none) (glob : ∀ x d, x ∈ L.gl → L.prog.glob x = some d → ∃ v u, mg (Str.ofString x) = some u ∧ L2.RelV v u ∧ ∀ F m, Rep K F m d v)
    (cls : ∀ x xd, L.prog.exc x = some xd → ∃ C cd, ClsOk P K mg L.isn L.cs x xd C cd) (cv : ∀ c ∈ L.cs, ∃ v, clsV mg c v) (xs : ∀ c n, (c, n) ∈ L.xs → ∃ xd, L.prog.exc c = some xd ∧ xd.fs.length = n) (defs : ∀ d ∈ L.defs, ∃ a fdt, DFact K mg d a fdt)
    (names : ∀ d ∈ L.defs, L.prog.defs d.name = some d.fd) : MFact L P K mg where
  blt := blt
  glob := glob
  exc := fun c n hc => by
    obtain ⟨xd, h1, h2⟩ := xs c n hc
    obtain ⟨C, cd, T⟩ := cls c xd h1
    exact ⟨xd, h1, h2, fun X eP eK em _ hr => x_ok (by rw [eP, eK, em]; exact T.tx) hr⟩
  xcl := fun x xd D h hD => by
    obtain ⟨C, cd, T⟩ := cls x xd h
    have := T.tx.gC
    rw [hD] at this
    cases this
    exact T.xq
  cat := fun c hc => by
    obtain ⟨v, hv⟩ := cv c hc
    refine ⟨v, hv, fun x xd D h hD => ?_⟩
    obtain ⟨C, cd, T⟩ := cls x xd h
    have := T.tx.gC
    rw [hD] at this
    cases this
    obtain ⟨w, hw, e⟩ := T.cat c hc
    rw [clsV_inj hv hw]
    exact e
  defs := defs
  names := names
end T
set_option Elab.async false
set_option linter.all false
set_option autoImplicit false
set_option maxRecDepth 100000
set_option maxHeartbeats 4000000
/-! # T19: the laws' own draw -/
namespace T
def d__law_draw : Fd := ⟨1, 3, (.cons (.set 1 (.lc true (.var 2) (.nm 2) (.val (.var 0)) .no [("_law_cell", 2)])) (.cons (.ret (.lst false (.cons (.var 1) (.cons (.int 0) (.cons (.int 0) (.cons (.int 0) (.cons (.int 0) (.cons (.bin .add true (.bin .mod true (.bi .int true (.cons (.bi .sum true (.cons (.var 1) .nil)) .nil)) (.int 1000003)) (.bin .mul true (.int 7) (.bi .len true (.cons (.var 1) .nil)))) .nil)))))))) .nil))⟩
def d__law_mix : Fd := ⟨2, 4, (.cons (.set 2 (.bin .mod true (.bi .int true (.cons (.bin .add true (.bin .add true (.bin .mul true (.var 0) (.int 48271)) (.bin .mul true (.var 1) (.int 69621))) (.int 12345)) .nil)) (.int 2147483647))) (.cons (.set 3 (.bin .mod true (.bi .int true (.cons (.bin .add true (.bin .add true (.bin .mul true (.var 2) (.var 2)) (.bin .mul true (.var 1) (.int 7919))) (.var 0)) .nil)) (.int 998244353))) (.cons (.set 3 (.bin .mod true (.bi .int true (.cons (.bin .add true (.bin .mul true (.var 3) (.var 3)) (.var 2)) .nil)) (.int 1000000007))) (.cons (.ret (.bin .fdiv true (.var 3) (.int 8))) .nil))))⟩
def d__law_pick : Fd := ⟨2, 5, (.cons (.ifs (.cmp .lt (.var 1) (.int 2)) (.cons (.ret (.int 0)) .nil) .nil) (.cons (.ifs (.and (.cons (.cmp .eq (.idx (.var 0) (.int 2)) (.int 0)) (.cons (.cmp .lt (.idx (.var 0) (.int 1)) (.bi .len true (.cons (.idx (.var 0) (.int 0)) .nil))) (.cons (.cmp .eq (.idx (.var 0) (.int 3)) (.int 0)) .nil)))) (.cons (.set 2 (.idx (.idx (.var 0) (.int 0)) (.idx (.var 0) (.int 1)))) (.cons (.ifs (.or (.cons (.cmp .ge (.var 2) (.bin .pow true (.int 10) (.int 18))) (.cons (.cmp .le (.var 2) (.neg (.bin .pow true (.int 10) (.int 18)))) .nil))) (.cons (.sub (.var 0) (.int 2) (.bin .mod true (.bi .int true (.cons (.bi .abs true (.cons (.var 2) .nil)) .nil)) (.bin .pow true (.bin .pow true (.int 10) (.int 60)) (.int 64)))) (.cons (.sub (.var 0) (.int 1) (.bin .add true (.idx (.var 0) (.int 1)) (.int 1))) .nil)) .nil) .nil)) .nil) (.cons (.ifs (.cmp .gt (.idx (.var 0) (.int 2)) (.int 0)) (.cons (.set 3 (.bin .mod true (.bi .int true (.cons (.idx (.var 0) (.int 2)) .nil)) (.var 1))) (.cons (.sub (.var 0) (.int 2) (.bin .fdiv true (.idx (.var 0) (.int 2)) (.var 1))) (.cons (.ret (.var 3)) .nil))) .nil) (.cons (.ifs (.cmp .lt (.idx (.var 0) (.int 1)) (.bi .len true (.cons (.idx (.var 0) (.int 0)) .nil))) (.cons (.set 2 (.idx (.idx (.var 0) (.int 0)) (.idx (.var 0) (.int 1)))) (.cons (.sub (.var 0) (.int 3) (.bin .add true (.idx (.var 0) (.int 3)) (.int 1))) (.cons (.set 4 (.bin .mod true (.bi .int true (.cons (.call "_law_mix" (.cons (.bin .add true (.var 2) (.bin .mul true (.int 31) (.idx (.var 0) (.int 1)))) (.cons (.idx (.var 0) (.int 3)) .nil))) .nil)) (.var 1))) (.cons (.ifs (.cmp .eq (.idx (.var 0) (.int 3)) (.int 6)) (.cons (.sub (.var 0) (.int 3) (.int 0)) (.cons (.sub (.var 0) (.int 1) (.bin .add true (.idx (.var 0) (.int 1)) (.int 1))) .nil)) .nil) (.cons (.ret (.var 4)) .nil))))) .nil) (.cons (.sub (.var 0) (.int 4) (.bin .add true (.idx (.var 0) (.int 4)) (.int 1))) (.cons (.ret (.bin .mod true (.bi .int true (.cons (.call "_law_mix" (.cons (.idx (.var 0) (.int 5)) (.cons (.bin .add true (.idx (.var 0) (.int 4)) (.int 100)) .nil))) .nil)) (.var 1))) .nil))))))⟩
/-- the draw's state -/
structure Drw where
  cells : List Int
  pos : Nat
  big : Int
  turn : Int
  extra : Int
  seed : Int
def Drw.O (d : Drw) : O := .lst [.lst (d.cells.map D.int), .int d.pos, .int d.big, .int d.turn, .int d.extra, .int d.seed]
structure Drw.Ok (d : Drw) : Prop where
  big : 0 ≤ d.big
  turn : 0 ≤ d.turn
theorem gc_same {n : Nat} {d : D} {st : Store} (h : st.length = n) : gc n d st = .ok d st := by
  unfold gc
  have : st.take n = st := by rw [← h]; exact List.take_length
  rw [this]; split <;> rfl
def mixI (c t : Int) : Int :=
  let one := (c * 48271 + t * 69621 + 12345) % 2147483647
  let two := (one * one + t * 7919 + c) % 998244353
  ((two * two + one) % 1000000007) / 8
theorem mulOk_r {i j : Int} (h1 : -(2 ^ 64) < j) (h2 : j < 2 ^ 64) : mulOk i j = true := by
  rw [← c64_v] at h1 h2
  unfold mulOk; simp only [Bool.or_eq_true, decide_eq_true_eq]; exact .inr ⟨h1, h2⟩
theorem mulOk_l {i j : Int} (h1 : -(2 ^ 64) < i) (h2 : i < 2 ^ 64) : mulOk i j = true := by
  rw [← c64_v] at h1 h2
  unfold mulOk; simp only [Bool.or_eq_true, decide_eq_true_eq]; exact .inl (.inr ⟨h1, h2⟩)
theorem b_mulr {fz : Bool} {i j : Int} {st : Store} (h1 : -18446744073709551616 < j) (h2 : j < 18446744073709551616) : binop .mul fz (.int i) (.int j) st = .ok (.int (i * j)) st := by
  show (if mulOk i j = true then R.ok (D.int (i * j)) st else R.bad) = _
  rw [if_pos (mulOk_r (by omega) (by omega))]
theorem b_mull {fz : Bool} {i j : Int} {st : Store} (h1 : -18446744073709551616 < i) (h2 : i < 18446744073709551616) : binop .mul fz (.int i) (.int j) st = .ok (.int (i * j)) st := by
  show (if mulOk i j = true then R.ok (D.int (i * j)) st else R.bad) = _
  rw [if_pos (mulOk_l (by omega) (by omega))]
theorem b_add {fz : Bool} {i j : Int} {st : Store} : binop .add fz (.int i) (.int j) st = .ok (.int (i + j)) st := rfl
theorem b_sub {fz : Bool} {i j : Int} {st : Store} : binop .sub fz (.int i) (.int j) st = .ok (.int (i - j)) st := rfl
theorem b_mod {fz : Bool} {i j : Int} {st : Store} (h : 0 < j) : binop .mod fz (.int i) (.int j) st = .ok (.int (i % j)) st := by
  show (if 0 < j then R.ok (D.int (i % j)) st else R.bad) = _
  rw [if_pos h]
theorem b_fdiv {fz : Bool} {i j : Int} {st : Store} (h : 0 < j) (h2 : j < 1073741824) : binop .fdiv fz (.int i) (.int j) st = .ok (.int (i / j)) st := by
  show (if 0 < j ∧ j < c30 then R.ok (D.int (i / j)) st else R.bad) = _
  rw [if_pos ⟨h, by rw [c30_v]; exact h2⟩]

/-! ### the evaluator, step by step -/
section
variable {α β : Type}
theorem R.bind_c {r r' : R α} {f : α → Store → R β} (h : r = r') : r.bind f = r'.bind f := by rw [h]
theorem R.then_c {r r' : R α} {env : Ev} {f : α → Store → SR} (h : r = r') : r.then env f = r'.then env f := by rw [h]
theorem SR.seq_c {r r' : SR} {f : Ev → Store → SR} (h : r = r') : r.seq f = r'.seq f := by rw [h]

theorem bind_ok {a : α} {st : Store} {f : α → Store → R β} : (R.ok a st).bind f = f a st := rfl
theorem then_ok {a : α} {st : Store} {env : Ev} {f : α → Store → SR} : (R.ok a st).then env f = f a st := rfl
theorem seq_nx {env : Ev} {st : Store} {f : Ev → Store → SR} : (SR.nx env st).seq f = f env st := rfl
theorem seq_rt {d : D} {st : Store} {f : Ev → Store → SR} : (SR.rt d st).seq f = .rt d st := rfl
theorem bind_ex {x : Exn} {st : Store} {f : α → Store → R β} : (R.ex x st : R α).bind f = .ex x st := rfl
theorem then_ex {x : Exn} {st : Store} {env : Ev} {f : α → Store → SR} : (R.ex x st : R α).then env f = .ex x env st := rfl
theorem seq_ex {x : Exn} {env : Ev} {st : Store} {f : Ev → Store → SR} : (SR.ex x env st).seq f = .ex x env st := rfl
theorem seq_bk {env : Ev} {st : Store} {f : Ev → Store → SR} : (SR.bk env st).seq f = .bk env st := rfl
theorem seq_ct {env : Ev} {st : Store} {f : Ev → Store → SR} : (SR.ct env st).seq f = .ct env st := rfl
theorem fin_rt {n : Nat} {d : D} {st : Store} (h : st.length = n) : fin n (.rt d st) = .ok d st := gc_same h
theorem fin_nx {n : Nat} {env : Ev} {st : Store} (h : st.length = n) : fin n (.nx env st) = .ok .non st := gc_same h
theorem cx_call {P : Prog} {c : String → List D → Store → R D} : (P.cx c).call = c := rfl
theorem cx_glob {P : Prog} {c : String → List D → Store → R D} : (P.cx c).glob = P.glob := rfl
theorem tr_bl {b : Bool} {st : Store} : truthy st (.bl b) = some b := rfl
theorem bi_int {fz : Bool} {i : Int} {st : Store} : builtin .int fz [.int i] st = .ok (.int i) st := rfl
theorem bi_abs {fz : Bool} {i : Int} {st : Store} : builtin .abs fz [.int i] st = .ok (.int (if i < 0 then -i else i)) st := rfl
theorem bi_lenL {fz : Bool} {l : List D} {st : Store} : builtin .len fz [.lst l] st = .ok (.int l.length) st := rfl
theorem bi_lenS {fz : Bool} {l : List Nat} {st : Store} : builtin .len fz [.str l] st = .ok (.int l.length) st := rfl
theorem c_lt {i j : Int} {st : Store} : cmpop .lt (.int i) (.int j) st = some (decide (i < j)) := rfl
theorem c_le {i j : Int} {st : Store} : cmpop .le (.int i) (.int j) st = some (decide (i ≤ j)) := rfl
theorem c_gt {i j : Int} {st : Store} : cmpop .gt (.int i) (.int j) st = some (decide (j < i)) := rfl
theorem c_ge {i j : Int} {st : Store} : cmpop .ge (.int i) (.int j) st = some (decide (j ≤ i)) := rfl
theorem c_eqI {i j : Int} {st : Store} : cmpop .eq (.int i) (.int j) st = some (decide (i = j)) := by
  show eqD st (.int i) (.int j) = _
  have : (PySem.PyData.int i).depth ≤ 64 ∧ (PySem.PyData.int j).depth ≤ 64 := by constructor <;> (simp [PySem.PyData.depth])
  show (if (PySem.PyData.int i).depth ≤ 64 ∧ (PySem.PyData.int j).depth ≤ 64 then some (PySem.PyData.eqv (.int i) (.int j)) else none) = _
  rw [if_pos this]
  congr 1
theorem ofO_some {a : α} {st : Store} : ofO (some a) st = .ok a st := rfl
theorem p18 {fz : Bool} {st : Store} : binop .pow fz (.int 10) (.int 18) st = .ok (.int (10 ^ 18)) st := by
  show (if (0 : Int) ≤ 18 ∧ (((10 : Int).natAbs.log2 : Int) + 1) * 18 ≤ c27 then R.ok (D.int (10 ^ (18 : Int).toNat)) st else R.bad) = _
  rw [if_pos (by rw [c27_v]; decide)]; rfl
theorem p60 {fz : Bool} {st : Store} : binop .pow fz (.int 10) (.int 60) st = .ok (.int (10 ^ 60)) st := by
  show (if (0 : Int) ≤ 60 ∧ (((10 : Int).natAbs.log2 : Int) + 1) * 60 ≤ c27 then R.ok (D.int (10 ^ (60 : Int).toNat)) st else R.bad) = _
  rw [if_pos (by rw [c27_v]; decide)]; rfl
theorem p64 {fz : Bool} {st : Store} : binop .pow fz (.int (10 ^ 60)) (.int 64) st = .ok (.int ((10 ^ 60) ^ 64)) st := by
  show (if (0 : Int) ≤ 64 ∧ (((10 ^ 60 : Int).natAbs.log2 : Int) + 1) * 64 ≤ c27 then R.ok (D.int ((10 ^ 60) ^ (64 : Int).toNat)) st else R.bad) = _
  rw [if_pos (by rw [c27_v]; decide +kernel)]; rfl
end
theorem mix_ok {P : Prog} (h : P.defs "_law_mix" = some d__law_mix) (n : Nat) (c t : Int) (st : Store) : run P (n + 1) "_law_mix" [.int c, .int t] st = .ok (.int (mixI c t)) st := by
  rw [run, h]
  simp only [d__law_mix, List.length_cons, List.length_nil, if_true, T.start, List.map_cons, List.map_nil, Nat.reduceAdd, Nat.reduceSub, List.replicate, List.cons_append, List.nil_append]
  have l1 : ∀ {i m : Int}, 0 < m → m < 2 ^ 60 → -18446744073709551616 < i % m ∧ i % m < 18446744073709551616 := fun {i m} h1 h2 => by
    have a := Int.emod_nonneg i (Int.ne_of_gt h1)
    have b := Int.emod_lt_of_pos i h1
    omega
  have m4 : ∀ {fz : Bool} {i : Int} {st : Store}, binop .mul fz (.int (i % 2147483647)) (.int (i % 2147483647)) st = .ok (.int (i % 2147483647 * (i % 2147483647))) st := fun {fz i st} => b_mulr (l1 (by decide) (by decide)).1 (l1 (by decide) (by decide)).2
  have m5 : ∀ {fz : Bool} {i : Int} {st : Store}, binop .mul fz (.int (i % 998244353)) (.int (i % 998244353)) st = .ok (.int (i % 998244353 * (i % 998244353))) st := fun {fz i st} => b_mulr (l1 (by decide) (by decide)).1 (l1 (by decide) (by decide)).2
  simp only [evSs, evS, evE, evA, evAnd, evOr, evO, evP, bind_ok, then_ok, seq_nx, seq_rt, bind_ex, then_ex, seq_ex, seq_bk, seq_ct, cx_call, cx_glob, tr_bl, bi_int, bi_abs, bi_lenL, bi_lenS, b_add, b_sub, c_lt, c_le, c_gt, c_ge, c_eqI, ofO_some, Option.map_some, List.getElem?_cons_succ, List.getElem?_cons_zero, List.set_cons_succ, List.set_cons_zero, Int.reduceLT, Int.reduceLE, Int.reduceNeg, b_mod, b_fdiv, b_mulr, b_mull, m4, m5]
  rw [fin_rt rfl]
  rfl

theorem seq_nx' {Γ : Cx} {s : S} {ss : Ss} {env env' : Ev} {st st' : Store} (h : evS Γ s env st = .nx env' st') : evSs Γ (.cons s ss) env st = evSs Γ ss env' st' := by rw [evSs, h]; rfl
theorem seq_rt' {Γ : Cx} {s : S} {ss : Ss} {env : Ev} {st st' : Store} {d : D} (h : evS Γ s env st = .rt d st') : evSs Γ (.cons s ss) env st = .rt d st' := by rw [evSs, h]; rfl
theorem ix_ref {k : Nat} {ds : List D} {i : Int} {st : Store} (h : st[k]? = some (.lst ds)) : index (.ref k) (.int i) st = ofO (L2.atI ds i) st := by rw [index_ref, h]
theorem ix_lst {ds : List D} {i : Int} {st : Store} : index (.lst ds) (.int i) st = ofO (L2.atI ds i) st := rfl
theorem six_ref {k : Nat} {ds : List D} {i : Int} {j : Nat} {v : D} {st : Store} (h : st[k]? = some (.lst ds)) (hj : L2.ixN ds.length i = some j) : setIx (.ref k) (.int i) v st = .ok () (st.set k (.lst (ds.set j v))) := by
  unfold setIx
  simp only [h, hj]
theorem at_nat {ds : List D} {i : Nat} (h : i < ds.length) : L2.atI ds (i : Int) = some ds[i] := by
  unfold L2.atI L2.ixN
  rw [if_pos (by omega), if_pos (by omega)]
  show ds[((i : Nat) : Int).toNat]? = _
  rw [Int.toNat_natCast]
  exact List.getElem?_eq_getElem h
section
variable {a b c d e f v : D}
theorem at60 : L2.atI [a, b, c, d, e, f] 0 = some a := rfl
theorem at61 : L2.atI [a, b, c, d, e, f] 1 = some b := rfl
theorem at62 : L2.atI [a, b, c, d, e, f] 2 = some c := rfl
theorem at63 : L2.atI [a, b, c, d, e, f] 3 = some d := rfl
theorem at64 : L2.atI [a, b, c, d, e, f] 4 = some e := rfl
theorem at65 : L2.atI [a, b, c, d, e, f] 5 = some f := rfl
end

theorem cell_at {cs : List Int} {i : Nat} (h : i < cs.length) : L2.atI (cs.map D.int) (i : Int) = some (.int cs[i]) := by
  rw [at_nat (by simpa using h)]
  simp
def Drw.L (d : Drw) : List D := [.lst (d.cells.map D.int), .int d.pos, .int d.big, .int d.turn, .int d.extra, .int d.seed]
theorem six6 {i : Int} {j : Nat} {k : Nat} {v a b c d e f : D} {st : Store} (h : st[k]? = some (.lst [a, b, c, d, e, f])) (hj : L2.ixN 6 i = some j) : setIx (.ref k) (.int i) v st = .ok () (st.set k (.lst ([a, b, c, d, e, f].set j v))) := six_ref h hj
theorem set_same {k : Nat} {o : O} {st : Store} (h : st[k]? = some o) : st.set k o = st := by
  apply List.ext_getElem?
  intro i
  by_cases e : k = i
  · subst e
    rw [List.getElem?_set_self (List.getElem?_eq_some_iff.mp h).1, h]
  · rw [List.getElem?_set_ne e]
def Ss.drop : Nat → Ss → Ss
  | 0, ss => ss
  | _ + 1, .nil => .nil
  | n + 1, .cons _ ss => ss.drop n
/-- what the picker gives -/
structure Picked (P : Prog) (n k : Nat) (d : Drw) (many : Int) (st : Store) : Prop where
  ex : ∃ (r : Int) (d' : Drw), d'.cells = d.cells ∧ d'.Ok ∧ d'.seed = d.seed ∧ (0 ≤ r ∧ (r < many ∨ r = 0)) ∧ run P n "_law_pick" [.ref k, .int many] st = .ok (.int r) (st.set k d'.O)
theorem ev_if {Γ : Cx} {t : E} {p q : Ss} {env : Ev} {st : Store} {b : Bool} (h : evE Γ t env st = .ok (.bl b) st) : evS Γ (.ifs t p q) env st = if b = true then evSs Γ p env st else evSs Γ q env st := by
  rw [evS, h]
  cases b <;> rfl
theorem pick_rest {P : Prog} (h1 : P.defs "_law_mix" = some d__law_mix) {n k : Nat} {d : Drw} (ok : d.Ok) {many : Int} (hm0 : ¬ many < 2) (hm : many < 1073741824) {st : Store} (hk : st[k]? = some d.O) (x : Option D) :
    ∃ (r : Int) (d' : Drw), d'.cells = d.cells ∧ d'.Ok ∧ d'.seed = d.seed ∧ (0 ≤ r ∧ (r < many ∨ r = 0)) ∧ evSs (P.cx (run P (n + 1))) (d__law_pick.body.drop 2) [some (.ref k), some (.int many), x, none, none] st = .rt (.int r) (st.set k d'.O) := by
  have hlen : k < st.length := (List.getElem?_eq_some_iff.mp hk).1
  have hk' : st[k]? = some (.lst [.lst (d.cells.map D.int), .int d.pos, .int d.big, .int d.turn, .int d.extra, .int d.seed]) := hk
  have m0 : 0 < many := by omega
  have md : ∀ i : Int, 0 ≤ i % many ∧ (i % many < many ∨ i % many = 0) := fun i => ⟨Int.emod_nonneg _ (by omega), .inl (Int.emod_lt_of_pos _ m0)⟩
  have i2 : ∀ {a b c d e f v : D}, [a, b, c, d, e, f].set 2 v = [a, b, v, d, e, f] := rfl
  have six : ∀ {v : D}, setIx (.ref k) (.int 2) v st = .ok () (st.set k (.lst [.lst (d.cells.map D.int), .int d.pos, v, .int d.turn, .int d.extra, .int d.seed])) := fun {v} => six6 (j := 2) hk' rfl
  show ∃ (r : Int) (d' : Drw), d'.cells = d.cells ∧ d'.Ok ∧ d'.seed = d.seed ∧ (0 ≤ r ∧ (r < many ∨ r = 0)) ∧ evSs (P.cx (run P (n + 1))) (.cons _ (.cons _ _)) [some (.ref k), some (.int many), x, none, none] st = .rt (.int r) (st.set k d'.O)
  by_cases c1 : 0 < d.big
  · refine ⟨d.big % many, { d with big := d.big / many }, rfl, ⟨Int.ediv_nonneg ok.big (by omega), ok.turn⟩, rfl, md _, ?_⟩
    refine seq_rt' ?_
    rw [ev_if (b := true) (by simp only [evSs, evS, evE, evA, evAnd, evOr, evO, evP, bind_ok, then_ok, seq_nx, seq_rt, bind_ex, then_ex, seq_ex, seq_bk, seq_ct, cx_call, cx_glob, tr_bl, bi_int, bi_abs, bi_lenL, bi_lenS, b_add, b_sub, c_lt, c_le, c_gt, c_ge, c_eqI, ofO_some, Option.map_some, List.getElem?_cons_succ, List.getElem?_cons_zero, List.set_cons_succ, List.set_cons_zero, Int.reduceLT, Int.reduceLE, Int.reduceNeg, b_mod, b_fdiv, b_mulr, b_mull, ix_ref hk', at62, c1, decide_true]), if_pos rfl]
    simp only [evSs, evS, evE, evA, evAnd, evOr, evO, evP, bind_ok, then_ok, seq_nx, seq_rt, bind_ex, then_ex, seq_ex, seq_bk, seq_ct, cx_call, cx_glob, tr_bl, bi_int, bi_abs, bi_lenL, bi_lenS, b_add, b_sub, c_lt, c_le, c_gt, c_ge, c_eqI, ofO_some, Option.map_some, List.getElem?_cons_succ, List.getElem?_cons_zero, List.set_cons_succ, List.set_cons_zero, Int.reduceLT, Int.reduceLE, Int.reduceNeg, b_mod, b_fdiv, b_mulr, b_mull, ix_ref hk', at62, b_mod m0, b_fdiv m0 hm, six]
    rfl
  · have nx1 : ∀ {ss : Ss} {r : SR}, evSs (P.cx (run P (n + 1))) ss [some (.ref k), some (.int many), x, none, none] st = r → evSs (P.cx (run P (n + 1))) (.cons (.ifs (.cmp .gt (.idx (.var 0) (.int 2)) (.int 0)) (.cons (.set 3 (.bin .mod true (.bi .int true (.cons (.idx (.var 0) (.int 2)) .nil)) (.var 1))) (.cons (.sub (.var 0) (.int 2) (.bin .fdiv true (.idx (.var 0) (.int 2)) (.var 1))) (.cons (.ret (.var 3)) .nil))) .nil) ss) [some (.ref k), some (.int many), x, none, none] st = r := fun h =>
      (seq_nx' (by rw [ev_if (b := false) (by simp only [evSs, evS, evE, evA, evAnd, evOr, evO, evP, bind_ok, then_ok, seq_nx, seq_rt, bind_ex, then_ex, seq_ex, seq_bk, seq_ct, cx_call, cx_glob, tr_bl, bi_int, bi_abs, bi_lenL, bi_lenS, b_add, b_sub, c_lt, c_le, c_gt, c_ge, c_eqI, ofO_some, Option.map_some, List.getElem?_cons_succ, List.getElem?_cons_zero, List.set_cons_succ, List.set_cons_zero, Int.reduceLT, Int.reduceLE, Int.reduceNeg, b_mod, b_fdiv, b_mulr, b_mull, ix_ref hk', at62, c1, decide_false]), if_neg Bool.false_ne_true, evSs])).trans h
    have hk2 : ∀ {o : O}, (st.set k o)[k]? = some o := fun {o} => List.getElem?_set_self hlen
    have ixs : ∀ (ds : List D) (i : Int), index (.ref k) (.int i) (st.set k (.lst ds)) = ofO (L2.atI ds i) (st.set k (.lst ds)) := fun ds i => ix_ref hk2
    have sx : ∀ (ds : List D) (i : Int) (j : Nat) (v : D), L2.ixN ds.length i = some j → setIx (.ref k) (.int i) v (st.set k (.lst ds)) = .ok () (st.set k (.lst (ds.set j v))) := fun ds i j v h => by
      rw [six_ref hk2 h, List.set_set]
    have s0 : ∀ (i : Int) (j : Nat) (v : D), L2.ixN 6 i = some j → setIx (.ref k) (.int i) v st = .ok () (st.set k (.lst (d.L.set j v))) := fun i j v h => six_ref hk' h
    by_cases c2 : d.pos < d.cells.length
    · have c2' : ((d.pos : Int) < (d.cells.map D.int).length) := by simpa using c2
      have a3 : ∀ v, setIx (.ref k) (.int 3) v st = .ok () (st.set k (.lst [.lst (d.cells.map D.int), .int d.pos, .int d.big, v, .int d.extra, .int d.seed])) := fun v => s0 3 3 v rfl
      have a30 : ∀ (a b c d e f v : D), setIx (.ref k) (.int 3) v (st.set k (.lst [a, b, c, d, e, f])) = .ok () (st.set k (.lst [a, b, c, v, e, f])) := fun a b c d e f v => sx _ 3 3 v rfl
      have a10 : ∀ (a b c d e f v : D), setIx (.ref k) (.int 1) v (st.set k (.lst [a, b, c, d, e, f])) = .ok () (st.set k (.lst [a, v, c, d, e, f])) := fun a b c d e f v => sx _ 1 1 v rfl
      by_cases c3 : d.turn + 1 = 6
      · refine ⟨mixI (d.cells[d.pos] + 31 * d.pos) (d.turn + 1) % many, { d with turn := 0, pos := d.pos + 1 }, rfl, ⟨ok.big, Int.le_refl _⟩, rfl, md _, ?_⟩
        refine nx1 ?_
        refine seq_rt' ?_
        rw [ev_if (b := true) (by simp only [evSs, evS, evE, evA, evAnd, evOr, evO, evP, bind_ok, then_ok, seq_nx, seq_rt, bind_ex, then_ex, seq_ex, seq_bk, seq_ct, cx_call, cx_glob, tr_bl, bi_int, bi_abs, bi_lenL, bi_lenS, b_add, b_sub, c_lt, c_le, c_gt, c_ge, c_eqI, ofO_some, Option.map_some, List.getElem?_cons_succ, List.getElem?_cons_zero, List.set_cons_succ, List.set_cons_zero, Int.reduceLT, Int.reduceLE, Int.reduceNeg, b_mod, b_fdiv, b_mulr, b_mull, ix_ref hk', at60, at61, c2', decide_true]), if_pos rfl]
        simp only [evSs, evS, evE, evA, evAnd, evOr, evO, evP, bind_ok, then_ok, seq_nx, seq_rt, bind_ex, then_ex, seq_ex, seq_bk, seq_ct, cx_call, cx_glob, tr_bl, bi_int, bi_abs, bi_lenL, bi_lenS, b_add, b_sub, c_lt, c_le, c_gt, c_ge, c_eqI, ofO_some, Option.map_some, List.getElem?_cons_succ, List.getElem?_cons_zero, List.set_cons_succ, List.set_cons_zero, Int.reduceLT, Int.reduceLE, Int.reduceNeg, b_mod, b_fdiv, b_mulr, b_mull, ix_ref hk', at60, at61, at63, ix_lst, cell_at c2, a3, ixs, mix_ok h1, b_mod m0, c3, decide_true, a30, a10]
        rfl
      · refine ⟨mixI (d.cells[d.pos] + 31 * d.pos) (d.turn + 1) % many, { d with turn := d.turn + 1 }, rfl, ⟨ok.big, by have := ok.turn; show 0 ≤ d.turn + 1; omega⟩, rfl, md _, ?_⟩
        refine nx1 ?_
        refine seq_rt' ?_
        rw [ev_if (b := true) (by simp only [evSs, evS, evE, evA, evAnd, evOr, evO, evP, bind_ok, then_ok, seq_nx, seq_rt, bind_ex, then_ex, seq_ex, seq_bk, seq_ct, cx_call, cx_glob, tr_bl, bi_int, bi_abs, bi_lenL, bi_lenS, b_add, b_sub, c_lt, c_le, c_gt, c_ge, c_eqI, ofO_some, Option.map_some, List.getElem?_cons_succ, List.getElem?_cons_zero, List.set_cons_succ, List.set_cons_zero, Int.reduceLT, Int.reduceLE, Int.reduceNeg, b_mod, b_fdiv, b_mulr, b_mull, ix_ref hk', at60, at61, c2', decide_true]), if_pos rfl]
        simp only [evSs, evS, evE, evA, evAnd, evOr, evO, evP, bind_ok, then_ok, seq_nx, seq_rt, bind_ex, then_ex, seq_ex, seq_bk, seq_ct, cx_call, cx_glob, tr_bl, bi_int, bi_abs, bi_lenL, bi_lenS, b_add, b_sub, c_lt, c_le, c_gt, c_ge, c_eqI, ofO_some, Option.map_some, List.getElem?_cons_succ, List.getElem?_cons_zero, List.set_cons_succ, List.set_cons_zero, Int.reduceLT, Int.reduceLE, Int.reduceNeg, b_mod, b_fdiv, b_mulr, b_mull, ix_ref hk', at60, at61, at63, ix_lst, cell_at c2, a3, ixs, mix_ok h1, b_mod m0, c3, decide_false, a30, a10]
        rfl
    · have c2' : ¬ ((d.pos : Int) < (d.cells.map D.int).length) := by simpa using c2
      have a4 : ∀ v, setIx (.ref k) (.int 4) v st = .ok () (st.set k (.lst [.lst (d.cells.map D.int), .int d.pos, .int d.big, .int d.turn, v, .int d.seed])) := fun v => s0 4 4 v rfl
      refine ⟨mixI d.seed (d.extra + 1 + 100) % many, { d with extra := d.extra + 1 }, rfl, ⟨ok.big, ok.turn⟩, rfl, md _, ?_⟩
      refine nx1 ?_
      refine (seq_nx' (by rw [ev_if (b := false) (by simp only [evSs, evS, evE, evA, evAnd, evOr, evO, evP, bind_ok, then_ok, seq_nx, seq_rt, bind_ex, then_ex, seq_ex, seq_bk, seq_ct, cx_call, cx_glob, tr_bl, bi_int, bi_abs, bi_lenL, bi_lenS, b_add, b_sub, c_lt, c_le, c_gt, c_ge, c_eqI, ofO_some, Option.map_some, List.getElem?_cons_succ, List.getElem?_cons_zero, List.set_cons_succ, List.set_cons_zero, Int.reduceLT, Int.reduceLE, Int.reduceNeg, b_mod, b_fdiv, b_mulr, b_mull, ix_ref hk', at60, at61, c2', decide_false]), if_neg Bool.false_ne_true, evSs])).trans ?_
      simp only [evSs, evS, evE, evA, evAnd, evOr, evO, evP, bind_ok, then_ok, seq_nx, seq_rt, bind_ex, then_ex, seq_ex, seq_bk, seq_ct, cx_call, cx_glob, tr_bl, bi_int, bi_abs, bi_lenL, bi_lenS, b_add, b_sub, c_lt, c_le, c_gt, c_ge, c_eqI, ofO_some, Option.map_some, List.getElem?_cons_succ, List.getElem?_cons_zero, List.set_cons_succ, List.set_cons_zero, Int.reduceLT, Int.reduceLE, Int.reduceNeg, b_mod, b_fdiv, b_mulr, b_mull, ix_ref hk', at64, at65, a4, ixs, mix_ok h1, b_mod m0]
      rfl
theorem pick_ok {P : Prog} (h1 : P.defs "_law_mix" = some d__law_mix) (h2 : P.defs "_law_pick" = some d__law_pick) {n k : Nat} {d : Drw} (ok : d.Ok) {many : Int} (hm : many < 1073741824) {st : Store} (hk : st[k]? = some d.O) : Picked P (n + 2) k d many st := by
  have hlen : k < st.length := (List.getElem?_eq_some_iff.mp hk).1
  have setk : st.set k d.O = st := set_same hk
  have go : ∀ (r : Int) (d' : Drw), evSs (P.cx (run P (n + 1))) d__law_pick.body [some (.ref k), some (.int many), none, none, none] st = .rt (.int r) (st.set k d'.O) → run P (n + 2) "_law_pick" [.ref k, .int many] st = .ok (.int r) (st.set k d'.O) := fun r d' h => by
    rw [run, h2]
    have e : (if [D.ref k, D.int many].length = d__law_pick.np then fin st.length (evSs (P.cx (run P (n + 1))) d__law_pick.body (T.start d__law_pick [.ref k, .int many]) st) else R.bad) = fin st.length (evSs (P.cx (run P (n + 1))) d__law_pick.body [some (.ref k), some (.int many), none, none, none] st) := if_pos rfl
    show (if [D.ref k, D.int many].length = d__law_pick.np then fin st.length (evSs (P.cx (run P (n + 1))) d__law_pick.body (T.start d__law_pick [.ref k, .int many]) st) else R.bad) = _
    rw [e, h]
    exact fin_rt (by simp)
  by_cases c0 : many < 2
  · refine ⟨0, d, rfl, ok, rfl, ⟨Int.le_refl _, .inr rfl⟩, go 0 d ?_⟩
    rw [setk]
    refine seq_rt' ?_
    simp only [evSs, evS, evE, evA, evAnd, evOr, evO, evP, bind_ok, then_ok, seq_nx, seq_rt, bind_ex, then_ex, seq_ex, seq_bk, seq_ct, cx_call, cx_glob, tr_bl, bi_int, bi_abs, bi_lenL, bi_lenS, b_add, b_sub, c_lt, c_le, c_gt, c_ge, c_eqI, ofO_some, Option.map_some, List.getElem?_cons_succ, List.getElem?_cons_zero, List.set_cons_succ, List.set_cons_zero, Int.reduceLT, Int.reduceLE, Int.reduceNeg, b_mod, b_fdiv, b_mulr, b_mull, c0, decide_true]
  · have hk' : st[k]? = some (.lst [.lst (d.cells.map D.int), .int d.pos, .int d.big, .int d.turn, .int d.extra, .int d.seed]) := hk
    have hk2 : ∀ {o : O}, (st.set k o)[k]? = some o := fun {o} => List.getElem?_set_self hlen
    have ixs : ∀ (ds : List D) (i : Int), index (.ref k) (.int i) (st.set k (.lst ds)) = ofO (L2.atI ds i) (st.set k (.lst ds)) := fun ds i => ix_ref hk2
    have sx : ∀ (ds : List D) (i : Int) (j : Nat) (v : D), L2.ixN ds.length i = some j → setIx (.ref k) (.int i) v (st.set k (.lst ds)) = .ok () (st.set k (.lst (ds.set j v))) := fun ds i j v h => by
      rw [six_ref hk2 h, List.set_set]
    have a2 : ∀ v, setIx (.ref k) (.int 2) v st = .ok () (st.set k (.lst [.lst (d.cells.map D.int), .int d.pos, v, .int d.turn, .int d.extra, .int d.seed])) := fun v => six6 (j := 2) hk' rfl
    have a10 : ∀ (a b c d e f v : D), setIx (.ref k) (.int 1) v (st.set k (.lst [a, b, c, d, e, f])) = .ok () (st.set k (.lst [a, v, c, d, e, f])) := fun a b c d e f v => sx _ 1 1 v rfl
    -- behind the second statement
    have fin2 : ∀ (d1 : Drw) (x : Option D), d1.Ok → d1.cells = d.cells → d1.seed = d.seed → evS (P.cx (run P (n + 1))) (.ifs (.and (.cons (.cmp .eq (.idx (.var 0) (.int 2)) (.int 0)) (.cons (.cmp .lt (.idx (.var 0) (.int 1)) (.bi .len true (.cons (.idx (.var 0) (.int 0)) .nil))) (.cons (.cmp .eq (.idx (.var 0) (.int 3)) (.int 0)) .nil)))) (.cons (.set 2 (.idx (.idx (.var 0) (.int 0)) (.idx (.var 0) (.int 1)))) (.cons (.ifs (.or (.cons (.cmp .ge (.var 2) (.bin .pow true (.int 10) (.int 18))) (.cons (.cmp .le (.var 2) (.neg (.bin .pow true (.int 10) (.int 18)))) .nil))) (.cons (.sub (.var 0) (.int 2) (.bin .mod true (.bi .int true (.cons (.bi .abs true (.cons (.var 2) .nil)) .nil)) (.bin .pow true (.bin .pow true (.int 10) (.int 60)) (.int 64)))) (.cons (.sub (.var 0) (.int 1) (.bin .add true (.idx (.var 0) (.int 1)) (.int 1))) .nil)) .nil) .nil)) .nil) [some (.ref k), some (.int many), none, none, none] st = .nx [some (.ref k), some (.int many), x, none, none] (st.set k d1.O) →
        Picked P (n + 2) k d many st := fun d1 x ok1 hc hs h => by
      obtain ⟨r, d', e1, e2, e3, e4, e5⟩ := pick_rest h1 (n := n) ok1 c0 hm (hk2 (o := d1.O)) x
      refine ⟨r, d', e1.trans hc, e2, e3.trans hs, e4, go r d' ?_⟩
      rw [List.set_set] at e5
      refine Eq.trans (seq_nx' ?_) (Eq.trans (seq_nx' h) e5)
      rw [ev_if (b := false) (by simp only [evSs, evS, evE, evA, evAnd, evOr, evO, evP, bind_ok, then_ok, seq_nx, seq_rt, bind_ex, then_ex, seq_ex, seq_bk, seq_ct, cx_call, cx_glob, tr_bl, bi_int, bi_abs, bi_lenL, bi_lenS, b_add, b_sub, c_lt, c_le, c_gt, c_ge, c_eqI, ofO_some, Option.map_some, List.getElem?_cons_succ, List.getElem?_cons_zero, List.set_cons_succ, List.set_cons_zero, Int.reduceLT, Int.reduceLE, Int.reduceNeg, b_mod, b_fdiv, b_mulr, b_mull, c0, decide_false]), if_neg Bool.false_ne_true, evSs]
    by_cases c1 : d.big = 0
    · by_cases c2 : d.pos < d.cells.length
      · have c2' : ((d.pos : Int) < (d.cells.map D.int).length) := by simpa using c2
        by_cases c3 : d.turn = 0
        · by_cases c4 : (10 : Int) ^ 18 ≤ d.cells[d.pos] ∨ d.cells[d.pos] ≤ -(10 : Int) ^ 18
          · refine fin2 { d with big := (if d.cells[d.pos] < 0 then -d.cells[d.pos] else d.cells[d.pos]) % (10 ^ 60) ^ 64, pos := d.pos + 1 } (some (.int d.cells[d.pos])) ⟨Int.emod_nonneg _ (by decide +kernel), ok.turn⟩ rfl rfl ?_
            have pm : (0 : Int) < (10 ^ 60) ^ 64 := by decide +kernel
            rcases c4 with c4 | c4
            · simp only [evSs, evS, evE, evA, evAnd, evOr, evO, evP, bind_ok, then_ok, seq_nx, seq_rt, bind_ex, then_ex, seq_ex, seq_bk, seq_ct, cx_call, cx_glob, tr_bl, bi_int, bi_abs, bi_lenL, bi_lenS, b_add, b_sub, c_lt, c_le, c_gt, c_ge, c_eqI, ofO_some, Option.map_some, List.getElem?_cons_succ, List.getElem?_cons_zero, List.set_cons_succ, List.set_cons_zero, Int.reduceLT, Int.reduceLE, Int.reduceNeg, b_mod, b_fdiv, b_mulr, b_mull, ix_ref hk', at60, at61, at62, at63, c1, c2', c3, decide_true, ix_lst, cell_at c2, p18, p60, p64, c4, b_mod pm, a2, a10, ixs]
              rfl
            · by_cases c5 : (10 : Int) ^ 18 ≤ d.cells[d.pos]
              · simp only [evSs, evS, evE, evA, evAnd, evOr, evO, evP, bind_ok, then_ok, seq_nx, seq_rt, bind_ex, then_ex, seq_ex, seq_bk, seq_ct, cx_call, cx_glob, tr_bl, bi_int, bi_abs, bi_lenL, bi_lenS, b_add, b_sub, c_lt, c_le, c_gt, c_ge, c_eqI, ofO_some, Option.map_some, List.getElem?_cons_succ, List.getElem?_cons_zero, List.set_cons_succ, List.set_cons_zero, Int.reduceLT, Int.reduceLE, Int.reduceNeg, b_mod, b_fdiv, b_mulr, b_mull, ix_ref hk', at60, at61, at62, at63, c1, c2', c3, decide_true, ix_lst, cell_at c2, p18, p60, p64, c5, b_mod pm, a2, a10, ixs]
                rfl
              · simp only [evSs, evS, evE, evA, evAnd, evOr, evO, evP, bind_ok, then_ok, seq_nx, seq_rt, bind_ex, then_ex, seq_ex, seq_bk, seq_ct, cx_call, cx_glob, tr_bl, bi_int, bi_abs, bi_lenL, bi_lenS, b_add, b_sub, c_lt, c_le, c_gt, c_ge, c_eqI, ofO_some, Option.map_some, List.getElem?_cons_succ, List.getElem?_cons_zero, List.set_cons_succ, List.set_cons_zero, Int.reduceLT, Int.reduceLE, Int.reduceNeg, b_mod, b_fdiv, b_mulr, b_mull, ix_ref hk', at60, at61, at62, at63, c1, c2', c3, decide_true, decide_false, ix_lst, cell_at c2, p18, p60, p64, c5, c4, b_mod pm, a2, a10, ixs]
                rfl
          · have c5 : ¬ (10 : Int) ^ 18 ≤ d.cells[d.pos] := fun z => c4 (.inl z)
            have c6 : ¬ d.cells[d.pos] ≤ -(10 : Int) ^ 18 := fun z => c4 (.inr z)
            refine fin2 d (some (.int d.cells[d.pos])) ok rfl rfl ?_
            rw [setk]
            simp only [evSs, evS, evE, evA, evAnd, evOr, evO, evP, bind_ok, then_ok, seq_nx, seq_rt, bind_ex, then_ex, seq_ex, seq_bk, seq_ct, cx_call, cx_glob, tr_bl, bi_int, bi_abs, bi_lenL, bi_lenS, b_add, b_sub, c_lt, c_le, c_gt, c_ge, c_eqI, ofO_some, Option.map_some, List.getElem?_cons_succ, List.getElem?_cons_zero, List.set_cons_succ, List.set_cons_zero, Int.reduceLT, Int.reduceLE, Int.reduceNeg, b_mod, b_fdiv, b_mulr, b_mull, ix_ref hk', at60, at61, at62, at63, c1, c2', c3, decide_true, decide_false, ix_lst, cell_at c2, p18, c5, c6]
        · refine fin2 d none ok rfl rfl ?_
          rw [setk]
          simp only [evSs, evS, evE, evA, evAnd, evOr, evO, evP, bind_ok, then_ok, seq_nx, seq_rt, bind_ex, then_ex, seq_ex, seq_bk, seq_ct, cx_call, cx_glob, tr_bl, bi_int, bi_abs, bi_lenL, bi_lenS, b_add, b_sub, c_lt, c_le, c_gt, c_ge, c_eqI, ofO_some, Option.map_some, List.getElem?_cons_succ, List.getElem?_cons_zero, List.set_cons_succ, List.set_cons_zero, Int.reduceLT, Int.reduceLE, Int.reduceNeg, b_mod, b_fdiv, b_mulr, b_mull, ix_ref hk', at60, at61, at62, at63, c1, c2', c3, decide_true, decide_false]
      · have c2' : ¬ ((d.pos : Int) < (d.cells.map D.int).length) := by simpa using c2
        refine fin2 d none ok rfl rfl ?_
        rw [setk]
        simp only [evSs, evS, evE, evA, evAnd, evOr, evO, evP, bind_ok, then_ok, seq_nx, seq_rt, bind_ex, then_ex, seq_ex, seq_bk, seq_ct, cx_call, cx_glob, tr_bl, bi_int, bi_abs, bi_lenL, bi_lenS, b_add, b_sub, c_lt, c_le, c_gt, c_ge, c_eqI, ofO_some, Option.map_some, List.getElem?_cons_succ, List.getElem?_cons_zero, List.set_cons_succ, List.set_cons_zero, Int.reduceLT, Int.reduceLE, Int.reduceNeg, b_mod, b_fdiv, b_mulr, b_mull, ix_ref hk', at60, at61, at62, at63, c1, c2', decide_true, decide_false]
    · refine fin2 d none ok rfl rfl ?_
      rw [setk]
      simp only [evSs, evS, evE, evA, evAnd, evOr, evO, evP, bind_ok, then_ok, seq_nx, seq_rt, bind_ex, then_ex, seq_ex, seq_bk, seq_ct, cx_call, cx_glob, tr_bl, bi_int, bi_abs, bi_lenL, bi_lenS, b_add, b_sub, c_lt, c_le, c_gt, c_ge, c_eqI, ofO_some, Option.map_some, List.getElem?_cons_succ, List.getElem?_cons_zero, List.set_cons_succ, List.set_cons_zero, Int.reduceLT, Int.reduceLE, Int.reduceNeg, b_mod, b_fdiv, b_mulr, b_mull, ix_ref hk', at60, at61, at62, at63, c1, decide_false]

theorem lc_map {f : D → Store → R (Option D)} {g : D → D} {st : Store} : ∀ (ds acc : List D), (∀ d ∈ ds, f d st = .ok (some (g d)) st) → acc.length + ds.length ≤ lim → lcGo f ds acc st = .ok (acc ++ ds.map g) st
  | [], acc, _, _ => by simp [lcGo]
  | d :: ds, acc, h, hl => by
    rw [lcGo, h d (by simp)]
    simp only [bind_ok]
    have : acc.length < lim := by simp at hl; omega
    rw [if_pos this, lc_map ds (acc ++ [g d]) (fun x hx => h x (by simp [hx])) (by simp at hl ⊢; omega)]
    simp
theorem intsD_map : ∀ l : List Int, intsD (l.map D.int) = some l
  | [] => rfl
  | i :: l => by simp [intsD, intsD_map l]
theorem bi_sumI {fz : Bool} {l : List Int} {st : Store} : builtin .sum fz [.lst (l.map D.int)] st = .ok (.int l.sum) st := by
  show ofO (((asList st (.lst (l.map D.int))).bind intsD).map fun l => D.int l.sum) st = _
  have : (asList st (.lst (l.map D.int))).bind intsD = some l := by
    show intsD (l.map D.int) = some l
    exact intsD_map l
  rw [this]; rfl
def drw0 (ns : List Int) : Drw := ⟨ns, 0, 0, 0, 0, ns.sum % 1000003 + 7 * ns.length⟩
theorem drw0_ok (ns : List Int) : (drw0 ns).Ok := ⟨Int.le_refl _, Int.le_refl _⟩
theorem draw_ok {P : Prog} (h : P.defs "_law_draw" = some d__law_draw) (n : Nat) {ns : List Int} (hl : ns.length ≤ 63) (st : Store) : run P (n + 1) "_law_draw" [.scr (ns.map D.int)] st = .ok (.ref st.length) (st ++ [(drw0 ns).O]) := by
  rw [run, h]
  simp only [d__law_draw, List.length_cons, List.length_nil, if_true, T.start, List.map_cons, List.map_nil, Nat.reduceAdd, Nat.reduceSub, List.replicate, List.cons_append, List.nil_append]
  have hlc : ∀ {Γ : Cx} {y z : Option D}, evE Γ (.lc true (.var 2) (.nm 2) (.val (.var 0)) .no [("_law_cell", 2)]) [some (.scr (ns.map D.int)), y, z] st = .ok (.lst (ns.map D.int)) st := fun {Γ y z} => by
    rw [evE_lc]
    simp only [evIt, evE, List.getElem?_cons_zero, bind_ok]
    rw [lc_map (g := id) (ns.map D.int) [] (fun d _ => ?_) (by simp; rw [lim_v]; omega)]
    · simp [noX, newL]
    · simp [lcF, bindT, wipeE, evC, evE]
  simp only [evSs, evS]
  rw [hlc]
  simp only [evSs, evS, evE, evA, evAnd, evOr, evO, evP, bind_ok, then_ok, seq_nx, seq_rt, bind_ex, then_ex, seq_ex, seq_bk, seq_ct, cx_call, cx_glob, tr_bl, bi_int, bi_abs, bi_lenL, bi_lenS, b_add, b_sub, c_lt, c_le, c_gt, c_ge, c_eqI, ofO_some, Option.map_some, List.getElem?_cons_succ, List.getElem?_cons_zero, List.set_cons_succ, List.set_cons_zero, Int.reduceLT, Int.reduceLE, Int.reduceNeg, b_mod, b_fdiv, b_mulr, b_mull, bi_sumI, List.length_map]
  show fin st.length (.rt (.ref st.length) (st ++ [(drw0 ns).O])) = _
  show gc st.length (.ref st.length) (st ++ [(drw0 ns).O]) = _
  unfold gc
  rw [if_neg]
  simp [D.bel]
end T
set_option Elab.async false
set_option linter.all false
set_option autoImplicit false
set_option maxRecDepth 100000
set_option maxHeartbeats 4000000
/-! # T20: what must hold behind a step (the plain laws are walked by it) -/
namespace T
/-- holds a thing fast: simp does not look into what is boxed -/
inductive Box {α : Sort _} (a : α) : Type where
  | mk
section
variable {α β : Type}
def R.wp (r : R α) (Q : α → Store → Prop) (X : Exn → Store → Prop) (bQ : Box Q := .mk) (bX : Box X := .mk) : Prop := match r with
  | .ok a st => Q a st
  | .ex x st => X x st
  | .bad => False
/-- where the other ends of a statement go -/
structure Kt where
  rt : D → Store → Prop
  bk : Ev → Store → Prop
  ct : Ev → Store → Prop
  ex : Exn → Ev → Store → Prop
def SR.wp (r : SR) (N : Ev → Store → Prop) (k : Kt) (bN : Box N := .mk) (bk : Box k := .mk) : Prop := match r with
  | .nx env st => N env st
  | .rt d st => k.rt d st
  | .bk env st => k.bk env st
  | .ct env st => k.ct env st
  | .ex x env st => k.ex x env st
  | .bad => False
def wpTr (o : Option Bool) (A B : Prop) (bA : Box A := .mk) (bB : Box B := .mk) : Prop := match o with
  | some true => A
  | some false => B
  | none => False
def wpO (o : Option α) (A : α → Prop) (bA : Box A := .mk) : Prop := match o with
  | some a => A a
  | none => False
theorem R.wp_q {r : R α} {Q Q' : α → Store → Prop} {X : Exn → Store → Prop} (h : ∀ a s, Q a s = Q' a s) : r.wp Q X = r.wp Q' X := by
  have e : Q = Q' := by funext a s; exact h a s
  subst e
  rfl
theorem wp_ok {a : α} {st : Store} {Q : α → Store → Prop} {X : Exn → Store → Prop} : (R.ok a st).wp Q X = Q a st := rfl
theorem wp_ex {x : Exn} {st : Store} {Q : α → Store → Prop} {X : Exn → Store → Prop} : (R.ex x st).wp Q X = X x st := rfl
theorem wp_nx {env : Ev} {st : Store} {N : Ev → Store → Prop} {k : Kt} : (SR.nx env st).wp N k = N env st := rfl
theorem wp_rt {d : D} {st : Store} {N : Ev → Store → Prop} {k : Kt} : (SR.rt d st).wp N k = k.rt d st := rfl
theorem wp_bk {env : Ev} {st : Store} {N : Ev → Store → Prop} {k : Kt} : (SR.bk env st).wp N k = k.bk env st := rfl
theorem wp_ct {env : Ev} {st : Store} {N : Ev → Store → Prop} {k : Kt} : (SR.ct env st).wp N k = k.ct env st := rfl
theorem wp_xx {x : Exn} {env : Ev} {st : Store} {N : Ev → Store → Prop} {k : Kt} : (SR.ex x env st).wp N k = k.ex x env st := rfl
theorem wp_bind {r : R α} {f : α → Store → R β} {Q : β → Store → Prop} {X : Exn → Store → Prop} : (r.bind f).wp Q X = r.wp (fun a s => (f a s).wp Q X) X := by cases r <;> rfl
theorem wp_then {r : R α} {env : Ev} {f : α → Store → SR} {N : Ev → Store → Prop} {k : Kt} : (r.then env f).wp N k = r.wp (fun a s => (f a s).wp N k) (fun x s => k.ex x env s) := by cases r <;> rfl
theorem wp_seq {r : SR} {f : Ev → Store → SR} {N : Ev → Store → Prop} {k : Kt} : (r.seq f).wp N k = r.wp (fun e s => (f e s).wp N k) k := by cases r <;> rfl
theorem wp_ofO {o : Option α} {st : Store} {Q : α → Store → Prop} {X : Exn → Store → Prop} : (ofO o st).wp Q X = wpO o (fun a => Q a st) := by cases o <;> rfl
theorem wpO_s {a : α} {A : α → Prop} : wpO (some a) A = A a := rfl
theorem wpO_map {o : Option α} {f : α → β} {A : β → Prop} : wpO (o.map f) A = wpO o (fun a => A (f a)) := by cases o <;> rfl
theorem wpTr_t {A B : Prop} : wpTr (some true) A B = A := rfl
theorem wpTr_f {A B : Prop} : wpTr (some false) A B = B := rfl
theorem wpTr_i {b : Bool} {A B : Prop} (h1 : b = true → A) (h2 : b = false → B) : wpTr (some b) A B := by
  cases b
  · exact h2 rfl
  · exact h1 rfl
theorem wpTr_d {p : Prop} [Decidable p] {A B : Prop} (h1 : p → A) (h2 : ¬ p → B) : wpTr (some (decide p)) A B := by
  by_cases h : p
  · rw [decide_eq_true h]; exact h1 h
  · rw [decide_eq_false h]; exact h2 h
theorem wpTr_n {b : Bool} {A B : Prop} : wpTr (some (!b)) A B = wpTr (some b) B A := by cases b <;> rfl
theorem R.wp_mono {r : R α} {Q Q' : α → Store → Prop} {X X' : Exn → Store → Prop} (h : r.wp Q X) (hQ : ∀ a s, Q a s → Q' a s) (hX : ∀ x s, X x s → X' x s) : r.wp Q' X' := by
  cases r with
  | ok a s => exact hQ _ _ h
  | ex x s => exact hX _ _ h
  | bad => exact h
structure Kt.Le (k k' : Kt) : Prop where
  rt : ∀ d s, k.rt d s → k'.rt d s
  bk : ∀ e s, k.bk e s → k'.bk e s
  ct : ∀ e s, k.ct e s → k'.ct e s
  ex : ∀ x e s, k.ex x e s → k'.ex x e s
theorem SR.wp_mono {r : SR} {N N' : Ev → Store → Prop} {k k' : Kt} (h : r.wp N k) (hN : ∀ e s, N e s → N' e s) (hk : k.Le k') : r.wp N' k' := by
  cases r with
  | nx e s => exact hN _ _ h
  | rt e s => exact hk.rt _ _ h
  | bk e s => exact hk.bk _ _ h
  | ct e s => exact hk.ct _ _ h
  | ex x e s => exact hk.ex _ _ _ h
  | bad => exact h
/-- a call whose value is known -/
theorem wp_of {r : R α} {a : α} {s : Store} {Q : α → Store → Prop} {X : Exn → Store → Prop} (e : r = .ok a s) (h : Q a s) : r.wp Q X := by rw [e]; exact h
end
theorem tr_int {i : Int} {st : Store} : truthy st (.int i) = some (i != 0) := rfl
section
variable {Γ : Cx} {env : Ev} {st : Store} {N : Ev → Store → Prop} {k : Kt} {Q : D → Store → Prop} {X : Exn → Store → Prop}
theorem wp_ifs {t : E} {a b : Ss} : (evS Γ (.ifs t a b) env st).wp N k = (evE Γ t env st).wp (fun x s1 => wpTr (truthy s1 x) ((evSs Γ a env s1).wp N k) ((evSs Γ b env s1).wp N k)) (fun x s => k.ex x env s) := by
  rw [evS, wp_then]
  refine R.wp_q fun x s1 => ?_
  cases truthy s1 x with
  | none => rfl
  | some b => cases b <;> rfl
theorem wp_ife {t a b : E} : (evE Γ (.ife t a b) env st).wp Q X = (evE Γ t env st).wp (fun x s1 => wpTr (truthy s1 x) ((evE Γ a env s1).wp Q X) ((evE Γ b env s1).wp Q X)) X := by
  rw [evE, wp_bind]
  refine R.wp_q fun x s1 => ?_
  cases truthy s1 x with
  | none => rfl
  | some b => cases b <;> rfl
theorem wp_and1 {e : E} : (evAnd Γ (.cons e .nil) env st).wp Q X = (evE Γ e env st).wp Q X := by rw [evAnd]
theorem wp_or1 {e : E} : (evOr Γ (.cons e .nil) env st).wp Q X = (evE Γ e env st).wp Q X := by rw [evOr]
theorem wp_and2 {e e2 : E} {es : Es} : (evAnd Γ (.cons e (.cons e2 es)) env st).wp Q X = (evE Γ e env st).wp (fun x s1 => wpTr (truthy s1 x) ((evAnd Γ (.cons e2 es) env s1).wp Q X) (Q x s1)) X := by
  rw [evAnd, wp_bind]
  · refine R.wp_q fun x s1 => ?_
    cases truthy s1 x with
    | none => rfl
    | some b => cases b <;> rfl
  · exact fun h => by cases h
theorem wp_or2 {e e2 : E} {es : Es} : (evOr Γ (.cons e (.cons e2 es)) env st).wp Q X = (evE Γ e env st).wp (fun x s1 => wpTr (truthy s1 x) (Q x s1) ((evOr Γ (.cons e2 es) env s1).wp Q X)) X := by
  rw [evOr, wp_bind]
  · refine R.wp_q fun x s1 => ?_
    cases truthy s1 x with
    | none => rfl
    | some b => cases b <;> rfl
  · exact fun h => by cases h
theorem wp_chain {o1 o2 : Cop} {a b c : E} : (evE Γ (.chain o1 o2 a b c) env st).wp Q X = (evE Γ a env st).wp (fun x s1 => (evE Γ b env s1).wp (fun y s2 => wpTr (cmpop o1 x y s2) ((evE Γ c env s2).wp (fun z s3 => wpO (cmpop o2 y z s3) (fun r => Q (.bl r) s3)) X) (Q (.bl false) s2)) X) X := by
  rw [evE, wp_bind]
  refine R.wp_q fun x s1 => ?_
  rw [wp_bind]
  refine R.wp_q fun y s2 => ?_
  cases h : cmpop o1 x y s2 with
  | none => rfl
  | some b =>
    cases b with
    | false => rfl
    | true =>
      show (R.bind _ _).wp Q X = _
      rw [wp_bind]
      show _ = (evE Γ c env s2).wp _ X
      refine R.wp_q fun z s3 => ?_
      rw [wp_ofO, wpO_map]
/-- what a condition is worth, in one -/
theorem wp_cond {t : E} {b : Bool} {s1 : Store} (h : evE Γ t env st = .ok (.bl b) s1) : (evE Γ t env st).wp Q X = Q (.bl b) s1 := by rw [h]; rfl
theorem wp_for {tg : Tg} {it : It} {b : Ss} : (evS Γ (.for tg it b) env st).wp N k = (evIt Γ it env st).wp (fun src s1 => (match src with
      | .snap ds => forGo (fun d env s2 => match bindT s2 tg d env with | some env' => evSs Γ b env' s2 | none => .bad) ds env s1
      | .live n => forLive (fun d env s2 => match bindT s2 tg d env with | some env' => evSs Γ b env' s2 | none => .bad) n Γ.wf 0 env s1 : SR).wp N k) (fun x s => k.ex x env s) := by
  rw [evS, wp_then]
  all_goals rfl
/-- a for over what stands -/
theorem forGo_wp {b : D → Ev → Store → SR} (I : Nat → Ev → Store → Prop) : ∀ (pre : List D) (ds : List D) (env : Ev) (st : Store), I pre.length env st →
    (∀ (i : Nat) (d : D) (env : Ev) (st : Store), (pre ++ ds)[i]? = some d → I i env st → (b d env st).wp (I (i + 1)) ⟨k.rt, N, I (i + 1), k.ex⟩) → (∀ env st, I (pre ++ ds).length env st → N env st) → (forGo b ds env st).wp N k
  | pre, [], env, st, h0, _, h2 => h2 _ _ (by rw [List.append_nil]; exact h0)
  | pre, d :: ds, env, st, h0, h1, h2 => by
    have h := h1 pre.length d env st (by simp) h0
    rw [forGo]
    have e : pre ++ d :: ds = (pre ++ [d]) ++ ds := by simp
    have ih := fun env st (h : I (pre.length + 1) env st) => forGo_wp (b := b) I (pre ++ [d]) ds env st (by simpa using h) (by rw [← e]; exact h1) (by rw [← e]; exact h2)
    cases hb : b d env st with
    | nx e' s' => rw [hb] at h; exact ih _ _ h
    | ct e' s' => rw [hb] at h; exact ih _ _ h
    | bk e' s' => rw [hb] at h; exact h
    | rt e' s' => rw [hb] at h; exact h
    | ex x e' s' => rw [hb] at h; exact h
    | bad => rw [hb] at h; exact h
theorem wp_forGo {b : D → Ev → Store → SR} (I : Nat → Ev → Store → Prop) {ds : List D} {env : Ev} {st : Store} (h0 : I 0 env st)
    (h1 : ∀ (i : Nat) (d : D) (env : Ev) (st : Store), ds[i]? = some d → I i env st → (b d env st).wp (I (i + 1)) ⟨k.rt, N, I (i + 1), k.ex⟩) (h2 : ∀ env st, I ds.length env st → N env st) : (forGo b ds env st).wp N k :=
  forGo_wp I [] ds env st h0 h1 h2
theorem whileGo_wp {t : Ev → Store → R D} {b : Ev → Store → SR} (I : Nat → Ev → Store → Prop) : ∀ (f m : Nat) (env : Ev) (st : Store), m < f → I m env st →
    (∀ (m : Nat) (env : Ev) (st : Store), I m env st → (t env st).wp (fun x s1 => wpTr (truthy s1 x) ((b env s1).wp (fun e s => ∃ m', m' < m ∧ I m' e s) ⟨k.rt, N, fun e s => ∃ m', m' < m ∧ I m' e s, k.ex⟩) (N env s1)) (fun x s => k.ex x env s)) → (whileGo t b f env st).wp N k
  | 0, m, env, st, h, _, _ => by omega
  | f + 1, m, env, st, h, h0, h1 => by
    have hh := h1 m env st h0
    rw [whileGo, wp_then]
    refine R.wp_mono hh (fun x s1 hx => ?_) (fun _ _ h => h)
    cases ht : truthy s1 x with
    | none => rw [ht] at hx; exact hx
    | some v =>
      rw [ht] at hx
      cases v with
      | false => exact hx
      | true =>
        have hx : (b env s1).wp _ _ := hx
        cases hb : b env s1 with
        | nx e' s' =>
          rw [hb] at hx
          obtain ⟨m', hm, hI⟩ := hx
          exact whileGo_wp I f m' e' s' (by omega) hI h1
        | ct e' s' =>
          rw [hb] at hx
          obtain ⟨m', hm, hI⟩ := hx
          exact whileGo_wp I f m' e' s' (by omega) hI h1
        | bk e' s' => rw [hb] at hx; exact hx
        | rt e' s' => rw [hb] at hx; exact hx
        | ex x e' s' => rw [hb] at hx; exact hx
        | bad => rw [hb] at hx; exact hx
/-- a whole call -/
theorem wp_run {P : Prog} {n : Nat} {f : String} {fd : Fd} {xs : List D} (h : P.defs f = some fd) (hl : xs.length = fd.np)
    (H : (evSs (P.cx (run P n)) fd.body (start fd xs) st).wp (fun _ s => (gc st.length .non s).wp Q X) ⟨fun d s => (gc st.length d s).wp Q X, fun _ _ => False, fun _ _ => False, fun x _ s => (gcX st.length x s).wp Q X⟩) : (run P (n + 1) f xs st).wp Q X := by
  rw [run, h]
  show (if xs.length = fd.np then _ else R.bad : R D).wp Q X
  rw [if_pos hl]
  cases hb : evSs (P.cx (run P n)) fd.body (start fd xs) st with
  | nx e' s' => rw [hb] at H; exact H
  | ct e' s' => rw [hb] at H; exact H
  | bk e' s' => rw [hb] at H; exact H
  | rt e' s' => rw [hb] at H; exact H
  | ex x e' s' => rw [hb] at H; exact H
  | bad => rw [hb] at H; exact H
theorem gc_wp {n : Nat} {d : D} (h : st.length = n) : (gc n d st).wp Q X = Q d st := by rw [gc_same h]; rfl
theorem gc_i {n : Nat} {d : D} (h : st.length = n) (hQ : Q d st) : (gc n d st).wp Q X := by rw [gc_wp h]; exact hQ
theorem gc_wpA {n : Nat} {d : D} (h : ∀ st', (st' = st ∨ st' = st.take n) → Q d st') : (gc n d st).wp Q X := by
  unfold gc
  split
  · exact h _ (.inr rfl)
  · exact h _ (.inl rfl)
theorem gc_wpK {n : Nat} {d : D} (h : d.bel n = false) : (gc n d st).wp Q X = Q d st := by
  unfold gc
  rw [h, Bool.false_and]
  rfl
theorem gcX_wpA {n : Nat} {x : Exn} (h : ∀ st', (st' = st ∨ st' = st.take n) → X x st') : (gcX n x st).wp Q X := by
  unfold gcX
  split
  · exact h _ (.inr rfl)
  · exact h _ (.inl rfl)
theorem wpbin_add {fz : Bool} {i j : Int} : (binop .add fz (.int i) (.int j) st).wp Q X = Q (.int (i + j)) st := rfl
theorem wpbin_addS {fz : Bool} {a b : List Nat} : (binop .add fz (.str a) (.str b) st).wp Q X = (a.length + b.length ≤ lim ∧ Q (.str (a ++ b)) st) := by
  rw [binop]; unfold lim1
  by_cases h : a.length + b.length ≤ lim
  · rw [if_pos h]; simp [h, R.wp]
  · rw [if_neg h]; simp [h, R.wp]
theorem wpbin_addT {fz : Bool} {a b : List D} : (binop .add fz (.tup a) (.tup b) st).wp Q X = (a.length + b.length ≤ lim ∧ Q (.tup (a ++ b)) st) := by
  rw [binop]; unfold lim1
  by_cases h : a.length + b.length ≤ lim
  · rw [if_pos h]; simp [h, R.wp]
  · rw [if_neg h]; simp [h, R.wp]
theorem wpbin_mulS {fz : Bool} {a : List Nat} {i : Int} : (binop .mul fz (.str a) (.int i) st).wp Q X = ((i < c60 ∧ -(c60) < i) ∧ a.length * i.toNat ≤ lim ∧ Q (.str (repS a i)) st) := by
  rw [binop]; unfold lim1
  by_cases h : i < c60 ∧ -(c60) < i
  · rw [if_pos h]
    by_cases h2 : a.length * i.toNat ≤ lim
    · rw [if_pos h2]; simp only [h, h2, R.wp, true_and, and_self]
    · rw [if_neg h2]; simp only [h, h2, R.wp, true_and, and_self, false_and]
  · rw [if_neg h]; simp only [h, R.wp, false_and]
theorem wpbin_sub {fz : Bool} {i j : Int} : (binop .sub fz (.int i) (.int j) st).wp Q X = Q (.int (i - j)) st := rfl
theorem wpbin_mul {fz : Bool} {i j : Int} : (binop .mul fz (.int i) (.int j) st).wp Q X = (mulOk i j = true ∧ Q (.int (i * j)) st) := by
  rw [binop]
  by_cases h : mulOk i j = true
  · rw [if_pos h]; simp [h, R.wp]
  · rw [if_neg h]; simp [h, R.wp]
theorem wpbin_mod {fz : Bool} {i j : Int} : (binop .mod fz (.int i) (.int j) st).wp Q X = (0 < j ∧ Q (.int (i % j)) st) := by
  rw [binop]
  by_cases h : 0 < j
  · rw [if_pos h]; simp [h, R.wp]
  · rw [if_neg h]; simp [h, R.wp]
theorem wpbin_fdiv {fz : Bool} {i j : Int} : (binop .fdiv fz (.int i) (.int j) st).wp Q X = ((0 < j ∧ j < c30) ∧ Q (.int (i / j)) st) := by
  rw [binop]
  by_cases h : 0 < j ∧ j < c30
  · rw [if_pos h]; simp only [h, R.wp, true_and, and_self]
  · rw [if_neg h]; simp only [h, R.wp, false_and]
end
theorem c_eqS' {a b : List Nat} {st : Store} : cmpop .eq (.str a) (.str b) st = some (decide (a = b)) := by
  show eqD st (.str a) (.str b) = _
  have : (PySem.PyData.str ⟨a.toArray⟩).depth ≤ 64 ∧ (PySem.PyData.str ⟨b.toArray⟩).depth ≤ 64 := by constructor <;> (simp [PySem.PyData.depth])
  show (if (PySem.PyData.str ⟨a.toArray⟩).depth ≤ 64 ∧ (PySem.PyData.str ⟨b.toArray⟩).depth ≤ 64 then some (PySem.PyData.eqv (.str ⟨a.toArray⟩) (.str ⟨b.toArray⟩)) else none) = _
  rw [if_pos this]
  congr 1
  simp only [PySem.PyData.eqv]
  rw [Bool.eq_iff_iff, beq_iff_eq, decide_eq_true_iff]
  constructor
  · intro e
    injection e with e
    exact (Array.mk.inj e)
  · intro e; rw [e]

section
variable {Γ : Cx} {env : Ev} {st : Store}
/-! the evaluator's rows, but for those that part -/
theorem e_var {i : Nat} : evE Γ (.var i) env st = match env[i]? with | some (some d) => .ok d st | _ => .bad := by rw [evE] <;> rfl
theorem e_int {i : Int} : evE Γ (.int i) env st = .ok (.int i) st := by rw [evE]
theorem e_str {s : String} : evE Γ (.str s) env st = .ok (.str (s.toList.map Char.toNat)) st := by rw [evE]
theorem e_bl {b : Bool} : evE Γ (.bl b) env st = .ok (.bl b) st := by rw [evE]
theorem e_non : evE Γ .non env st = .ok .non st := by rw [evE]
theorem e_glob {x : String} : evE Γ (.glob x) env st = ofO (Γ.glob x) st := by rw [evE]
theorem e_bin {op : Bop} {fz : Bool} {a b : E} : evE Γ (.bin op fz a b) env st = (evE Γ a env st).bind fun x s1 => (evE Γ b env s1).bind fun y s2 => binop op fz x y s2 := by rw [evE]
theorem e_neg {a : E} : evE Γ (.neg a) env st = (evE Γ a env st).bind fun x s1 => match x with | .int i => .ok (.int (-i)) s1 | _ => .bad := by rw [evE] <;> rfl
theorem e_cmp {op : Cop} {a b : E} : evE Γ (.cmp op a b) env st = (evE Γ a env st).bind fun x s1 => (evE Γ b env s1).bind fun y s2 => ofO ((cmpop op x y s2).map D.bl) s2 := by rw [evE]
theorem e_and {es : Es} : evE Γ (.and es) env st = evAnd Γ es env st := by rw [evE]
theorem e_or {es : Es} : evE Γ (.or es) env st = evOr Γ es env st := by rw [evE]
theorem e_not {a : E} : evE Γ (.not a) env st = (evE Γ a env st).bind fun x s1 => ofO ((truthy s1 x).map fun b => D.bl (!b)) s1 := by rw [evE]
theorem e_call {f : String} {es : Es} : evE Γ (.call f es) env st = (evA Γ es env st).bind fun xs s1 => Γ.call f xs s1 := by rw [evE]
theorem e_bi {b : Bt} {fz : Bool} {es : Es} : evE Γ (.bi b fz es) env st = (evA Γ es env st).bind fun xs s1 => builtin b fz xs s1 := by rw [evE]
theorem e_meth {m : Mt} {fz : Bool} {o : E} {es : Es} : evE Γ (.meth m fz o es) env st = (evE Γ o env st).bind fun x s1 => if rcvOk m (tyName s1 x) then (evA Γ es env s1).bind fun xs s2 => method m fz x xs s2 else .bad := by rw [evE]
theorem e_idx {a i : E} : evE Γ (.idx a i) env st = (evE Γ a env st).bind fun x s1 => (evE Γ i env s1).bind fun y s2 => index x y s2 := by rw [evE]
theorem e_slc {fz : Bool} {a : E} {lo hi : Eo} : evE Γ (.slc fz a lo hi) env st = (evE Γ a env st).bind fun x s1 => (evP Γ lo env s1).bind fun l s2 => (evP Γ hi env s2).bind fun h s3 => slice fz x l h s3 := by rw [evE]
theorem e_tup {es : Es} : evE Γ (.tup es) env st = (evA Γ es env st).bind fun xs s1 => .ok (.tup xs) s1 := by rw [evE]
theorem e_lst {fz : Bool} {es : Es} : evE Γ (.lst fz es) env st = (evA Γ es env st).bind fun xs s1 => newL fz xs s1 := by rw [evE]
theorem e_dict0 : evE Γ .dict0 env st = .ok (.ref st.length) (st ++ [.dK []]) := by rw [evE]
theorem newL_true {ds : List D} : newL true ds st = .ok (.lst ds) st := rfl
theorem newL_false {ds : List D} : newL false ds st = .ok (.ref st.length) (st ++ [.lst ds]) := rfl
theorem s_set {i : Nat} {e : E} : evS Γ (.set i e) env st = (evE Γ e env st).then env fun x s1 => .nx (env.set i (some x)) s1 := by rw [evS]
theorem s_unp {tg : Tg} {e : E} : evS Γ (.unp tg e) env st = (evE Γ e env st).then env fun x s1 => match bindT s1 tg x env with | some env' => .nx env' s1 | none => .bad := by rw [evS] <;> rfl
theorem s_sub {o i e : E} : evS Γ (.sub o i e) env st = (evE Γ e env st).then env fun v s1 => (evE Γ o env s1).then env fun x s2 => (evE Γ i env s2).then env fun y s3 => (setIx x y v s3).then env fun _ s4 => .nx env s4 := by rw [evS]
theorem s_expr {e : E} : evS Γ (.expr e) env st = (evE Γ e env st).then env fun _ s1 => .nx env s1 := by rw [evS]
theorem s_ret {e : E} : evS Γ (.ret e) env st = (evE Γ e env st).then env fun x s1 => .rt x s1 := by rw [evS]
theorem s_retN : evS Γ .retN env st = .rt .non st := by rw [evS]
theorem s_pass : evS Γ .pass env st = .nx env st := by rw [evS]
theorem s_brk : evS Γ .brk env st = .bk env st := by rw [evS]
theorem s_cont : evS Γ .cont env st = .ct env st := by rw [evS]
theorem s_raise {c : String} {es : Es} : evS Γ (.raise c es) env st = (evA Γ es env st).then env fun xs s1 => match mkX Γ c xs with | some x => .ex x env s1 | none => .bad := by rw [evS] <;> rfl
theorem ss_nil : evSs Γ .nil env st = .nx env st := by rw [evSs]
theorem ss_cons {s : S} {ss : Ss} : evSs Γ (.cons s ss) env st = (evS Γ s env st).seq fun env' s1 => evSs Γ ss env' s1 := by rw [evSs]
theorem a_nil : evA Γ .nil env st = .ok [] st := by rw [evA]
theorem a_cons {e : E} {es : Es} : evA Γ (.cons e es) env st = (evE Γ e env st).bind fun x s1 => (evA Γ es env s1).bind fun xs s2 => .ok (x :: xs) s2 := by rw [evA]
theorem o_no : evO Γ .no env st = .ok none st := by rw [evO]
theorem o_yes {e : E} : evO Γ (.yes e) env st = (evE Γ e env st).bind fun x s1 => .ok (some x) s1 := by rw [evO]
theorem p_no : evP Γ .no env st = .ok none st := by rw [evP]
theorem p_yes {e : E} : evP Γ (.yes e) env st = (evE Γ e env st).bind fun x s1 => match x with | .int i => .ok (some i) s1 | _ => .bad := by rw [evP] <;> rfl
theorem i_val {e : E} : evIt Γ (.val e) env st = (evE Γ e env st).bind fun x s1 => match x with
    | .tup ds => .ok (.snap ds) s1
    | .lst ds => .ok (.snap ds) s1
    | .scr ds => .ok (.snap ds) s1
    | .str s => .ok (.snap (s.map fun c => D.str [c])) s1
    | .ref n => match s1[n]? with | some (.lst _) => .ok (.live n) s1 | _ => .bad
    | _ => .bad := by rw [evIt] <;> rfl
theorem i_rg1 {a : E} : evIt Γ (.rg1 a) env st = (evE Γ a env st).bind fun x s1 => match x with | .int n => ofO ((rgLoop 0 n 1).map Src.snap) s1 | _ => .bad := by rw [evIt] <;> rfl
theorem i_rg2 {a b : E} : evIt Γ (.rg2 a b) env st = (evE Γ a env st).bind fun x s1 => (evE Γ b env s1).bind fun y s2 => match x, y with | .int i, .int j => ofO ((rgLoop i j 1).map Src.snap) s2 | _, _ => .bad := by rw [evIt] <;> rfl
end
theorem wp_rg {a b : Int} {A : List D → Prop} : wpO (rgLoop a b 1) A = ((-(c62) ≤ a ∧ a < c62 ∧ -(c62) ≤ b ∧ b < c62) ∧ A (rgD a b)) := by
  unfold rgLoop
  rw [if_pos rfl]
  by_cases h : -(c62) ≤ a ∧ a < c62 ∧ -(c62) ≤ b ∧ b < c62
  · rw [if_pos h]; simp only [h, wpO, true_and, and_self]
  · rw [if_neg h]; simp only [h, wpO, false_and]
theorem rgD_at {a b : Int} {i : Nat} {d : D} (h : (rgD a b)[i]? = some d) : d = .int (a + i) ∧ a + i < b := by
  unfold rgD at h
  by_cases hi : i < (b - a).toNat
  · rw [List.getElem?_map, List.getElem?_range hi] at h
    cases h
    exact ⟨rfl, by omega⟩
  · rw [List.getElem?_eq_none (by simpa using hi)] at h; cases h
theorem rgD_len {a b : Int} : (rgD a b).length = (b - a).toNat := by unfold rgD; simp
section
variable {Γ : Cx} {env : Ev} {st : Store} {N : Ev → Store → Prop} {k : Kt}
theorem wp_sub {o i v : D} {Q : Unit → Store → Prop} {X : Exn → Store → Prop} : (setIx o i v st).wp Q X = (setIx o i v st).wp Q X := rfl
theorem wp_sscons {s : S} {ss : Ss} : (evSs Γ (.cons s ss) env st).wp N k = (evS Γ s env st).wp (fun e s' => (evSs Γ ss e s').wp N k) k := by rw [ss_cons, wp_seq]
/-- a for -/
def wpFor (Γ : Cx) (tg : Tg) (b : Ss) (src : Src) (env : Ev) (st : Store) (N : Ev → Store → Prop) (k : Kt) (bN : Box N := .mk) (bk : Box k := .mk) : Prop := (match src with
      | .snap ds => forGo (fun d env s2 => match bindT s2 tg d env with | some env' => evSs Γ b env' s2 | none => .bad) ds env st
      | .live n => forLive (fun d env s2 => match bindT s2 tg d env with | some env' => evSs Γ b env' s2 | none => .bad) n Γ.wf 0 env st : SR).wp N k
theorem wp_for' {tg : Tg} {it : It} {b : Ss} : (evS Γ (.for tg it b) env st).wp N k = (evIt Γ it env st).wp (fun src s1 => wpFor Γ tg b src env s1 N k) (fun x s => k.ex x env s) := by
  rw [wp_for]; rfl
theorem wpFor_nm {i : Nat} {b : Ss} {ds : List D} (I : Nat → Ev → Store → Prop) (h0 : I 0 env st)
    (h1 : ∀ (j : Nat) (d : D) (env : Ev) (st : Store), ds[j]? = some d → I j env st → (evSs Γ b (env.set i (some d)) st).wp (I (j + 1)) ⟨k.rt, N, I (j + 1), k.ex⟩) (h2 : ∀ env st, I ds.length env st → N env st) : wpFor Γ (.nm i) b (.snap ds) env st N k := by
  refine wp_forGo I h0 (fun j d env st hd hI => ?_) h2
  simp only [bindT]
  exact h1 j d env st hd hI
/-- a while -/
def wpWhile (Γ : Cx) (t : E) (b : Ss) (env : Ev) (st : Store) (N : Ev → Store → Prop) (k : Kt) (bN : Box N := .mk) (bk : Box k := .mk) : Prop := (evS Γ (.while t b) env st).wp N k
theorem wp_while {t : E} {b : Ss} : (evS Γ (.while t b) env st).wp N k = wpWhile Γ t b env st N k := rfl
theorem wpWhile_i {t : E} {b : Ss} (I : Nat → Ev → Store → Prop) (m : Nat) (hm : m < Γ.wf) (h0 : I m env st)
    (h1 : ∀ (m : Nat) (env : Ev) (st : Store), I m env st → (evE Γ t env st).wp (fun x s1 => wpTr (truthy s1 x) ((evSs Γ b env s1).wp (fun e s => ∃ m', m' < m ∧ I m' e s) ⟨k.rt, N, fun e s => ∃ m', m' < m ∧ I m' e s, k.ex⟩) (N env s1)) (fun x s => k.ex x env s)) : wpWhile Γ t b env st N k := by
  unfold wpWhile
  rw [evS]
  exact whileGo_wp I Γ.wf m env st hm h0 h1
end
theorem ss_cut {Γ : Cx} {env : Ev} {st : Store} {N : Ev → Store → Prop} {k : Kt} {s : S} {ss : Ss} (M : Ev → Store → Prop) (h1 : (evS Γ s env st).wp M k) (h2 : ∀ e s', M e s' → (evSs Γ ss e s').wp N k) : (evSs Γ (.cons s ss) env st).wp N k := by
  rw [wp_sscons]
  exact SR.wp_mono h1 h2 ⟨fun _ _ h => h, fun _ _ h => h, fun _ _ h => h, fun _ _ _ h => h⟩
theorem and_pure {Γ : Cx} {env : Ev} {st : Store} {Q : D → Store → Prop} {X : Exn → Store → Prop} {p q : Prop} [Decidable p] [Decidable q] {es : Es} (hq : evAnd Γ es env st = .ok (.bl (decide q)) st) (H : Q (.bl (decide (p ∧ q))) st) : wpTr (some (decide p)) ((evAnd Γ es env st).wp Q X) (Q (.bl (decide p)) st) := by
  by_cases h : p
  · rw [hq]
    have e : decide (p ∧ q) = decide q := by simp [h]
    rw [e] at H
    rw [decide_eq_true h]
    exact H
  · have e : decide (p ∧ q) = false := by simp [h]
    rw [e] at H
    rw [decide_eq_false h]
    exact H
theorem or_pure {Γ : Cx} {env : Ev} {st : Store} {Q : D → Store → Prop} {X : Exn → Store → Prop} {p q A : Prop} [Decidable p] [Decidable q] {es : Es} (hq : evOr Γ es env st = .ok (.bl (decide q)) st) (H : Q (.bl (decide (p ∨ q))) st) (hA : p → Q (.bl true) st → A) : wpTr (some (decide p)) A ((evOr Γ es env st).wp Q X) := by
  by_cases h : p
  · have e : decide (p ∨ q) = true := by simp [h]
    rw [e] at H
    rw [decide_eq_true h]
    exact hA h H
  · rw [hq]
    have e : decide (p ∨ q) = decide q := by simp [h]
    rw [e] at H
    rw [decide_eq_false h]
    exact H
theorem and_one {Γ : Cx} {env : Ev} {st : Store} {e : E} : evAnd Γ (.cons e .nil) env st = evE Γ e env st := by rw [evAnd]
theorem or_one {Γ : Cx} {env : Ev} {st : Store} {e : E} : evOr Γ (.cons e .nil) env st = evE Γ e env st := by rw [evOr]
theorem e_isi {Γ : Cx} {env : Ev} {st : Store} {a : E} {ts : List String} : evE Γ (.isi a ts) env st = (evE Γ a env st).bind fun x s1 => match tyName s1 x with
    | some t => .ok (.bl (ts.any (isTy t))) s1
    | none => .bad := by rw [evE] <;> rfl
theorem ty_int {i : Int} {st : Store} : tyName st (.int i) = some "int" := rfl
theorem ty_str {s : List Nat} {st : Store} : tyName st (.str s) = some "str" := rfl
theorem ty_bl {b : Bool} {st : Store} : tyName st (.bl b) = some "bool" := rfl
theorem ty_non {st : Store} : tyName st .non = some "NoneType" := rfl
theorem ty_tup {ds : List D} {st : Store} : tyName st (.tup ds) = some "tuple" := rfl
theorem ty_lstf {ds : List D} {st : Store} : tyName st (.lst ds) = some "list" := rfl
theorem ty_any : (["int"].any (isTy "int") = true) ∧ (["bool"].any (isTy "int") = false) ∧ (["int"].any (isTy "bool") = true) ∧ (["bool"].any (isTy "bool") = true) ∧ (["str"].any (isTy "str") = true) ∧ (["str"].any (isTy "int") = false) ∧ (["str"].any (isTy "bool") = false) ∧ (["str"].any (isTy "NoneType") = false) ∧ (["str"].any (isTy "tuple") = false) ∧ (["str"].any (isTy "list") = false) ∧ (["tuple"].any (isTy "tuple") = true) ∧ (["list"].any (isTy "list") = true) ∧ (["list"].any (isTy "tuple") = false) ∧ (["tuple"].any (isTy "list") = false) := by decide
theorem ix_tup {ds : List D} {i : Int} {st : Store} : index (.tup ds) (.int i) st = ofO (L2.atI ds i) st := rfl
theorem c_neS' {a b : List Nat} {st : Store} : cmpop .ne (.str a) (.str b) st = some (!decide (a = b)) := by
  show (eqD st (.str a) (.str b)).map (!·) = _
  have this : eqD st (.str a) (.str b) = some (decide (a = b)) := c_eqS' (st := st)
  rw [this]; rfl
theorem c_neI {a b : Int} {st : Store} : cmpop .ne (.int a) (.int b) st = some (!decide (a = b)) := by
  show (eqD st (.int a) (.int b)).map (!·) = _
  have this : eqD st (.int a) (.int b) = some (decide (a = b)) := c_eqI (st := st)
  rw [this]; rfl
theorem cmp_eq {x y : D} {st : Store} : cmpop .eq x y st = eqD st x y := by unfold cmpop; rfl
theorem cmp_ne {x y : D} {st : Store} : cmpop .ne x y st = (eqD st x y).map (!·) := by unfold cmpop; rfl
theorem bi_min2 {fz : Bool} {i j : Int} {st : Store} : builtin .min2 fz [.int i, .int j] st = .ok (.int (if j < i then j else i)) st := rfl
theorem s_aug {Γ : Cx} {env : Ev} {st : Store} {i : Nat} {op : Bop} {e : E} : evS Γ (.aug i op e) env st = match env[i]? with
    | some (some x) => (evE Γ e env st).then env fun y s1 => match x, y with
      | .int _, .int _ => (binop op false x y s1).then env fun z s2 => .nx (env.set i (some z)) s2
      | .str _, .str _ => (binop op false x y s1).then env fun z s2 => .nx (env.set i (some z)) s2
      | _, _ => .bad
    | _ => .bad := by rw [evS] <;> rfl
theorem s_augS {Γ : Cx} {env : Ev} {st : Store} {o i e : E} {op : Bop} : evS Γ (.augS o i op e) env st = (evE Γ o env st).then env fun ov s1 => (evE Γ i env s1).then env fun iv s2 => (if isRef ov then index ov iv s2 else .bad).then env fun x s3 => (evE Γ e env s3).then env fun y s4 =>
      match x, y with
      | .int _, .int _ => (binop op false x y s4).then env fun z s5 => (setIx ov iv z s5).then env fun _ s6 => .nx env s6
      | _, _ => .bad := by rw [evS] <;> rfl
theorem isRef_t {k : Nat} : isRef (.ref k) = true := rfl
end T
set_option Elab.async false
set_option linter.all false
set_option autoImplicit false
set_option maxRecDepth 100000
set_option maxHeartbeats 4000000
/-! # T21: more of what must hold behind: try, comprehensions, loops over a kept list, stores -/
namespace T
section
variable {Γ : Cx} {env : Ev} {st : Store} {N : Ev → Store → Prop} {k : Kt} {Q : D → Store → Prop} {X : Exn → Store → Prop}
theorem wp_try {b h : Ss} {c : String} {i : Nat} : (evS Γ (.tryAs b c i h) env st).wp N k = (evSs Γ b env st).wp N ⟨k.rt, k.bk, k.ct, fun x env' s1 => wpTr (isX Γ x.cls c)
      ((evSs { Γ with hx := some (i, x) } h (env'.set i none) s1).wp (fun e s => N (e.set i none) s) ⟨k.rt, fun e s => k.bk (e.set i none) s, fun e s => k.ct (e.set i none) s, fun _ _ _ => False⟩) (k.ex x env' s1)⟩ := by
  rw [evS]
  cases evSs Γ b env st with
  | ex x env' s1 =>
    show SR.wp (match isX Γ x.cls c with | some true => _ | some false => _ | none => _) N k = _
    show _ = wpTr (isX Γ x.cls c) _ _
    cases isX Γ x.cls c with
    | none => rfl
    | some v =>
      cases v with
      | false => rfl
      | true =>
        show SR.wp (match evSs { Γ with hx := some (i, x) } h (env'.set i none) s1 with | .nx e2 s2 => _ | .bk e2 s2 => _ | .ct e2 s2 => _ | .rt d s2 => _ | _ => _) N k = SR.wp _ _ _
        cases evSs { Γ with hx := some (i, x) } h (env'.set i none) s1 <;> rfl
  | nx => rfl
  | rt => rfl
  | bk => rfl
  | ct => rfl
  | bad => rfl
theorem s_try {b h : Ss} {c : String} {i : Nat} : (evS Γ (.tryAs b c i h) env st).wp N k = (evSs Γ b env st).wp N ⟨k.rt, k.bk, k.ct, fun x env' s1 => wpTr (isX Γ x.cls c)
      ((evSs { Γ with hx := some (i, x) } h (env'.set i none) s1).wp (fun e s => N (e.set i none) s) ⟨k.rt, fun e s => k.bk (e.set i none) s, fun e s => k.ct (e.set i none) s, fun _ _ _ => False⟩) (k.ex x env' s1)⟩ := wp_try
/-- a comprehension -/
def wpLc (Γ : Cx) (fz : Bool) (elt : E) (tg : Tg) (cond : Eo) (own : List (String × Nat)) (src : Src) (env : Ev) (st : Store) (Q : D → Store → Prop) (X : Exn → Store → Prop) (bQ : Box Q := .mk) (bX : Box X := .mk) : Prop :=
  ((noX (match src with | .snap ds => lcGo (lcF Γ elt tg cond (own.map (·.2)) env) ds [] st | .live n => lcLive (lcF Γ elt tg cond (own.map (·.2)) env) n Γ.wf 0 [] st)).bind fun ys s5 => newL fz ys s5).wp Q X
theorem wp_lc {fz : Bool} {elt : E} {tg : Tg} {it : It} {cond : Eo} {own : List (String × Nat)} : (evE Γ (.lc fz elt tg it cond own) env st).wp Q X = (evIt Γ it env st).wp (fun src s1 => wpLc Γ fz elt tg cond own src env s1 Q X) X := by
  rw [evE_lc, wp_bind]
  rfl
theorem lcGo_wp {f : D → Store → R (Option D)} (I : Nat → List D → Store → Prop) {Q : List D → Store → Prop} : ∀ (pre ds acc : List D) (st : Store), I pre.length acc st →
    (∀ (i : Nat) (d : D) (acc : List D) (st : Store), (pre ++ ds)[i]? = some d → I i acc st → (f d st).wp (fun o s => match o with | some y => acc.length < lim ∧ I (i + 1) (acc ++ [y]) s | none => I (i + 1) acc s) (fun _ _ => False)) →
    (∀ acc st, I (pre ++ ds).length acc st → Q acc st) → (lcGo f ds acc st).wp Q (fun _ _ => False)
  | pre, [], acc, st, h0, _, h2 => h2 _ _ (by rw [List.append_nil]; exact h0)
  | pre, d :: ds, acc, st, h0, h1, h2 => by
    have h := h1 pre.length d acc st (by simp) h0
    have e : pre ++ d :: ds = (pre ++ [d]) ++ ds := by simp
    rw [lcGo, wp_bind]
    refine R.wp_mono h (fun o s ho => ?_) (fun _ _ h => h)
    cases o with
    | none => exact lcGo_wp I (pre ++ [d]) ds acc s (by simpa using ho) (by rw [← e]; exact h1) (by rw [← e]; exact h2)
    | some y =>
      show (if acc.length < lim then _ else R.bad : R (List D)).wp _ _
      rw [if_pos ho.1]
      exact lcGo_wp I (pre ++ [d]) ds (acc ++ [y]) s (by simpa using ho.2) (by rw [← e]; exact h1) (by rw [← e]; exact h2)
theorem noX_wp {α : Type} {r : R α} {Q : α → Store → Prop} (h : r.wp Q (fun _ _ => False)) : (noX r).wp Q X := by
  cases r with
  | ok a s => exact h
  | ex x s => exact h.elim
  | bad => exact h.elim
/-- over what stands, one name, no test -/
theorem wpLc_nm {fz : Bool} {elt : E} {i : Nat} {own : List (String × Nat)} {ds : List D} (I : Nat → List D → Store → Prop) (h0 : I 0 [] st)
    (h1 : ∀ (j : Nat) (d : D) (acc : List D) (s : Store), ds[j]? = some d → I j acc s → (evE Γ elt ((wipeE env (own.map (·.2))).set i (some d)) s).wp (fun y s' => acc.length < lim ∧ I (j + 1) (acc ++ [y]) s') (fun _ _ => False))
    (h2 : ∀ acc s, I ds.length acc s → (newL fz acc s).wp Q X) : wpLc Γ fz elt (.nm i) .no own (.snap ds) env st Q X := by
  unfold wpLc
  rw [wp_bind]
  refine noX_wp (lcGo_wp I [] ds [] st h0 (fun j d acc s hd hI => ?_) h2)
  unfold lcF
  simp only [bindT, evC, bind_ok, if_true]
  rw [wp_bind]
  exact R.wp_mono (h1 j d acc s hd hI) (fun y s' h => h) (fun _ _ h => h)
/-- over what stands, one name, with a test -/
theorem wpLc_if {fz : Bool} {elt c : E} {i : Nat} {own : List (String × Nat)} {ds : List D} (I : Nat → List D → Store → Prop) (h0 : I 0 [] st)
    (h1 : ∀ (j : Nat) (d : D) (acc : List D) (s : Store), ds[j]? = some d → I j acc s → (evE Γ c ((wipeE env (own.map (·.2))).set i (some d)) s).wp (fun x s3 => wpTr (truthy s3 x)
      ((evE Γ elt ((wipeE env (own.map (·.2))).set i (some d)) s3).wp (fun y s' => acc.length < lim ∧ I (j + 1) (acc ++ [y]) s') (fun _ _ => False)) (I (j + 1) acc s3)) (fun _ _ => False))
    (h2 : ∀ acc s, I ds.length acc s → (newL fz acc s).wp Q X) : wpLc Γ fz elt (.nm i) (.yes c) own (.snap ds) env st Q X := by
  unfold wpLc
  rw [wp_bind]
  refine noX_wp (lcGo_wp I [] ds [] st h0 (fun j d acc s hd hI => ?_) h2)
  unfold lcF
  simp only [bindT, evC, evT]
  rw [wp_bind, wp_bind]
  refine R.wp_mono (h1 j d acc s hd hI) (fun x s3 h => ?_) (fun _ _ h => h)
  unfold tru
  cases ht : truthy s3 x with
  | none => rw [ht] at h; exact h.elim
  | some v =>
    rw [ht] at h
    cases v with
    | false => exact h
    | true =>
      show (R.bind _ _).wp _ _
      rw [wp_bind]
      exact R.wp_mono h (fun y s' h => h) (fun _ _ h => h)
/-- a for over a list of the store that stays as it is -/
theorem forLive_wp {b : D → Ev → Store → SR} {n : Nat} {ds : List D} (I : Nat → Ev → Store → Prop) (hL : ∀ i env st, I i env st → st[n]? = some (.lst ds))
    (h1 : ∀ (i : Nat) (d : D) (env : Ev) (st : Store), ds[i]? = some d → I i env st → (b d env st).wp (I (i + 1)) ⟨k.rt, N, I (i + 1), k.ex⟩) (h2 : ∀ env st, I ds.length env st → N env st) : ∀ (f i : Nat) (env : Ev) (st : Store), i ≤ ds.length → ds.length < f + i → I i env st → (forLive b n f i env st).wp N k
  | 0, i, env, st, hi, hf, h0 => by omega
  | f + 1, i, env, st, hi, hf, h0 => by
    rw [forLive, hL i env st h0]
    by_cases hl : i < ds.length
    · have hd : ds[i]? = some ds[i] := List.getElem?_eq_getElem hl
      have h := h1 i ds[i] env st hd h0
      simp only [hd]
      cases hb : b ds[i] env st with
      | nx e' s' => rw [hb] at h; exact forLive_wp I hL h1 h2 f (i + 1) e' s' (by omega) (by omega) h
      | ct e' s' => rw [hb] at h; exact forLive_wp I hL h1 h2 f (i + 1) e' s' (by omega) (by omega) h
      | bk e' s' => rw [hb] at h; exact h
      | rt e' s' => rw [hb] at h; exact h
      | ex x e' s' => rw [hb] at h; exact h
      | bad => rw [hb] at h; exact h
    · have : i = ds.length := by omega
      subst this
      have hn : ds[ds.length]? = none := List.getElem?_eq_none (Nat.le_refl _)
      simp only [hn]
      exact h2 _ _ h0
theorem wpFor_live {i n : Nat} {b : Ss} {ds : List D} (I : Nat → Ev → Store → Prop) (hl : ds.length < Γ.wf) (hL : ∀ i env st, I i env st → st[n]? = some (.lst ds)) (h0 : I 0 env st)
    (h1 : ∀ (j : Nat) (d : D) (env : Ev) (st : Store), ds[j]? = some d → I j env st → (evSs Γ b (env.set i (some d)) st).wp (I (j + 1)) ⟨k.rt, N, I (j + 1), k.ex⟩) (h2 : ∀ env st, I ds.length env st → N env st) : wpFor Γ (.nm i) b (.live n) env st N k := by
  refine forLive_wp I hL (fun j d env st hd hI => ?_) h2 Γ.wf 0 env st (Nat.zero_le _) (by omega) h0
  simp only [bindT]
  exact h1 j d env st hd hI
end
/-! ### stores -/
def Wf (st : Store) : Prop := st.all (O.bel st.length) = true
theorem gc_wpW {n : Nat} {d : D} {st0 s : Store} {Q : D → Store → Prop} {X : Exn → Store → Prop} (hw : Wf st0) (hn : st0.length = n) (hs : s.take n = st0) (hd : d.bel n = true) (H : Q d st0) : (gc n d s).wp Q X := by
  unfold gc
  subst hn
  rw [hs, hd, show st0.all (O.bel st0.length) = true from hw]
  exact H
theorem gcX_wpW {n : Nat} {x : Exn} {st0 s : Store} {Q : D → Store → Prop} {X : Exn → Store → Prop} (hw : Wf st0) (hn : st0.length = n) (hs : s.take n = st0) (hd : belowL n (x.fs.map (·.2)) = true) (H : X x st0) : (gcX n x s).wp Q X := by
  unfold gcX
  subst hn
  rw [hs, hd, show st0.all (O.bel st0.length) = true from hw]
  exact H
theorem gcX_i {n : Nat} {x : Exn} {s : Store} {Q : D → Store → Prop} {X : Exn → Store → Prop} (h : s.length = n) (H : X x s) : (gcX n x s).wp Q X := by
  unfold gcX
  have : s.take n = s := by rw [← h]; exact List.take_length
  rw [this]; split <;> exact H
theorem belowL_mono {n m : Nat} (h : n ≤ m) : ∀ {ds : List D}, belowL n ds = true → belowL m ds = true := by
  have key : (∀ d : D, d.bel n = true → d.bel m = true) := by
    intro d
    refine D.rec (motive_1 := fun d => d.bel n = true → d.bel m = true) (motive_2 := fun ds => belowL n ds = true → belowL m ds = true) ?_ ?_ ?_ ?_ ?_ ?_ ?_ ?_ ?_ ?_ d
    · exact fun _ => rfl
    · exact fun _ _ => rfl
    · exact fun _ _ => rfl
    · exact fun _ _ => rfl
    · intro ds ih h; simp only [D.bel] at h ⊢; exact ih h
    · intro ds ih h; simp only [D.bel] at h ⊢; exact ih h
    · intro k hk
      simp only [D.bel, decide_eq_true_eq] at hk ⊢
      omega
    · intro ds ih h; simp only [D.bel] at h ⊢; exact ih h
    · exact fun _ => rfl
    · intro d ds ih1 ih2 h
      simp only [belowL, Bool.and_eq_true] at h ⊢
      exact ⟨ih1 h.1, ih2 h.2⟩
  intro ds
  induction ds with
  | nil => exact fun _ => rfl
  | cons d ds ih =>
    intro h
    simp only [belowL, Bool.and_eq_true] at h ⊢
    exact ⟨key d h.1, ih h.2⟩
theorem bel_ints {n : Nat} : ∀ l : List Int, belowL n (l.map D.int) = true
  | [] => rfl
  | i :: l => by simp only [List.map_cons, belowL, D.bel, bel_ints l, Bool.and_self]
theorem bel_strs {n : Nat} : ∀ l : List (List Nat), belowL n (l.map D.str) = true
  | [] => rfl
  | i :: l => by simp only [List.map_cons, belowL, D.bel, bel_strs l, Bool.and_self]
theorem bel_drw {n : Nat} (d : Drw) : O.bel n d.O = true := by
  simp only [Drw.O, O.bel, belowL, D.bel, bel_ints, Bool.and_self]
/-! ### methods -/
theorem wp_meth {Γ : Cx} {env : Ev} {st : Store} {Q : D → Store → Prop} {X : Exn → Store → Prop} {m : Mt} {fz : Bool} {o : E} {es : Es} : (evE Γ (.meth m fz o es) env st).wp Q X = (evE Γ o env st).wp (fun x s1 => rcvOk m (tyName s1 x) = true ∧ (evA Γ es env s1).wp (fun xs s2 => (method m fz x xs s2).wp Q X) X) X := by
  rw [e_meth, wp_bind]
  refine R.wp_q fun x s1 => ?_
  by_cases h : rcvOk m (tyName s1 x) = true
  · rw [if_pos h, wp_bind]; simp only [h, true_and]
  · rw [if_neg h]; exact propext ⟨fun z => z.elim, fun z => h z.1⟩
theorem strsD_map : ∀ l : List (List Nat), strsD (l.map D.str) = some l
  | [] => rfl
  | s :: l => by simp only [List.map_cons, strsD, strsD_map l, Option.map_some]
theorem m_join {fz : Bool} {s : List Nat} {l : List (List Nat)} {st : Store} {Q : D → Store → Prop} {X : Exn → Store → Prop} : (method .join fz (.str s) [.lst (l.map D.str)] st).wp Q X = ((l.map (·.length)).sum + l.length * s.length ≤ lim ∧ Q (.str (TL.joinL s l)) st) := by
  have e : (asSeq st (.lst (l.map D.str))).bind strsD = some l := strsD_map l
  unfold method mJoin
  simp only [e]
  unfold lim1
  by_cases h : (l.map (·.length)).sum + l.length * s.length ≤ lim
  · rw [if_pos h]; simp only [h, true_and]; rfl
  · rw [if_neg h]; simp only [h, false_and]; rfl
theorem m_joinR {fz : Bool} {k : Nat} {s : List Nat} {l : List (List Nat)} {st : Store} {Q : D → Store → Prop} {X : Exn → Store → Prop} (hk : st[k]? = some (.lst (l.map D.str))) : (method .join fz (.str s) [.ref k] st).wp Q X = ((l.map (·.length)).sum + l.length * s.length ≤ lim ∧ Q (.str (TL.joinL s l)) st) := by
  have e : (asSeq st (.ref k)).bind strsD = some l := by
    show (asList st (.ref k)).bind strsD = some l
    simp only [asList, hk, Option.bind_some]
    exact strsD_map l
  unfold method mJoin
  simp only [e]
  unfold lim1
  by_cases h : (l.map (·.length)).sum + l.length * s.length ≤ lim
  · rw [if_pos h]; simp only [h, true_and]; rfl
  · rw [if_neg h]; simp only [h, false_and]; rfl
theorem m_appR {fz : Bool} {k : Nat} {l : List D} {y : D} {st : Store} {Q : D → Store → Prop} {X : Exn → Store → Prop} (h : st[k]? = some (.lst l)) : (method .append fz (.ref k) [y] st).wp Q X = (l.length < lim ∧ Q .non (st.set k (.lst (l ++ [y])))) := by
  unfold method mAppend
  simp only [h]
  by_cases hl : l.length < lim
  · rw [if_pos hl]; simp only [hl, true_and]; rfl
  · rw [if_neg hl]; simp only [hl, false_and]; rfl
theorem m_popR {fz : Bool} {k : Nat} {l : List D} {y : D} {st : Store} {Q : D → Store → Prop} {X : Exn → Store → Prop} (h : st[k]? = some (.lst (l ++ [y]))) : (method .pop0 fz (.ref k) [] st).wp Q X = Q y (st.set k (.lst l)) := by
  unfold method mPop0
  simp only [h, List.length_append, List.length_singleton, Nat.add_sub_cancel, List.getElem?_concat_length, List.dropLast_concat]
  rfl
theorem m_extR {fz : Bool} {k : Nat} {l es : List D} {st : Store} {Q : D → Store → Prop} {X : Exn → Store → Prop} (h : st[k]? = some (.lst l)) : (method .extend fz (.ref k) [.lst es] st).wp Q X = (l.length + es.length ≤ lim ∧ Q .non (st.set k (.lst (l ++ es)))) := by
  unfold method mExtend
  simp only [h, asList]
  by_cases hl : l.length + es.length ≤ lim
  · rw [if_pos hl]; simp only [hl, true_and]; rfl
  · rw [if_neg hl]; simp only [hl, false_and]; rfl
theorem rc_all : (rcvOk .append (some "list") = true) ∧ (rcvOk .pop0 (some "list") = true) ∧ (rcvOk .pop1 (some "list") = true) ∧ (rcvOk .extend (some "list") = true) ∧ (rcvOk .index (some "list") = true) ∧ (rcvOk .index (some "tuple") = true) ∧ (rcvOk .join (some "str") = true) ∧ (rcvOk .get1 (some "dict") = true) ∧ (rcvOk .get2 (some "dict") = true) := by decide
theorem ty_refL {k : Nat} {l : List D} {st : Store} (h : st[k]? = some (.lst l)) : tyName st (.ref k) = some "list" := by
  simp only [tyName, h]
theorem bi_lenRf {fz : Bool} {k : Nat} {l : List D} {st : Store} (h : st[k]? = some (.lst l)) : builtin .len fz [.ref k] st = .ok (.int l.length) st := by
  simp only [builtin, h]
theorem bi_lenT {fz : Bool} {l : List D} {st : Store} : builtin .len fz [.tup l] st = .ok (.int l.length) st := rfl
theorem joinL_nil : ∀ l : List (List Nat), TL.joinL [] l = l.flatten
  | [] => by simp [TL.joinL]
  | [a] => by simp [TL.joinL]
  | a :: b :: l => by
    have := joinL_nil (b :: l)
    simp [TL.joinL] at this ⊢
    try rw [this]
theorem e_isx {Γ : Cx} {env : Ev} {st : Store} {i : Nat} {cs : List String} {x : Exn} {xd : Xd} (h : Γ.hx = some (i, x)) (hi : i < env.length) (hx : Γ.exc x.cls = some xd) : evE Γ (.isx i cs) env st = .ok (.bl (cs.any fun z => xd.mro.contains z)) st := by
  rw [evE, h]
  simp only [hi, and_self, if_true, hx]
theorem e_xattr {Γ : Cx} {env : Ev} {st : Store} {i : Nat} {f : String} {x : Exn} {xd : Xd} {d : D} (h : Γ.hx = some (i, x)) (hi : i < env.length) (hx : Γ.exc x.cls = some xd) (hf : f ∈ xd.fs) (hd : x.fs.lookup f = some d) : evE Γ (.xattr i f) env st = .ok d st := by
  rw [evE, h]
  simp only [hi, and_self, if_true, hx, hf, hd, ofO]
section
variable {α : Type} {a b c d e f g h i j : α} {l : List α}
theorem atI_nat (l : List α) (n : Nat) : L2.atI l (n : Int) = l[n]? := by
  unfold L2.atI L2.ixN
  rw [if_pos (by omega)]
  by_cases h : (n : Int) < (l.length : Int)
  · rw [if_pos h]; show l[((n : Nat) : Int).toNat]? = _; rw [Int.toNat_natCast]
  · rw [if_neg h, List.getElem?_eq_none (by omega)]; rfl
theorem at_0 : L2.atI (a :: l) 0 = some a := atI_nat (a :: l) 0
theorem at_1 : L2.atI (a :: b :: l) 1 = some b := atI_nat (a :: b :: l) 1
theorem at_2 : L2.atI (a :: b :: c :: l) 2 = some c := atI_nat (a :: b :: c :: l) 2
theorem at_3 : L2.atI (a :: b :: c :: d :: l) 3 = some d := atI_nat (a :: b :: c :: d :: l) 3
theorem at_4 : L2.atI (a :: b :: c :: d :: e :: l) 4 = some e := atI_nat (a :: b :: c :: d :: e :: l) 4
theorem at_5 : L2.atI (a :: b :: c :: d :: e :: f :: l) 5 = some f := atI_nat (a :: b :: c :: d :: e :: f :: l) 5
theorem at_6 : L2.atI (a :: b :: c :: d :: e :: f :: g :: l) 6 = some g := atI_nat (a :: b :: c :: d :: e :: f :: g :: l) 6
theorem at_end : L2.atI (l ++ [a]) (-1) = some a := by
  unfold L2.atI L2.ixN
  rw [if_neg (by omega), List.length_append, List.length_singleton, if_pos (by omega)]
  show (l ++ [a])[(-1 + ((l.length + 1 : Nat) : Int)).toNat]? = _
  rw [show (-1 + ((l.length + 1 : Nat) : Int)).toNat = l.length by omega]
  exact List.getElem?_concat_length
end
section
variable {Γ : Cx} {env : Ev} {st : Store} {e e2 : E} {es : Es} {p q : Prop} [Decidable p] [Decidable q]
theorem evAnd_one (h : evE Γ e env st = .ok (.bl (decide p)) st) : evAnd Γ (.cons e .nil) env st = .ok (.bl (decide p)) st := by rw [evAnd]; exact h
theorem evAnd_cons (h1 : evE Γ e env st = .ok (.bl (decide p)) st) (h2 : evAnd Γ (.cons e2 es) env st = .ok (.bl (decide q)) st) : evAnd Γ (.cons e (.cons e2 es)) env st = .ok (.bl (decide (p ∧ q))) st := by
  rw [evAnd, h1]
  · by_cases h : p
    · have e : decide (p ∧ q) = decide q := by simp [h]
      rw [e, ← h2, decide_eq_true h]; rfl
    · have e : decide (p ∧ q) = false := by simp [h]
      rw [e, decide_eq_false h]; rfl
  · exact fun h => by cases h
theorem evOr_one (h : evE Γ e env st = .ok (.bl (decide p)) st) : evOr Γ (.cons e .nil) env st = .ok (.bl (decide p)) st := by rw [evOr]; exact h
theorem evOr_cons (h1 : evE Γ e env st = .ok (.bl (decide p)) st) (h2 : evOr Γ (.cons e2 es) env st = .ok (.bl (decide q)) st) : evOr Γ (.cons e (.cons e2 es)) env st = .ok (.bl (decide (p ∨ q))) st := by
  rw [evOr, h1]
  · by_cases h : p
    · have e : decide (p ∨ q) = true := by simp [h]
      rw [e, decide_eq_true h]; rfl
    · have e : decide (p ∨ q) = decide q := by simp [h]
      rw [e, ← h2, decide_eq_false h]; rfl
  · exact fun h => by cases h
end
theorem bindT_ref3 {i j l k : Nat} {a b c : D} {env : Ev} {st : Store} (h : st[k]? = some (.lst [a, b, c])) : bindT st (.tup [.nm i, .nm j, .nm l]) (.ref k) env = some (((env.set i (some a)).set j (some b)).set l (some c)) := by
  simp only [bindT, asSeq, asList, h, bindTs]
theorem bindT_tup2 {i j : Nat} {a b : D} {env : Ev} {st : Store} : bindT st (.tup [.nm i, .nm j]) (.tup [a, b]) env = some ((env.set i (some a)).set j (some b)) := by
  simp only [bindT, asSeq, bindTs]
theorem ixN_all : (L2.ixN 1 0 = some 0) ∧ (L2.ixN 2 0 = some 0) ∧ (L2.ixN 2 1 = some 1) ∧ (L2.ixN 3 0 = some 0) ∧ (L2.ixN 3 1 = some 1) ∧ (L2.ixN 3 2 = some 2) ∧ (L2.ixN 4 0 = some 0) ∧ (L2.ixN 4 1 = some 1) ∧ (L2.ixN 4 2 = some 2) ∧ (L2.ixN 4 3 = some 3) := by decide
theorem ixN_lt {n i : Nat} (h : i < n) : L2.ixN n (i : Int) = some i := by
  unfold L2.ixN
  rw [if_pos (by omega), if_pos (by omega), Int.toNat_natCast]
theorem wp_setR {k : Nat} {ds : List D} {i : Int} {v : D} {st : Store} {Q : Unit → Store → Prop} {X : Exn → Store → Prop} (h : st[k]? = some (.lst ds)) : (setIx (.ref k) (.int i) v st).wp Q X = wpO (L2.ixN ds.length i) (fun j => Q () (st.set k (.lst (ds.set j v)))) := by
  unfold setIx
  simp only [h]
  cases L2.ixN ds.length i <;> rfl
end T
set_option Elab.async false
set_option linter.all false
set_option maxRecDepth 100000
set_option maxHeartbeats 0
namespace T
namespace K07
open PySem PySem.Spec PyProof.Rows L2
def d_digits_end : Fd := ⟨2, 2, (.cons (.while (.and (.cons (.cmp .lt (.var 1) (.bi .len true (.cons (.var 0) .nil))) (.cons (.cmp .inn (.idx (.var 0) (.var 1)) (.glob "DIGITS")) .nil))) (.cons (.aug 1 .add (.int 1)) .nil)) (.cons (.ret (.var 1)) .nil))⟩
def d_told_number : Fd := ⟨4, 4, (.cons (.ifs (.or (.cons (.cmp .gt (.bin .sub true (.var 2) (.var 1)) (.int 2)) (.cons (.cmp .eq (.idx (.var 0) (.var 1)) (.str "0")) (.cons (.not (.chain .le .le (.int 2) (.bi .int true (.cons (.slc true (.var 0) (.yes (.var 1)) (.yes (.var 2))) .nil)) (.var 3))) .nil)))) (.cons (.raise "BadText" (.cons (.var 1) .nil)) .nil) .nil) (.cons (.ret (.bi .int true (.cons (.slc true (.var 0) (.yes (.var 1)) (.yes (.var 2))) .nil))) .nil))⟩
def d_add_letters : Fd := ⟨3, 3, (.cons (.augS (.var 0) (.int 2) .add (.var 2)) (.cons (.ifs (.cmp .le (.idx (.var 0) (.int 2)) (.glob "MOST_LETTERS")) (.cons (.sub (.var 0) (.int 1) (.bin .add true (.idx (.var 0) (.int 1)) (.var 1))) .nil) (.cons (.sub (.var 0) (.int 1) (.str "")) .nil)) .nil))⟩
def d_read_item : Fd := ⟨3, 9, (.cons (.set 3 (.call "digits_end" (.cons (.var 0) (.cons (.var 1) .nil)))) (.cons (.set 4 (.int 1)) (.cons (.ifs (.cmp .gt (.var 3) (.var 1)) (.cons (.set 4 (.call "told_number" (.cons (.var 0) (.cons (.var 1) (.cons (.var 3) (.cons (.glob "MOST_TIMES") .nil)))))) .nil) .nil) (.cons (.set 5 (.slc true (.var 0) (.yes (.var 3)) (.yes (.bin .add true (.var 3) (.int 1))))) (.cons (.ifs (.and (.cons (.cmp .ne (.var 5) (.str "")) (.cons (.cmp .inn (.var 5) (.glob "LETTERS")) .nil))) (.cons (.expr (.call "add_letters" (.cons (.idx (.var 2) (.neg (.int 1))) (.cons (.bin .mul true (.var 5) (.var 4)) (.cons (.var 4) .nil))))) .nil) (.cons (.ifs (.and (.cons (.cmp .eq (.var 5) (.str "(")) (.cons (.cmp .gt (.var 3) (.var 1)) (.cons (.cmp .le (.bi .len true (.cons (.var 2) .nil)) (.glob "MOST_DEPTH")) .nil)))) (.cons (.expr (.meth .append true (.var 2) (.cons (.lst false (.cons (.var 4) (.cons (.str "") (.cons (.int 0) .nil)))) .nil))) .nil) (.cons (.ifs (.and (.cons (.cmp .eq (.var 5) (.str ")")) (.cons (.cmp .eq (.var 3) (.var 1)) (.cons (.cmp .gt (.bi .len true (.cons (.var 2) .nil)) (.int 1)) (.cons (.cmp .gt (.idx (.idx (.var 2) (.neg (.int 1))) (.int 2)) (.int 0)) .nil))))) (.cons (.unp (.tup [(.nm 6), (.nm 7), (.nm 8)]) (.meth .pop0 true (.var 2) .nil)) (.cons (.expr (.call "add_letters" (.cons (.idx (.var 2) (.neg (.int 1))) (.cons (.bin .mul true (.var 7) (.var 6)) (.cons (.bin .mul true (.var 8) (.var 6)) .nil))))) .nil)) (.cons (.raise "BadText" (.cons (.var 3) .nil)) .nil)) .nil)) .nil)) (.cons (.ret (.bin .add true (.var 3) (.int 1))) .nil))))))⟩
def d_read_calling : Fd := ⟨1, 3, (.cons (.ifs (.not (.isi (.var 0) ["str"])) (.cons (.raise "BadText" (.cons (.neg (.int 1)) .nil)) .nil) .nil) (.cons (.set 1 (.lst false (.cons (.lst false (.cons (.int 1) (.cons (.str "") (.cons (.int 0) .nil)))) .nil))) (.cons (.set 2 (.int 0)) (.cons (.while (.cmp .lt (.var 2) (.bi .len true (.cons (.var 0) .nil))) (.cons (.set 2 (.call "read_item" (.cons (.var 0) (.cons (.var 2) (.cons (.var 1) .nil))))) .nil)) (.cons (.ifs (.cmp .gt (.bi .len true (.cons (.var 1) .nil)) (.int 1)) (.cons (.raise "BadText" (.cons (.bi .len true (.cons (.var 0) .nil)) .nil)) .nil) .nil) (.cons (.ifs (.cmp .gt (.idx (.idx (.var 1) (.int 0)) (.int 2)) (.glob "MOST_LETTERS")) (.cons (.raise "TooLong" (.cons (.idx (.idx (.var 1) (.int 0)) (.int 2)) .nil)) .nil) .nil) (.cons (.ret (.idx (.idx (.var 1) (.int 0)) (.int 1))) .nil)))))))⟩
def d__law_is_int : Fd := ⟨1, 1, (.cons (.ret (.and (.cons (.isi (.var 0) ["int"]) (.cons (.not (.isi (.var 0) ["bool"])) .nil)))) .nil)⟩
def d__law_number : Fd := ⟨1, 2, (.cons (.set 1 (.call "_law_pick" (.cons (.var 0) (.cons (.int 8) .nil)))) (.cons (.ifs (.cmp .lt (.var 1) (.int 5)) (.cons (.ret (.idx (.lst true (.cons (.str "2") (.cons (.str "3") (.cons (.str "2") (.cons (.str "4") (.cons (.str "03") .nil)))))) (.var 1))) .nil) .nil) (.cons (.ret (.bi .str true (.cons (.call "_law_pick" (.cons (.var 0) (.cons (.int 121) .nil))) .nil))) .nil)))⟩
def d__law_item : Fd := ⟨1, 2, (.cons (.set 1 (.idx (.str "abpqzm") (.call "_law_pick" (.cons (.var 0) (.cons (.int 6) .nil))))) (.cons (.ifs (.cmp .eq (.call "_law_pick" (.cons (.var 0) (.cons (.int 3) .nil))) (.int 2)) (.cons (.ret (.bin .add true (.call "_law_number" (.cons (.var 0) .nil)) (.var 1))) .nil) .nil) (.cons (.ret (.var 1)) .nil)))⟩
def d__law_built : Fd := ⟨1, 5, (.cons (.set 1 (.meth .join true (.str "") (.cons (.lc true (.call "_law_item" (.cons (.var 0) .nil)) (.nm 3) (.rg1 (.bin .add true (.int 1) (.call "_law_pick" (.cons (.var 0) (.cons (.int 3) .nil))))) .no [("_law_turn", 3)]) .nil))) (.cons (.set 2 (.int 0)) (.cons (.for (.nm 3) (.rg1 (.call "_law_pick" (.cons (.var 0) (.cons (.int 11) .nil)))) (.cons (.set 4 (.call "_law_pick" (.cons (.var 0) (.cons (.int 5) .nil)))) (.cons (.ifs (.and (.cons (.cmp .lt (.var 4) (.int 3)) (.cons (.cmp .lt (.var 2) (.int 8)) .nil))) (.cons (.set 2 (.bin .add true (.var 2) (.int 1))) (.cons (.set 1 (.bin .add true (.bin .add true (.bin .add true (.idx (.lst true (.cons (.str "2") (.cons (.str "3") (.cons (.str "2") (.cons (.call "_law_number" (.cons (.var 0) .nil)) .nil))))) (.call "_law_pick" (.cons (.var 0) (.cons (.int 4) .nil)))) (.str "(")) (.var 1)) (.str ")"))) .nil)) (.cons (.ifs (.cmp .eq (.var 4) (.int 3)) (.cons (.set 1 (.bin .add true (.call "_law_item" (.cons (.var 0) .nil)) (.var 1))) .nil) (.cons (.set 1 (.bin .add true (.var 1) (.call "_law_item" (.cons (.var 0) .nil)))) .nil)) .nil)) .nil))) (.cons (.ret (.var 1)) .nil))))⟩
def d__law_signs : Fd := ⟨1, 3, (.cons (.set 1 (.str "ab()0123456789a(2(p3")) (.cons (.ret (.meth .join true (.str "") (.cons (.lc true (.idx (.var 1) (.call "_law_pick" (.cons (.var 0) (.cons (.bi .len true (.cons (.var 1) .nil)) .nil)))) (.nm 2) (.rg1 (.call "_law_pick" (.cons (.var 0) (.cons (.int 13) .nil)))) .no [("_law_turn", 2)]) .nil))) .nil))⟩
def d__law_long : Fd := ⟨1, 5, (.cons (.set 1 (.bin .add true (.int 380) (.call "_law_pick" (.cons (.var 0) (.cons (.int 41) .nil))))) (.cons (.set 2 (.lst false .nil)) (.cons (.for (.nm 3) (.rg1 (.int 12)) (.cons (.set 4 (.bi .min2 true (.cons (.var 1) (.cons (.bin .add true (.int 2) (.call "_law_pick" (.cons (.var 0) (.cons (.int 98) .nil)))) .nil)))) (.cons (.ifs (.cmp .gt (.var 4) (.int 1)) (.cons (.expr (.meth .append true (.var 2) (.cons (.bin .add true (.bi .str true (.cons (.var 4) .nil)) (.idx (.str "abz") (.call "_law_pick" (.cons (.var 0) (.cons (.int 3) .nil))))) .nil))) (.cons (.set 1 (.bin .sub true (.var 1) (.var 4))) .nil)) .nil) .nil))) (.cons (.ret (.bin .add true (.meth .join true (.str "") (.cons (.var 2) .nil)) (.bin .mul true (.str "q") (.var 1)))) .nil))))⟩
def d__law_spoilt : Fd := ⟨2, 6, (.cons (.set 2 (.str "ab()0123456789a(2(p3 -.A~x")) (.cons (.set 3 (.call "_law_pick" (.cons (.var 0) (.cons (.bin .add true (.bi .len true (.cons (.var 1) .nil)) (.int 1)) .nil)))) (.cons (.set 4 (.idx (.var 2) (.call "_law_pick" (.cons (.var 0) (.cons (.bi .len true (.cons (.var 2) .nil)) .nil))))) (.cons (.set 5 (.call "_law_pick" (.cons (.var 0) (.cons (.int 8) .nil)))) (.cons (.ifs (.cmp .eq (.var 5) (.int 7)) (.cons (.set 4 (.idx (.lst true (.cons (.str "2()") (.cons (.str "()") (.cons (.str "2(a") (.cons (.str "a)") (.cons (.str "100a") (.cons (.str "02a") (.cons (.str "1a") (.cons (.str "7(") (.cons (.str "99") (.cons (.str "2)") (.cons (.str "3(b)") (.cons (.str "0") .nil))))))))))))) (.call "_law_pick" (.cons (.var 0) (.cons (.int 12) .nil))))) .nil) .nil) (.cons (.ifs (.or (.cons (.cmp .lt (.var 5) (.int 2)) (.cons (.cmp .eq (.var 5) (.int 7)) .nil))) (.cons (.ret (.bin .add true (.bin .add true (.slc true (.var 1) .no (.yes (.var 3))) (.var 4)) (.slc true (.var 1) (.yes (.var 3)) .no))) .nil) .nil) (.cons (.ifs (.cmp .lt (.var 5) (.int 4)) (.cons (.ret (.bin .add true (.slc true (.var 1) .no (.yes (.var 3))) (.slc true (.var 1) (.yes (.bin .add true (.var 3) (.int 1))) .no))) .nil) .nil) (.cons (.ifs (.cmp .lt (.var 5) (.int 6)) (.cons (.ret (.bin .add true (.bin .add true (.slc true (.var 1) .no (.yes (.var 3))) (.var 4)) (.slc true (.var 1) (.yes (.bin .add true (.var 3) (.int 1))) .no))) .nil) .nil) (.cons (.ret (.slc true (.var 1) .no (.yes (.var 3)))) .nil)))))))))⟩
def d__law_run : Fd := ⟨2, 2, (.cons (.while (.and (.cons (.cmp .lt (.var 1) (.bi .len true (.cons (.var 0) .nil))) (.cons (.cmp .inn (.idx (.var 0) (.var 1)) (.str "0123456789")) .nil))) (.cons (.set 1 (.bin .add true (.var 1) (.int 1))) .nil)) (.cons (.ret (.var 1)) .nil))⟩
def d__law_bad_at : Fd := ⟨1, 6, (.cons (.set 1 (.lc true (.bi .str true (.cons (.var 5) .nil)) (.nm 5) (.rg2 (.int 2) (.int 100)) .no [("_law_number_here", 5)])) (.cons (.set 2 (.lst false .nil)) (.cons (.set 3 (.int 0)) (.cons (.while (.cmp .lt (.var 3) (.bi .len true (.cons (.var 0) .nil))) (.cons (.set 4 (.call "_law_run" (.cons (.var 0) (.cons (.var 3) .nil)))) (.cons (.ifs (.and (.cons (.cmp .gt (.var 4) (.var 3)) (.cons (.cmp .notin (.slc true (.var 0) (.yes (.var 3)) (.yes (.var 4))) (.var 1)) .nil))) (.cons (.ret (.var 3)) .nil) .nil) (.cons (.ifs (.cmp .eq (.var 4) (.bi .len true (.cons (.var 0) .nil))) (.cons (.ret (.var 4)) .nil) .nil) (.cons (.ifs (.cmp .eq (.idx (.var 0) (.var 4)) (.str "(")) (.cons (.ifs (.or (.cons (.cmp .eq (.var 4) (.var 3)) (.cons (.cmp .eq (.bi .len true (.cons (.var 2) .nil)) (.int 6)) .nil))) (.cons (.ret (.var 4)) .nil) .nil) (.cons (.expr (.meth .append true (.var 2) (.cons (.var 4) .nil))) .nil)) (.cons (.ifs (.cmp .eq (.idx (.var 0) (.var 4)) (.str ")")) (.cons (.ifs (.or (.cons (.cmp .gt (.var 4) (.var 3)) (.cons (.cmp .eq (.bi .len true (.cons (.var 2) .nil)) (.int 0)) (.cons (.cmp .eq (.meth .pop0 true (.var 2) .nil) (.bin .sub true (.var 4) (.int 1))) .nil)))) (.cons (.ret (.var 4)) .nil) .nil) .nil) (.cons (.ifs (.cmp .notin (.idx (.var 0) (.var 4)) (.str "abcdefghijklmnopqrstuvwxyz")) (.cons (.ret (.var 4)) .nil) .nil) .nil)) .nil)) (.cons (.set 3 (.bin .add true (.var 4) (.int 1))) .nil)))))) (.cons (.ifs (.cmp .gt (.bi .len true (.cons (.var 2) .nil)) (.int 0)) (.cons (.ret (.bi .len true (.cons (.var 0) .nil))) .nil) .nil) (.cons (.ret .non) .nil))))))⟩
def d__law_put : Fd := ⟨3, 3, (.cons (.sub (.var 0) (.int 2) (.bin .add true (.idx (.var 0) (.int 2)) (.var 2))) (.cons (.ifs (.cmp .le (.idx (.var 0) (.int 2)) (.int 400)) (.cons (.sub (.var 0) (.int 1) (.bin .add true (.idx (.var 0) (.int 1)) (.var 1))) .nil) (.cons (.sub (.var 0) (.int 1) (.str "")) .nil)) .nil))⟩
def d__law_worth : Fd := ⟨1, 8, (.cons (.set 1 (.lst false (.cons (.lst false (.cons (.int 1) (.cons (.str "") (.cons (.int 0) .nil)))) .nil))) (.cons (.set 2 (.int 0)) (.cons (.while (.cmp .lt (.var 2) (.bi .len true (.cons (.var 0) .nil))) (.cons (.set 3 (.call "_law_run" (.cons (.var 0) (.cons (.var 2) .nil)))) (.cons (.set 4 (.int 1)) (.cons (.ifs (.cmp .gt (.var 3) (.var 2)) (.cons (.set 4 (.bi .int true (.cons (.slc true (.var 0) (.yes (.var 2)) (.yes (.var 3))) .nil))) .nil) .nil) (.cons (.ifs (.cmp .eq (.idx (.var 0) (.var 3)) (.str "(")) (.cons (.expr (.meth .append true (.var 1) (.cons (.lst false (.cons (.var 4) (.cons (.str "") (.cons (.int 0) .nil)))) .nil))) .nil) (.cons (.ifs (.cmp .eq (.idx (.var 0) (.var 3)) (.str ")")) (.cons (.unp (.tup [(.nm 5), (.nm 6), (.nm 7)]) (.meth .pop0 true (.var 1) .nil)) (.cons (.expr (.call "_law_put" (.cons (.idx (.var 1) (.neg (.int 1))) (.cons (.bin .mul true (.var 6) (.var 5)) (.cons (.bin .mul true (.var 7) (.var 5)) .nil))))) .nil)) (.cons (.expr (.call "_law_put" (.cons (.idx (.var 1) (.neg (.int 1))) (.cons (.bin .mul true (.idx (.var 0) (.var 3)) (.var 4)) (.cons (.var 4) .nil))))) .nil)) .nil)) (.cons (.set 2 (.bin .add true (.var 3) (.int 1))) .nil)))))) (.cons (.ret (.tup (.cons (.idx (.idx (.var 1) (.int 0)) (.int 1)) (.cons (.idx (.idx (.var 1) (.int 0)) (.int 2)) .nil)))) .nil))))⟩
def d__law_due : Fd := ⟨1, 4, (.cons (.set 1 (.call "_law_bad_at" (.cons (.var 0) .nil))) (.cons (.ifs (.cmp .notN (.var 1) .non) (.cons (.ret (.tup (.cons (.str "text") (.cons (.var 1) .nil)))) .nil) .nil) (.cons (.unp (.tup [(.nm 2), (.nm 3)]) (.call "_law_worth" (.cons (.var 0) .nil))) (.cons (.ifs (.cmp .gt (.var 3) (.int 400)) (.cons (.ret (.tup (.cons (.str "long") (.cons (.var 3) .nil)))) .nil) .nil) (.cons (.ret (.tup (.cons (.str "calling") (.cons (.var 2) .nil)))) .nil)))))⟩
def d__law_told : Fd := ⟨1, 2, (.cons (.tryAs (.cons (.ret (.tup (.cons (.str "calling") (.cons (.call "read_calling" (.cons (.var 0) .nil)) .nil)))) .nil) "TouchError" 1 (.cons (.ifs (.and (.cons (.isx 1 ["BadText"]) (.cons (.not (.isx 1 ["TooLong"])) .nil))) (.cons (.ret (.tup (.cons (.str "text") (.cons (.xattr 1 "at") .nil)))) .nil) .nil) (.cons (.ifs (.and (.cons (.isx 1 ["TooLong"]) (.cons (.not (.isx 1 ["BadText"])) .nil))) (.cons (.ret (.tup (.cons (.str "long") (.cons (.xattr 1 "number") .nil)))) .nil) .nil) .nil))) (.cons (.ret (.tup (.cons (.str "none") (.cons (.int 0) .nil)))) .nil))⟩
def d__law_is_told : Fd := ⟨1, 3, (.cons (.set 1 (.call "_law_due" (.cons (.var 0) .nil))) (.cons (.set 2 (.call "_law_told" (.cons (.var 0) .nil))) (.cons (.ifs (.or (.cons (.cmp .ne (.idx (.var 2) (.int 0)) (.idx (.var 1) (.int 0))) (.cons (.cmp .ne (.idx (.var 2) (.int 1)) (.idx (.var 1) (.int 1))) .nil))) (.cons (.ret (.bl false)) .nil) .nil) (.cons (.ifs (.cmp .eq (.idx (.var 1) (.int 0)) (.str "calling")) (.cons (.ret (.isi (.idx (.var 2) (.int 1)) ["str"])) .nil) .nil) (.cons (.ret (.call "_law_is_int" (.cons (.idx (.var 2) (.int 1)) .nil))) .nil)))))⟩
def d_law : Fd := ⟨1, 7, (.cons (.set 1 (.call "_law_draw" (.cons (.var 0) .nil))) (.cons (.set 2 (.call "_law_built" (.cons (.var 1) .nil))) (.cons (.ifs (.cmp .eq (.call "_law_pick" (.cons (.var 1) (.cons (.int 6) .nil))) (.int 5)) (.cons (.set 2 (.call "_law_signs" (.cons (.var 1) .nil))) .nil) .nil) (.cons (.set 3 (.lst false (.cons (.var 2) (.cons (.var 2) .nil)))) (.cons (.for (.nm 4) (.rg1 (.bin .add true (.int 1) (.call "_law_pick" (.cons (.var 1) (.cons (.int 3) .nil))))) (.cons (.sub (.var 3) (.int 1) (.call "_law_spoilt" (.cons (.var 1) (.cons (.idx (.var 3) (.int 1)) .nil)))) (.cons (.expr (.meth .append true (.var 3) (.cons (.idx (.var 3) (.int 1)) .nil))) .nil))) (.cons (.set 5 (.call "_law_long" (.cons (.var 1) .nil))) (.cons (.expr (.meth .extend true (.var 3) (.cons (.lst true (.cons (.var 5) (.cons (.call "_law_spoilt" (.cons (.var 1) (.cons (.var 5) .nil))) (.cons (.var 2) .nil)))) .nil))) (.cons (.for (.nm 2) (.val (.var 3)) (.cons (.ifs (.not (.call "_law_is_told" (.cons (.var 2) .nil))) (.cons (.ret (.bl false)) .nil) .nil) .nil)) (.cons (.set 6 (.idx (.lst true (.cons .non (.cons (.int 7) (.cons (.bl true) (.cons (.lst true (.cons (.str "a") .nil)) (.cons (.tup (.cons (.str "a") (.cons (.str "b") .nil))) (.cons (.neg (.int 1)) .nil))))))) (.call "_law_pick" (.cons (.var 1) (.cons (.int 6) .nil))))) (.cons (.ret (.cmp .eq (.call "_law_told" (.cons (.var 6) .nil)) (.tup (.cons (.str "text") (.cons (.neg (.int 1)) .nil))))) .nil))))))))))⟩
def prog : Prog where
  defs := fun f => [("digits_end", d_digits_end), ("told_number", d_told_number), ("add_letters", d_add_letters), ("read_item", d_read_item), ("read_calling", d_read_calling), ("_law_draw", d__law_draw), ("_law_mix", d__law_mix), ("_law_pick", d__law_pick), ("_law_is_int", d__law_is_int), ("_law_number", d__law_number), ("_law_item", d__law_item), ("_law_built", d__law_built), ("_law_signs", d__law_signs), ("_law_long", d__law_long), ("_law_spoilt", d__law_spoilt), ("_law_run", d__law_run), ("_law_bad_at", d__law_bad_at), ("_law_put", d__law_put), ("_law_worth", d__law_worth), ("_law_due", d__law_due), ("_law_told", d__law_told), ("_law_is_told", d__law_is_told), ("law", d_law)].lookup f
  glob := fun x => [("DIGITS", D.str ("0123456789".toList.map Char.toNat)), ("LETTERS", D.str ("abcdefghijklmnopqrstuvwxyz".toList.map Char.toNat)), ("MOST_DEPTH", D.int 6), ("MOST_LETTERS", D.int 400), ("MOST_TIMES", D.int 99)].lookup x
  exc := fun x => [("BadText", ⟨["at"], ["BadText", "TouchError", "ValueError", "Exception"]⟩), ("TooLong", ⟨["number"], ["TooLong", "TouchError", "ValueError", "Exception"]⟩)].lookup x
  wf := 1000000
def top (i : Nat) : Stmt := PySem.Challenge.pw_truetouch_k07_bad_calling_texts.main.body.getD i (.Pass ⟨0, 0, 0, 0⟩)
def f_digits_end : Df := ⟨"digits_end", top 7, [Str.ofString "text", Str.ofString "at"], [Str.ofString "text", Str.ofString "at"], d_digits_end⟩
def f_told_number : Df := ⟨"told_number", top 8, [Str.ofString "text", Str.ofString "at", Str.ofString "end", Str.ofString "most"], [Str.ofString "text", Str.ofString "at", Str.ofString "end", Str.ofString "most"], d_told_number⟩
def f_add_letters : Df := ⟨"add_letters", top 13, [Str.ofString "level", Str.ofString "letters", Str.ofString "many"], [Str.ofString "level", Str.ofString "letters", Str.ofString "many"], d_add_letters⟩
def f_read_item : Df := ⟨"read_item", top 14, [Str.ofString "text", Str.ofString "at", Str.ofString "levels", Str.ofString "end", Str.ofString "number", Str.ofString "sign", Str.ofString "repeated", Str.ofString "letters", Str.ofString "many"], [Str.ofString "text", Str.ofString "at", Str.ofString "levels"], d_read_item⟩
def f_read_calling : Df := ⟨"read_calling", top 15, [Str.ofString "text", Str.ofString "levels", Str.ofString "at"], [Str.ofString "text"], d_read_calling⟩
def f__law_draw : Df := ⟨"_law_draw", top 17, [Str.ofString "_law_script", Str.ofString "_law_cells", Str.ofString "_law_cell"], [Str.ofString "_law_script"], d__law_draw⟩
def f__law_mix : Df := ⟨"_law_mix", top 18, [Str.ofString "_law_cell", Str.ofString "_law_turn", Str.ofString "_law_one", Str.ofString "_law_two"], [Str.ofString "_law_cell", Str.ofString "_law_turn"], d__law_mix⟩
def f__law_pick : Df := ⟨"_law_pick", top 19, [Str.ofString "_law_draw_here", Str.ofString "_law_many", Str.ofString "_law_cell", Str.ofString "_law_digit", Str.ofString "_law_found"], [Str.ofString "_law_draw_here", Str.ofString "_law_many"], d__law_pick⟩
def f__law_is_int : Df := ⟨"_law_is_int", top 20, [Str.ofString "_law_thing"], [Str.ofString "_law_thing"], d__law_is_int⟩
def f__law_number : Df := ⟨"_law_number", top 21, [Str.ofString "_law_draw_here", Str.ofString "_law_kind"], [Str.ofString "_law_draw_here"], d__law_number⟩
def f__law_item : Df := ⟨"_law_item", top 22, [Str.ofString "_law_draw_here", Str.ofString "_law_letter"], [Str.ofString "_law_draw_here"], d__law_item⟩
def f__law_built : Df := ⟨"_law_built", top 23, [Str.ofString "_law_draw_here", Str.ofString "_law_text", Str.ofString "_law_depth", Str.ofString "_law_turn", Str.ofString "_law_kind"], [Str.ofString "_law_draw_here"], d__law_built⟩
def f__law_signs : Df := ⟨"_law_signs", top 24, [Str.ofString "_law_draw_here", Str.ofString "_law_signs_here", Str.ofString "_law_turn"], [Str.ofString "_law_draw_here"], d__law_signs⟩
def f__law_long : Df := ⟨"_law_long", top 25, [Str.ofString "_law_draw_here", Str.ofString "_law_rest", Str.ofString "_law_items", Str.ofString "_law_turn", Str.ofString "_law_many"], [Str.ofString "_law_draw_here"], d__law_long⟩
def f__law_spoilt : Df := ⟨"_law_spoilt", top 26, [Str.ofString "_law_draw_here", Str.ofString "_law_text", Str.ofString "_law_signs_here", Str.ofString "_law_spot", Str.ofString "_law_sign", Str.ofString "_law_way"], [Str.ofString "_law_draw_here", Str.ofString "_law_text"], d__law_spoilt⟩
def f__law_run : Df := ⟨"_law_run", top 27, [Str.ofString "_law_text", Str.ofString "_law_at"], [Str.ofString "_law_text", Str.ofString "_law_at"], d__law_run⟩
def f__law_bad_at : Df := ⟨"_law_bad_at", top 28, [Str.ofString "_law_text", Str.ofString "_law_numbers", Str.ofString "_law_opened", Str.ofString "_law_at", Str.ofString "_law_end", Str.ofString "_law_number_here"], [Str.ofString "_law_text"], d__law_bad_at⟩
def f__law_put : Df := ⟨"_law_put", top 29, [Str.ofString "_law_level", Str.ofString "_law_letters", Str.ofString "_law_many"], [Str.ofString "_law_level", Str.ofString "_law_letters", Str.ofString "_law_many"], d__law_put⟩
def f__law_worth : Df := ⟨"_law_worth", top 30, [Str.ofString "_law_text", Str.ofString "_law_levels", Str.ofString "_law_at", Str.ofString "_law_end", Str.ofString "_law_number_here", Str.ofString "_law_often", Str.ofString "_law_letters", Str.ofString "_law_many"], [Str.ofString "_law_text"], d__law_worth⟩
def f__law_due : Df := ⟨"_law_due", top 31, [Str.ofString "_law_text", Str.ofString "_law_bad", Str.ofString "_law_letters", Str.ofString "_law_many"], [Str.ofString "_law_text"], d__law_due⟩
def f__law_told : Df := ⟨"_law_told", top 32, [Str.ofString "_law_text", Str.ofString "caught"], [Str.ofString "_law_text"], d__law_told⟩
def f__law_is_told : Df := ⟨"_law_is_told", top 33, [Str.ofString "_law_text", Str.ofString "_law_due_here", Str.ofString "_law_told_here"], [Str.ofString "_law_text"], d__law_is_told⟩
def f_law : Df := ⟨"law", top 34, [Str.ofString "_law_script", Str.ofString "_law_draw_here", Str.ofString "_law_text", Str.ofString "_law_texts", Str.ofString "_law_turn", Str.ofString "_law_wide", Str.ofString "_law_odd"], [Str.ofString "_law_script"], d_law⟩
def L : Lw := ⟨[f_digits_end, f_told_number, f_add_letters, f_read_item, f_read_calling, f__law_draw, f__law_mix, f__law_pick, f__law_is_int, f__law_number, f__law_item, f__law_built, f__law_signs, f__law_long, f__law_spoilt, f__law_run, f__law_bad_at, f__law_put, f__law_worth, f__law_due, f__law_told, f__law_is_told, f_law], [("BadText", 1), ("TooLong", 1)], ["TouchError"], ["BadText", "TooLong"], ["DIGITS", "LETTERS", "MOST_DEPTH", "MOST_LETTERS", "MOST_TIMES"], prog⟩
theorem chk : (L.defs.all (dChkB L)) = true := by decide +kernel
theorem law_mem : f_law ∈ L.defs := by simp [L]
end K07
end T
set_option Elab.async false
set_option linter.all false
set_option autoImplicit false
set_option maxRecDepth 100000
set_option maxHeartbeats 4000000
/-! # Ct: the reader of calling texts, for any text -/
namespace T
namespace Ct
def d_digits_end : Fd := ⟨2, 2, (.cons (.while (.and (.cons (.cmp .lt (.var 1) (.bi .len true (.cons (.var 0) .nil))) (.cons (.cmp .inn (.idx (.var 0) (.var 1)) (.glob "DIGITS")) .nil))) (.cons (.aug 1 .add (.int 1)) .nil)) (.cons (.ret (.var 1)) .nil))⟩
def d_told_number : Fd := ⟨4, 4, (.cons (.ifs (.or (.cons (.cmp .gt (.bin .sub true (.var 2) (.var 1)) (.int 2)) (.cons (.cmp .eq (.idx (.var 0) (.var 1)) (.str "0")) (.cons (.not (.chain .le .le (.int 2) (.bi .int true (.cons (.slc true (.var 0) (.yes (.var 1)) (.yes (.var 2))) .nil)) (.var 3))) .nil)))) (.cons (.raise "BadText" (.cons (.var 1) .nil)) .nil) .nil) (.cons (.ret (.bi .int true (.cons (.slc true (.var 0) (.yes (.var 1)) (.yes (.var 2))) .nil))) .nil))⟩
def d_add_letters : Fd := ⟨3, 3, (.cons (.augS (.var 0) (.int 2) .add (.var 2)) (.cons (.ifs (.cmp .le (.idx (.var 0) (.int 2)) (.glob "MOST_LETTERS")) (.cons (.sub (.var 0) (.int 1) (.bin .add true (.idx (.var 0) (.int 1)) (.var 1))) .nil) (.cons (.sub (.var 0) (.int 1) (.str "")) .nil)) .nil))⟩
def d_read_item : Fd := ⟨3, 9, (.cons (.set 3 (.call "digits_end" (.cons (.var 0) (.cons (.var 1) .nil)))) (.cons (.set 4 (.int 1)) (.cons (.ifs (.cmp .gt (.var 3) (.var 1)) (.cons (.set 4 (.call "told_number" (.cons (.var 0) (.cons (.var 1) (.cons (.var 3) (.cons (.glob "MOST_TIMES") .nil)))))) .nil) .nil) (.cons (.set 5 (.slc true (.var 0) (.yes (.var 3)) (.yes (.bin .add true (.var 3) (.int 1))))) (.cons (.ifs (.and (.cons (.cmp .ne (.var 5) (.str "")) (.cons (.cmp .inn (.var 5) (.glob "LETTERS")) .nil))) (.cons (.expr (.call "add_letters" (.cons (.idx (.var 2) (.neg (.int 1))) (.cons (.bin .mul true (.var 5) (.var 4)) (.cons (.var 4) .nil))))) .nil) (.cons (.ifs (.and (.cons (.cmp .eq (.var 5) (.str "(")) (.cons (.cmp .gt (.var 3) (.var 1)) (.cons (.cmp .le (.bi .len true (.cons (.var 2) .nil)) (.glob "MOST_DEPTH")) .nil)))) (.cons (.expr (.meth .append true (.var 2) (.cons (.lst false (.cons (.var 4) (.cons (.str "") (.cons (.int 0) .nil)))) .nil))) .nil) (.cons (.ifs (.and (.cons (.cmp .eq (.var 5) (.str ")")) (.cons (.cmp .eq (.var 3) (.var 1)) (.cons (.cmp .gt (.bi .len true (.cons (.var 2) .nil)) (.int 1)) (.cons (.cmp .gt (.idx (.idx (.var 2) (.neg (.int 1))) (.int 2)) (.int 0)) .nil))))) (.cons (.unp (.tup [(.nm 6), (.nm 7), (.nm 8)]) (.meth .pop0 true (.var 2) .nil)) (.cons (.expr (.call "add_letters" (.cons (.idx (.var 2) (.neg (.int 1))) (.cons (.bin .mul true (.var 7) (.var 6)) (.cons (.bin .mul true (.var 8) (.var 6)) .nil))))) .nil)) (.cons (.raise "BadText" (.cons (.var 3) .nil)) .nil)) .nil)) .nil)) (.cons (.ret (.bin .add true (.var 3) (.int 1))) .nil))))))⟩
def d_read_calling : Fd := ⟨1, 3, (.cons (.ifs (.not (.isi (.var 0) ["str"])) (.cons (.raise "BadText" (.cons (.neg (.int 1)) .nil)) .nil) .nil) (.cons (.set 1 (.lst false (.cons (.lst false (.cons (.int 1) (.cons (.str "") (.cons (.int 0) .nil)))) .nil))) (.cons (.set 2 (.int 0)) (.cons (.while (.cmp .lt (.var 2) (.bi .len true (.cons (.var 0) .nil))) (.cons (.set 2 (.call "read_item" (.cons (.var 0) (.cons (.var 2) (.cons (.var 1) .nil))))) .nil)) (.cons (.ifs (.cmp .gt (.bi .len true (.cons (.var 1) .nil)) (.int 1)) (.cons (.raise "BadText" (.cons (.bi .len true (.cons (.var 0) .nil)) .nil)) .nil) .nil) (.cons (.ifs (.cmp .gt (.idx (.idx (.var 1) (.int 0)) (.int 2)) (.glob "MOST_LETTERS")) (.cons (.raise "TooLong" (.cons (.idx (.idx (.var 1) (.int 0)) (.int 2)) .nil)) .nil) .nil) (.cons (.ret (.idx (.idx (.var 1) (.int 0)) (.int 1))) .nil)))))))⟩
def DIG : List Nat := "0123456789".toList.map Char.toNat
def LET : List Nat := "abcdefghijklmnopqrstuvwxyz".toList.map Char.toNat
structure Has (P : Prog) : Prop where
  wf : P.wf = 1000000
  digits : P.defs "digits_end" = some d_digits_end
  told : P.defs "told_number" = some d_told_number
  add : P.defs "add_letters" = some d_add_letters
  item : P.defs "read_item" = some d_read_item
  calling : P.defs "read_calling" = some d_read_calling
  dig : P.glob "DIGITS" = some (.str DIG)
  lets : P.glob "LETTERS" = some (.str LET)
  ml : P.glob "MOST_LETTERS" = some (.int 400)
  mt : P.glob "MOST_TIMES" = some (.int 99)
  md : P.glob "MOST_DEPTH" = some (.int 6)
  bt : P.exc "BadText" = some ⟨["at"], ["BadText", "TouchError", "ValueError", "Exception"]⟩
  tl : P.exc "TooLong" = some ⟨["number"], ["TooLong", "TouchError", "ValueError", "Exception"]⟩
/-- the digits ahead -/
def dg (l : List Nat) : List Nat := l.takeWhile fun c => decide (c ∈ DIG)
theorem at_some {α : Type} {l : List α} {i : Nat} (h : i < l.length) : L2.atI l (i : Int) = some l[i] := by
  unfold L2.atI L2.ixN
  rw [if_pos (by omega), if_pos (by omega)]
  show l[((i : Nat) : Int).toNat]? = _
  rw [Int.toNat_natCast]
  exact List.getElem?_eq_getElem h
theorem ix_str {s : List Nat} {i : Nat} {st : Store} (h : i < s.length) : index (.str s) (.int i) st = .ok (.str [s[i]]) st := by
  show (match L2.atI s (i : Int) with | some c => R.ok (D.str [c]) st | none => R.bad) = _
  rw [at_some h]
theorem c_in {c : Nat} {b : List Nat} {st : Store} : cmpop .inn (.str [c]) (.str b) st = some (decide (c ∈ b)) := rfl
theorem c_nin {c : Nat} {b : List Nat} {st : Store} : cmpop .notin (.str [c]) (.str b) st = some (!decide (c ∈ b)) := rfl
theorem dg_yes {t : List Nat} {a : Nat} (h : a < t.length) (hc : t[a] ∈ DIG) : dg (t.drop a) = t[a] :: dg (t.drop (a + 1)) := by
  have hd : t.drop a = t[a] :: t.drop (a + 1) := List.drop_eq_getElem_cons h
  rw [hd]
  unfold dg
  rw [List.takeWhile_cons, if_pos (by simpa using hc)]
theorem dg_no {t : List Nat} {a : Nat} (h : ∀ h : a < t.length, t[a] ∉ DIG) : dg (t.drop a) = [] := by
  by_cases hl : a < t.length
  · have hd : t.drop a = t[a] :: t.drop (a + 1) := List.drop_eq_getElem_cons hl
    rw [hd]
    unfold dg
    rw [List.takeWhile_cons, if_neg (by simpa using h hl)]
  · rw [List.drop_eq_nil_of_le (by omega)]; rfl
theorem dg_le (l : List Nat) : (dg l).length ≤ l.length := by
  unfold dg
  exact (List.takeWhile_sublist _).length_le
section
variable {P : Prog} {n : Nat} {Q : D → Store → Prop} {X : Exn → Store → Prop} {st : Store}
theorem digits_wp (H : Has P) {t : List Nat} {a : Nat} (hl : a ≤ t.length) (hs : t.length < 999999) (h : Q (.int ((a + (dg (t.drop a)).length : Nat) : Int)) st) : (run P (n + 1) "digits_end" [.str t, .int a] st).wp Q X := by
  refine wp_run (fd := d_digits_end) H.digits rfl ?_
  simp only [d_digits_end, List.length_cons, List.length_nil, if_true, T.start, List.map_cons, List.map_nil, Nat.reduceAdd, Nat.reduceSub, List.replicate, List.cons_append, List.nil_append]
  simp only [e_var, e_int, e_str, e_bl, e_non, e_glob, e_bin, e_neg, e_cmp, e_and, e_or, e_not, e_call, e_bi, wp_meth, rc_all, true_and, wp_lc, s_try, s_aug, s_augS, isRef_t, if_true, bi_lenT, at_0, at_1, at_2, at_3, at_4, at_5, at_6, at_end, ixN_all, ix_lst, ix_tup, m_join, e_idx, e_slc, e_tup, e_lst, e_dict0, newL_true, newL_false, s_set, s_unp, s_sub, s_expr, s_ret, s_retN, s_pass, s_brk, s_cont, s_raise, ss_nil, wp_sscons, a_nil, a_cons, o_no, o_yes, p_no, p_yes, i_val, i_rg1, i_rg2, wp_for', wp_while, wp_rg, wp_bind, wp_then, wp_seq, wp_ok, wp_ex, wp_nx, wp_rt, wp_bk, wp_ct, wp_xx, wp_ofO, wpO_s, wpO_map, wpTr_t, wpTr_f, wpTr_n, wp_ifs, wp_ife, wp_and1, wp_and2, wp_or1, wp_or2, wp_chain, wpbin_add, wpbin_addS, wpbin_mulS, wpbin_sub, wpbin_mul, wpbin_mod, wpbin_fdiv, wpbin_addT, bind_ok, then_ok, List.length_cons, List.length_nil, Nat.reduceAdd, cx_call, cx_glob, tr_bl, bi_int, bi_abs, bi_lenL, bi_lenS, c_lt, c_le, c_gt, c_ge, c_eqI, c_eqS', c_neS', c_neI, e_isi, ty_int, ty_str, ty_bl, ty_non, ty_tup, ty_lstf, ty_any, bi_min2, Bool.not_true, Bool.not_false, ofO_some, Option.map_some, List.getElem?_cons_succ, List.getElem?_cons_zero, List.set_cons_succ, List.set_cons_zero, Int.reduceLT, Int.reduceLE, Int.reduceNeg]
  refine wpWhile_i (fun m env s => ∃ b : Nat, a ≤ b ∧ b ≤ t.length ∧ b + (dg (t.drop b)).length = a + (dg (t.drop a)).length ∧ m = t.length - b ∧ env = [some (.str t), some (.int b)] ∧ s = st) (t.length - a) (by show _ < P.wf; rw [H.wf]; omega) ⟨a, Nat.le_refl _, hl, rfl, rfl, rfl, rfl⟩ ?_
  rintro m env s ⟨b, h1, h2, h3, rfl, rfl, rfl⟩
  simp only [e_var, e_int, e_str, e_bl, e_non, e_glob, e_bin, e_neg, e_cmp, e_and, e_or, e_not, e_call, e_bi, wp_meth, rc_all, true_and, wp_lc, s_try, s_aug, s_augS, isRef_t, if_true, bi_lenT, at_0, at_1, at_2, at_3, at_4, at_5, at_6, at_end, ixN_all, ix_lst, ix_tup, m_join, e_idx, e_slc, e_tup, e_lst, e_dict0, newL_true, newL_false, s_set, s_unp, s_sub, s_expr, s_ret, s_retN, s_pass, s_brk, s_cont, s_raise, ss_nil, wp_sscons, a_nil, a_cons, o_no, o_yes, p_no, p_yes, i_val, i_rg1, i_rg2, wp_for', wp_while, wp_rg, wp_bind, wp_then, wp_seq, wp_ok, wp_ex, wp_nx, wp_rt, wp_bk, wp_ct, wp_xx, wp_ofO, wpO_s, wpO_map, wpTr_t, wpTr_f, wpTr_n, wp_ifs, wp_ife, wp_and1, wp_and2, wp_or1, wp_or2, wp_chain, wpbin_add, wpbin_addS, wpbin_mulS, wpbin_sub, wpbin_mul, wpbin_mod, wpbin_fdiv, wpbin_addT, bind_ok, then_ok, List.length_cons, List.length_nil, Nat.reduceAdd, cx_call, cx_glob, tr_bl, bi_int, bi_abs, bi_lenL, bi_lenS, c_lt, c_le, c_gt, c_ge, c_eqI, c_eqS', c_neS', c_neI, e_isi, ty_int, ty_str, ty_bl, ty_non, ty_tup, ty_lstf, ty_any, bi_min2, Bool.not_true, Bool.not_false, ofO_some, Option.map_some, List.getElem?_cons_succ, List.getElem?_cons_zero, List.set_cons_succ, List.set_cons_zero, Int.reduceLT, Int.reduceLE, Int.reduceNeg]
  have fin : (t.length ≤ b ∨ ∃ h : b < t.length, t[b] ∉ DIG) → Q (.int (b : Nat)) s := fun hb => by
    have e : dg (t.drop b) = [] := dg_no fun hl => by
      rcases hb with hb | ⟨_, hb⟩
      · omega
      · exact hb
    rw [e] at h3
    rw [show b = a + (dg (t.drop a)).length from h3]
    exact h
  refine wpTr_d (fun hb => ?_) (fun hb => ?_)
  · have hb' : b < t.length := by omega
    simp only [e_var, e_int, e_str, e_bl, e_non, e_glob, e_bin, e_neg, e_cmp, e_and, e_or, e_not, e_call, e_bi, wp_meth, rc_all, true_and, wp_lc, s_try, s_aug, s_augS, isRef_t, if_true, bi_lenT, at_0, at_1, at_2, at_3, at_4, at_5, at_6, at_end, ixN_all, ix_lst, ix_tup, m_join, e_idx, e_slc, e_tup, e_lst, e_dict0, newL_true, newL_false, s_set, s_unp, s_sub, s_expr, s_ret, s_retN, s_pass, s_brk, s_cont, s_raise, ss_nil, wp_sscons, a_nil, a_cons, o_no, o_yes, p_no, p_yes, i_val, i_rg1, i_rg2, wp_for', wp_while, wp_rg, wp_bind, wp_then, wp_seq, wp_ok, wp_ex, wp_nx, wp_rt, wp_bk, wp_ct, wp_xx, wp_ofO, wpO_s, wpO_map, wpTr_t, wpTr_f, wpTr_n, wp_ifs, wp_ife, wp_and1, wp_and2, wp_or1, wp_or2, wp_chain, wpbin_add, wpbin_addS, wpbin_mulS, wpbin_sub, wpbin_mul, wpbin_mod, wpbin_fdiv, wpbin_addT, bind_ok, then_ok, List.length_cons, List.length_nil, Nat.reduceAdd, cx_call, cx_glob, tr_bl, bi_int, bi_abs, bi_lenL, bi_lenS, c_lt, c_le, c_gt, c_ge, c_eqI, c_eqS', c_neS', c_neI, e_isi, ty_int, ty_str, ty_bl, ty_non, ty_tup, ty_lstf, ty_any, bi_min2, Bool.not_true, Bool.not_false, ofO_some, Option.map_some, List.getElem?_cons_succ, List.getElem?_cons_zero, List.set_cons_succ, List.set_cons_zero, Int.reduceLT, Int.reduceLE, Int.reduceNeg, ix_str hb', c_in, H.dig]
    refine wpTr_d (fun hc => ?_) (fun hc => ?_)
    · simp only [e_var, e_int, e_str, e_bl, e_non, e_glob, e_bin, e_neg, e_cmp, e_and, e_or, e_not, e_call, e_bi, wp_meth, rc_all, true_and, wp_lc, s_try, s_aug, s_augS, isRef_t, if_true, bi_lenT, at_0, at_1, at_2, at_3, at_4, at_5, at_6, at_end, ixN_all, ix_lst, ix_tup, m_join, e_idx, e_slc, e_tup, e_lst, e_dict0, newL_true, newL_false, s_set, s_unp, s_sub, s_expr, s_ret, s_retN, s_pass, s_brk, s_cont, s_raise, ss_nil, wp_sscons, a_nil, a_cons, o_no, o_yes, p_no, p_yes, i_val, i_rg1, i_rg2, wp_for', wp_while, wp_rg, wp_bind, wp_then, wp_seq, wp_ok, wp_ex, wp_nx, wp_rt, wp_bk, wp_ct, wp_xx, wp_ofO, wpO_s, wpO_map, wpTr_t, wpTr_f, wpTr_n, wp_ifs, wp_ife, wp_and1, wp_and2, wp_or1, wp_or2, wp_chain, wpbin_add, wpbin_addS, wpbin_mulS, wpbin_sub, wpbin_mul, wpbin_mod, wpbin_fdiv, wpbin_addT, bind_ok, then_ok, List.length_cons, List.length_nil, Nat.reduceAdd, cx_call, cx_glob, tr_bl, bi_int, bi_abs, bi_lenL, bi_lenS, c_lt, c_le, c_gt, c_ge, c_eqI, c_eqS', c_neS', c_neI, e_isi, ty_int, ty_str, ty_bl, ty_non, ty_tup, ty_lstf, ty_any, bi_min2, Bool.not_true, Bool.not_false, ofO_some, Option.map_some, List.getElem?_cons_succ, List.getElem?_cons_zero, List.set_cons_succ, List.set_cons_zero, Int.reduceLT, Int.reduceLE, Int.reduceNeg]
      refine ⟨t.length - (b + 1), by omega, b + 1, by omega, by omega, ?_, rfl, by rw [Int.natCast_add]; rfl, by trivial⟩
      rw [dg_yes hb' hc] at h3
      rw [List.length_cons] at h3
      omega
    · simp only [e_var, e_int, e_str, e_bl, e_non, e_glob, e_bin, e_neg, e_cmp, e_and, e_or, e_not, e_call, e_bi, wp_meth, rc_all, true_and, wp_lc, s_try, s_aug, s_augS, isRef_t, if_true, bi_lenT, at_0, at_1, at_2, at_3, at_4, at_5, at_6, at_end, ixN_all, ix_lst, ix_tup, m_join, e_idx, e_slc, e_tup, e_lst, e_dict0, newL_true, newL_false, s_set, s_unp, s_sub, s_expr, s_ret, s_retN, s_pass, s_brk, s_cont, s_raise, ss_nil, wp_sscons, a_nil, a_cons, o_no, o_yes, p_no, p_yes, i_val, i_rg1, i_rg2, wp_for', wp_while, wp_rg, wp_bind, wp_then, wp_seq, wp_ok, wp_ex, wp_nx, wp_rt, wp_bk, wp_ct, wp_xx, wp_ofO, wpO_s, wpO_map, wpTr_t, wpTr_f, wpTr_n, wp_ifs, wp_ife, wp_and1, wp_and2, wp_or1, wp_or2, wp_chain, wpbin_add, wpbin_addS, wpbin_mulS, wpbin_sub, wpbin_mul, wpbin_mod, wpbin_fdiv, wpbin_addT, bind_ok, then_ok, List.length_cons, List.length_nil, Nat.reduceAdd, cx_call, cx_glob, tr_bl, bi_int, bi_abs, bi_lenL, bi_lenS, c_lt, c_le, c_gt, c_ge, c_eqI, c_eqS', c_neS', c_neI, e_isi, ty_int, ty_str, ty_bl, ty_non, ty_tup, ty_lstf, ty_any, bi_min2, Bool.not_true, Bool.not_false, ofO_some, Option.map_some, List.getElem?_cons_succ, List.getElem?_cons_zero, List.set_cons_succ, List.set_cons_zero, Int.reduceLT, Int.reduceLE, Int.reduceNeg]
      exact gc_i rfl (fin (.inr ⟨hb', hc⟩))
  · have e : decide ((b : Int) < (t.length : Int)) = false := decide_eq_false hb
    simp only [e_var, e_int, e_str, e_bl, e_non, e_glob, e_bin, e_neg, e_cmp, e_and, e_or, e_not, e_call, e_bi, wp_meth, rc_all, true_and, wp_lc, s_try, s_aug, s_augS, isRef_t, if_true, bi_lenT, at_0, at_1, at_2, at_3, at_4, at_5, at_6, at_end, ixN_all, ix_lst, ix_tup, m_join, e_idx, e_slc, e_tup, e_lst, e_dict0, newL_true, newL_false, s_set, s_unp, s_sub, s_expr, s_ret, s_retN, s_pass, s_brk, s_cont, s_raise, ss_nil, wp_sscons, a_nil, a_cons, o_no, o_yes, p_no, p_yes, i_val, i_rg1, i_rg2, wp_for', wp_while, wp_rg, wp_bind, wp_then, wp_seq, wp_ok, wp_ex, wp_nx, wp_rt, wp_bk, wp_ct, wp_xx, wp_ofO, wpO_s, wpO_map, wpTr_t, wpTr_f, wpTr_n, wp_ifs, wp_ife, wp_and1, wp_and2, wp_or1, wp_or2, wp_chain, wpbin_add, wpbin_addS, wpbin_mulS, wpbin_sub, wpbin_mul, wpbin_mod, wpbin_fdiv, wpbin_addT, bind_ok, then_ok, List.length_cons, List.length_nil, Nat.reduceAdd, cx_call, cx_glob, tr_bl, bi_int, bi_abs, bi_lenL, bi_lenS, c_lt, c_le, c_gt, c_ge, c_eqI, c_eqS', c_neS', c_neI, e_isi, ty_int, ty_str, ty_bl, ty_non, ty_tup, ty_lstf, ty_any, bi_min2, Bool.not_true, Bool.not_false, ofO_some, Option.map_some, List.getElem?_cons_succ, List.getElem?_cons_zero, List.set_cons_succ, List.set_cons_zero, Int.reduceLT, Int.reduceLE, Int.reduceNeg, e]
    exact gc_i rfl (fin (.inl (by omega)))
end
/-! ### numbers -/
def nval (ds : List Nat) : Option Nat := if ds = [] then some 1 else ((List.range 98).map (· + 2)).find? fun n => decide (numS (n : Nat) = ds)
theorem num_all : ∀ n : Nat, n < 100 → 2 ≤ n → (∀ c ∈ numS n, c ∈ DIG) ∧ 0 < (numS n).length ∧ (numS n).length ≤ 2 ∧ PySem.intText? ⟨(numS n).toArray⟩ = some (n : Int) := by decide +kernel
def okD (ds : List Nat) : Bool := match PySem.intText? ⟨ds.toArray⟩ with
  | some v => if ds.head? = some 48 then nval ds == none else if 2 ≤ v ∧ v ≤ 99 then nval ds == some v.toNat else nval ds == none
  | none => false
theorem okD1 : ∀ a ∈ DIG, okD [a] = true := by decide +kernel
theorem okD2 : ∀ a ∈ DIG, ∀ b ∈ DIG, okD [a, b] = true := by decide +kernel
theorem nval_some {ds : List Nat} {k : Nat} (h : nval ds = some k) : (ds = [] ∧ k = 1) ∨ (2 ≤ k ∧ k ≤ 99 ∧ ds = numS k ∧ ds ≠ []) := by
  unfold nval at h
  by_cases e : ds = []
  · rw [if_pos e] at h; exact .inl ⟨e, (Option.some.inj h).symm⟩
  · rw [if_neg e] at h
    have h1 := List.mem_of_find?_eq_some h
    have h2 := List.find?_some h
    simp only [decide_eq_true_eq] at h2
    obtain ⟨j, hj, rfl⟩ := List.mem_map.mp h1
    have := List.mem_range.mp hj
    exact .inr ⟨by omega, by omega, h2.symm, e⟩
theorem nval_long {ds : List Nat} (h : 2 < ds.length) : nval ds = none := by
  cases e : nval ds with
  | none => rfl
  | some k =>
    rcases nval_some e with ⟨rfl, _⟩ | ⟨h2, h99, rfl, _⟩
    · simp at h
    · have := (num_all k (by omega) h2).2.2.1; omega
theorem dg_mem {l : List Nat} : ∀ c ∈ dg l, c ∈ DIG := by
  intro c hc
  unfold dg at hc
  have := List.all_takeWhile (p := fun c => decide (c ∈ DIG)) (l := l)
  rw [List.all_eq_true] at this
  simpa using this c hc
theorem okD_all {ds : List Nat} (h : ∀ c ∈ ds, c ∈ DIG) (h0 : ds ≠ []) (hl : ds.length ≤ 2) : okD ds = true := by
  match ds, h, h0, hl with
  | [a], h, _, _ => exact okD1 a (h a (by simp))
  | [a, b], h, _, _ => exact okD2 a (h a (by simp)) b (h b (by simp))
theorem cut_ok {α : Type} {l : List α} {i j : Nat} (h : i ≤ j) (hi : i ≤ l.length) : cut l (some (i : Int)) (some (j : Int)) = (l.drop i).take (j - i) := by
  unfold cut
  rw [HT.sIx_nat, HT.sIx_nat, Nat.min_eq_left hi, List.take_eq_take_iff, List.length_drop]
  omega
theorem dg_take (l : List Nat) : l.take (dg l).length = dg l := by
  have h : dg l <+: l := List.takeWhile_prefix _
  exact (List.prefix_iff_eq_take.mp h).symm
theorem sl_dg {fz : Bool} {t : List Nat} {a : Nat} {st : Store} (h : a ≤ t.length) : slice fz (.str t) (some (a : Int)) (some ((a + (dg (t.drop a)).length : Nat) : Int)) st = .ok (.str (dg (t.drop a))) st := by
  show R.ok (D.str (cut _ _ _)) st = _
  rw [cut_ok (by omega) h, Nat.add_sub_cancel_left, dg_take]
theorem bi_intS {fz : Bool} {s : List Nat} {v : Int} {st : Store} (hl : s.length ≤ 640) (h : PySem.intText? ⟨s.toArray⟩ = some v) : builtin .int fz [.str s] st = .ok (.int v) st := by
  show (if s.length ≤ 640 then (match PySem.intText? ⟨s.toArray⟩ with | some n => R.ok (D.int n) st | none => .bad) else .bad) = _
  rw [if_pos hl, h]
section
variable {P : Prog} {n : Nat} {Q : D → Store → Prop} {X : Exn → Store → Prop} {st : Store}
theorem mk_bt (H : Has P) {c : String → List D → Store → R D} {d : D} : mkX (P.cx c) "BadText" [d] = some ⟨"BadText", [("at", d)]⟩ := by
  unfold mkX
  show (match P.exc "BadText" with | some xd => _ | none => _) = _
  rw [H.bt]; rfl
theorem mk_tl (H : Has P) {c : String → List D → Store → R D} {d : D} : mkX (P.cx c) "TooLong" [d] = some ⟨"TooLong", [("number", d)]⟩ := by
  unfold mkX
  show (match P.exc "TooLong" with | some xd => _ | none => _) = _
  rw [H.tl]; rfl
def btX (i : Int) : Exn := ⟨"BadText", [("at", .int i)]⟩
theorem told_wp (H : Has P) {t ds : List Nat} {a e : Nat} (hds : ds = dg (t.drop a)) (he : e = a + ds.length) (h0 : ds ≠ []) (hq : ∀ k, nval ds = some k → Q (.int (k : Nat)) st) (hx : nval ds = none → X (btX a) st) :
    (run P (n + 1) "told_number" [.str t, .int a, .int e, .int 99] st).wp Q X := by
  have hlen : 0 < ds.length := List.length_pos_iff.mpr h0
  have hle : ds.length ≤ t.length - a := by rw [hds]; exact Nat.le_trans (dg_le _) (by rw [List.length_drop]; exact Nat.le_refl _)
  have ha : a < t.length := by omega
  have hhead : ds.head? = some t[a] := by
    have hd : t.drop a = t[a] :: t.drop (a + 1) := List.drop_eq_getElem_cons ha
    rw [hds, hd] at h0 ⊢
    unfold dg at h0 ⊢
    rw [List.takeWhile_cons] at h0 ⊢
    split
    · rfl
    · rename_i hh; rw [if_neg hh] at h0; exact absurd rfl h0
  refine wp_run (fd := d_told_number) H.told rfl ?_
  simp only [d_told_number, List.length_cons, List.length_nil, if_true, T.start, List.map_cons, List.map_nil, Nat.reduceAdd, Nat.reduceSub, List.replicate, List.cons_append, List.nil_append]
  simp only [e_var, e_int, e_str, e_bl, e_non, e_glob, e_bin, e_neg, e_cmp, e_and, e_or, e_not, e_call, e_bi, wp_meth, rc_all, true_and, wp_lc, s_try, s_aug, s_augS, isRef_t, if_true, bi_lenT, at_0, at_1, at_2, at_3, at_4, at_5, at_6, at_end, ixN_all, ix_lst, ix_tup, m_join, e_idx, e_slc, e_tup, e_lst, e_dict0, newL_true, newL_false, s_set, s_unp, s_sub, s_expr, s_ret, s_retN, s_pass, s_brk, s_cont, s_raise, ss_nil, wp_sscons, a_nil, a_cons, o_no, o_yes, p_no, p_yes, i_val, i_rg1, i_rg2, wp_for', wp_while, wp_rg, wp_bind, wp_then, wp_seq, wp_ok, wp_ex, wp_nx, wp_rt, wp_bk, wp_ct, wp_xx, wp_ofO, wpO_s, wpO_map, wpTr_t, wpTr_f, wpTr_n, wp_ifs, wp_ife, wp_and1, wp_and2, wp_or1, wp_or2, wp_chain, wpbin_add, wpbin_addS, wpbin_mulS, wpbin_sub, wpbin_mul, wpbin_mod, wpbin_fdiv, wpbin_addT, bind_ok, then_ok, List.length_cons, List.length_nil, Nat.reduceAdd, cx_call, cx_glob, tr_bl, bi_int, bi_abs, bi_lenL, bi_lenS, c_lt, c_le, c_gt, c_ge, c_eqI, c_eqS', c_neS', c_neI, e_isi, ty_int, ty_str, ty_bl, ty_non, ty_tup, ty_lstf, ty_any, bi_min2, Bool.not_true, Bool.not_false, ofO_some, Option.map_some, List.getElem?_cons_succ, List.getElem?_cons_zero, List.set_cons_succ, List.set_cons_zero, Int.reduceLT, Int.reduceLE, Int.reduceNeg]
  refine wpTr_d (fun h => ?_) (fun h => ?_)
  · try simp only [e_var, e_int, e_str, e_bl, e_non, e_glob, e_bin, e_neg, e_cmp, e_and, e_or, e_not, e_call, e_bi, wp_meth, rc_all, true_and, wp_lc, s_try, s_aug, s_augS, isRef_t, if_true, bi_lenT, at_0, at_1, at_2, at_3, at_4, at_5, at_6, at_end, ixN_all, ix_lst, ix_tup, m_join, e_idx, e_slc, e_tup, e_lst, e_dict0, newL_true, newL_false, s_set, s_unp, s_sub, s_expr, s_ret, s_retN, s_pass, s_brk, s_cont, s_raise, ss_nil, wp_sscons, a_nil, a_cons, o_no, o_yes, p_no, p_yes, i_val, i_rg1, i_rg2, wp_for', wp_while, wp_rg, wp_bind, wp_then, wp_seq, wp_ok, wp_ex, wp_nx, wp_rt, wp_bk, wp_ct, wp_xx, wp_ofO, wpO_s, wpO_map, wpTr_t, wpTr_f, wpTr_n, wp_ifs, wp_ife, wp_and1, wp_and2, wp_or1, wp_or2, wp_chain, wpbin_add, wpbin_addS, wpbin_mulS, wpbin_sub, wpbin_mul, wpbin_mod, wpbin_fdiv, wpbin_addT, bind_ok, then_ok, List.length_cons, List.length_nil, Nat.reduceAdd, cx_call, cx_glob, tr_bl, bi_int, bi_abs, bi_lenL, bi_lenS, c_lt, c_le, c_gt, c_ge, c_eqI, c_eqS', c_neS', c_neI, e_isi, ty_int, ty_str, ty_bl, ty_non, ty_tup, ty_lstf, ty_any, bi_min2, Bool.not_true, Bool.not_false, ofO_some, Option.map_some, List.getElem?_cons_succ, List.getElem?_cons_zero, List.set_cons_succ, List.set_cons_zero, Int.reduceLT, Int.reduceLE, Int.reduceNeg]
    refine wpTr_d (fun h => ?_) (fun h' => absurd h h')
    simp only [e_var, e_int, e_str, e_bl, e_non, e_glob, e_bin, e_neg, e_cmp, e_and, e_or, e_not, e_call, e_bi, wp_meth, rc_all, true_and, wp_lc, s_try, s_aug, s_augS, isRef_t, if_true, bi_lenT, at_0, at_1, at_2, at_3, at_4, at_5, at_6, at_end, ixN_all, ix_lst, ix_tup, m_join, e_idx, e_slc, e_tup, e_lst, e_dict0, newL_true, newL_false, s_set, s_unp, s_sub, s_expr, s_ret, s_retN, s_pass, s_brk, s_cont, s_raise, ss_nil, wp_sscons, a_nil, a_cons, o_no, o_yes, p_no, p_yes, i_val, i_rg1, i_rg2, wp_for', wp_while, wp_rg, wp_bind, wp_then, wp_seq, wp_ok, wp_ex, wp_nx, wp_rt, wp_bk, wp_ct, wp_xx, wp_ofO, wpO_s, wpO_map, wpTr_t, wpTr_f, wpTr_n, wp_ifs, wp_ife, wp_and1, wp_and2, wp_or1, wp_or2, wp_chain, wpbin_add, wpbin_addS, wpbin_mulS, wpbin_sub, wpbin_mul, wpbin_mod, wpbin_fdiv, wpbin_addT, bind_ok, then_ok, List.length_cons, List.length_nil, Nat.reduceAdd, cx_call, cx_glob, tr_bl, bi_int, bi_abs, bi_lenL, bi_lenS, c_lt, c_le, c_gt, c_ge, c_eqI, c_eqS', c_neS', c_neI, e_isi, ty_int, ty_str, ty_bl, ty_non, ty_tup, ty_lstf, ty_any, bi_min2, Bool.not_true, Bool.not_false, ofO_some, Option.map_some, List.getElem?_cons_succ, List.getElem?_cons_zero, List.set_cons_succ, List.set_cons_zero, Int.reduceLT, Int.reduceLE, Int.reduceNeg, mk_bt H]
    exact gcX_i rfl (hx (nval_long (by omega)))
  · have hok := okD_all (ds := ds) (by rw [hds]; exact dg_mem) h0 (by omega)
    unfold okD at hok
    cases hi : PySem.intText? ⟨ds.toArray⟩ with
    | none => rw [hi] at hok; cases hok
    | some v =>
      rw [hi] at hok
      simp only [hhead] at hok
      have h48 : ("0".toList.map Char.toNat) = [48] := rfl
      simp only [e_var, e_int, e_str, e_bl, e_non, e_glob, e_bin, e_neg, e_cmp, e_and, e_or, e_not, e_call, e_bi, wp_meth, rc_all, true_and, wp_lc, s_try, s_aug, s_augS, isRef_t, if_true, bi_lenT, at_0, at_1, at_2, at_3, at_4, at_5, at_6, at_end, ixN_all, ix_lst, ix_tup, m_join, e_idx, e_slc, e_tup, e_lst, e_dict0, newL_true, newL_false, s_set, s_unp, s_sub, s_expr, s_ret, s_retN, s_pass, s_brk, s_cont, s_raise, ss_nil, wp_sscons, a_nil, a_cons, o_no, o_yes, p_no, p_yes, i_val, i_rg1, i_rg2, wp_for', wp_while, wp_rg, wp_bind, wp_then, wp_seq, wp_ok, wp_ex, wp_nx, wp_rt, wp_bk, wp_ct, wp_xx, wp_ofO, wpO_s, wpO_map, wpTr_t, wpTr_f, wpTr_n, wp_ifs, wp_ife, wp_and1, wp_and2, wp_or1, wp_or2, wp_chain, wpbin_add, wpbin_addS, wpbin_mulS, wpbin_sub, wpbin_mul, wpbin_mod, wpbin_fdiv, wpbin_addT, bind_ok, then_ok, List.length_cons, List.length_nil, Nat.reduceAdd, cx_call, cx_glob, tr_bl, bi_int, bi_abs, bi_lenL, bi_lenS, c_lt, c_le, c_gt, c_ge, c_eqI, c_eqS', c_neS', c_neI, e_isi, ty_int, ty_str, ty_bl, ty_non, ty_tup, ty_lstf, ty_any, bi_min2, Bool.not_true, Bool.not_false, ofO_some, Option.map_some, List.getElem?_cons_succ, List.getElem?_cons_zero, List.set_cons_succ, List.set_cons_zero, Int.reduceLT, Int.reduceLE, Int.reduceNeg, ix_str ha]
      have hc : decide ([t[a]] = ("0".toList.map Char.toNat)) = decide (t[a] = 48) := by rw [h48]; simp
      rw [hc]
      refine wpTr_d (fun h2 => ?_) (fun h2 => ?_)
      · have e2 : decide (t[a] = 48) = true := decide_eq_true h2
        simp only [e_var, e_int, e_str, e_bl, e_non, e_glob, e_bin, e_neg, e_cmp, e_and, e_or, e_not, e_call, e_bi, wp_meth, rc_all, true_and, wp_lc, s_try, s_aug, s_augS, isRef_t, if_true, bi_lenT, at_0, at_1, at_2, at_3, at_4, at_5, at_6, at_end, ixN_all, ix_lst, ix_tup, m_join, e_idx, e_slc, e_tup, e_lst, e_dict0, newL_true, newL_false, s_set, s_unp, s_sub, s_expr, s_ret, s_retN, s_pass, s_brk, s_cont, s_raise, ss_nil, wp_sscons, a_nil, a_cons, o_no, o_yes, p_no, p_yes, i_val, i_rg1, i_rg2, wp_for', wp_while, wp_rg, wp_bind, wp_then, wp_seq, wp_ok, wp_ex, wp_nx, wp_rt, wp_bk, wp_ct, wp_xx, wp_ofO, wpO_s, wpO_map, wpTr_t, wpTr_f, wpTr_n, wp_ifs, wp_ife, wp_and1, wp_and2, wp_or1, wp_or2, wp_chain, wpbin_add, wpbin_addS, wpbin_mulS, wpbin_sub, wpbin_mul, wpbin_mod, wpbin_fdiv, wpbin_addT, bind_ok, then_ok, List.length_cons, List.length_nil, Nat.reduceAdd, cx_call, cx_glob, tr_bl, bi_int, bi_abs, bi_lenL, bi_lenS, c_lt, c_le, c_gt, c_ge, c_eqI, c_eqS', c_neS', c_neI, e_isi, ty_int, ty_str, ty_bl, ty_non, ty_tup, ty_lstf, ty_any, bi_min2, Bool.not_true, Bool.not_false, ofO_some, Option.map_some, List.getElem?_cons_succ, List.getElem?_cons_zero, List.set_cons_succ, List.set_cons_zero, Int.reduceLT, Int.reduceLE, Int.reduceNeg, e2]
        rw [h2] at hok
        simp only [if_true, beq_iff_eq] at hok
        try simp only [e_var, e_int, e_str, e_bl, e_non, e_glob, e_bin, e_neg, e_cmp, e_and, e_or, e_not, e_call, e_bi, wp_meth, rc_all, true_and, wp_lc, s_try, s_aug, s_augS, isRef_t, if_true, bi_lenT, at_0, at_1, at_2, at_3, at_4, at_5, at_6, at_end, ixN_all, ix_lst, ix_tup, m_join, e_idx, e_slc, e_tup, e_lst, e_dict0, newL_true, newL_false, s_set, s_unp, s_sub, s_expr, s_ret, s_retN, s_pass, s_brk, s_cont, s_raise, ss_nil, wp_sscons, a_nil, a_cons, o_no, o_yes, p_no, p_yes, i_val, i_rg1, i_rg2, wp_for', wp_while, wp_rg, wp_bind, wp_then, wp_seq, wp_ok, wp_ex, wp_nx, wp_rt, wp_bk, wp_ct, wp_xx, wp_ofO, wpO_s, wpO_map, wpTr_t, wpTr_f, wpTr_n, wp_ifs, wp_ife, wp_and1, wp_and2, wp_or1, wp_or2, wp_chain, wpbin_add, wpbin_addS, wpbin_mulS, wpbin_sub, wpbin_mul, wpbin_mod, wpbin_fdiv, wpbin_addT, bind_ok, then_ok, List.length_cons, List.length_nil, Nat.reduceAdd, cx_call, cx_glob, tr_bl, bi_int, bi_abs, bi_lenL, bi_lenS, c_lt, c_le, c_gt, c_ge, c_eqI, c_eqS', c_neS', c_neI, e_isi, ty_int, ty_str, ty_bl, ty_non, ty_tup, ty_lstf, ty_any, bi_min2, Bool.not_true, Bool.not_false, ofO_some, Option.map_some, List.getElem?_cons_succ, List.getElem?_cons_zero, List.set_cons_succ, List.set_cons_zero, Int.reduceLT, Int.reduceLE, Int.reduceNeg, mk_bt H]
        exact gcX_i rfl (hx hok)
      · rw [if_neg (by simpa using h2)] at hok
        have hsl : slice true (.str t) (some (a : Int)) (some (e : Int)) st = .ok (.str ds) st := by rw [he, hds]; exact sl_dg (by omega)
        have hin : builtin .int true [.str ds] st = .ok (.int v) st := bi_intS (by omega) hi
        simp only [e_var, e_int, e_str, e_bl, e_non, e_glob, e_bin, e_neg, e_cmp, e_and, e_or, e_not, e_call, e_bi, wp_meth, rc_all, true_and, wp_lc, s_try, s_aug, s_augS, isRef_t, if_true, bi_lenT, at_0, at_1, at_2, at_3, at_4, at_5, at_6, at_end, ixN_all, ix_lst, ix_tup, m_join, e_idx, e_slc, e_tup, e_lst, e_dict0, newL_true, newL_false, s_set, s_unp, s_sub, s_expr, s_ret, s_retN, s_pass, s_brk, s_cont, s_raise, ss_nil, wp_sscons, a_nil, a_cons, o_no, o_yes, p_no, p_yes, i_val, i_rg1, i_rg2, wp_for', wp_while, wp_rg, wp_bind, wp_then, wp_seq, wp_ok, wp_ex, wp_nx, wp_rt, wp_bk, wp_ct, wp_xx, wp_ofO, wpO_s, wpO_map, wpTr_t, wpTr_f, wpTr_n, wp_ifs, wp_ife, wp_and1, wp_and2, wp_or1, wp_or2, wp_chain, wpbin_add, wpbin_addS, wpbin_mulS, wpbin_sub, wpbin_mul, wpbin_mod, wpbin_fdiv, wpbin_addT, bind_ok, then_ok, List.length_cons, List.length_nil, Nat.reduceAdd, cx_call, cx_glob, tr_bl, bi_int, bi_abs, bi_lenL, bi_lenS, c_lt, c_le, c_gt, c_ge, c_eqI, c_eqS', c_neS', c_neI, e_isi, ty_int, ty_str, ty_bl, ty_non, ty_tup, ty_lstf, ty_any, bi_min2, Bool.not_true, Bool.not_false, ofO_some, Option.map_some, List.getElem?_cons_succ, List.getElem?_cons_zero, List.set_cons_succ, List.set_cons_zero, Int.reduceLT, Int.reduceLE, Int.reduceNeg, hsl, hin]
        refine wpTr_d (fun h3 => ?_) (fun h3 => ?_)
        · simp only [e_var, e_int, e_str, e_bl, e_non, e_glob, e_bin, e_neg, e_cmp, e_and, e_or, e_not, e_call, e_bi, wp_meth, rc_all, true_and, wp_lc, s_try, s_aug, s_augS, isRef_t, if_true, bi_lenT, at_0, at_1, at_2, at_3, at_4, at_5, at_6, at_end, ixN_all, ix_lst, ix_tup, m_join, e_idx, e_slc, e_tup, e_lst, e_dict0, newL_true, newL_false, s_set, s_unp, s_sub, s_expr, s_ret, s_retN, s_pass, s_brk, s_cont, s_raise, ss_nil, wp_sscons, a_nil, a_cons, o_no, o_yes, p_no, p_yes, i_val, i_rg1, i_rg2, wp_for', wp_while, wp_rg, wp_bind, wp_then, wp_seq, wp_ok, wp_ex, wp_nx, wp_rt, wp_bk, wp_ct, wp_xx, wp_ofO, wpO_s, wpO_map, wpTr_t, wpTr_f, wpTr_n, wp_ifs, wp_ife, wp_and1, wp_and2, wp_or1, wp_or2, wp_chain, wpbin_add, wpbin_addS, wpbin_mulS, wpbin_sub, wpbin_mul, wpbin_mod, wpbin_fdiv, wpbin_addT, bind_ok, then_ok, List.length_cons, List.length_nil, Nat.reduceAdd, cx_call, cx_glob, tr_bl, bi_int, bi_abs, bi_lenL, bi_lenS, c_lt, c_le, c_gt, c_ge, c_eqI, c_eqS', c_neS', c_neI, e_isi, ty_int, ty_str, ty_bl, ty_non, ty_tup, ty_lstf, ty_any, bi_min2, Bool.not_true, Bool.not_false, ofO_some, Option.map_some, List.getElem?_cons_succ, List.getElem?_cons_zero, List.set_cons_succ, List.set_cons_zero, Int.reduceLT, Int.reduceLE, Int.reduceNeg]
          refine wpTr_d (fun h4 => ?_) (fun h4 => ?_)
          · rw [if_pos ⟨h3, h4⟩] at hok
            simp only [beq_iff_eq] at hok
            simp only [e_var, e_int, e_str, e_bl, e_non, e_glob, e_bin, e_neg, e_cmp, e_and, e_or, e_not, e_call, e_bi, wp_meth, rc_all, true_and, wp_lc, s_try, s_aug, s_augS, isRef_t, if_true, bi_lenT, at_0, at_1, at_2, at_3, at_4, at_5, at_6, at_end, ixN_all, ix_lst, ix_tup, m_join, e_idx, e_slc, e_tup, e_lst, e_dict0, newL_true, newL_false, s_set, s_unp, s_sub, s_expr, s_ret, s_retN, s_pass, s_brk, s_cont, s_raise, ss_nil, wp_sscons, a_nil, a_cons, o_no, o_yes, p_no, p_yes, i_val, i_rg1, i_rg2, wp_for', wp_while, wp_rg, wp_bind, wp_then, wp_seq, wp_ok, wp_ex, wp_nx, wp_rt, wp_bk, wp_ct, wp_xx, wp_ofO, wpO_s, wpO_map, wpTr_t, wpTr_f, wpTr_n, wp_ifs, wp_ife, wp_and1, wp_and2, wp_or1, wp_or2, wp_chain, wpbin_add, wpbin_addS, wpbin_mulS, wpbin_sub, wpbin_mul, wpbin_mod, wpbin_fdiv, wpbin_addT, bind_ok, then_ok, List.length_cons, List.length_nil, Nat.reduceAdd, cx_call, cx_glob, tr_bl, bi_int, bi_abs, bi_lenL, bi_lenS, c_lt, c_le, c_gt, c_ge, c_eqI, c_eqS', c_neS', c_neI, e_isi, ty_int, ty_str, ty_bl, ty_non, ty_tup, ty_lstf, ty_any, bi_min2, Bool.not_true, Bool.not_false, ofO_some, Option.map_some, List.getElem?_cons_succ, List.getElem?_cons_zero, List.set_cons_succ, List.set_cons_zero, Int.reduceLT, Int.reduceLE, Int.reduceNeg, hsl, hin]
            refine gc_i rfl ?_
            have := hq _ hok
            rw [show ((v.toNat : Nat) : Int) = v by omega] at this
            exact this
          · rw [if_neg (fun z => h4 z.2)] at hok
            simp only [e_var, e_int, e_str, e_bl, e_non, e_glob, e_bin, e_neg, e_cmp, e_and, e_or, e_not, e_call, e_bi, wp_meth, rc_all, true_and, wp_lc, s_try, s_aug, s_augS, isRef_t, if_true, bi_lenT, at_0, at_1, at_2, at_3, at_4, at_5, at_6, at_end, ixN_all, ix_lst, ix_tup, m_join, e_idx, e_slc, e_tup, e_lst, e_dict0, newL_true, newL_false, s_set, s_unp, s_sub, s_expr, s_ret, s_retN, s_pass, s_brk, s_cont, s_raise, ss_nil, wp_sscons, a_nil, a_cons, o_no, o_yes, p_no, p_yes, i_val, i_rg1, i_rg2, wp_for', wp_while, wp_rg, wp_bind, wp_then, wp_seq, wp_ok, wp_ex, wp_nx, wp_rt, wp_bk, wp_ct, wp_xx, wp_ofO, wpO_s, wpO_map, wpTr_t, wpTr_f, wpTr_n, wp_ifs, wp_ife, wp_and1, wp_and2, wp_or1, wp_or2, wp_chain, wpbin_add, wpbin_addS, wpbin_mulS, wpbin_sub, wpbin_mul, wpbin_mod, wpbin_fdiv, wpbin_addT, bind_ok, then_ok, List.length_cons, List.length_nil, Nat.reduceAdd, cx_call, cx_glob, tr_bl, bi_int, bi_abs, bi_lenL, bi_lenS, c_lt, c_le, c_gt, c_ge, c_eqI, c_eqS', c_neS', c_neI, e_isi, ty_int, ty_str, ty_bl, ty_non, ty_tup, ty_lstf, ty_any, bi_min2, Bool.not_true, Bool.not_false, ofO_some, Option.map_some, List.getElem?_cons_succ, List.getElem?_cons_zero, List.set_cons_succ, List.set_cons_zero, Int.reduceLT, Int.reduceLE, Int.reduceNeg, mk_bt H]
            exact gcX_i rfl (hx (by simpa using hok))
        · rw [if_neg (fun z => h3 z.1)] at hok
          simp only [e_var, e_int, e_str, e_bl, e_non, e_glob, e_bin, e_neg, e_cmp, e_and, e_or, e_not, e_call, e_bi, wp_meth, rc_all, true_and, wp_lc, s_try, s_aug, s_augS, isRef_t, if_true, bi_lenT, at_0, at_1, at_2, at_3, at_4, at_5, at_6, at_end, ixN_all, ix_lst, ix_tup, m_join, e_idx, e_slc, e_tup, e_lst, e_dict0, newL_true, newL_false, s_set, s_unp, s_sub, s_expr, s_ret, s_retN, s_pass, s_brk, s_cont, s_raise, ss_nil, wp_sscons, a_nil, a_cons, o_no, o_yes, p_no, p_yes, i_val, i_rg1, i_rg2, wp_for', wp_while, wp_rg, wp_bind, wp_then, wp_seq, wp_ok, wp_ex, wp_nx, wp_rt, wp_bk, wp_ct, wp_xx, wp_ofO, wpO_s, wpO_map, wpTr_t, wpTr_f, wpTr_n, wp_ifs, wp_ife, wp_and1, wp_and2, wp_or1, wp_or2, wp_chain, wpbin_add, wpbin_addS, wpbin_mulS, wpbin_sub, wpbin_mul, wpbin_mod, wpbin_fdiv, wpbin_addT, bind_ok, then_ok, List.length_cons, List.length_nil, Nat.reduceAdd, cx_call, cx_glob, tr_bl, bi_int, bi_abs, bi_lenL, bi_lenS, c_lt, c_le, c_gt, c_ge, c_eqI, c_eqS', c_neS', c_neI, e_isi, ty_int, ty_str, ty_bl, ty_non, ty_tup, ty_lstf, ty_any, bi_min2, Bool.not_true, Bool.not_false, ofO_some, Option.map_some, List.getElem?_cons_succ, List.getElem?_cons_zero, List.set_cons_succ, List.set_cons_zero, Int.reduceLT, Int.reduceLE, Int.reduceNeg]
          simp only [e_var, e_int, e_str, e_bl, e_non, e_glob, e_bin, e_neg, e_cmp, e_and, e_or, e_not, e_call, e_bi, wp_meth, rc_all, true_and, wp_lc, s_try, s_aug, s_augS, isRef_t, if_true, bi_lenT, at_0, at_1, at_2, at_3, at_4, at_5, at_6, at_end, ixN_all, ix_lst, ix_tup, m_join, e_idx, e_slc, e_tup, e_lst, e_dict0, newL_true, newL_false, s_set, s_unp, s_sub, s_expr, s_ret, s_retN, s_pass, s_brk, s_cont, s_raise, ss_nil, wp_sscons, a_nil, a_cons, o_no, o_yes, p_no, p_yes, i_val, i_rg1, i_rg2, wp_for', wp_while, wp_rg, wp_bind, wp_then, wp_seq, wp_ok, wp_ex, wp_nx, wp_rt, wp_bk, wp_ct, wp_xx, wp_ofO, wpO_s, wpO_map, wpTr_t, wpTr_f, wpTr_n, wp_ifs, wp_ife, wp_and1, wp_and2, wp_or1, wp_or2, wp_chain, wpbin_add, wpbin_addS, wpbin_mulS, wpbin_sub, wpbin_mul, wpbin_mod, wpbin_fdiv, wpbin_addT, bind_ok, then_ok, List.length_cons, List.length_nil, Nat.reduceAdd, cx_call, cx_glob, tr_bl, bi_int, bi_abs, bi_lenL, bi_lenS, c_lt, c_le, c_gt, c_ge, c_eqI, c_eqS', c_neS', c_neI, e_isi, ty_int, ty_str, ty_bl, ty_non, ty_tup, ty_lstf, ty_any, bi_min2, Bool.not_true, Bool.not_false, ofO_some, Option.map_some, List.getElem?_cons_succ, List.getElem?_cons_zero, List.set_cons_succ, List.set_cons_zero, Int.reduceLT, Int.reduceLE, Int.reduceNeg, mk_bt H]
          exact gcX_i rfl (hx (by simpa using hok))
end
end Ct
end T
set_option Elab.async false
set_option linter.all false
set_option autoImplicit false
set_option maxRecDepth 100000
set_option maxHeartbeats 4000000
/-! # Cu: the reader of calling texts: one item -/
namespace T
namespace Ct
structure Lv where
  x : Nat
  w : List Nat
  m : Nat
def lvO (l : Lv) : O := .lst [.int l.x, .str l.w, .int l.m]
structure Lv.Ok (l : Lv) : Prop where
  wm : l.w.length ≤ l.m
  w4 : l.w.length ≤ 400
  x1 : 1 ≤ l.x
  x9 : l.x ≤ 99
def addL (l : Lv) (ls : List Nat) (k : Nat) : Lv := ⟨l.x, if l.m + k ≤ 400 then l.w ++ ls else [], l.m + k⟩
theorem addL_ok {l : Lv} {ls : List Nat} {k : Nat} (h : l.Ok) (hk : ls.length ≤ k) : (addL l ls k).Ok := by
  refine ⟨?_, ?_, h.x1, h.x9⟩
  · show (if l.m + k ≤ 400 then l.w ++ ls else []).length ≤ l.m + k
    split
    · rw [List.length_append]; have := h.wm; omega
    · simp
  · show (if l.m + k ≤ 400 then l.w ++ ls else []).length ≤ 400
    split
    · rw [List.length_append]; have := h.wm; omega
    · simp
def Lvs (s : Store) : List Nat → List Lv → Prop
  | [], [] => True
  | r :: rs, l :: ls => s[r]? = some (lvO l) ∧ Lvs s rs ls
  | _, _ => False
theorem Lvs.frame {s s' : Store} : ∀ {rs : List Nat} {ls : List Lv}, Lvs s rs ls → (∀ r ∈ rs, s'[r]? = s[r]?) → Lvs s' rs ls
  | [], [], _, _ => trivial
  | r :: rs, l :: ls, h, e => ⟨by rw [e r (by simp)]; exact h.1, Lvs.frame h.2 fun r hr => e r (by simp [hr])⟩
  | [], _ :: _, h, _ => h.elim
  | _ :: _, [], h, _ => h.elim
theorem Lvs.len {s : Store} : ∀ {rs : List Nat} {ls : List Lv}, Lvs s rs ls → rs.length = ls.length
  | [], [], _ => rfl
  | r :: rs, l :: ls, h => by rw [List.length_cons, List.length_cons, Lvs.len h.2]
  | [], _ :: _, h => h.elim
  | _ :: _, [], h => h.elim
theorem Lvs.mem {s : Store} : ∀ {rs : List Nat} {ls : List Lv}, Lvs s rs ls → ∀ r ∈ rs, r < s.length
  | [], [], _, r, hr => by simp at hr
  | r :: rs, l :: ls, h, q, hq => by
    rcases List.mem_cons.mp hq with rfl | hq
    · exact (List.getElem?_eq_some_iff.mp h.1).1
    · exact Lvs.mem h.2 q hq
  | [], _ :: _, h, _, _ => h.elim
  | _ :: _, [], h, _, _ => h.elim
/-- the list of the levels; what stood before stays -/
structure Stk' (st0 s : Store) (o : Nat) (rs : List Nat) (rt : Nat) (bel : List Lv) (top : Lv) : Prop where
  ho : s[o]? = some (.lst ((rs.reverse.map D.ref) ++ [.ref rt]))
  ht : s[rt]? = some (lvO top)
  hb : Lvs s rs bel
  oN : o ∉ rs
  ot : o ≠ rt
  tN : rt ∉ rs
  nd : rs.Nodup
  bo : st0.length ≤ o
  bt : st0.length ≤ rt
  br : ∀ r ∈ rs, st0.length ≤ r
  tk : s.take st0.length = st0
  tO : top.Ok
  bO : ∀ l ∈ bel, l.Ok
def Stk (st0 s : Store) (o : Nat) (bel : List Lv) (top : Lv) : Prop := ∃ rs rt, Stk' st0 s o rs rt bel top
inductive IR where
  | err (i : Nat) | ok (a : Nat) (bel : List Lv) (top : Lv)
def itemC (oc : Option Nat) (bel : List Lv) (top : Lv) (ds : List Nat) (k e : Nat) : IR := match oc with
  | none => .err e
  | some c =>
    if c ∈ LET then .ok (e + 1) bel (addL top (List.replicate k c) k)
    else if c = 40 ∧ ds ≠ [] ∧ bel.length ≤ 5 then .ok (e + 1) (top :: bel) ⟨k, [], 0⟩
    else match bel with
      | b :: bel' => if c = 41 ∧ ds = [] ∧ 0 < top.m then .ok (e + 1) bel' (addL b (repS top.w top.x) (top.m * top.x)) else .err e
      | [] => .err e
def item (t : List Nat) (a : Nat) (bel : List Lv) (top : Lv) : IR :=
  match nval (dg (t.drop a)) with
  | none => .err a
  | some k => itemC t[a + (dg (t.drop a)).length]? bel top (dg (t.drop a)) k (a + (dg (t.drop a)).length)
theorem take_set_le {α : Type} {l : List α} {n i : Nat} {a : α} (h : n ≤ i) : (l.set i a).take n = l.take n := by
  apply List.ext_getElem?
  intro j
  rw [List.getElem?_take, List.getElem?_take]
  by_cases hj : j < n
  · rw [if_pos hj, if_pos hj, List.getElem?_set_ne (by omega)]
  · rw [if_neg hj, if_neg hj]
theorem repS_len {w : List Nat} {k : Nat} : (repS w k).length = k * w.length := by
  unfold repS
  rw [Int.toNat_natCast]
  simp
theorem repS_one {c k : Nat} : repS [c] (k : Int) = List.replicate k c := by
  unfold repS
  rw [Int.toNat_natCast]
  induction k with
  | zero => rfl
  | succ k ih => rw [List.replicate_succ, List.flatten_cons, ih, List.replicate_succ]; rfl
section
variable {st0 s : Store} {o rt : Nat} {rs : List Nat} {bel : List Lv} {top : Lv}
theorem Stk'.lt (h : Stk' st0 s o rs rt bel top) : rt < s.length := (List.getElem?_eq_some_iff.mp h.ht).1
theorem Stk'.lo (h : Stk' st0 s o rs rt bel top) : o < s.length := (List.getElem?_eq_some_iff.mp h.ho).1
theorem Stk'.upd (h : Stk' st0 s o rs rt bel top) {l : Lv} (hl : l.Ok) : Stk' st0 (s.set rt (lvO l)) o rs rt bel l where
  ho := by rw [List.getElem?_set_ne (Ne.symm h.ot)]; exact h.ho
  ht := List.getElem?_set_self h.lt
  hb := h.hb.frame fun r hr => List.getElem?_set_ne (fun e => h.tN (by rw [e]; exact hr))
  oN := h.oN
  ot := h.ot
  tN := h.tN
  nd := h.nd
  bo := h.bo
  bt := h.bt
  br := h.br
  tk := by rw [take_set_le h.bt]; exact h.tk
  tO := hl
  bO := h.bO
theorem Stk'.push (h : Stk' st0 s o rs rt bel top) {l : Lv} (hl : l.Ok) : Stk' st0 ((s ++ [lvO l]).set o (.lst ((rs.reverse.map D.ref) ++ [.ref rt] ++ [.ref s.length]))) o (rt :: rs) s.length (top :: bel) l where
  ho := by
    rw [List.getElem?_set_self (by rw [List.length_append]; have := h.lo; omega), List.reverse_cons, List.map_append]
    rfl
  ht := by
    rw [List.getElem?_set_ne (by have := h.lo; omega), List.getElem?_append_right (Nat.le_refl _), Nat.sub_self]; rfl
  hb := by
    have fr : ∀ r, r < s.length → r ≠ o → ((s ++ [lvO l]).set o (.lst ((rs.reverse.map D.ref) ++ [.ref rt] ++ [.ref s.length])))[r]? = s[r]? := fun r hr ho => by
      rw [List.getElem?_set_ne (Ne.symm ho), List.getElem?_append_left hr]
    exact ⟨by rw [fr rt h.lt (Ne.symm h.ot)]; exact h.ht, h.hb.frame fun r hr => fr r (h.hb.mem r hr) (fun e => h.oN (e ▸ hr))⟩
  oN := by
    intro hm
    rcases List.mem_cons.mp hm with e | hm
    · exact h.ot e
    · exact h.oN hm
  ot := by have := h.lo; omega
  tN := by
    intro hm
    rcases List.mem_cons.mp hm with e | hm
    · have := h.lt; omega
    · have := h.hb.mem _ hm; omega
  nd := List.nodup_cons.mpr ⟨h.tN, h.nd⟩
  bo := h.bo
  bt := by have := h.lo; have := h.bo; omega
  br := by
    intro r hr
    rcases List.mem_cons.mp hr with rfl | hr
    · exact h.bt
    · exact h.br r hr
  tk := by
    rw [take_set_le h.bo, List.take_append_of_le_length (by have := h.lo; have := h.bo; omega)]
    exact h.tk
  tO := hl
  bO := by
    intro x hx
    rcases List.mem_cons.mp hx with rfl | hx
    · exact h.tO
    · exact h.bO x hx
theorem Stk'.pop {r : Nat} {b l : Lv} (h : Stk' st0 s o (r :: rs) rt (b :: bel) top) (hl : l.Ok) : Stk' st0 ((s.set o (.lst ((rs.reverse.map D.ref) ++ [.ref r]))).set r (lvO l)) o rs r bel l := by
  have hro : o ≠ r := fun e => h.oN (e ▸ List.mem_cons_self ..)
  have hlr : r < s.length := h.hb.mem r (List.mem_cons_self ..)
  have hnd := List.nodup_cons.mp h.nd
  exact {
    ho := by rw [List.getElem?_set_ne (Ne.symm hro), List.getElem?_set_self h.lo]
    ht := List.getElem?_set_self (by rw [List.length_set]; exact hlr)
    hb := h.hb.2.frame fun q hq => by
      rw [List.getElem?_set_ne (fun e => hnd.1 (by rw [e]; exact hq)), List.getElem?_set_ne (fun e => h.oN (by rw [e]; exact List.mem_cons_of_mem _ hq))]
    oN := fun hm => h.oN (List.mem_cons_of_mem _ hm)
    ot := hro
    tN := hnd.1
    nd := hnd.2
    bo := h.bo
    bt := h.br r (List.mem_cons_self ..)
    br := fun q hq => h.br q (List.mem_cons_of_mem _ hq)
    tk := by rw [take_set_le (h.br r (List.mem_cons_self ..)), take_set_le h.bo]; exact h.tk
    tO := hl
    bO := fun x hx => h.bO x (List.mem_cons_of_mem _ hx) }
end
section
variable {P : Prog} {n : Nat} {Q : D → Store → Prop} {X : Exn → Store → Prop}
theorem add_wp (H : Has P) {s : Store} {r : Nat} {l : Lv} {ls : List Nat} {k : Nat} (h : s[r]? = some (lvO l)) (hw : l.w.length ≤ 400) (hl : ls.length ≤ 40000) (hQ : Q .non (s.set r (lvO (addL l ls k)))) :
    (run P (n + 1) "add_letters" [.ref r, .str ls, .int k] s).wp Q X := by
  have hlen : r < s.length := (List.getElem?_eq_some_iff.mp h).1
  have h' : s[r]? = some (.lst [.int l.x, .str l.w, .int l.m]) := h
  have hk2 : ∀ {o : O}, (s.set r o)[r]? = some o := fun {o} => List.getElem?_set_self hlen
  refine wp_run (fd := d_add_letters) H.add rfl ?_
  simp only [d_add_letters, List.length_cons, List.length_nil, if_true, T.start, List.map_cons, List.map_nil, Nat.reduceAdd, Nat.reduceSub, List.replicate, List.cons_append, List.nil_append]
  simp only [e_var, e_int, e_str, e_bl, e_non, e_glob, e_bin, e_neg, e_cmp, e_and, e_or, e_not, e_call, e_bi, wp_meth, rc_all, true_and, wp_lc, s_try, s_aug, s_augS, isRef_t, if_true, bi_lenT, at_0, at_1, at_2, at_3, at_4, at_5, at_6, at_end, ixN_all, ix_lst, ix_tup, m_join, e_idx, e_slc, e_tup, e_lst, e_dict0, newL_true, newL_false, s_set, s_unp, s_sub, s_expr, s_ret, s_retN, s_pass, s_brk, s_cont, s_raise, ss_nil, wp_sscons, a_nil, a_cons, o_no, o_yes, p_no, p_yes, i_val, i_rg1, i_rg2, wp_for', wp_while, wp_rg, wp_bind, wp_then, wp_seq, wp_ok, wp_ex, wp_nx, wp_rt, wp_bk, wp_ct, wp_xx, wp_ofO, wpO_s, wpO_map, wpTr_t, wpTr_f, wpTr_n, wp_ifs, wp_ife, wp_and1, wp_and2, wp_or1, wp_or2, wp_chain, wpbin_add, wpbin_addS, wpbin_mulS, wpbin_sub, wpbin_mul, wpbin_mod, wpbin_fdiv, wpbin_addT, bind_ok, then_ok, List.length_cons, List.length_nil, Nat.reduceAdd, cx_call, cx_glob, tr_bl, bi_int, bi_abs, bi_lenL, bi_lenS, c_lt, c_le, c_gt, c_ge, c_eqI, c_eqS', c_neS', c_neI, e_isi, ty_int, ty_str, ty_bl, ty_non, ty_tup, ty_lstf, ty_any, bi_min2, Bool.not_true, Bool.not_false, ofO_some, Option.map_some, List.getElem?_cons_succ, List.getElem?_cons_zero, List.set_cons_succ, List.set_cons_zero, Int.reduceLT, Int.reduceLE, Int.reduceNeg, ix_ref h', wp_setR h', wp_setR hk2, ix_ref hk2, H.ml]
  refine wpTr_d (fun hc => ?_) (fun hc => ?_)
  · simp only [e_var, e_int, e_str, e_bl, e_non, e_glob, e_bin, e_neg, e_cmp, e_and, e_or, e_not, e_call, e_bi, wp_meth, rc_all, true_and, wp_lc, s_try, s_aug, s_augS, isRef_t, if_true, bi_lenT, at_0, at_1, at_2, at_3, at_4, at_5, at_6, at_end, ixN_all, ix_lst, ix_tup, m_join, e_idx, e_slc, e_tup, e_lst, e_dict0, newL_true, newL_false, s_set, s_unp, s_sub, s_expr, s_ret, s_retN, s_pass, s_brk, s_cont, s_raise, ss_nil, wp_sscons, a_nil, a_cons, o_no, o_yes, p_no, p_yes, i_val, i_rg1, i_rg2, wp_for', wp_while, wp_rg, wp_bind, wp_then, wp_seq, wp_ok, wp_ex, wp_nx, wp_rt, wp_bk, wp_ct, wp_xx, wp_ofO, wpO_s, wpO_map, wpTr_t, wpTr_f, wpTr_n, wp_ifs, wp_ife, wp_and1, wp_and2, wp_or1, wp_or2, wp_chain, wpbin_add, wpbin_addS, wpbin_mulS, wpbin_sub, wpbin_mul, wpbin_mod, wpbin_fdiv, wpbin_addT, bind_ok, then_ok, List.length_cons, List.length_nil, Nat.reduceAdd, cx_call, cx_glob, tr_bl, bi_int, bi_abs, bi_lenL, bi_lenS, c_lt, c_le, c_gt, c_ge, c_eqI, c_eqS', c_neS', c_neI, e_isi, ty_int, ty_str, ty_bl, ty_non, ty_tup, ty_lstf, ty_any, bi_min2, Bool.not_true, Bool.not_false, ofO_some, Option.map_some, List.getElem?_cons_succ, List.getElem?_cons_zero, List.set_cons_succ, List.set_cons_zero, Int.reduceLT, Int.reduceLE, Int.reduceNeg, ix_ref hk2, wp_setR hk2]
    refine ⟨by rw [lim_v]; omega, ?_⟩
    refine gc_i (by rw [List.length_set, List.length_set]) ?_
    rw [List.set_set]
    have e : addL l ls k = ⟨l.x, l.w ++ ls, l.m + k⟩ := by unfold addL; rw [if_pos (by omega)]
    rw [e] at hQ
    exact hQ
  · simp only [e_var, e_int, e_str, e_bl, e_non, e_glob, e_bin, e_neg, e_cmp, e_and, e_or, e_not, e_call, e_bi, wp_meth, rc_all, true_and, wp_lc, s_try, s_aug, s_augS, isRef_t, if_true, bi_lenT, at_0, at_1, at_2, at_3, at_4, at_5, at_6, at_end, ixN_all, ix_lst, ix_tup, m_join, e_idx, e_slc, e_tup, e_lst, e_dict0, newL_true, newL_false, s_set, s_unp, s_sub, s_expr, s_ret, s_retN, s_pass, s_brk, s_cont, s_raise, ss_nil, wp_sscons, a_nil, a_cons, o_no, o_yes, p_no, p_yes, i_val, i_rg1, i_rg2, wp_for', wp_while, wp_rg, wp_bind, wp_then, wp_seq, wp_ok, wp_ex, wp_nx, wp_rt, wp_bk, wp_ct, wp_xx, wp_ofO, wpO_s, wpO_map, wpTr_t, wpTr_f, wpTr_n, wp_ifs, wp_ife, wp_and1, wp_and2, wp_or1, wp_or2, wp_chain, wpbin_add, wpbin_addS, wpbin_mulS, wpbin_sub, wpbin_mul, wpbin_mod, wpbin_fdiv, wpbin_addT, bind_ok, then_ok, List.length_cons, List.length_nil, Nat.reduceAdd, cx_call, cx_glob, tr_bl, bi_int, bi_abs, bi_lenL, bi_lenS, c_lt, c_le, c_gt, c_ge, c_eqI, c_eqS', c_neS', c_neI, e_isi, ty_int, ty_str, ty_bl, ty_non, ty_tup, ty_lstf, ty_any, bi_min2, Bool.not_true, Bool.not_false, ofO_some, Option.map_some, List.getElem?_cons_succ, List.getElem?_cons_zero, List.set_cons_succ, List.set_cons_zero, Int.reduceLT, Int.reduceLE, Int.reduceNeg, ix_ref hk2, wp_setR hk2]
    refine gc_i (by rw [List.length_set, List.length_set]) ?_
    rw [List.set_set]
    have e : addL l ls k = ⟨l.x, [], l.m + k⟩ := by unfold addL; rw [if_neg (by omega)]
    rw [e] at hQ
    exact hQ
theorem sl_one {fz : Bool} {t : List Nat} {e : Nat} {st : Store} (h : e ≤ t.length) : slice fz (.str t) (some (e : Int)) (some ((e : Int) + 1)) st = .ok (.str (match t[e]? with | some c => [c] | none => [])) st := by
  show R.ok (D.str (cut _ _ _)) st = _
  rw [show (e : Int) + 1 = ((e + 1 : Nat) : Int) by omega, cut_ok (by omega) h, Nat.add_sub_cancel_left]
  by_cases hl : e < t.length
  · rw [List.drop_eq_getElem_cons hl, List.getElem?_eq_getElem hl]; rfl
  · rw [List.drop_eq_nil_of_le (by omega), List.getElem?_eq_none (by omega)]; rfl
theorem mulOk_small {i j : Int} (h1 : 0 ≤ j) (h2 : j ≤ 1000) : mulOk i j = true := mulOk_r (by omega) (by omega)
theorem gcX_e {n : Nat} {x : Exn} {s : Store} {Q : D → Store → Prop} {X : Exn → Store → Prop} (h : ∀ s', (s' = s ∨ s' = s.take n) → X x s') : (gcX n x s).wp Q X := gcX_wpA h
theorem gc_keepR {n0 i : Nat} {d : D} {s : Store} {l : List D} {r : Nat} {Q : D → Store → Prop} {X : Exn → Store → Prop} (hi : i < n0) (h : s[i]? = some (.lst (l ++ [.ref r]))) (hr : n0 ≤ r) (H : Q d s) : (gc n0 d s).wp Q X := by
  unfold gc
  have bl : ∀ l : List D, belowL n0 (l ++ [.ref r]) = false := by
    intro l
    induction l with
    | nil => simp only [List.nil_append, belowL, D.bel]; simp; omega
    | cons a l ih => simp only [List.cons_append, belowL, ih, Bool.and_false]
  have : (s.take n0).all (O.bel n0) = false := by
    rw [List.all_eq_false]
    exact ⟨.lst (l ++ [.ref r]), List.mem_iff_getElem?.mpr ⟨i, by rw [List.getElem?_take, if_pos hi, h]⟩, by simp only [O.bel, bl]; simp⟩
  rw [this, Bool.and_false]
  exact H
theorem take_same {α : Type} {s s' : List α} {n b : Nat} (h : s.take n = s') : s.take n = s' := h
theorem item_wp (H : Has P) {t : List Nat} {a o : Nat} {st0 s : Store} {bel : List Lv} {top : Lv} (hs : t.length < 999999) (ha : a ≤ t.length) (hS : Stk st0 s o bel top)
    (hx : ∀ i, item t a bel top = .err i → X (btX i) s) (hq : ∀ a' bel' top' s', item t a bel top = .ok a' bel' top' → Stk st0 s' o bel' top' → Q (.int (a' : Nat)) s') :
    (run P (n + 2) "read_item" [.str t, .int a, .ref o] s).wp Q X := by
  obtain ⟨rs, rt, hS⟩ := hS
  have hle : (dg (t.drop a)).length ≤ t.length - a := Nat.le_trans (dg_le _) (by rw [List.length_drop]; exact Nat.le_refl _)
  generalize hds : dg (t.drop a) = ds at hle
  generalize he : a + ds.length = e
  have hel : e ≤ t.length := by omega
  refine wp_run (fd := d_read_item) H.item rfl ?_
  simp only [d_read_item, List.length_cons, List.length_nil, if_true, T.start, List.map_cons, List.map_nil, Nat.reduceAdd, Nat.reduceSub, List.replicate, List.cons_append, List.nil_append]
  rw [wp_sscons]
  simp only [e_var, e_int, e_str, e_bl, e_non, e_glob, e_bin, e_neg, e_cmp, e_and, e_or, e_not, e_call, e_bi, wp_meth, rc_all, true_and, wp_lc, s_try, s_aug, s_augS, isRef_t, if_true, bi_lenT, at_0, at_1, at_2, at_3, at_4, at_5, at_6, at_end, ixN_all, ix_lst, ix_tup, m_join, e_idx, e_slc, e_tup, e_lst, e_dict0, newL_true, newL_false, s_set, s_unp, s_sub, s_expr, s_ret, s_retN, s_pass, s_brk, s_cont, s_raise, ss_nil, a_nil, a_cons, o_no, o_yes, p_no, p_yes, i_val, i_rg1, i_rg2, wp_for', wp_while, wp_rg, wp_bind, wp_then, wp_seq, wp_ok, wp_ex, wp_nx, wp_rt, wp_bk, wp_ct, wp_xx, wp_ofO, wpO_s, wpO_map, wpTr_t, wpTr_f, wpTr_n, wp_ifs, wp_ife, wp_and1, wp_and2, wp_or1, wp_or2, wp_chain, wpbin_add, wpbin_addS, wpbin_mulS, wpbin_sub, wpbin_mul, wpbin_mod, wpbin_fdiv, wpbin_addT, bind_ok, then_ok, List.length_cons, List.length_nil, Nat.reduceAdd, cx_call, cx_glob, tr_bl, bi_int, bi_abs, bi_lenL, bi_lenS, c_lt, c_le, c_gt, c_ge, c_eqI, c_eqS', c_neS', c_neI, e_isi, ty_int, ty_str, ty_bl, ty_non, ty_tup, ty_lstf, ty_any, bi_min2, Bool.not_true, Bool.not_false, ofO_some, Option.map_some, List.getElem?_cons_succ, List.getElem?_cons_zero, List.set_cons_succ, List.set_cons_zero, Int.reduceLT, Int.reduceLE, Int.reduceNeg]
  refine digits_wp H ha hs ?_
  rw [hds, he]
  rw [wp_sscons]
  simp only [e_var, e_int, e_str, e_bl, e_non, e_glob, e_bin, e_neg, e_cmp, e_and, e_or, e_not, e_call, e_bi, wp_meth, rc_all, true_and, wp_lc, s_try, s_aug, s_augS, isRef_t, if_true, bi_lenT, at_0, at_1, at_2, at_3, at_4, at_5, at_6, at_end, ixN_all, ix_lst, ix_tup, m_join, e_idx, e_slc, e_tup, e_lst, e_dict0, newL_true, newL_false, s_set, s_unp, s_sub, s_expr, s_ret, s_retN, s_pass, s_brk, s_cont, s_raise, ss_nil, a_nil, a_cons, o_no, o_yes, p_no, p_yes, i_val, i_rg1, i_rg2, wp_for', wp_while, wp_rg, wp_bind, wp_then, wp_seq, wp_ok, wp_ex, wp_nx, wp_rt, wp_bk, wp_ct, wp_xx, wp_ofO, wpO_s, wpO_map, wpTr_t, wpTr_f, wpTr_n, wp_ifs, wp_ife, wp_and1, wp_and2, wp_or1, wp_or2, wp_chain, wpbin_add, wpbin_addS, wpbin_mulS, wpbin_sub, wpbin_mul, wpbin_mod, wpbin_fdiv, wpbin_addT, bind_ok, then_ok, List.length_cons, List.length_nil, Nat.reduceAdd, cx_call, cx_glob, tr_bl, bi_int, bi_abs, bi_lenL, bi_lenS, c_lt, c_le, c_gt, c_ge, c_eqI, c_eqS', c_neS', c_neI, e_isi, ty_int, ty_str, ty_bl, ty_non, ty_tup, ty_lstf, ty_any, bi_min2, Bool.not_true, Bool.not_false, ofO_some, Option.map_some, List.getElem?_cons_succ, List.getElem?_cons_zero, List.set_cons_succ, List.set_cons_zero, Int.reduceLT, Int.reduceLE, Int.reduceNeg]
  refine ss_cut (fun ev s' => ∃ k : Nat, nval ds = some k ∧ ev = [some (.str t), some (.int a), some (.ref o), some (.int e), some (.int k), none, none, none, none] ∧ s = s') ?_ ?_
  · simp only [e_var, e_int, e_str, e_bl, e_non, e_glob, e_bin, e_neg, e_cmp, e_and, e_or, e_not, e_call, e_bi, wp_meth, rc_all, true_and, wp_lc, s_try, s_aug, s_augS, isRef_t, if_true, bi_lenT, at_0, at_1, at_2, at_3, at_4, at_5, at_6, at_end, ixN_all, ix_lst, ix_tup, m_join, e_idx, e_slc, e_tup, e_lst, e_dict0, newL_true, newL_false, s_set, s_unp, s_sub, s_expr, s_ret, s_retN, s_pass, s_brk, s_cont, s_raise, ss_nil, wp_sscons, a_nil, a_cons, o_no, o_yes, p_no, p_yes, i_val, i_rg1, i_rg2, wp_for', wp_while, wp_rg, wp_bind, wp_then, wp_seq, wp_ok, wp_ex, wp_nx, wp_rt, wp_bk, wp_ct, wp_xx, wp_ofO, wpO_s, wpO_map, wpTr_t, wpTr_f, wpTr_n, wp_ifs, wp_ife, wp_and1, wp_and2, wp_or1, wp_or2, wp_chain, wpbin_add, wpbin_addS, wpbin_mulS, wpbin_sub, wpbin_mul, wpbin_mod, wpbin_fdiv, wpbin_addT, bind_ok, then_ok, List.length_cons, List.length_nil, Nat.reduceAdd, cx_call, cx_glob, tr_bl, bi_int, bi_abs, bi_lenL, bi_lenS, c_lt, c_le, c_gt, c_ge, c_eqI, c_eqS', c_neS', c_neI, e_isi, ty_int, ty_str, ty_bl, ty_non, ty_tup, ty_lstf, ty_any, bi_min2, Bool.not_true, Bool.not_false, ofO_some, Option.map_some, List.getElem?_cons_succ, List.getElem?_cons_zero, List.set_cons_succ, List.set_cons_zero, Int.reduceLT, Int.reduceLE, Int.reduceNeg]
    refine wpTr_d (fun h => ?_) (fun h => ?_)
    · simp only [e_var, e_int, e_str, e_bl, e_non, e_glob, e_bin, e_neg, e_cmp, e_and, e_or, e_not, e_call, e_bi, wp_meth, rc_all, true_and, wp_lc, s_try, s_aug, s_augS, isRef_t, if_true, bi_lenT, at_0, at_1, at_2, at_3, at_4, at_5, at_6, at_end, ixN_all, ix_lst, ix_tup, m_join, e_idx, e_slc, e_tup, e_lst, e_dict0, newL_true, newL_false, s_set, s_unp, s_sub, s_expr, s_ret, s_retN, s_pass, s_brk, s_cont, s_raise, ss_nil, wp_sscons, a_nil, a_cons, o_no, o_yes, p_no, p_yes, i_val, i_rg1, i_rg2, wp_for', wp_while, wp_rg, wp_bind, wp_then, wp_seq, wp_ok, wp_ex, wp_nx, wp_rt, wp_bk, wp_ct, wp_xx, wp_ofO, wpO_s, wpO_map, wpTr_t, wpTr_f, wpTr_n, wp_ifs, wp_ife, wp_and1, wp_and2, wp_or1, wp_or2, wp_chain, wpbin_add, wpbin_addS, wpbin_mulS, wpbin_sub, wpbin_mul, wpbin_mod, wpbin_fdiv, wpbin_addT, bind_ok, then_ok, List.length_cons, List.length_nil, Nat.reduceAdd, cx_call, cx_glob, tr_bl, bi_int, bi_abs, bi_lenL, bi_lenS, c_lt, c_le, c_gt, c_ge, c_eqI, c_eqS', c_neS', c_neI, e_isi, ty_int, ty_str, ty_bl, ty_non, ty_tup, ty_lstf, ty_any, bi_min2, Bool.not_true, Bool.not_false, ofO_some, Option.map_some, List.getElem?_cons_succ, List.getElem?_cons_zero, List.set_cons_succ, List.set_cons_zero, Int.reduceLT, Int.reduceLE, Int.reduceNeg, H.mt]
      refine told_wp H hds.symm he.symm (by intro e0; rw [e0] at he; simp at he; omega) (fun k hk => ?_) (fun hk => ?_)
      · simp only [e_var, e_int, e_str, e_bl, e_non, e_glob, e_bin, e_neg, e_cmp, e_and, e_or, e_not, e_call, e_bi, wp_meth, rc_all, true_and, wp_lc, s_try, s_aug, s_augS, isRef_t, if_true, bi_lenT, at_0, at_1, at_2, at_3, at_4, at_5, at_6, at_end, ixN_all, ix_lst, ix_tup, m_join, e_idx, e_slc, e_tup, e_lst, e_dict0, newL_true, newL_false, s_set, s_unp, s_sub, s_expr, s_ret, s_retN, s_pass, s_brk, s_cont, s_raise, ss_nil, wp_sscons, a_nil, a_cons, o_no, o_yes, p_no, p_yes, i_val, i_rg1, i_rg2, wp_for', wp_while, wp_rg, wp_bind, wp_then, wp_seq, wp_ok, wp_ex, wp_nx, wp_rt, wp_bk, wp_ct, wp_xx, wp_ofO, wpO_s, wpO_map, wpTr_t, wpTr_f, wpTr_n, wp_ifs, wp_ife, wp_and1, wp_and2, wp_or1, wp_or2, wp_chain, wpbin_add, wpbin_addS, wpbin_mulS, wpbin_sub, wpbin_mul, wpbin_mod, wpbin_fdiv, wpbin_addT, bind_ok, then_ok, List.length_cons, List.length_nil, Nat.reduceAdd, cx_call, cx_glob, tr_bl, bi_int, bi_abs, bi_lenL, bi_lenS, c_lt, c_le, c_gt, c_ge, c_eqI, c_eqS', c_neS', c_neI, e_isi, ty_int, ty_str, ty_bl, ty_non, ty_tup, ty_lstf, ty_any, bi_min2, Bool.not_true, Bool.not_false, ofO_some, Option.map_some, List.getElem?_cons_succ, List.getElem?_cons_zero, List.set_cons_succ, List.set_cons_zero, Int.reduceLT, Int.reduceLE, Int.reduceNeg]
        exact ⟨k, hk, rfl, by trivial⟩
      · refine gcX_i rfl (hx a ?_)
        unfold item
        rw [hds, hk]
    · simp only [e_var, e_int, e_str, e_bl, e_non, e_glob, e_bin, e_neg, e_cmp, e_and, e_or, e_not, e_call, e_bi, wp_meth, rc_all, true_and, wp_lc, s_try, s_aug, s_augS, isRef_t, if_true, bi_lenT, at_0, at_1, at_2, at_3, at_4, at_5, at_6, at_end, ixN_all, ix_lst, ix_tup, m_join, e_idx, e_slc, e_tup, e_lst, e_dict0, newL_true, newL_false, s_set, s_unp, s_sub, s_expr, s_ret, s_retN, s_pass, s_brk, s_cont, s_raise, ss_nil, wp_sscons, a_nil, a_cons, o_no, o_yes, p_no, p_yes, i_val, i_rg1, i_rg2, wp_for', wp_while, wp_rg, wp_bind, wp_then, wp_seq, wp_ok, wp_ex, wp_nx, wp_rt, wp_bk, wp_ct, wp_xx, wp_ofO, wpO_s, wpO_map, wpTr_t, wpTr_f, wpTr_n, wp_ifs, wp_ife, wp_and1, wp_and2, wp_or1, wp_or2, wp_chain, wpbin_add, wpbin_addS, wpbin_mulS, wpbin_sub, wpbin_mul, wpbin_mod, wpbin_fdiv, wpbin_addT, bind_ok, then_ok, List.length_cons, List.length_nil, Nat.reduceAdd, cx_call, cx_glob, tr_bl, bi_int, bi_abs, bi_lenL, bi_lenS, c_lt, c_le, c_gt, c_ge, c_eqI, c_eqS', c_neS', c_neI, e_isi, ty_int, ty_str, ty_bl, ty_non, ty_tup, ty_lstf, ty_any, bi_min2, Bool.not_true, Bool.not_false, ofO_some, Option.map_some, List.getElem?_cons_succ, List.getElem?_cons_zero, List.set_cons_succ, List.set_cons_zero, Int.reduceLT, Int.reduceLE, Int.reduceNeg]
      have e0 : ds = [] := List.length_eq_zero_iff.mp (by omega)
      refine ⟨1, ?_, rfl, by trivial⟩
      rw [e0]; rfl
  rintro _ _ ⟨k, hk, rfl, rfl⟩
  have hk1 : 1 ≤ k ∧ k ≤ 99 := by
    rcases nval_some hk with ⟨_, h⟩ | ⟨h1, h2, _⟩ <;> omega
  rw [wp_sscons]
  simp only [e_var, e_int, e_str, e_bl, e_non, e_glob, e_bin, e_neg, e_cmp, e_and, e_or, e_not, e_call, e_bi, wp_meth, rc_all, true_and, wp_lc, s_try, s_aug, s_augS, isRef_t, if_true, bi_lenT, at_0, at_1, at_2, at_3, at_4, at_5, at_6, at_end, ixN_all, ix_lst, ix_tup, m_join, e_idx, e_slc, e_tup, e_lst, e_dict0, newL_true, newL_false, s_set, s_unp, s_sub, s_expr, s_ret, s_retN, s_pass, s_brk, s_cont, s_raise, ss_nil, a_nil, a_cons, o_no, o_yes, p_no, p_yes, i_val, i_rg1, i_rg2, wp_for', wp_while, wp_rg, wp_bind, wp_then, wp_seq, wp_ok, wp_ex, wp_nx, wp_rt, wp_bk, wp_ct, wp_xx, wp_ofO, wpO_s, wpO_map, wpTr_t, wpTr_f, wpTr_n, wp_ifs, wp_ife, wp_and1, wp_and2, wp_or1, wp_or2, wp_chain, wpbin_add, wpbin_addS, wpbin_mulS, wpbin_sub, wpbin_mul, wpbin_mod, wpbin_fdiv, wpbin_addT, bind_ok, then_ok, List.length_cons, List.length_nil, Nat.reduceAdd, cx_call, cx_glob, tr_bl, bi_int, bi_abs, bi_lenL, bi_lenS, c_lt, c_le, c_gt, c_ge, c_eqI, c_eqS', c_neS', c_neI, e_isi, ty_int, ty_str, ty_bl, ty_non, ty_tup, ty_lstf, ty_any, bi_min2, Bool.not_true, Bool.not_false, ofO_some, Option.map_some, List.getElem?_cons_succ, List.getElem?_cons_zero, List.set_cons_succ, List.set_cons_zero, Int.reduceLT, Int.reduceLE, Int.reduceNeg, sl_one hel]
  have hitem : item t a bel top = itemC t[e]? bel top ds k e := by
    unfold item
    rw [hds, hk, he]
  rw [hitem] at hx hq
  have lE : ("".toList.map Char.toNat) = [] := rfl
  have lO : ("(".toList.map Char.toNat) = [40] := rfl
  have lC : (")".toList.map Char.toNat) = [41] := rfl
  have hgt : (a : Int) < (e : Int) ↔ ds ≠ [] := by
    constructor
    · intro h e0; rw [e0] at he; simp at he; omega
    · intro h
      have := List.length_pos_iff.mpr h
      omega
  have heq : (e : Int) = (a : Int) ↔ ds = [] := by
    constructor
    · intro h; exact List.length_eq_zero_iff.mp (by omega)
    · intro h; rw [h] at he; simp at he; omega
  have e1 : (e : Int) + 1 = ((e + 1 : Nat) : Int) := by omega
  cases hc : t[e]? with
  | none =>
    rw [hc] at hx
    have c1 : decide (([] : List Nat) = ("".toList.map Char.toNat)) = true := by rw [lE]; simp
    have c2 : decide (([] : List Nat) = ("(".toList.map Char.toNat)) = false := by rw [lO]; simp
    have c3 : decide (([] : List Nat) = (")".toList.map Char.toNat)) = false := by rw [lC]; simp
    simp only [e_var, e_int, e_str, e_bl, e_non, e_glob, e_bin, e_neg, e_cmp, e_and, e_or, e_not, e_call, e_bi, wp_meth, rc_all, true_and, wp_lc, s_try, s_aug, s_augS, isRef_t, if_true, bi_lenT, at_0, at_1, at_2, at_3, at_4, at_5, at_6, at_end, ixN_all, ix_lst, ix_tup, m_join, e_idx, e_slc, e_tup, e_lst, e_dict0, newL_true, newL_false, s_set, s_unp, s_sub, s_expr, s_ret, s_retN, s_pass, s_brk, s_cont, s_raise, ss_nil, wp_sscons, a_nil, a_cons, o_no, o_yes, p_no, p_yes, i_val, i_rg1, i_rg2, wp_for', wp_while, wp_rg, wp_bind, wp_then, wp_seq, wp_ok, wp_ex, wp_nx, wp_rt, wp_bk, wp_ct, wp_xx, wp_ofO, wpO_s, wpO_map, wpTr_t, wpTr_f, wpTr_n, wp_ifs, wp_ife, wp_and1, wp_and2, wp_or1, wp_or2, wp_chain, wpbin_add, wpbin_addS, wpbin_mulS, wpbin_sub, wpbin_mul, wpbin_mod, wpbin_fdiv, wpbin_addT, bind_ok, then_ok, List.length_cons, List.length_nil, Nat.reduceAdd, cx_call, cx_glob, tr_bl, bi_int, bi_abs, bi_lenL, bi_lenS, c_lt, c_le, c_gt, c_ge, c_eqI, c_eqS', c_neS', c_neI, e_isi, ty_int, ty_str, ty_bl, ty_non, ty_tup, ty_lstf, ty_any, bi_min2, Bool.not_true, Bool.not_false, ofO_some, Option.map_some, List.getElem?_cons_succ, List.getElem?_cons_zero, List.set_cons_succ, List.set_cons_zero, Int.reduceLT, Int.reduceLE, Int.reduceNeg, c1, c2, c3, mk_bt H]
    exact gcX_i rfl (hx e rfl)
  | some c =>
    rw [hc] at hx hq
    have c1 : decide ([c] = ("".toList.map Char.toNat)) = false := by rw [lE]; simp
    have c2 : decide ([c] = ("(".toList.map Char.toNat)) = decide (c = 40) := by rw [lO]; simp
    have c3 : decide ([c] = (")".toList.map Char.toNat)) = decide (c = 41) := by rw [lC]; simp
    simp only [itemC] at hx hq
    simp only [e_var, e_int, e_str, e_bl, e_non, e_glob, e_bin, e_neg, e_cmp, e_and, e_or, e_not, e_call, e_bi, wp_meth, rc_all, true_and, wp_lc, s_try, s_aug, s_augS, isRef_t, if_true, bi_lenT, at_0, at_1, at_2, at_3, at_4, at_5, at_6, at_end, ixN_all, ix_lst, ix_tup, m_join, e_idx, e_slc, e_tup, e_lst, e_dict0, newL_true, newL_false, s_set, s_unp, s_sub, s_expr, s_ret, s_retN, s_pass, s_brk, s_cont, s_raise, ss_nil, wp_sscons, a_nil, a_cons, o_no, o_yes, p_no, p_yes, i_val, i_rg1, i_rg2, wp_for', wp_while, wp_rg, wp_bind, wp_then, wp_seq, wp_ok, wp_ex, wp_nx, wp_rt, wp_bk, wp_ct, wp_xx, wp_ofO, wpO_s, wpO_map, wpTr_t, wpTr_f, wpTr_n, wp_ifs, wp_ife, wp_and1, wp_and2, wp_or1, wp_or2, wp_chain, wpbin_add, wpbin_addS, wpbin_mulS, wpbin_sub, wpbin_mul, wpbin_mod, wpbin_fdiv, wpbin_addT, bind_ok, then_ok, List.length_cons, List.length_nil, Nat.reduceAdd, cx_call, cx_glob, tr_bl, bi_int, bi_abs, bi_lenL, bi_lenS, c_lt, c_le, c_gt, c_ge, c_eqI, c_eqS', c_neS', c_neI, e_isi, ty_int, ty_str, ty_bl, ty_non, ty_tup, ty_lstf, ty_any, bi_min2, Bool.not_true, Bool.not_false, ofO_some, Option.map_some, List.getElem?_cons_succ, List.getElem?_cons_zero, List.set_cons_succ, List.set_cons_zero, Int.reduceLT, Int.reduceLE, Int.reduceNeg, c1, c_in, H.lets]
    refine wpTr_d (fun hcl => ?_) (fun hcl => ?_)
    · rw [if_pos hcl] at hq
      simp only [e_var, e_int, e_str, e_bl, e_non, e_glob, e_bin, e_neg, e_cmp, e_and, e_or, e_not, e_call, e_bi, wp_meth, rc_all, true_and, wp_lc, s_try, s_aug, s_augS, isRef_t, if_true, bi_lenT, at_0, at_1, at_2, at_3, at_4, at_5, at_6, at_end, ixN_all, ix_lst, ix_tup, m_join, e_idx, e_slc, e_tup, e_lst, e_dict0, newL_true, newL_false, s_set, s_unp, s_sub, s_expr, s_ret, s_retN, s_pass, s_brk, s_cont, s_raise, ss_nil, wp_sscons, a_nil, a_cons, o_no, o_yes, p_no, p_yes, i_val, i_rg1, i_rg2, wp_for', wp_while, wp_rg, wp_bind, wp_then, wp_seq, wp_ok, wp_ex, wp_nx, wp_rt, wp_bk, wp_ct, wp_xx, wp_ofO, wpO_s, wpO_map, wpTr_t, wpTr_f, wpTr_n, wp_ifs, wp_ife, wp_and1, wp_and2, wp_or1, wp_or2, wp_chain, wpbin_add, wpbin_addS, wpbin_mulS, wpbin_sub, wpbin_mul, wpbin_mod, wpbin_fdiv, wpbin_addT, bind_ok, then_ok, List.length_cons, List.length_nil, Nat.reduceAdd, cx_call, cx_glob, tr_bl, bi_int, bi_abs, bi_lenL, bi_lenS, c_lt, c_le, c_gt, c_ge, c_eqI, c_eqS', c_neS', c_neI, e_isi, ty_int, ty_str, ty_bl, ty_non, ty_tup, ty_lstf, ty_any, bi_min2, Bool.not_true, Bool.not_false, ofO_some, Option.map_some, List.getElem?_cons_succ, List.getElem?_cons_zero, List.set_cons_succ, List.set_cons_zero, Int.reduceLT, Int.reduceLE, Int.reduceNeg, ix_ref hS.ho]
      refine ⟨by rw [c60_v]; omega, by rw [Int.toNat_natCast, lim_v]; omega, ?_⟩
      rw [repS_one]
      refine add_wp H hS.ht hS.tO.w4 (by simp; omega) ?_
      simp only [e_var, e_int, e_str, e_bl, e_non, e_glob, e_bin, e_neg, e_cmp, e_and, e_or, e_not, e_call, e_bi, wp_meth, rc_all, true_and, wp_lc, s_try, s_aug, s_augS, isRef_t, if_true, bi_lenT, at_0, at_1, at_2, at_3, at_4, at_5, at_6, at_end, ixN_all, ix_lst, ix_tup, m_join, e_idx, e_slc, e_tup, e_lst, e_dict0, newL_true, newL_false, s_set, s_unp, s_sub, s_expr, s_ret, s_retN, s_pass, s_brk, s_cont, s_raise, ss_nil, wp_sscons, a_nil, a_cons, o_no, o_yes, p_no, p_yes, i_val, i_rg1, i_rg2, wp_for', wp_while, wp_rg, wp_bind, wp_then, wp_seq, wp_ok, wp_ex, wp_nx, wp_rt, wp_bk, wp_ct, wp_xx, wp_ofO, wpO_s, wpO_map, wpTr_t, wpTr_f, wpTr_n, wp_ifs, wp_ife, wp_and1, wp_and2, wp_or1, wp_or2, wp_chain, wpbin_add, wpbin_addS, wpbin_mulS, wpbin_sub, wpbin_mul, wpbin_mod, wpbin_fdiv, wpbin_addT, bind_ok, then_ok, List.length_cons, List.length_nil, Nat.reduceAdd, cx_call, cx_glob, tr_bl, bi_int, bi_abs, bi_lenL, bi_lenS, c_lt, c_le, c_gt, c_ge, c_eqI, c_eqS', c_neS', c_neI, e_isi, ty_int, ty_str, ty_bl, ty_non, ty_tup, ty_lstf, ty_any, bi_min2, Bool.not_true, Bool.not_false, ofO_some, Option.map_some, List.getElem?_cons_succ, List.getElem?_cons_zero, List.set_cons_succ, List.set_cons_zero, Int.reduceLT, Int.reduceLE, Int.reduceNeg, e1]
      refine gc_i List.length_set (hq (e + 1) bel _ _ rfl ⟨rs, rt, hS.upd (addL_ok hS.tO (by simp))⟩)
    · rw [if_neg hcl] at hq hx
      have hlen : ((rs.reverse.map D.ref) ++ [D.ref rt]).length = bel.length + 1 := by
        rw [List.length_append, List.length_map, List.length_reverse, hS.hb.len]; rfl
      have hln : ∀ {fz : Bool}, builtin .len fz [.ref o] s = .ok (.int ((bel.length + 1 : Nat) : Int)) s := fun {fz} => by rw [bi_lenRf hS.ho, hlen]
      simp only [e_var, e_int, e_str, e_bl, e_non, e_glob, e_bin, e_neg, e_cmp, e_and, e_or, e_not, e_call, e_bi, wp_meth, rc_all, true_and, wp_lc, s_try, s_aug, s_augS, isRef_t, if_true, bi_lenT, at_0, at_1, at_2, at_3, at_4, at_5, at_6, at_end, ixN_all, ix_lst, ix_tup, m_join, e_idx, e_slc, e_tup, e_lst, e_dict0, newL_true, newL_false, s_set, s_unp, s_sub, s_expr, s_ret, s_retN, s_pass, s_brk, s_cont, s_raise, ss_nil, wp_sscons, a_nil, a_cons, o_no, o_yes, p_no, p_yes, i_val, i_rg1, i_rg2, wp_for', wp_while, wp_rg, wp_bind, wp_then, wp_seq, wp_ok, wp_ex, wp_nx, wp_rt, wp_bk, wp_ct, wp_xx, wp_ofO, wpO_s, wpO_map, wpTr_t, wpTr_f, wpTr_n, wp_ifs, wp_ife, wp_and1, wp_and2, wp_or1, wp_or2, wp_chain, wpbin_add, wpbin_addS, wpbin_mulS, wpbin_sub, wpbin_mul, wpbin_mod, wpbin_fdiv, wpbin_addT, bind_ok, then_ok, List.length_cons, List.length_nil, Nat.reduceAdd, cx_call, cx_glob, tr_bl, bi_int, bi_abs, bi_lenL, bi_lenS, c_lt, c_le, c_gt, c_ge, c_eqI, c_eqS', c_neS', c_neI, e_isi, ty_int, ty_str, ty_bl, ty_non, ty_tup, ty_lstf, ty_any, bi_min2, Bool.not_true, Bool.not_false, ofO_some, Option.map_some, List.getElem?_cons_succ, List.getElem?_cons_zero, List.set_cons_succ, List.set_cons_zero, Int.reduceLT, Int.reduceLE, Int.reduceNeg, c2]
      refine and_pure (p := c = 40) (q := ds ≠ [] ∧ bel.length ≤ 5) ?_ ?_
      · refine evAnd_cons ?_ (evAnd_one ?_)
        · simp only [e_var, e_int, e_str, e_bl, e_non, e_glob, e_bin, e_neg, e_cmp, e_and, e_or, e_not, e_call, e_bi, wp_meth, rc_all, true_and, wp_lc, s_try, s_aug, s_augS, isRef_t, if_true, bi_lenT, at_0, at_1, at_2, at_3, at_4, at_5, at_6, at_end, ixN_all, ix_lst, ix_tup, m_join, e_idx, e_slc, e_tup, e_lst, e_dict0, newL_true, newL_false, s_set, s_unp, s_sub, s_expr, s_ret, s_retN, s_pass, s_brk, s_cont, s_raise, ss_nil, wp_sscons, a_nil, a_cons, o_no, o_yes, p_no, p_yes, i_val, i_rg1, i_rg2, wp_for', wp_while, wp_rg, wp_bind, wp_then, wp_seq, wp_ok, wp_ex, wp_nx, wp_rt, wp_bk, wp_ct, wp_xx, wp_ofO, wpO_s, wpO_map, wpTr_t, wpTr_f, wpTr_n, wp_ifs, wp_ife, wp_and1, wp_and2, wp_or1, wp_or2, wp_chain, wpbin_add, wpbin_addS, wpbin_mulS, wpbin_sub, wpbin_mul, wpbin_mod, wpbin_fdiv, wpbin_addT, bind_ok, then_ok, List.length_cons, List.length_nil, Nat.reduceAdd, cx_call, cx_glob, tr_bl, bi_int, bi_abs, bi_lenL, bi_lenS, c_lt, c_le, c_gt, c_ge, c_eqI, c_eqS', c_neS', c_neI, e_isi, ty_int, ty_str, ty_bl, ty_non, ty_tup, ty_lstf, ty_any, bi_min2, Bool.not_true, Bool.not_false, ofO_some, Option.map_some, List.getElem?_cons_succ, List.getElem?_cons_zero, List.set_cons_succ, List.set_cons_zero, Int.reduceLT, Int.reduceLE, Int.reduceNeg]
          rw [decide_eq_decide.mpr hgt]
        · simp only [e_var, e_int, e_str, e_bl, e_non, e_glob, e_bin, e_neg, e_cmp, e_and, e_or, e_not, e_call, e_bi, wp_meth, rc_all, true_and, wp_lc, s_try, s_aug, s_augS, isRef_t, if_true, bi_lenT, at_0, at_1, at_2, at_3, at_4, at_5, at_6, at_end, ixN_all, ix_lst, ix_tup, m_join, e_idx, e_slc, e_tup, e_lst, e_dict0, newL_true, newL_false, s_set, s_unp, s_sub, s_expr, s_ret, s_retN, s_pass, s_brk, s_cont, s_raise, ss_nil, wp_sscons, a_nil, a_cons, o_no, o_yes, p_no, p_yes, i_val, i_rg1, i_rg2, wp_for', wp_while, wp_rg, wp_bind, wp_then, wp_seq, wp_ok, wp_ex, wp_nx, wp_rt, wp_bk, wp_ct, wp_xx, wp_ofO, wpO_s, wpO_map, wpTr_t, wpTr_f, wpTr_n, wp_ifs, wp_ife, wp_and1, wp_and2, wp_or1, wp_or2, wp_chain, wpbin_add, wpbin_addS, wpbin_mulS, wpbin_sub, wpbin_mul, wpbin_mod, wpbin_fdiv, wpbin_addT, bind_ok, then_ok, List.length_cons, List.length_nil, Nat.reduceAdd, cx_call, cx_glob, tr_bl, bi_int, bi_abs, bi_lenL, bi_lenS, c_lt, c_le, c_gt, c_ge, c_eqI, c_eqS', c_neS', c_neI, e_isi, ty_int, ty_str, ty_bl, ty_non, ty_tup, ty_lstf, ty_any, bi_min2, Bool.not_true, Bool.not_false, ofO_some, Option.map_some, List.getElem?_cons_succ, List.getElem?_cons_zero, List.set_cons_succ, List.set_cons_zero, Int.reduceLT, Int.reduceLE, Int.reduceNeg, H.md, hln]
          rw [decide_eq_decide.mpr (show ((bel.length + 1 : Nat) : Int) ≤ 6 ↔ bel.length ≤ 5 by omega)]
      refine wpTr_d (fun ho => ?_) (fun ho => ?_)
      · rw [if_pos ho] at hq
        simp only [e_var, e_int, e_str, e_bl, e_non, e_glob, e_bin, e_neg, e_cmp, e_and, e_or, e_not, e_call, e_bi, wp_meth, rc_all, true_and, wp_lc, s_try, s_aug, s_augS, isRef_t, if_true, bi_lenT, at_0, at_1, at_2, at_3, at_4, at_5, at_6, at_end, ixN_all, ix_lst, ix_tup, m_join, e_idx, e_slc, e_tup, e_lst, e_dict0, newL_true, newL_false, s_set, s_unp, s_sub, s_expr, s_ret, s_retN, s_pass, s_brk, s_cont, s_raise, ss_nil, wp_sscons, a_nil, a_cons, o_no, o_yes, p_no, p_yes, i_val, i_rg1, i_rg2, wp_for', wp_while, wp_rg, wp_bind, wp_then, wp_seq, wp_ok, wp_ex, wp_nx, wp_rt, wp_bk, wp_ct, wp_xx, wp_ofO, wpO_s, wpO_map, wpTr_t, wpTr_f, wpTr_n, wp_ifs, wp_ife, wp_and1, wp_and2, wp_or1, wp_or2, wp_chain, wpbin_add, wpbin_addS, wpbin_mulS, wpbin_sub, wpbin_mul, wpbin_mod, wpbin_fdiv, wpbin_addT, bind_ok, then_ok, List.length_cons, List.length_nil, Nat.reduceAdd, cx_call, cx_glob, tr_bl, bi_int, bi_abs, bi_lenL, bi_lenS, c_lt, c_le, c_gt, c_ge, c_eqI, c_eqS', c_neS', c_neI, e_isi, ty_int, ty_str, ty_bl, ty_non, ty_tup, ty_lstf, ty_any, bi_min2, Bool.not_true, Bool.not_false, ofO_some, Option.map_some, List.getElem?_cons_succ, List.getElem?_cons_zero, List.set_cons_succ, List.set_cons_zero, Int.reduceLT, Int.reduceLE, Int.reduceNeg, ty_refL hS.ho]
        have lE' : D.str ("".toList.map Char.toNat) = .str [] := rfl
        have ho2 : (s ++ [lvO ⟨k, [], 0⟩])[o]? = some (.lst ((rs.reverse.map D.ref) ++ [.ref rt])) := by rw [List.getElem?_append_left hS.lo]; exact hS.ho
        have ho3 : (s ++ [.lst [.int k, .str [], .int 0]])[o]? = some (.lst ((rs.reverse.map D.ref) ++ [.ref rt])) := ho2
        rw [lE', m_appR ho3]
        refine ⟨by rw [hlen, lim_v]; omega, ?_⟩
        have hS2 := hS.push (l := ⟨k, [], 0⟩) ⟨by simp, by simp, hk1.1, hk1.2⟩
        simp only [e_var, e_int, e_str, e_bl, e_non, e_glob, e_bin, e_neg, e_cmp, e_and, e_or, e_not, e_call, e_bi, wp_meth, rc_all, true_and, wp_lc, s_try, s_aug, s_augS, isRef_t, if_true, bi_lenT, at_0, at_1, at_2, at_3, at_4, at_5, at_6, at_end, ixN_all, ix_lst, ix_tup, m_join, e_idx, e_slc, e_tup, e_lst, e_dict0, newL_true, newL_false, s_set, s_unp, s_sub, s_expr, s_ret, s_retN, s_pass, s_brk, s_cont, s_raise, ss_nil, wp_sscons, a_nil, a_cons, o_no, o_yes, p_no, p_yes, i_val, i_rg1, i_rg2, wp_for', wp_while, wp_rg, wp_bind, wp_then, wp_seq, wp_ok, wp_ex, wp_nx, wp_rt, wp_bk, wp_ct, wp_xx, wp_ofO, wpO_s, wpO_map, wpTr_t, wpTr_f, wpTr_n, wp_ifs, wp_ife, wp_and1, wp_and2, wp_or1, wp_or2, wp_chain, wpbin_add, wpbin_addS, wpbin_mulS, wpbin_sub, wpbin_mul, wpbin_mod, wpbin_fdiv, wpbin_addT, bind_ok, then_ok, List.length_cons, List.length_nil, Nat.reduceAdd, cx_call, cx_glob, tr_bl, bi_int, bi_abs, bi_lenL, bi_lenS, c_lt, c_le, c_gt, c_ge, c_eqI, c_eqS', c_neS', c_neI, e_isi, ty_int, ty_str, ty_bl, ty_non, ty_tup, ty_lstf, ty_any, bi_min2, Bool.not_true, Bool.not_false, ofO_some, Option.map_some, List.getElem?_cons_succ, List.getElem?_cons_zero, List.set_cons_succ, List.set_cons_zero, Int.reduceLT, Int.reduceLE, Int.reduceNeg, e1]
        exact gc_keepR (i := o) (l := (rs.reverse.map D.ref) ++ [.ref rt]) (r := s.length) hS.lo (by rw [List.getElem?_set_self (by rw [List.length_append]; have := hS.lo; omega)]) (Nat.le_refl _) (hq (e + 1) _ _ _ rfl ⟨_, _, hS2⟩)
      · rw [if_neg ho] at hq hx
        have hix : ∀ {i : Int}, index (.ref rt) (.int i) s = ofO (L2.atI [.int top.x, .str top.w, .int top.m] i) s := fun {i} => ix_ref hS.ht
        simp only [e_var, e_int, e_str, e_bl, e_non, e_glob, e_bin, e_neg, e_cmp, e_and, e_or, e_not, e_call, e_bi, wp_meth, rc_all, true_and, wp_lc, s_try, s_aug, s_augS, isRef_t, if_true, bi_lenT, at_0, at_1, at_2, at_3, at_4, at_5, at_6, at_end, ixN_all, ix_lst, ix_tup, m_join, e_idx, e_slc, e_tup, e_lst, e_dict0, newL_true, newL_false, s_set, s_unp, s_sub, s_expr, s_ret, s_retN, s_pass, s_brk, s_cont, s_raise, ss_nil, wp_sscons, a_nil, a_cons, o_no, o_yes, p_no, p_yes, i_val, i_rg1, i_rg2, wp_for', wp_while, wp_rg, wp_bind, wp_then, wp_seq, wp_ok, wp_ex, wp_nx, wp_rt, wp_bk, wp_ct, wp_xx, wp_ofO, wpO_s, wpO_map, wpTr_t, wpTr_f, wpTr_n, wp_ifs, wp_ife, wp_and1, wp_and2, wp_or1, wp_or2, wp_chain, wpbin_add, wpbin_addS, wpbin_mulS, wpbin_sub, wpbin_mul, wpbin_mod, wpbin_fdiv, wpbin_addT, bind_ok, then_ok, List.length_cons, List.length_nil, Nat.reduceAdd, cx_call, cx_glob, tr_bl, bi_int, bi_abs, bi_lenL, bi_lenS, c_lt, c_le, c_gt, c_ge, c_eqI, c_eqS', c_neS', c_neI, e_isi, ty_int, ty_str, ty_bl, ty_non, ty_tup, ty_lstf, ty_any, bi_min2, Bool.not_true, Bool.not_false, ofO_some, Option.map_some, List.getElem?_cons_succ, List.getElem?_cons_zero, List.set_cons_succ, List.set_cons_zero, Int.reduceLT, Int.reduceLE, Int.reduceNeg, c3]
        refine and_pure (p := c = 41) (q := ds = [] ∧ 0 < bel.length ∧ 0 < top.m) ?_ ?_
        · refine evAnd_cons ?_ (evAnd_cons ?_ (evAnd_one ?_))
          · simp only [e_var, e_int, e_str, e_bl, e_non, e_glob, e_bin, e_neg, e_cmp, e_and, e_or, e_not, e_call, e_bi, wp_meth, rc_all, true_and, wp_lc, s_try, s_aug, s_augS, isRef_t, if_true, bi_lenT, at_0, at_1, at_2, at_3, at_4, at_5, at_6, at_end, ixN_all, ix_lst, ix_tup, m_join, e_idx, e_slc, e_tup, e_lst, e_dict0, newL_true, newL_false, s_set, s_unp, s_sub, s_expr, s_ret, s_retN, s_pass, s_brk, s_cont, s_raise, ss_nil, wp_sscons, a_nil, a_cons, o_no, o_yes, p_no, p_yes, i_val, i_rg1, i_rg2, wp_for', wp_while, wp_rg, wp_bind, wp_then, wp_seq, wp_ok, wp_ex, wp_nx, wp_rt, wp_bk, wp_ct, wp_xx, wp_ofO, wpO_s, wpO_map, wpTr_t, wpTr_f, wpTr_n, wp_ifs, wp_ife, wp_and1, wp_and2, wp_or1, wp_or2, wp_chain, wpbin_add, wpbin_addS, wpbin_mulS, wpbin_sub, wpbin_mul, wpbin_mod, wpbin_fdiv, wpbin_addT, bind_ok, then_ok, List.length_cons, List.length_nil, Nat.reduceAdd, cx_call, cx_glob, tr_bl, bi_int, bi_abs, bi_lenL, bi_lenS, c_lt, c_le, c_gt, c_ge, c_eqI, c_eqS', c_neS', c_neI, e_isi, ty_int, ty_str, ty_bl, ty_non, ty_tup, ty_lstf, ty_any, bi_min2, Bool.not_true, Bool.not_false, ofO_some, Option.map_some, List.getElem?_cons_succ, List.getElem?_cons_zero, List.set_cons_succ, List.set_cons_zero, Int.reduceLT, Int.reduceLE, Int.reduceNeg]
            rw [decide_eq_decide.mpr heq]
          · simp only [e_var, e_int, e_str, e_bl, e_non, e_glob, e_bin, e_neg, e_cmp, e_and, e_or, e_not, e_call, e_bi, wp_meth, rc_all, true_and, wp_lc, s_try, s_aug, s_augS, isRef_t, if_true, bi_lenT, at_0, at_1, at_2, at_3, at_4, at_5, at_6, at_end, ixN_all, ix_lst, ix_tup, m_join, e_idx, e_slc, e_tup, e_lst, e_dict0, newL_true, newL_false, s_set, s_unp, s_sub, s_expr, s_ret, s_retN, s_pass, s_brk, s_cont, s_raise, ss_nil, wp_sscons, a_nil, a_cons, o_no, o_yes, p_no, p_yes, i_val, i_rg1, i_rg2, wp_for', wp_while, wp_rg, wp_bind, wp_then, wp_seq, wp_ok, wp_ex, wp_nx, wp_rt, wp_bk, wp_ct, wp_xx, wp_ofO, wpO_s, wpO_map, wpTr_t, wpTr_f, wpTr_n, wp_ifs, wp_ife, wp_and1, wp_and2, wp_or1, wp_or2, wp_chain, wpbin_add, wpbin_addS, wpbin_mulS, wpbin_sub, wpbin_mul, wpbin_mod, wpbin_fdiv, wpbin_addT, bind_ok, then_ok, List.length_cons, List.length_nil, Nat.reduceAdd, cx_call, cx_glob, tr_bl, bi_int, bi_abs, bi_lenL, bi_lenS, c_lt, c_le, c_gt, c_ge, c_eqI, c_eqS', c_neS', c_neI, e_isi, ty_int, ty_str, ty_bl, ty_non, ty_tup, ty_lstf, ty_any, bi_min2, Bool.not_true, Bool.not_false, ofO_some, Option.map_some, List.getElem?_cons_succ, List.getElem?_cons_zero, List.set_cons_succ, List.set_cons_zero, Int.reduceLT, Int.reduceLE, Int.reduceNeg, hln]
            rw [decide_eq_decide.mpr (show (1 : Int) < ((bel.length + 1 : Nat) : Int) ↔ 0 < bel.length by omega)]
          · simp only [e_var, e_int, e_str, e_bl, e_non, e_glob, e_bin, e_neg, e_cmp, e_and, e_or, e_not, e_call, e_bi, wp_meth, rc_all, true_and, wp_lc, s_try, s_aug, s_augS, isRef_t, if_true, bi_lenT, at_0, at_1, at_2, at_3, at_4, at_5, at_6, at_end, ixN_all, ix_lst, ix_tup, m_join, e_idx, e_slc, e_tup, e_lst, e_dict0, newL_true, newL_false, s_set, s_unp, s_sub, s_expr, s_ret, s_retN, s_pass, s_brk, s_cont, s_raise, ss_nil, wp_sscons, a_nil, a_cons, o_no, o_yes, p_no, p_yes, i_val, i_rg1, i_rg2, wp_for', wp_while, wp_rg, wp_bind, wp_then, wp_seq, wp_ok, wp_ex, wp_nx, wp_rt, wp_bk, wp_ct, wp_xx, wp_ofO, wpO_s, wpO_map, wpTr_t, wpTr_f, wpTr_n, wp_ifs, wp_ife, wp_and1, wp_and2, wp_or1, wp_or2, wp_chain, wpbin_add, wpbin_addS, wpbin_mulS, wpbin_sub, wpbin_mul, wpbin_mod, wpbin_fdiv, wpbin_addT, bind_ok, then_ok, List.length_cons, List.length_nil, Nat.reduceAdd, cx_call, cx_glob, tr_bl, bi_int, bi_abs, bi_lenL, bi_lenS, c_lt, c_le, c_gt, c_ge, c_eqI, c_eqS', c_neS', c_neI, e_isi, ty_int, ty_str, ty_bl, ty_non, ty_tup, ty_lstf, ty_any, bi_min2, Bool.not_true, Bool.not_false, ofO_some, Option.map_some, List.getElem?_cons_succ, List.getElem?_cons_zero, List.set_cons_succ, List.set_cons_zero, Int.reduceLT, Int.reduceLE, Int.reduceNeg, ix_ref hS.ho, hix]
            rw [decide_eq_decide.mpr (show (0 : Int) < (top.m : Int) ↔ 0 < top.m by omega)]
        refine wpTr_d (fun hp => ?_) (fun hp => ?_)
        · match rs, bel, hS, hp with
          | [], [], hS, hp => exact absurd hp.2.2.1 (by simp)
          | [], _ :: _, hS, hp => exact hS.hb.elim
          | _ :: _, [], hS, hp => exact hS.hb.elim
          | r :: rs, b :: bel, hS, hp =>
            simp only at hq
            rw [if_pos ⟨hp.1, hp.2.1, hp.2.2.2⟩] at hq
            have hrr : ((r :: rs).reverse.map D.ref) = (rs.reverse.map D.ref) ++ [D.ref r] := by rw [List.reverse_cons, List.map_append]; rfl
            have hro : o ≠ r := fun e => hS.oN (by rw [e]; exact List.mem_cons_self ..)
            have ho1 : (s.set o (.lst ((rs.reverse.map D.ref) ++ [D.ref r])))[o]? = some (.lst ((rs.reverse.map D.ref) ++ [D.ref r])) := List.getElem?_set_self hS.lo
            have ht1 : (s.set o (.lst ((rs.reverse.map D.ref) ++ [D.ref r])))[rt]? = some (.lst [.int top.x, .str top.w, .int top.m]) := by rw [List.getElem?_set_ne hS.ot]; exact hS.ht
            have hr1 : (s.set o (.lst ((rs.reverse.map D.ref) ++ [D.ref r])))[r]? = some (lvO b) := by rw [List.getElem?_set_ne hro]; exact hS.hb.1
            have hbO := hS.bO b (List.mem_cons_self ..)
            have hrl : (repS top.w top.x).length ≤ 99 * 400 := by rw [repS_len]; exact Nat.mul_le_mul hS.tO.x9 hS.tO.w4
            simp only [e_var, e_int, e_str, e_bl, e_non, e_glob, e_bin, e_neg, e_cmp, e_and, e_or, e_not, e_call, e_bi, wp_meth, rc_all, true_and, wp_lc, s_try, s_aug, s_augS, isRef_t, if_true, bi_lenT, at_0, at_1, at_2, at_3, at_4, at_5, at_6, at_end, ixN_all, ix_lst, ix_tup, m_join, e_idx, e_slc, e_tup, e_lst, e_dict0, newL_true, newL_false, s_set, s_unp, s_sub, s_expr, s_ret, s_retN, s_pass, s_brk, s_cont, s_raise, ss_nil, wp_sscons, a_nil, a_cons, o_no, o_yes, p_no, p_yes, i_val, i_rg1, i_rg2, wp_for', wp_while, wp_rg, wp_bind, wp_then, wp_seq, wp_ok, wp_ex, wp_nx, wp_rt, wp_bk, wp_ct, wp_xx, wp_ofO, wpO_s, wpO_map, wpTr_t, wpTr_f, wpTr_n, wp_ifs, wp_ife, wp_and1, wp_and2, wp_or1, wp_or2, wp_chain, wpbin_add, wpbin_addS, wpbin_mulS, wpbin_sub, wpbin_mul, wpbin_mod, wpbin_fdiv, wpbin_addT, bind_ok, then_ok, List.length_cons, List.length_nil, Nat.reduceAdd, cx_call, cx_glob, tr_bl, bi_int, bi_abs, bi_lenL, bi_lenS, c_lt, c_le, c_gt, c_ge, c_eqI, c_eqS', c_neS', c_neI, e_isi, ty_int, ty_str, ty_bl, ty_non, ty_tup, ty_lstf, ty_any, bi_min2, Bool.not_true, Bool.not_false, ofO_some, Option.map_some, List.getElem?_cons_succ, List.getElem?_cons_zero, List.set_cons_succ, List.set_cons_zero, Int.reduceLT, Int.reduceLE, Int.reduceNeg, ty_refL hS.ho]
            rw [m_popR hS.ho, hrr]
            simp only [e_var, e_int, e_str, e_bl, e_non, e_glob, e_bin, e_neg, e_cmp, e_and, e_or, e_not, e_call, e_bi, wp_meth, rc_all, true_and, wp_lc, s_try, s_aug, s_augS, isRef_t, if_true, bi_lenT, at_0, at_1, at_2, at_3, at_4, at_5, at_6, at_end, ixN_all, ix_lst, ix_tup, m_join, e_idx, e_slc, e_tup, e_lst, e_dict0, newL_true, newL_false, s_set, s_unp, s_sub, s_expr, s_ret, s_retN, s_pass, s_brk, s_cont, s_raise, ss_nil, wp_sscons, a_nil, a_cons, o_no, o_yes, p_no, p_yes, i_val, i_rg1, i_rg2, wp_for', wp_while, wp_rg, wp_bind, wp_then, wp_seq, wp_ok, wp_ex, wp_nx, wp_rt, wp_bk, wp_ct, wp_xx, wp_ofO, wpO_s, wpO_map, wpTr_t, wpTr_f, wpTr_n, wp_ifs, wp_ife, wp_and1, wp_and2, wp_or1, wp_or2, wp_chain, wpbin_add, wpbin_addS, wpbin_mulS, wpbin_sub, wpbin_mul, wpbin_mod, wpbin_fdiv, wpbin_addT, bind_ok, then_ok, List.length_cons, List.length_nil, Nat.reduceAdd, cx_call, cx_glob, tr_bl, bi_int, bi_abs, bi_lenL, bi_lenS, c_lt, c_le, c_gt, c_ge, c_eqI, c_eqS', c_neS', c_neI, e_isi, ty_int, ty_str, ty_bl, ty_non, ty_tup, ty_lstf, ty_any, bi_min2, Bool.not_true, Bool.not_false, ofO_some, Option.map_some, List.getElem?_cons_succ, List.getElem?_cons_zero, List.set_cons_succ, List.set_cons_zero, Int.reduceLT, Int.reduceLE, Int.reduceNeg, bindT_ref3 ht1, ix_ref ho1]
            have hx9 := hS.tO.x9
            refine ⟨by rw [c60_v]; omega, ?_, mulOk_small (by omega) (by omega), ?_⟩
            · rw [Int.toNat_natCast, lim_v]
              have := Nat.mul_le_mul hS.tO.w4 hx9
              omega
            rw [← Int.natCast_mul]
            refine add_wp H hr1 hbO.w4 (by omega) ?_
            simp only [e_var, e_int, e_str, e_bl, e_non, e_glob, e_bin, e_neg, e_cmp, e_and, e_or, e_not, e_call, e_bi, wp_meth, rc_all, true_and, wp_lc, s_try, s_aug, s_augS, isRef_t, if_true, bi_lenT, at_0, at_1, at_2, at_3, at_4, at_5, at_6, at_end, ixN_all, ix_lst, ix_tup, m_join, e_idx, e_slc, e_tup, e_lst, e_dict0, newL_true, newL_false, s_set, s_unp, s_sub, s_expr, s_ret, s_retN, s_pass, s_brk, s_cont, s_raise, ss_nil, wp_sscons, a_nil, a_cons, o_no, o_yes, p_no, p_yes, i_val, i_rg1, i_rg2, wp_for', wp_while, wp_rg, wp_bind, wp_then, wp_seq, wp_ok, wp_ex, wp_nx, wp_rt, wp_bk, wp_ct, wp_xx, wp_ofO, wpO_s, wpO_map, wpTr_t, wpTr_f, wpTr_n, wp_ifs, wp_ife, wp_and1, wp_and2, wp_or1, wp_or2, wp_chain, wpbin_add, wpbin_addS, wpbin_mulS, wpbin_sub, wpbin_mul, wpbin_mod, wpbin_fdiv, wpbin_addT, bind_ok, then_ok, List.length_cons, List.length_nil, Nat.reduceAdd, cx_call, cx_glob, tr_bl, bi_int, bi_abs, bi_lenL, bi_lenS, c_lt, c_le, c_gt, c_ge, c_eqI, c_eqS', c_neS', c_neI, e_isi, ty_int, ty_str, ty_bl, ty_non, ty_tup, ty_lstf, ty_any, bi_min2, Bool.not_true, Bool.not_false, ofO_some, Option.map_some, List.getElem?_cons_succ, List.getElem?_cons_zero, List.set_cons_succ, List.set_cons_zero, Int.reduceLT, Int.reduceLE, Int.reduceNeg, e1]
            refine gc_i (by rw [List.length_set, List.length_set]) (hq (e + 1) bel _ _ rfl ⟨_, _, hS.pop (addL_ok hbO ?_)⟩)
            rw [repS_len, Nat.mul_comm]
            exact Nat.mul_le_mul_right _ hS.tO.wm
        · simp only [e_var, e_int, e_str, e_bl, e_non, e_glob, e_bin, e_neg, e_cmp, e_and, e_or, e_not, e_call, e_bi, wp_meth, rc_all, true_and, wp_lc, s_try, s_aug, s_augS, isRef_t, if_true, bi_lenT, at_0, at_1, at_2, at_3, at_4, at_5, at_6, at_end, ixN_all, ix_lst, ix_tup, m_join, e_idx, e_slc, e_tup, e_lst, e_dict0, newL_true, newL_false, s_set, s_unp, s_sub, s_expr, s_ret, s_retN, s_pass, s_brk, s_cont, s_raise, ss_nil, wp_sscons, a_nil, a_cons, o_no, o_yes, p_no, p_yes, i_val, i_rg1, i_rg2, wp_for', wp_while, wp_rg, wp_bind, wp_then, wp_seq, wp_ok, wp_ex, wp_nx, wp_rt, wp_bk, wp_ct, wp_xx, wp_ofO, wpO_s, wpO_map, wpTr_t, wpTr_f, wpTr_n, wp_ifs, wp_ife, wp_and1, wp_and2, wp_or1, wp_or2, wp_chain, wpbin_add, wpbin_addS, wpbin_mulS, wpbin_sub, wpbin_mul, wpbin_mod, wpbin_fdiv, wpbin_addT, bind_ok, then_ok, List.length_cons, List.length_nil, Nat.reduceAdd, cx_call, cx_glob, tr_bl, bi_int, bi_abs, bi_lenL, bi_lenS, c_lt, c_le, c_gt, c_ge, c_eqI, c_eqS', c_neS', c_neI, e_isi, ty_int, ty_str, ty_bl, ty_non, ty_tup, ty_lstf, ty_any, bi_min2, Bool.not_true, Bool.not_false, ofO_some, Option.map_some, List.getElem?_cons_succ, List.getElem?_cons_zero, List.set_cons_succ, List.set_cons_zero, Int.reduceLT, Int.reduceLE, Int.reduceNeg, mk_bt H]
          refine gcX_i rfl (hx e ?_)
          match bel, hp with
          | [], _ => rfl
          | b :: bel', hp => exact if_neg (fun z => hp ⟨z.1, z.2.1, by simp, z.2.2⟩)
end
end Ct
end T
set_option Elab.async false
set_option linter.all false
set_option autoImplicit false
set_option maxRecDepth 100000
set_option maxHeartbeats 4000000
/-! # Cv: the reader of calling texts, whole -/
namespace T
namespace Ct
theorem itemC_ok {oc : Option Nat} {bel : List Lv} {top : Lv} {ds : List Nat} {k e a' : Nat} {bel' : List Lv} {top' : Lv} (h : itemC oc bel top ds k e = .ok a' bel' top') : a' = e + 1 ∧ ∃ c, oc = some c := by
  unfold itemC at h
  cases oc with
  | none => cases h
  | some c =>
    refine ⟨?_, c, rfl⟩
    simp only at h
    split at h
    · cases h; rfl
    · split at h
      · cases h; rfl
      · split at h
        · split at h
          · cases h; rfl
          · cases h
        · cases h
theorem item_ok {t : List Nat} {a : Nat} {bel : List Lv} {top : Lv} {a' : Nat} {bel' : List Lv} {top' : Lv} (h : item t a bel top = .ok a' bel' top') : a < a' ∧ a' ≤ t.length := by
  unfold item at h
  cases hk : nval (dg (t.drop a)) with
  | none => rw [hk] at h; cases h
  | some k =>
    rw [hk] at h
    obtain ⟨e, c, hc⟩ := itemC_ok h
    have := (List.getElem?_eq_some_iff.mp hc).1
    omega
inductive Told where
  | bad (i : Nat) | long (m : Nat) | good (w : List Nat)
def scan : Nat → List Nat → Nat → List Lv → Lv → Except Nat (List Lv × Lv)
  | 0, _, _, _, _ => .error 0
  | n + 1, t, a, bel, top => if a < t.length then (match item t a bel top with | .err i => .error i | .ok a' bel' top' => scan n t a' bel' top') else .ok (bel, top)
def reads (t : List Nat) : Told := match scan (t.length + 1) t 0 [] ⟨1, [], 0⟩ with
  | .error i => .bad i
  | .ok (bel, top) => if bel ≠ [] then .bad t.length else if 400 < top.m then .long top.m else .good top.w
def tlX (i : Int) : Exn := ⟨"TooLong", [("number", .int i)]⟩
theorem Stk.nil {st : Store} {top : Lv} {o : Nat} {s : Store} (h : Stk st s o [] top) : ∃ rt, s[o]? = some (.lst [.ref rt]) ∧ s[rt]? = some (lvO top) := by
  obtain ⟨rs, rt, h⟩ := h
  match rs, h with
  | [], h => exact ⟨rt, h.ho, h.ht⟩
  | r :: rs, h => exact h.hb.elim
theorem Stk.len {st : Store} {bel : List Lv} {top : Lv} {o : Nat} {s : Store} (h : Stk st s o bel top) : ∃ l : List D, s[o]? = some (.lst l) ∧ l.length = bel.length + 1 := by
  obtain ⟨rs, rt, h⟩ := h
  exact ⟨_, h.ho, by rw [List.length_append, List.length_map, List.length_reverse, h.hb.len]; rfl⟩
theorem Stk.tk {st : Store} {bel : List Lv} {top : Lv} {o : Nat} {s : Store} (h : Stk st s o bel top) : s.take st.length = st := by
  obtain ⟨rs, rt, h⟩ := h
  exact h.tk
theorem Stk.start (st : Store) : Stk st (st ++ [.lst [.int (1 : Nat), .str [], .int (0 : Nat)]] ++ [.lst [.ref st.length]]) (st.length + 1) [] ⟨1, [], 0⟩ := by
  refine ⟨[], st.length, ?_⟩
  exact {
    ho := by rw [List.getElem?_append_right (by rw [List.length_append]; exact Nat.le_refl _), List.length_append]; simp
    ht := by rw [List.append_assoc, List.getElem?_append_right (by omega), Nat.sub_self]; rfl
    hb := trivial
    oN := by simp
    ot := by omega
    tN := by simp
    nd := List.nodup_nil
    bo := by omega
    bt := Nat.le_refl _
    br := by simp
    tk := by rw [List.append_assoc, List.take_left]
    tO := ⟨by simp, by simp, Nat.le_refl _, by show 1 ≤ 99; omega⟩
    bO := by simp }
section
variable {P : Prog} {n : Nat} {Q : D → Store → Prop} {X : Exn → Store → Prop} {st : Store}
theorem calling_wp (H : Has P) {t : List Nat} (hw : Wf st) (hs : t.length < 999999)
    (h : match reads t with | .bad i => X (btX i) st | .long m => X (tlX m) st | .good w => Q (.str w) st) : (run P (n + 3) "read_calling" [.str t] st).wp Q X := by
  refine wp_run (fd := d_read_calling) H.calling rfl ?_
  simp only [d_read_calling, List.length_cons, List.length_nil, if_true, T.start, List.map_cons, List.map_nil, Nat.reduceAdd, Nat.reduceSub, List.replicate, List.cons_append, List.nil_append]
  have lE : D.str ("".toList.map Char.toNat) = .str [] := rfl
  simp only [e_var, e_int, e_str, e_bl, e_non, e_glob, e_bin, e_neg, e_cmp, e_and, e_or, e_not, e_call, e_bi, wp_meth, rc_all, true_and, wp_lc, s_try, s_aug, s_augS, isRef_t, if_true, bi_lenT, at_0, at_1, at_2, at_3, at_4, at_5, at_6, at_end, ixN_all, ix_lst, ix_tup, m_join, e_idx, e_slc, e_tup, e_lst, e_dict0, newL_true, newL_false, s_set, s_unp, s_sub, s_expr, s_ret, s_retN, s_pass, s_brk, s_cont, s_raise, ss_nil, wp_sscons, a_nil, a_cons, o_no, o_yes, p_no, p_yes, i_val, i_rg1, i_rg2, wp_for', wp_while, wp_rg, wp_bind, wp_then, wp_seq, wp_ok, wp_ex, wp_nx, wp_rt, wp_bk, wp_ct, wp_xx, wp_ofO, wpO_s, wpO_map, wpTr_t, wpTr_f, wpTr_n, wp_ifs, wp_ife, wp_and1, wp_and2, wp_or1, wp_or2, wp_chain, wpbin_add, wpbin_addS, wpbin_mulS, wpbin_sub, wpbin_mul, wpbin_mod, wpbin_fdiv, wpbin_addT, bind_ok, then_ok, List.length_cons, List.length_nil, Nat.reduceAdd, cx_call, cx_glob, tr_bl, bi_int, bi_abs, bi_lenL, bi_lenS, c_lt, c_le, c_gt, c_ge, c_eqI, c_eqS', c_neS', c_neI, e_isi, ty_int, ty_str, ty_bl, ty_non, ty_tup, ty_lstf, ty_any, bi_min2, Bool.not_true, Bool.not_false, ofO_some, Option.map_some, List.getElem?_cons_succ, List.getElem?_cons_zero, List.set_cons_succ, List.set_cons_zero, Int.reduceLT, Int.reduceLE, Int.reduceNeg]
  rw [lE]
  have hst := Stk.start st
  have bt : ∀ i : Int, ∀ s : Store, s.take st.length = st → X (btX i) st → (gcX st.length (btX i) s).wp Q X := fun i s h1 h2 => gcX_wpW hw rfl h1 rfl h2
  have bl : ∀ i : Int, ∀ s : Store, s.take st.length = st → X (tlX i) st → (gcX st.length (tlX i) s).wp Q X := fun i s h1 h2 => gcX_wpW hw rfl h1 rfl h2
  have hl : (st ++ [O.lst [.int (1 : Nat), .str [], .int (0 : Nat)]]).length = st.length + 1 := by simp
  rw [show ((st ++ [O.lst [.int 1, .str [], .int 0]]).length) = st.length + 1 from hl]
  refine wpWhile_i (fun m env s => ∃ (a : Nat) (bel : List Lv) (top : Lv) (k : Nat), a ≤ t.length ∧ scan k t a bel top = scan (t.length + 1) t 0 [] ⟨1, [], 0⟩ ∧ t.length - a < k ∧ m = t.length - a ∧ env = [some (.str t), some (.ref (st.length + 1)), some (.int a)] ∧ Stk st s (st.length + 1) bel top)
    t.length (by show _ < P.wf; rw [H.wf]; omega) ⟨0, [], ⟨1, [], 0⟩, t.length + 1, Nat.zero_le _, rfl, by omega, by omega, rfl, hst⟩ ?_
  rintro m env s ⟨a, bel, top, k, ha, hk, hlt, rfl, rfl, hS⟩
  simp only [e_var, e_int, e_str, e_bl, e_non, e_glob, e_bin, e_neg, e_cmp, e_and, e_or, e_not, e_call, e_bi, wp_meth, rc_all, true_and, wp_lc, s_try, s_aug, s_augS, isRef_t, if_true, bi_lenT, at_0, at_1, at_2, at_3, at_4, at_5, at_6, at_end, ixN_all, ix_lst, ix_tup, m_join, e_idx, e_slc, e_tup, e_lst, e_dict0, newL_true, newL_false, s_set, s_unp, s_sub, s_expr, s_ret, s_retN, s_pass, s_brk, s_cont, s_raise, ss_nil, wp_sscons, a_nil, a_cons, o_no, o_yes, p_no, p_yes, i_val, i_rg1, i_rg2, wp_for', wp_while, wp_rg, wp_bind, wp_then, wp_seq, wp_ok, wp_ex, wp_nx, wp_rt, wp_bk, wp_ct, wp_xx, wp_ofO, wpO_s, wpO_map, wpTr_t, wpTr_f, wpTr_n, wp_ifs, wp_ife, wp_and1, wp_and2, wp_or1, wp_or2, wp_chain, wpbin_add, wpbin_addS, wpbin_mulS, wpbin_sub, wpbin_mul, wpbin_mod, wpbin_fdiv, wpbin_addT, bind_ok, then_ok, List.length_cons, List.length_nil, Nat.reduceAdd, cx_call, cx_glob, tr_bl, bi_int, bi_abs, bi_lenL, bi_lenS, c_lt, c_le, c_gt, c_ge, c_eqI, c_eqS', c_neS', c_neI, e_isi, ty_int, ty_str, ty_bl, ty_non, ty_tup, ty_lstf, ty_any, bi_min2, Bool.not_true, Bool.not_false, ofO_some, Option.map_some, List.getElem?_cons_succ, List.getElem?_cons_zero, List.set_cons_succ, List.set_cons_zero, Int.reduceLT, Int.reduceLE, Int.reduceNeg]
  refine wpTr_d (fun hc => ?_) (fun hc => ?_)
  · simp only [e_var, e_int, e_str, e_bl, e_non, e_glob, e_bin, e_neg, e_cmp, e_and, e_or, e_not, e_call, e_bi, wp_meth, rc_all, true_and, wp_lc, s_try, s_aug, s_augS, isRef_t, if_true, bi_lenT, at_0, at_1, at_2, at_3, at_4, at_5, at_6, at_end, ixN_all, ix_lst, ix_tup, m_join, e_idx, e_slc, e_tup, e_lst, e_dict0, newL_true, newL_false, s_set, s_unp, s_sub, s_expr, s_ret, s_retN, s_pass, s_brk, s_cont, s_raise, ss_nil, wp_sscons, a_nil, a_cons, o_no, o_yes, p_no, p_yes, i_val, i_rg1, i_rg2, wp_for', wp_while, wp_rg, wp_bind, wp_then, wp_seq, wp_ok, wp_ex, wp_nx, wp_rt, wp_bk, wp_ct, wp_xx, wp_ofO, wpO_s, wpO_map, wpTr_t, wpTr_f, wpTr_n, wp_ifs, wp_ife, wp_and1, wp_and2, wp_or1, wp_or2, wp_chain, wpbin_add, wpbin_addS, wpbin_mulS, wpbin_sub, wpbin_mul, wpbin_mod, wpbin_fdiv, wpbin_addT, bind_ok, then_ok, List.length_cons, List.length_nil, Nat.reduceAdd, cx_call, cx_glob, tr_bl, bi_int, bi_abs, bi_lenL, bi_lenS, c_lt, c_le, c_gt, c_ge, c_eqI, c_eqS', c_neS', c_neI, e_isi, ty_int, ty_str, ty_bl, ty_non, ty_tup, ty_lstf, ty_any, bi_min2, Bool.not_true, Bool.not_false, ofO_some, Option.map_some, List.getElem?_cons_succ, List.getElem?_cons_zero, List.set_cons_succ, List.set_cons_zero, Int.reduceLT, Int.reduceLE, Int.reduceNeg]
    obtain ⟨k, rfl⟩ : ∃ k', k = k' + 1 := ⟨k - 1, by omega⟩
    rw [scan, if_pos (by omega)] at hk
    refine item_wp H hs ha hS (fun i hi => ?_) (fun a' bel' top' s' hi hS' => ?_)
    · rw [hi] at hk
      refine bt i s hS.tk ?_
      unfold reads at h
      rw [← hk] at h
      exact h
    · rw [hi] at hk
      obtain ⟨h1, h2⟩ := item_ok hi
      simp only [e_var, e_int, e_str, e_bl, e_non, e_glob, e_bin, e_neg, e_cmp, e_and, e_or, e_not, e_call, e_bi, wp_meth, rc_all, true_and, wp_lc, s_try, s_aug, s_augS, isRef_t, if_true, bi_lenT, at_0, at_1, at_2, at_3, at_4, at_5, at_6, at_end, ixN_all, ix_lst, ix_tup, m_join, e_idx, e_slc, e_tup, e_lst, e_dict0, newL_true, newL_false, s_set, s_unp, s_sub, s_expr, s_ret, s_retN, s_pass, s_brk, s_cont, s_raise, ss_nil, wp_sscons, a_nil, a_cons, o_no, o_yes, p_no, p_yes, i_val, i_rg1, i_rg2, wp_for', wp_while, wp_rg, wp_bind, wp_then, wp_seq, wp_ok, wp_ex, wp_nx, wp_rt, wp_bk, wp_ct, wp_xx, wp_ofO, wpO_s, wpO_map, wpTr_t, wpTr_f, wpTr_n, wp_ifs, wp_ife, wp_and1, wp_and2, wp_or1, wp_or2, wp_chain, wpbin_add, wpbin_addS, wpbin_mulS, wpbin_sub, wpbin_mul, wpbin_mod, wpbin_fdiv, wpbin_addT, bind_ok, then_ok, List.length_cons, List.length_nil, Nat.reduceAdd, cx_call, cx_glob, tr_bl, bi_int, bi_abs, bi_lenL, bi_lenS, c_lt, c_le, c_gt, c_ge, c_eqI, c_eqS', c_neS', c_neI, e_isi, ty_int, ty_str, ty_bl, ty_non, ty_tup, ty_lstf, ty_any, bi_min2, Bool.not_true, Bool.not_false, ofO_some, Option.map_some, List.getElem?_cons_succ, List.getElem?_cons_zero, List.set_cons_succ, List.set_cons_zero, Int.reduceLT, Int.reduceLE, Int.reduceNeg]
      exact ⟨t.length - a', by omega, a', bel', top', k, h2, hk, by omega, rfl, rfl, hS'⟩
  · obtain ⟨k, rfl⟩ : ∃ k', k = k' + 1 := ⟨k - 1, by omega⟩
    rw [scan, if_neg (by omega)] at hk
    unfold reads at h
    rw [← hk] at h
    obtain ⟨l, hl1, hl2⟩ := hS.len
    simp only [e_var, e_int, e_str, e_bl, e_non, e_glob, e_bin, e_neg, e_cmp, e_and, e_or, e_not, e_call, e_bi, wp_meth, rc_all, true_and, wp_lc, s_try, s_aug, s_augS, isRef_t, if_true, bi_lenT, at_0, at_1, at_2, at_3, at_4, at_5, at_6, at_end, ixN_all, ix_lst, ix_tup, m_join, e_idx, e_slc, e_tup, e_lst, e_dict0, newL_true, newL_false, s_set, s_unp, s_sub, s_expr, s_ret, s_retN, s_pass, s_brk, s_cont, s_raise, ss_nil, wp_sscons, a_nil, a_cons, o_no, o_yes, p_no, p_yes, i_val, i_rg1, i_rg2, wp_for', wp_while, wp_rg, wp_bind, wp_then, wp_seq, wp_ok, wp_ex, wp_nx, wp_rt, wp_bk, wp_ct, wp_xx, wp_ofO, wpO_s, wpO_map, wpTr_t, wpTr_f, wpTr_n, wp_ifs, wp_ife, wp_and1, wp_and2, wp_or1, wp_or2, wp_chain, wpbin_add, wpbin_addS, wpbin_mulS, wpbin_sub, wpbin_mul, wpbin_mod, wpbin_fdiv, wpbin_addT, bind_ok, then_ok, List.length_cons, List.length_nil, Nat.reduceAdd, cx_call, cx_glob, tr_bl, bi_int, bi_abs, bi_lenL, bi_lenS, c_lt, c_le, c_gt, c_ge, c_eqI, c_eqS', c_neS', c_neI, e_isi, ty_int, ty_str, ty_bl, ty_non, ty_tup, ty_lstf, ty_any, bi_min2, Bool.not_true, Bool.not_false, ofO_some, Option.map_some, List.getElem?_cons_succ, List.getElem?_cons_zero, List.set_cons_succ, List.set_cons_zero, Int.reduceLT, Int.reduceLE, Int.reduceNeg, bi_lenRf hl1, hl2]
    refine wpTr_d (fun hb => ?_) (fun hb => ?_)
    · have hne : bel ≠ [] := by intro e; subst e; simp at hb
      simp only [if_pos hne] at h
      simp only [e_var, e_int, e_str, e_bl, e_non, e_glob, e_bin, e_neg, e_cmp, e_and, e_or, e_not, e_call, e_bi, wp_meth, rc_all, true_and, wp_lc, s_try, s_aug, s_augS, isRef_t, if_true, bi_lenT, at_0, at_1, at_2, at_3, at_4, at_5, at_6, at_end, ixN_all, ix_lst, ix_tup, m_join, e_idx, e_slc, e_tup, e_lst, e_dict0, newL_true, newL_false, s_set, s_unp, s_sub, s_expr, s_ret, s_retN, s_pass, s_brk, s_cont, s_raise, ss_nil, wp_sscons, a_nil, a_cons, o_no, o_yes, p_no, p_yes, i_val, i_rg1, i_rg2, wp_for', wp_while, wp_rg, wp_bind, wp_then, wp_seq, wp_ok, wp_ex, wp_nx, wp_rt, wp_bk, wp_ct, wp_xx, wp_ofO, wpO_s, wpO_map, wpTr_t, wpTr_f, wpTr_n, wp_ifs, wp_ife, wp_and1, wp_and2, wp_or1, wp_or2, wp_chain, wpbin_add, wpbin_addS, wpbin_mulS, wpbin_sub, wpbin_mul, wpbin_mod, wpbin_fdiv, wpbin_addT, bind_ok, then_ok, List.length_cons, List.length_nil, Nat.reduceAdd, cx_call, cx_glob, tr_bl, bi_int, bi_abs, bi_lenL, bi_lenS, c_lt, c_le, c_gt, c_ge, c_eqI, c_eqS', c_neS', c_neI, e_isi, ty_int, ty_str, ty_bl, ty_non, ty_tup, ty_lstf, ty_any, bi_min2, Bool.not_true, Bool.not_false, ofO_some, Option.map_some, List.getElem?_cons_succ, List.getElem?_cons_zero, List.set_cons_succ, List.set_cons_zero, Int.reduceLT, Int.reduceLE, Int.reduceNeg, mk_bt H]
      exact bt _ s hS.tk h
    · have he : bel = [] := List.length_eq_zero_iff.mp (by omega)
      subst he
      simp only [ne_eq, not_true_eq_false, if_false] at h
      obtain ⟨rt, g1, g2⟩ := hS.nil
      have g2' : s[rt]? = some (.lst [.int top.x, .str top.w, .int top.m]) := g2
      simp only [e_var, e_int, e_str, e_bl, e_non, e_glob, e_bin, e_neg, e_cmp, e_and, e_or, e_not, e_call, e_bi, wp_meth, rc_all, true_and, wp_lc, s_try, s_aug, s_augS, isRef_t, if_true, bi_lenT, at_0, at_1, at_2, at_3, at_4, at_5, at_6, at_end, ixN_all, ix_lst, ix_tup, m_join, e_idx, e_slc, e_tup, e_lst, e_dict0, newL_true, newL_false, s_set, s_unp, s_sub, s_expr, s_ret, s_retN, s_pass, s_brk, s_cont, s_raise, ss_nil, wp_sscons, a_nil, a_cons, o_no, o_yes, p_no, p_yes, i_val, i_rg1, i_rg2, wp_for', wp_while, wp_rg, wp_bind, wp_then, wp_seq, wp_ok, wp_ex, wp_nx, wp_rt, wp_bk, wp_ct, wp_xx, wp_ofO, wpO_s, wpO_map, wpTr_t, wpTr_f, wpTr_n, wp_ifs, wp_ife, wp_and1, wp_and2, wp_or1, wp_or2, wp_chain, wpbin_add, wpbin_addS, wpbin_mulS, wpbin_sub, wpbin_mul, wpbin_mod, wpbin_fdiv, wpbin_addT, bind_ok, then_ok, List.length_cons, List.length_nil, Nat.reduceAdd, cx_call, cx_glob, tr_bl, bi_int, bi_abs, bi_lenL, bi_lenS, c_lt, c_le, c_gt, c_ge, c_eqI, c_eqS', c_neS', c_neI, e_isi, ty_int, ty_str, ty_bl, ty_non, ty_tup, ty_lstf, ty_any, bi_min2, Bool.not_true, Bool.not_false, ofO_some, Option.map_some, List.getElem?_cons_succ, List.getElem?_cons_zero, List.set_cons_succ, List.set_cons_zero, Int.reduceLT, Int.reduceLE, Int.reduceNeg, ix_ref g1, ix_ref g2', H.ml]
      refine wpTr_d (fun h4 => ?_) (fun h4 => ?_)
      · rw [if_pos (by omega)] at h
        simp only [e_var, e_int, e_str, e_bl, e_non, e_glob, e_bin, e_neg, e_cmp, e_and, e_or, e_not, e_call, e_bi, wp_meth, rc_all, true_and, wp_lc, s_try, s_aug, s_augS, isRef_t, if_true, bi_lenT, at_0, at_1, at_2, at_3, at_4, at_5, at_6, at_end, ixN_all, ix_lst, ix_tup, m_join, e_idx, e_slc, e_tup, e_lst, e_dict0, newL_true, newL_false, s_set, s_unp, s_sub, s_expr, s_ret, s_retN, s_pass, s_brk, s_cont, s_raise, ss_nil, wp_sscons, a_nil, a_cons, o_no, o_yes, p_no, p_yes, i_val, i_rg1, i_rg2, wp_for', wp_while, wp_rg, wp_bind, wp_then, wp_seq, wp_ok, wp_ex, wp_nx, wp_rt, wp_bk, wp_ct, wp_xx, wp_ofO, wpO_s, wpO_map, wpTr_t, wpTr_f, wpTr_n, wp_ifs, wp_ife, wp_and1, wp_and2, wp_or1, wp_or2, wp_chain, wpbin_add, wpbin_addS, wpbin_mulS, wpbin_sub, wpbin_mul, wpbin_mod, wpbin_fdiv, wpbin_addT, bind_ok, then_ok, List.length_cons, List.length_nil, Nat.reduceAdd, cx_call, cx_glob, tr_bl, bi_int, bi_abs, bi_lenL, bi_lenS, c_lt, c_le, c_gt, c_ge, c_eqI, c_eqS', c_neS', c_neI, e_isi, ty_int, ty_str, ty_bl, ty_non, ty_tup, ty_lstf, ty_any, bi_min2, Bool.not_true, Bool.not_false, ofO_some, Option.map_some, List.getElem?_cons_succ, List.getElem?_cons_zero, List.set_cons_succ, List.set_cons_zero, Int.reduceLT, Int.reduceLE, Int.reduceNeg, ix_ref g1, ix_ref g2', mk_tl H]
        exact bl _ s hS.tk h
      · rw [if_neg (by omega)] at h
        simp only [e_var, e_int, e_str, e_bl, e_non, e_glob, e_bin, e_neg, e_cmp, e_and, e_or, e_not, e_call, e_bi, wp_meth, rc_all, true_and, wp_lc, s_try, s_aug, s_augS, isRef_t, if_true, bi_lenT, at_0, at_1, at_2, at_3, at_4, at_5, at_6, at_end, ixN_all, ix_lst, ix_tup, m_join, e_idx, e_slc, e_tup, e_lst, e_dict0, newL_true, newL_false, s_set, s_unp, s_sub, s_expr, s_ret, s_retN, s_pass, s_brk, s_cont, s_raise, ss_nil, wp_sscons, a_nil, a_cons, o_no, o_yes, p_no, p_yes, i_val, i_rg1, i_rg2, wp_for', wp_while, wp_rg, wp_bind, wp_then, wp_seq, wp_ok, wp_ex, wp_nx, wp_rt, wp_bk, wp_ct, wp_xx, wp_ofO, wpO_s, wpO_map, wpTr_t, wpTr_f, wpTr_n, wp_ifs, wp_ife, wp_and1, wp_and2, wp_or1, wp_or2, wp_chain, wpbin_add, wpbin_addS, wpbin_mulS, wpbin_sub, wpbin_mul, wpbin_mod, wpbin_fdiv, wpbin_addT, bind_ok, then_ok, List.length_cons, List.length_nil, Nat.reduceAdd, cx_call, cx_glob, tr_bl, bi_int, bi_abs, bi_lenL, bi_lenS, c_lt, c_le, c_gt, c_ge, c_eqI, c_eqS', c_neS', c_neI, e_isi, ty_int, ty_str, ty_bl, ty_non, ty_tup, ty_lstf, ty_any, bi_min2, Bool.not_true, Bool.not_false, ofO_some, Option.map_some, List.getElem?_cons_succ, List.getElem?_cons_zero, List.set_cons_succ, List.set_cons_zero, Int.reduceLT, Int.reduceLE, Int.reduceNeg, ix_ref g1, ix_ref g2']
        exact gc_wpW hw rfl hS.tk rfl h
/-- what is no text -/
theorem calling_odd (H : Has P) {d : D} {ty : String} (ht : tyName st d = some ty) (hn : (["str"].any (isTy ty)) = false) (h : X (btX (-1)) st) : (run P (n + 1) "read_calling" [d] st).wp Q X := by
  refine wp_run (fd := d_read_calling) H.calling rfl ?_
  simp only [d_read_calling, List.length_cons, List.length_nil, if_true, T.start, List.map_cons, List.map_nil, Nat.reduceAdd, Nat.reduceSub, List.replicate, List.cons_append, List.nil_append]
  simp only [e_var, e_int, e_str, e_bl, e_non, e_glob, e_bin, e_neg, e_cmp, e_and, e_or, e_not, e_call, e_bi, wp_meth, rc_all, true_and, wp_lc, s_try, s_aug, s_augS, isRef_t, if_true, bi_lenT, at_0, at_1, at_2, at_3, at_4, at_5, at_6, at_end, ixN_all, ix_lst, ix_tup, m_join, e_idx, e_slc, e_tup, e_lst, e_dict0, newL_true, newL_false, s_set, s_unp, s_sub, s_expr, s_ret, s_retN, s_pass, s_brk, s_cont, s_raise, ss_nil, wp_sscons, a_nil, a_cons, o_no, o_yes, p_no, p_yes, i_val, i_rg1, i_rg2, wp_for', wp_while, wp_rg, wp_bind, wp_then, wp_seq, wp_ok, wp_ex, wp_nx, wp_rt, wp_bk, wp_ct, wp_xx, wp_ofO, wpO_s, wpO_map, wpTr_t, wpTr_f, wpTr_n, wp_ifs, wp_ife, wp_and1, wp_and2, wp_or1, wp_or2, wp_chain, wpbin_add, wpbin_addS, wpbin_mulS, wpbin_sub, wpbin_mul, wpbin_mod, wpbin_fdiv, wpbin_addT, bind_ok, then_ok, List.length_cons, List.length_nil, Nat.reduceAdd, cx_call, cx_glob, tr_bl, bi_int, bi_abs, bi_lenL, bi_lenS, c_lt, c_le, c_gt, c_ge, c_eqI, c_eqS', c_neS', c_neI, e_isi, ty_int, ty_str, ty_bl, ty_non, ty_tup, ty_lstf, ty_any, bi_min2, Bool.not_true, Bool.not_false, ofO_some, Option.map_some, List.getElem?_cons_succ, List.getElem?_cons_zero, List.set_cons_succ, List.set_cons_zero, Int.reduceLT, Int.reduceLE, Int.reduceNeg, ht, hn, mk_bt H]
  exact gcX_i rfl h
end
end Ct
end T
set_option Elab.async false
set_option linter.all false
set_option autoImplicit false
set_option maxRecDepth 100000
set_option maxHeartbeats 4000000
/-! # K07p: the plain law of k07: the law's own reader -/
namespace T
theorem memD_strs {st : Store} {a : List Nat} {l : List (List Nat)} : memD st (.str a) (l.map D.str) = some (decide (a ∈ l)) := by
  have h2 : ∀ l : List (List Nat), pyL (pyRec st 3) (l.map D.str) = some (l.map fun s => PySem.PyData.str ⟨s.toArray⟩) := by
    intro l
    induction l with
    | nil => rfl
    | cons s l ih => simp only [List.map_cons, pyL, ih, py]
  have h3 : ∀ l : List (List Nat), PySem.PyData.depthAll (l.map fun s => PySem.PyData.str ⟨s.toArray⟩) < 64 := by
    intro l
    induction l with
    | nil => simp [PySem.PyData.depthAll]
    | cons s l ih => simp only [List.map_cons, PySem.PyData.depthAll, PySem.PyData.depth]; omega
  have h1 : toPy st (.str a) = some (.str ⟨a.toArray⟩) := rfl
  have h4 : (PySem.PyData.str ⟨a.toArray⟩).depth ≤ 64 := by simp [PySem.PyData.depth]
  unfold memD
  rw [h1, h2 l]
  simp only [h4, h3 l, and_self, if_true]
  congr 1
  rw [Bool.eq_iff_iff, decide_eq_true_iff, List.any_eq_true]
  constructor
  · rintro ⟨x, hx, he⟩
    obtain ⟨s, hs, rfl⟩ := List.mem_map.mp hx
    simp only [PySem.PyData.eqv, beq_iff_eq] at he
    injection he with he
    rw [← Array.mk.inj he]; exact hs
  · intro h
    exact ⟨_, List.mem_map.mpr ⟨a, h, rfl⟩, by simp only [PySem.PyData.eqv, beq_self_eq_true]⟩
theorem c_ninL {a : List Nat} {l : List (List Nat)} {st : Store} : cmpop .notin (.str a) (.lst (l.map D.str)) st = some (!decide (a ∈ l)) := by
  have : isIn (.str a) (.lst (l.map D.str)) st = memD st (.str a) (l.map D.str) := by
    unfold isIn
    cases a with
    | nil => rfl
    | cons c a => cases a <;> rfl
  show (isIn (.str a) (.lst (l.map D.str)) st).map (!·) = _
  rw [this, memD_strs]; rfl
theorem app_last {st : Store} {x : O} : (st ++ [x])[st.length]? = some x := by rw [List.getElem?_append_right (Nat.le_refl _), Nat.sub_self]; rfl
theorem set_last {st : Store} {x y : O} : (st ++ [x]).set st.length y = st ++ [y] := by rw [List.set_append_right _ _ (Nat.le_refl _), Nat.sub_self]; rfl
theorem take_app {st : Store} {x : Store} : (st ++ x).take st.length = st := List.take_left
namespace K07
open Ct
theorem has : Ct.Has prog := ⟨rfl, rfl, rfl, rfl, rfl, rfl, rfl, rfl, rfl, rfl, rfl, rfl, rfl⟩
theorem p_mix : prog.defs "_law_mix" = some d__law_mix := rfl
theorem p_pick : prog.defs "_law_pick" = some d__law_pick := rfl
theorem p_draw : prog.defs "_law_draw" = some d__law_draw := rfl
theorem wfP : prog.wf = 1000000 := rfl
def NUL : List (List Nat) := (List.range 98).map fun i => numS ((i + 2 : Nat) : Int)
theorem nval_none {ds : List Nat} (h : ds ≠ []) : nval ds = none ↔ ds ∉ NUL := by
  unfold nval NUL
  rw [if_neg h, List.find?_eq_none]
  constructor
  · intro hh hm
    obtain ⟨i, hi, rfl⟩ := List.mem_map.mp hm
    exact hh (i + 2) (List.mem_map.mpr ⟨i, hi, rfl⟩) (by simp)
  · intro hh x hx
    obtain ⟨i, hi, rfl⟩ := List.mem_map.mp hx
    simp only [decide_eq_true_eq]
    intro e
    exact hh (List.mem_map.mpr ⟨i, hi, e⟩)
section
variable {n : Nat} {Q : D → Store → Prop} {X : Exn → Store → Prop} {st : Store}
theorem run_wp {t : List Nat} {a : Nat} (hl : a ≤ t.length) (hs : t.length < 999999) (h : Q (.int ((a + (dg (t.drop a)).length : Nat) : Int)) st) : (run prog (n + 1) "_law_run" [.str t, .int a] st).wp Q X := by
  have hd : ∀ c, decide (c ∈ ("0123456789".toList.map Char.toNat)) = decide (c ∈ DIG) := fun _ => rfl
  refine wp_run (fd := d__law_run) rfl rfl ?_
  simp only [d__law_run, List.length_cons, List.length_nil, if_true, T.start, List.map_cons, List.map_nil, Nat.reduceAdd, Nat.reduceSub, List.replicate, List.cons_append, List.nil_append]
  simp only [e_var, e_int, e_str, e_bl, e_non, e_glob, e_bin, e_neg, e_cmp, e_and, e_or, e_not, e_call, e_bi, wp_meth, rc_all, true_and, wp_lc, s_try, s_aug, s_augS, isRef_t, if_true, bi_lenT, at_0, at_1, at_2, at_3, at_4, at_5, at_6, at_end, ixN_all, ix_lst, ix_tup, m_join, e_idx, e_slc, e_tup, e_lst, e_dict0, newL_true, newL_false, s_set, s_unp, s_sub, s_expr, s_ret, s_retN, s_pass, s_brk, s_cont, s_raise, ss_nil, wp_sscons, a_nil, a_cons, o_no, o_yes, p_no, p_yes, i_val, i_rg1, i_rg2, wp_for', wp_while, wp_rg, wp_bind, wp_then, wp_seq, wp_ok, wp_ex, wp_nx, wp_rt, wp_bk, wp_ct, wp_xx, wp_ofO, wpO_s, wpO_map, wpTr_t, wpTr_f, wpTr_n, wp_ifs, wp_ife, wp_and1, wp_and2, wp_or1, wp_or2, wp_chain, wpbin_add, wpbin_addS, wpbin_mulS, wpbin_sub, wpbin_mul, wpbin_mod, wpbin_fdiv, wpbin_addT, bind_ok, then_ok, List.length_cons, List.length_nil, Nat.reduceAdd, cx_call, cx_glob, tr_bl, bi_int, bi_abs, bi_lenL, bi_lenS, c_lt, c_le, c_gt, c_ge, c_eqI, c_eqS', c_neS', c_neI, e_isi, ty_int, ty_str, ty_bl, ty_non, ty_tup, ty_lstf, ty_any, bi_min2, Bool.not_true, Bool.not_false, ofO_some, Option.map_some, List.getElem?_cons_succ, List.getElem?_cons_zero, List.set_cons_succ, List.set_cons_zero, Int.reduceLT, Int.reduceLE, Int.reduceNeg]
  refine wpWhile_i (fun m env s => ∃ b : Nat, a ≤ b ∧ b ≤ t.length ∧ b + (dg (t.drop b)).length = a + (dg (t.drop a)).length ∧ m = t.length - b ∧ env = [some (.str t), some (.int b)] ∧ s = st) (t.length - a) (by show _ < prog.wf; rw [wfP]; omega) ⟨a, Nat.le_refl _, hl, rfl, rfl, rfl, rfl⟩ ?_
  rintro m env s ⟨b, h1, h2, h3, rfl, rfl, rfl⟩
  simp only [e_var, e_int, e_str, e_bl, e_non, e_glob, e_bin, e_neg, e_cmp, e_and, e_or, e_not, e_call, e_bi, wp_meth, rc_all, true_and, wp_lc, s_try, s_aug, s_augS, isRef_t, if_true, bi_lenT, at_0, at_1, at_2, at_3, at_4, at_5, at_6, at_end, ixN_all, ix_lst, ix_tup, m_join, e_idx, e_slc, e_tup, e_lst, e_dict0, newL_true, newL_false, s_set, s_unp, s_sub, s_expr, s_ret, s_retN, s_pass, s_brk, s_cont, s_raise, ss_nil, wp_sscons, a_nil, a_cons, o_no, o_yes, p_no, p_yes, i_val, i_rg1, i_rg2, wp_for', wp_while, wp_rg, wp_bind, wp_then, wp_seq, wp_ok, wp_ex, wp_nx, wp_rt, wp_bk, wp_ct, wp_xx, wp_ofO, wpO_s, wpO_map, wpTr_t, wpTr_f, wpTr_n, wp_ifs, wp_ife, wp_and1, wp_and2, wp_or1, wp_or2, wp_chain, wpbin_add, wpbin_addS, wpbin_mulS, wpbin_sub, wpbin_mul, wpbin_mod, wpbin_fdiv, wpbin_addT, bind_ok, then_ok, List.length_cons, List.length_nil, Nat.reduceAdd, cx_call, cx_glob, tr_bl, bi_int, bi_abs, bi_lenL, bi_lenS, c_lt, c_le, c_gt, c_ge, c_eqI, c_eqS', c_neS', c_neI, e_isi, ty_int, ty_str, ty_bl, ty_non, ty_tup, ty_lstf, ty_any, bi_min2, Bool.not_true, Bool.not_false, ofO_some, Option.map_some, List.getElem?_cons_succ, List.getElem?_cons_zero, List.set_cons_succ, List.set_cons_zero, Int.reduceLT, Int.reduceLE, Int.reduceNeg]
  have fin : (t.length ≤ b ∨ ∃ h : b < t.length, t[b] ∉ DIG) → Q (.int (b : Nat)) s := fun hb => by
    have e : dg (t.drop b) = [] := dg_no fun hl => by
      rcases hb with hb | ⟨_, hb⟩
      · omega
      · exact hb
    rw [e] at h3
    rw [show b = a + (dg (t.drop a)).length from h3]
    exact h
  refine wpTr_d (fun hb => ?_) (fun hb => ?_)
  · have hb' : b < t.length := by omega
    simp only [e_var, e_int, e_str, e_bl, e_non, e_glob, e_bin, e_neg, e_cmp, e_and, e_or, e_not, e_call, e_bi, wp_meth, rc_all, true_and, wp_lc, s_try, s_aug, s_augS, isRef_t, if_true, bi_lenT, at_0, at_1, at_2, at_3, at_4, at_5, at_6, at_end, ixN_all, ix_lst, ix_tup, m_join, e_idx, e_slc, e_tup, e_lst, e_dict0, newL_true, newL_false, s_set, s_unp, s_sub, s_expr, s_ret, s_retN, s_pass, s_brk, s_cont, s_raise, ss_nil, wp_sscons, a_nil, a_cons, o_no, o_yes, p_no, p_yes, i_val, i_rg1, i_rg2, wp_for', wp_while, wp_rg, wp_bind, wp_then, wp_seq, wp_ok, wp_ex, wp_nx, wp_rt, wp_bk, wp_ct, wp_xx, wp_ofO, wpO_s, wpO_map, wpTr_t, wpTr_f, wpTr_n, wp_ifs, wp_ife, wp_and1, wp_and2, wp_or1, wp_or2, wp_chain, wpbin_add, wpbin_addS, wpbin_mulS, wpbin_sub, wpbin_mul, wpbin_mod, wpbin_fdiv, wpbin_addT, bind_ok, then_ok, List.length_cons, List.length_nil, Nat.reduceAdd, cx_call, cx_glob, tr_bl, bi_int, bi_abs, bi_lenL, bi_lenS, c_lt, c_le, c_gt, c_ge, c_eqI, c_eqS', c_neS', c_neI, e_isi, ty_int, ty_str, ty_bl, ty_non, ty_tup, ty_lstf, ty_any, bi_min2, Bool.not_true, Bool.not_false, ofO_some, Option.map_some, List.getElem?_cons_succ, List.getElem?_cons_zero, List.set_cons_succ, List.set_cons_zero, Int.reduceLT, Int.reduceLE, Int.reduceNeg, ix_str hb', c_in]
    rw [hd]
    refine wpTr_d (fun hc => ?_) (fun hc => ?_)
    · simp only [e_var, e_int, e_str, e_bl, e_non, e_glob, e_bin, e_neg, e_cmp, e_and, e_or, e_not, e_call, e_bi, wp_meth, rc_all, true_and, wp_lc, s_try, s_aug, s_augS, isRef_t, if_true, bi_lenT, at_0, at_1, at_2, at_3, at_4, at_5, at_6, at_end, ixN_all, ix_lst, ix_tup, m_join, e_idx, e_slc, e_tup, e_lst, e_dict0, newL_true, newL_false, s_set, s_unp, s_sub, s_expr, s_ret, s_retN, s_pass, s_brk, s_cont, s_raise, ss_nil, wp_sscons, a_nil, a_cons, o_no, o_yes, p_no, p_yes, i_val, i_rg1, i_rg2, wp_for', wp_while, wp_rg, wp_bind, wp_then, wp_seq, wp_ok, wp_ex, wp_nx, wp_rt, wp_bk, wp_ct, wp_xx, wp_ofO, wpO_s, wpO_map, wpTr_t, wpTr_f, wpTr_n, wp_ifs, wp_ife, wp_and1, wp_and2, wp_or1, wp_or2, wp_chain, wpbin_add, wpbin_addS, wpbin_mulS, wpbin_sub, wpbin_mul, wpbin_mod, wpbin_fdiv, wpbin_addT, bind_ok, then_ok, List.length_cons, List.length_nil, Nat.reduceAdd, cx_call, cx_glob, tr_bl, bi_int, bi_abs, bi_lenL, bi_lenS, c_lt, c_le, c_gt, c_ge, c_eqI, c_eqS', c_neS', c_neI, e_isi, ty_int, ty_str, ty_bl, ty_non, ty_tup, ty_lstf, ty_any, bi_min2, Bool.not_true, Bool.not_false, ofO_some, Option.map_some, List.getElem?_cons_succ, List.getElem?_cons_zero, List.set_cons_succ, List.set_cons_zero, Int.reduceLT, Int.reduceLE, Int.reduceNeg]
      refine ⟨t.length - (b + 1), by omega, b + 1, by omega, by omega, ?_, rfl, by rw [Int.natCast_add]; rfl, by trivial⟩
      rw [dg_yes hb' hc] at h3
      rw [List.length_cons] at h3
      omega
    · simp only [e_var, e_int, e_str, e_bl, e_non, e_glob, e_bin, e_neg, e_cmp, e_and, e_or, e_not, e_call, e_bi, wp_meth, rc_all, true_and, wp_lc, s_try, s_aug, s_augS, isRef_t, if_true, bi_lenT, at_0, at_1, at_2, at_3, at_4, at_5, at_6, at_end, ixN_all, ix_lst, ix_tup, m_join, e_idx, e_slc, e_tup, e_lst, e_dict0, newL_true, newL_false, s_set, s_unp, s_sub, s_expr, s_ret, s_retN, s_pass, s_brk, s_cont, s_raise, ss_nil, wp_sscons, a_nil, a_cons, o_no, o_yes, p_no, p_yes, i_val, i_rg1, i_rg2, wp_for', wp_while, wp_rg, wp_bind, wp_then, wp_seq, wp_ok, wp_ex, wp_nx, wp_rt, wp_bk, wp_ct, wp_xx, wp_ofO, wpO_s, wpO_map, wpTr_t, wpTr_f, wpTr_n, wp_ifs, wp_ife, wp_and1, wp_and2, wp_or1, wp_or2, wp_chain, wpbin_add, wpbin_addS, wpbin_mulS, wpbin_sub, wpbin_mul, wpbin_mod, wpbin_fdiv, wpbin_addT, bind_ok, then_ok, List.length_cons, List.length_nil, Nat.reduceAdd, cx_call, cx_glob, tr_bl, bi_int, bi_abs, bi_lenL, bi_lenS, c_lt, c_le, c_gt, c_ge, c_eqI, c_eqS', c_neS', c_neI, e_isi, ty_int, ty_str, ty_bl, ty_non, ty_tup, ty_lstf, ty_any, bi_min2, Bool.not_true, Bool.not_false, ofO_some, Option.map_some, List.getElem?_cons_succ, List.getElem?_cons_zero, List.set_cons_succ, List.set_cons_zero, Int.reduceLT, Int.reduceLE, Int.reduceNeg]
      exact gc_i rfl (fin (.inr ⟨hb', hc⟩))
  · have e : decide ((b : Int) < (t.length : Int)) = false := decide_eq_false hb
    simp only [e_var, e_int, e_str, e_bl, e_non, e_glob, e_bin, e_neg, e_cmp, e_and, e_or, e_not, e_call, e_bi, wp_meth, rc_all, true_and, wp_lc, s_try, s_aug, s_augS, isRef_t, if_true, bi_lenT, at_0, at_1, at_2, at_3, at_4, at_5, at_6, at_end, ixN_all, ix_lst, ix_tup, m_join, e_idx, e_slc, e_tup, e_lst, e_dict0, newL_true, newL_false, s_set, s_unp, s_sub, s_expr, s_ret, s_retN, s_pass, s_brk, s_cont, s_raise, ss_nil, wp_sscons, a_nil, a_cons, o_no, o_yes, p_no, p_yes, i_val, i_rg1, i_rg2, wp_for', wp_while, wp_rg, wp_bind, wp_then, wp_seq, wp_ok, wp_ex, wp_nx, wp_rt, wp_bk, wp_ct, wp_xx, wp_ofO, wpO_s, wpO_map, wpTr_t, wpTr_f, wpTr_n, wp_ifs, wp_ife, wp_and1, wp_and2, wp_or1, wp_or2, wp_chain, wpbin_add, wpbin_addS, wpbin_mulS, wpbin_sub, wpbin_mul, wpbin_mod, wpbin_fdiv, wpbin_addT, bind_ok, then_ok, List.length_cons, List.length_nil, Nat.reduceAdd, cx_call, cx_glob, tr_bl, bi_int, bi_abs, bi_lenL, bi_lenS, c_lt, c_le, c_gt, c_ge, c_eqI, c_eqS', c_neS', c_neI, e_isi, ty_int, ty_str, ty_bl, ty_non, ty_tup, ty_lstf, ty_any, bi_min2, Bool.not_true, Bool.not_false, ofO_some, Option.map_some, List.getElem?_cons_succ, List.getElem?_cons_zero, List.set_cons_succ, List.set_cons_zero, Int.reduceLT, Int.reduceLE, Int.reduceNeg, e]
    exact gc_i rfl (fin (.inl (by omega)))
structure Pos (a : Nat) (ps : List Nat) (bel : List Lv) (top : Lv) : Prop where
  len : ps.length = bel.length
  six : bel.length ≤ 6
  gt : ps.Pairwise (· > ·)
  lt : ∀ p ∈ ps, p < a
  hd : ∀ p ps', ps = p :: ps' → (top.m = 0 ↔ p + 1 = a)
  x1 : 1 ≤ top.x
  xb : ∀ l ∈ bel, 1 ≤ l.x
theorem strK {fz : Bool} {k : Nat} {st : Store} (h : k ≤ 99) (h2 : 2 ≤ k) : builtin .str fz [.int k] st = .ok (.str (numS k)) st := by
  simp only [builtin]
  have hl : (k : Int).natAbs.log2 < 1920 := by rw [Int.natAbs_natCast]; exact Nat.lt_of_le_of_lt (Nat.log2_le_self k) (by omega)
  rw [if_pos hl]
  unfold lim1
  rw [if_pos (by have := (num_all k (by omega) h2).2.2.1; rw [lim_v]; omega)]
theorem bad_wp {t : List Nat} (hw : Wf st) (hs : t.length < 999999)
    (h : match scan (t.length + 1) t 0 [] ⟨1, [], 0⟩ with | .error i => Q (.int (i : Nat)) st | .ok (bel, _) => if bel ≠ [] then Q (.int (t.length : Nat)) st else Q .non st) : (run prog (n + 2) "_law_bad_at" [.str t] st).wp Q X := by
  have hli : ∀ c, decide (c ∈ ("abcdefghijklmnopqrstuvwxyz".toList.map Char.toNat)) = decide (c ∈ LET) := fun _ => rfl
  have lO : ("(".toList.map Char.toNat) = [40] := rfl
  have lC : (")".toList.map Char.toNat) = [41] := rfl
  refine wp_run (fd := d__law_bad_at) rfl rfl ?_
  simp only [d__law_bad_at, List.length_cons, List.length_nil, if_true, T.start, List.map_cons, List.map_nil, Nat.reduceAdd, Nat.reduceSub, List.replicate, List.cons_append, List.nil_append]
  simp only [e_var, e_int, e_str, e_bl, e_non, e_glob, e_bin, e_neg, e_cmp, e_and, e_or, e_not, e_call, e_bi, wp_meth, rc_all, true_and, wp_lc, s_try, s_aug, s_augS, isRef_t, if_true, bi_lenT, at_0, at_1, at_2, at_3, at_4, at_5, at_6, at_end, ixN_all, ix_lst, ix_tup, m_join, e_idx, e_slc, e_tup, e_lst, e_dict0, newL_true, newL_false, s_set, s_unp, s_sub, s_expr, s_ret, s_retN, s_pass, s_brk, s_cont, s_raise, ss_nil, wp_sscons, a_nil, a_cons, o_no, o_yes, p_no, p_yes, i_val, i_rg1, i_rg2, wp_for', wp_while, wp_rg, wp_bind, wp_then, wp_seq, wp_ok, wp_ex, wp_nx, wp_rt, wp_bk, wp_ct, wp_xx, wp_ofO, wpO_s, wpO_map, wpTr_t, wpTr_f, wpTr_n, wp_ifs, wp_ife, wp_and1, wp_and2, wp_or1, wp_or2, wp_chain, wpbin_add, wpbin_addS, wpbin_mulS, wpbin_sub, wpbin_mul, wpbin_mod, wpbin_fdiv, wpbin_addT, bind_ok, then_ok, List.length_cons, List.length_nil, Nat.reduceAdd, cx_call, cx_glob, tr_bl, bi_int, bi_abs, bi_lenL, bi_lenS, c_lt, c_le, c_gt, c_ge, c_eqI, c_eqS', c_neS', c_neI, e_isi, ty_int, ty_str, ty_bl, ty_non, ty_tup, ty_lstf, ty_any, bi_min2, Bool.not_true, Bool.not_false, ofO_some, Option.map_some, List.getElem?_cons_succ, List.getElem?_cons_zero, List.set_cons_succ, List.set_cons_zero, Int.reduceLT, Int.reduceLE, Int.reduceNeg]
  refine ⟨by rw [c62_v]; omega, ?_⟩
  refine wpLc_nm (fun j acc s => j ≤ 98 ∧ acc = ((List.range j).map fun i => numS ((i + 2 : Nat) : Int)).map D.str ∧ st = s) ⟨by omega, rfl, rfl⟩ (fun j d acc s hd hI => ?_) (fun acc s hI => ?_)
  · obtain ⟨hj, rfl, rfl⟩ := hI
    obtain ⟨rfl, hj2⟩ := rgD_at hd
    have e : (2 : Int) + (j : Int) = ((j + 2 : Nat) : Int) := by omega
    simp only [List.map_cons, List.map_nil, wipeE, List.set_cons_succ, List.set_cons_zero]
    simp only [e_var, e_int, e_str, e_bl, e_non, e_glob, e_bin, e_neg, e_cmp, e_and, e_or, e_not, e_call, e_bi, wp_meth, rc_all, true_and, wp_lc, s_try, s_aug, s_augS, isRef_t, if_true, bi_lenT, at_0, at_1, at_2, at_3, at_4, at_5, at_6, at_end, ixN_all, ix_lst, ix_tup, m_join, e_idx, e_slc, e_tup, e_lst, e_dict0, newL_true, newL_false, s_set, s_unp, s_sub, s_expr, s_ret, s_retN, s_pass, s_brk, s_cont, s_raise, ss_nil, wp_sscons, a_nil, a_cons, o_no, o_yes, p_no, p_yes, i_val, i_rg1, i_rg2, wp_for', wp_while, wp_rg, wp_bind, wp_then, wp_seq, wp_ok, wp_ex, wp_nx, wp_rt, wp_bk, wp_ct, wp_xx, wp_ofO, wpO_s, wpO_map, wpTr_t, wpTr_f, wpTr_n, wp_ifs, wp_ife, wp_and1, wp_and2, wp_or1, wp_or2, wp_chain, wpbin_add, wpbin_addS, wpbin_mulS, wpbin_sub, wpbin_mul, wpbin_mod, wpbin_fdiv, wpbin_addT, bind_ok, then_ok, List.length_cons, List.length_nil, Nat.reduceAdd, cx_call, cx_glob, tr_bl, bi_int, bi_abs, bi_lenL, bi_lenS, c_lt, c_le, c_gt, c_ge, c_eqI, c_eqS', c_neS', c_neI, e_isi, ty_int, ty_str, ty_bl, ty_non, ty_tup, ty_lstf, ty_any, bi_min2, Bool.not_true, Bool.not_false, ofO_some, Option.map_some, List.getElem?_cons_succ, List.getElem?_cons_zero, List.set_cons_succ, List.set_cons_zero, Int.reduceLT, Int.reduceLE, Int.reduceNeg, e, strK (k := j + 2) (by omega) (by omega)]
    refine ⟨by simp; rw [lim_v]; omega, by omega, ?_, by trivial⟩
    rw [List.range_succ, List.map_append, List.map_append]; rfl
  obtain ⟨_, rfl, rfl⟩ := hI
  have hN : ((List.range (rgD 2 100).length).map fun i => numS ((i + 2 : Nat) : Int)) = NUL := by rw [rgD_len]; rfl
  rw [hN]
  simp only [e_var, e_int, e_str, e_bl, e_non, e_glob, e_bin, e_neg, e_cmp, e_and, e_or, e_not, e_call, e_bi, wp_meth, rc_all, true_and, wp_lc, s_try, s_aug, s_augS, isRef_t, if_true, bi_lenT, at_0, at_1, at_2, at_3, at_4, at_5, at_6, at_end, ixN_all, ix_lst, ix_tup, m_join, e_idx, e_slc, e_tup, e_lst, e_dict0, newL_true, newL_false, s_set, s_unp, s_sub, s_expr, s_ret, s_retN, s_pass, s_brk, s_cont, s_raise, ss_nil, wp_sscons, a_nil, a_cons, o_no, o_yes, p_no, p_yes, i_val, i_rg1, i_rg2, wp_for', wp_while, wp_rg, wp_bind, wp_then, wp_seq, wp_ok, wp_ex, wp_nx, wp_rt, wp_bk, wp_ct, wp_xx, wp_ofO, wpO_s, wpO_map, wpTr_t, wpTr_f, wpTr_n, wp_ifs, wp_ife, wp_and1, wp_and2, wp_or1, wp_or2, wp_chain, wpbin_add, wpbin_addS, wpbin_mulS, wpbin_sub, wpbin_mul, wpbin_mod, wpbin_fdiv, wpbin_addT, bind_ok, then_ok, List.length_cons, List.length_nil, Nat.reduceAdd, cx_call, cx_glob, tr_bl, bi_int, bi_abs, bi_lenL, bi_lenS, c_lt, c_le, c_gt, c_ge, c_eqI, c_eqS', c_neS', c_neI, e_isi, ty_int, ty_str, ty_bl, ty_non, ty_tup, ty_lstf, ty_any, bi_min2, Bool.not_true, Bool.not_false, ofO_some, Option.map_some, List.getElem?_cons_succ, List.getElem?_cons_zero, List.set_cons_succ, List.set_cons_zero, Int.reduceLT, Int.reduceLE, Int.reduceNeg]
  refine wpWhile_i (fun m env s' => ∃ (a : Nat) (bel : List Lv) (top : Lv) (k : Nat) (ps : List Nat) (x4 x5 : Option D), a ≤ t.length ∧ scan k t a bel top = scan (t.length + 1) t 0 [] ⟨1, [], 0⟩ ∧ t.length - a < k ∧ m = t.length - a ∧ Pos a ps bel top ∧ env = [some (.str t), some (.lst (NUL.map D.str)), some (.ref st.length), some (.int a), x4, x5] ∧ s' = st ++ [.lst (ps.reverse.map fun p : Nat => D.int p)])
    t.length (by show _ < prog.wf; rw [wfP]; omega) ⟨0, [], ⟨1, [], 0⟩, t.length + 1, [], _, _, Nat.zero_le _, rfl, by omega, by omega, ⟨rfl, by simp, List.Pairwise.nil, by simp, by simp, Nat.le_refl _, by simp⟩, rfl, rfl⟩ ?_
  rintro m env s' ⟨a, bel, top, k, ps, x4, x5, ha, hk, hlt, rfl, hP, rfl, rfl⟩
  simp only [e_var, e_int, e_str, e_bl, e_non, e_glob, e_bin, e_neg, e_cmp, e_and, e_or, e_not, e_call, e_bi, wp_meth, rc_all, true_and, wp_lc, s_try, s_aug, s_augS, isRef_t, if_true, bi_lenT, at_0, at_1, at_2, at_3, at_4, at_5, at_6, at_end, ixN_all, ix_lst, ix_tup, m_join, e_idx, e_slc, e_tup, e_lst, e_dict0, newL_true, newL_false, s_set, s_unp, s_sub, s_expr, s_ret, s_retN, s_pass, s_brk, s_cont, s_raise, ss_nil, wp_sscons, a_nil, a_cons, o_no, o_yes, p_no, p_yes, i_val, i_rg1, i_rg2, wp_for', wp_while, wp_rg, wp_bind, wp_then, wp_seq, wp_ok, wp_ex, wp_nx, wp_rt, wp_bk, wp_ct, wp_xx, wp_ofO, wpO_s, wpO_map, wpTr_t, wpTr_f, wpTr_n, wp_ifs, wp_ife, wp_and1, wp_and2, wp_or1, wp_or2, wp_chain, wpbin_add, wpbin_addS, wpbin_mulS, wpbin_sub, wpbin_mul, wpbin_mod, wpbin_fdiv, wpbin_addT, bind_ok, then_ok, List.length_cons, List.length_nil, Nat.reduceAdd, cx_call, cx_glob, tr_bl, bi_int, bi_abs, bi_lenL, bi_lenS, c_lt, c_le, c_gt, c_ge, c_eqI, c_eqS', c_neS', c_neI, e_isi, ty_int, ty_str, ty_bl, ty_non, ty_tup, ty_lstf, ty_any, bi_min2, Bool.not_true, Bool.not_false, ofO_some, Option.map_some, List.getElem?_cons_succ, List.getElem?_cons_zero, List.set_cons_succ, List.set_cons_zero, Int.reduceLT, Int.reduceLE, Int.reduceNeg]
  obtain ⟨k, rfl⟩ : ∃ k', k = k' + 1 := ⟨k - 1, by omega⟩
  have ret : ∀ (i : Nat) (s' : Store), s'.take st.length = st → scan (t.length + 1) t 0 [] ⟨1, [], 0⟩ = .error i → (gc st.length (.int (i : Nat)) s').wp Q X := fun i s' h1 h2 => by
    rw [h2] at h
    exact gc_wpW hw rfl h1 rfl h
  have hlr : (ps.reverse.map fun p : Nat => D.int p).length = bel.length := by rw [List.length_map, List.length_reverse, hP.len]
  refine wpTr_d (fun hc => ?_) (fun hc => ?_)
  · have hc' : a < t.length := by omega
    simp only [e_var, e_int, e_str, e_bl, e_non, e_glob, e_bin, e_neg, e_cmp, e_and, e_or, e_not, e_call, e_bi, wp_meth, rc_all, true_and, wp_lc, s_try, s_aug, s_augS, isRef_t, if_true, bi_lenT, at_0, at_1, at_2, at_3, at_4, at_5, at_6, at_end, ixN_all, ix_lst, ix_tup, m_join, e_idx, e_slc, e_tup, e_lst, e_dict0, newL_true, newL_false, s_set, s_unp, s_sub, s_expr, s_ret, s_retN, s_pass, s_brk, s_cont, s_raise, ss_nil, wp_sscons, a_nil, a_cons, o_no, o_yes, p_no, p_yes, i_val, i_rg1, i_rg2, wp_for', wp_while, wp_rg, wp_bind, wp_then, wp_seq, wp_ok, wp_ex, wp_nx, wp_rt, wp_bk, wp_ct, wp_xx, wp_ofO, wpO_s, wpO_map, wpTr_t, wpTr_f, wpTr_n, wp_ifs, wp_ife, wp_and1, wp_and2, wp_or1, wp_or2, wp_chain, wpbin_add, wpbin_addS, wpbin_mulS, wpbin_sub, wpbin_mul, wpbin_mod, wpbin_fdiv, wpbin_addT, bind_ok, then_ok, List.length_cons, List.length_nil, Nat.reduceAdd, cx_call, cx_glob, tr_bl, bi_int, bi_abs, bi_lenL, bi_lenS, c_lt, c_le, c_gt, c_ge, c_eqI, c_eqS', c_neS', c_neI, e_isi, ty_int, ty_str, ty_bl, ty_non, ty_tup, ty_lstf, ty_any, bi_min2, Bool.not_true, Bool.not_false, ofO_some, Option.map_some, List.getElem?_cons_succ, List.getElem?_cons_zero, List.set_cons_succ, List.set_cons_zero, Int.reduceLT, Int.reduceLE, Int.reduceNeg]
    rw [scan, if_pos hc'] at hk
    have hle : (dg (t.drop a)).length ≤ t.length - a := Nat.le_trans (dg_le _) (by rw [List.length_drop]; exact Nat.le_refl _)
    have hsl : ∀ {fz : Bool} {st : Store}, slice fz (.str t) (some (a : Int)) (some ((a + (dg (t.drop a)).length : Nat) : Int)) st = .ok (.str (dg (t.drop a))) st := fun {fz st} => sl_dg ha
    have hitem : item t a bel top = match nval (dg (t.drop a)) with | none => .err a | some k => itemC t[a + (dg (t.drop a)).length]? bel top (dg (t.drop a)) k (a + (dg (t.drop a)).length) := rfl
    refine run_wp ha hs ?_
    generalize hds : dg (t.drop a) = ds at hle hsl hitem
    generalize he : a + ds.length = e at hsl hitem
    have hel : e ≤ t.length := by omega
    have hgt : (a : Int) < (e : Int) ↔ ds ≠ [] := by
      constructor
      · intro h e0; rw [e0] at he; simp at he; omega
      · intro h
        have := List.length_pos_iff.mpr h
        omega
    simp only [e_var, e_int, e_str, e_bl, e_non, e_glob, e_bin, e_neg, e_cmp, e_and, e_or, e_not, e_call, e_bi, wp_meth, rc_all, true_and, wp_lc, s_try, s_aug, s_augS, isRef_t, if_true, bi_lenT, at_0, at_1, at_2, at_3, at_4, at_5, at_6, at_end, ixN_all, ix_lst, ix_tup, m_join, e_idx, e_slc, e_tup, e_lst, e_dict0, newL_true, newL_false, s_set, s_unp, s_sub, s_expr, s_ret, s_retN, s_pass, s_brk, s_cont, s_raise, ss_nil, wp_sscons, a_nil, a_cons, o_no, o_yes, p_no, p_yes, i_val, i_rg1, i_rg2, wp_for', wp_while, wp_rg, wp_bind, wp_then, wp_seq, wp_ok, wp_ex, wp_nx, wp_rt, wp_bk, wp_ct, wp_xx, wp_ofO, wpO_s, wpO_map, wpTr_t, wpTr_f, wpTr_n, wp_ifs, wp_ife, wp_and1, wp_and2, wp_or1, wp_or2, wp_chain, wpbin_add, wpbin_addS, wpbin_mulS, wpbin_sub, wpbin_mul, wpbin_mod, wpbin_fdiv, wpbin_addT, bind_ok, then_ok, List.length_cons, List.length_nil, Nat.reduceAdd, cx_call, cx_glob, tr_bl, bi_int, bi_abs, bi_lenL, bi_lenS, c_lt, c_le, c_gt, c_ge, c_eqI, c_eqS', c_neS', c_neI, e_isi, ty_int, ty_str, ty_bl, ty_non, ty_tup, ty_lstf, ty_any, bi_min2, Bool.not_true, Bool.not_false, ofO_some, Option.map_some, List.getElem?_cons_succ, List.getElem?_cons_zero, List.set_cons_succ, List.set_cons_zero, Int.reduceLT, Int.reduceLE, Int.reduceNeg]
    refine and_pure (p := (a : Int) < (e : Int)) (q := ds ∉ NUL) ?_ ?_
    · refine evAnd_one ?_
      simp only [e_var, e_int, e_str, e_bl, e_non, e_glob, e_bin, e_neg, e_cmp, e_and, e_or, e_not, e_call, e_bi, wp_meth, rc_all, true_and, wp_lc, s_try, s_aug, s_augS, isRef_t, if_true, bi_lenT, at_0, at_1, at_2, at_3, at_4, at_5, at_6, at_end, ixN_all, ix_lst, ix_tup, m_join, e_idx, e_slc, e_tup, e_lst, e_dict0, newL_true, newL_false, s_set, s_unp, s_sub, s_expr, s_ret, s_retN, s_pass, s_brk, s_cont, s_raise, ss_nil, wp_sscons, a_nil, a_cons, o_no, o_yes, p_no, p_yes, i_val, i_rg1, i_rg2, wp_for', wp_while, wp_rg, wp_bind, wp_then, wp_seq, wp_ok, wp_ex, wp_nx, wp_rt, wp_bk, wp_ct, wp_xx, wp_ofO, wpO_s, wpO_map, wpTr_t, wpTr_f, wpTr_n, wp_ifs, wp_ife, wp_and1, wp_and2, wp_or1, wp_or2, wp_chain, wpbin_add, wpbin_addS, wpbin_mulS, wpbin_sub, wpbin_mul, wpbin_mod, wpbin_fdiv, wpbin_addT, bind_ok, then_ok, List.length_cons, List.length_nil, Nat.reduceAdd, cx_call, cx_glob, tr_bl, bi_int, bi_abs, bi_lenL, bi_lenS, c_lt, c_le, c_gt, c_ge, c_eqI, c_eqS', c_neS', c_neI, e_isi, ty_int, ty_str, ty_bl, ty_non, ty_tup, ty_lstf, ty_any, bi_min2, Bool.not_true, Bool.not_false, ofO_some, Option.map_some, List.getElem?_cons_succ, List.getElem?_cons_zero, List.set_cons_succ, List.set_cons_zero, Int.reduceLT, Int.reduceLE, Int.reduceNeg, hsl, c_ninL]
      congr 2
      by_cases hm : ds ∈ NUL <;> simp [hm]
    refine wpTr_d (fun h1 => ?_) (fun h1 => ?_)
    · simp only [e_var, e_int, e_str, e_bl, e_non, e_glob, e_bin, e_neg, e_cmp, e_and, e_or, e_not, e_call, e_bi, wp_meth, rc_all, true_and, wp_lc, s_try, s_aug, s_augS, isRef_t, if_true, bi_lenT, at_0, at_1, at_2, at_3, at_4, at_5, at_6, at_end, ixN_all, ix_lst, ix_tup, m_join, e_idx, e_slc, e_tup, e_lst, e_dict0, newL_true, newL_false, s_set, s_unp, s_sub, s_expr, s_ret, s_retN, s_pass, s_brk, s_cont, s_raise, ss_nil, wp_sscons, a_nil, a_cons, o_no, o_yes, p_no, p_yes, i_val, i_rg1, i_rg2, wp_for', wp_while, wp_rg, wp_bind, wp_then, wp_seq, wp_ok, wp_ex, wp_nx, wp_rt, wp_bk, wp_ct, wp_xx, wp_ofO, wpO_s, wpO_map, wpTr_t, wpTr_f, wpTr_n, wp_ifs, wp_ife, wp_and1, wp_and2, wp_or1, wp_or2, wp_chain, wpbin_add, wpbin_addS, wpbin_mulS, wpbin_sub, wpbin_mul, wpbin_mod, wpbin_fdiv, wpbin_addT, bind_ok, then_ok, List.length_cons, List.length_nil, Nat.reduceAdd, cx_call, cx_glob, tr_bl, bi_int, bi_abs, bi_lenL, bi_lenS, c_lt, c_le, c_gt, c_ge, c_eqI, c_eqS', c_neS', c_neI, e_isi, ty_int, ty_str, ty_bl, ty_non, ty_tup, ty_lstf, ty_any, bi_min2, Bool.not_true, Bool.not_false, ofO_some, Option.map_some, List.getElem?_cons_succ, List.getElem?_cons_zero, List.set_cons_succ, List.set_cons_zero, Int.reduceLT, Int.reduceLE, Int.reduceNeg]
      have hn : nval ds = none := (nval_none (hgt.mp h1.1)).mpr h1.2
      rw [hn] at hitem
      rw [hitem] at hk
      exact ret a _ take_app hk.symm
    · have hv : ∃ kk, nval ds = some kk := by
        cases hn : nval ds with
        | some kk => exact ⟨kk, rfl⟩
        | none =>
          by_cases e0 : ds = []
          · rw [e0] at hn; cases hn
          · exact absurd ⟨hgt.mpr e0, (nval_none e0).mp hn⟩ h1
      obtain ⟨kk, hv⟩ := hv
      have hk1 : 1 ≤ kk := by rcases nval_some hv with ⟨_, h⟩ | ⟨h1, h2, _⟩ <;> omega
      rw [hv] at hitem
      simp only at hitem
      simp only [e_var, e_int, e_str, e_bl, e_non, e_glob, e_bin, e_neg, e_cmp, e_and, e_or, e_not, e_call, e_bi, wp_meth, rc_all, true_and, wp_lc, s_try, s_aug, s_augS, isRef_t, if_true, bi_lenT, at_0, at_1, at_2, at_3, at_4, at_5, at_6, at_end, ixN_all, ix_lst, ix_tup, m_join, e_idx, e_slc, e_tup, e_lst, e_dict0, newL_true, newL_false, s_set, s_unp, s_sub, s_expr, s_ret, s_retN, s_pass, s_brk, s_cont, s_raise, ss_nil, wp_sscons, a_nil, a_cons, o_no, o_yes, p_no, p_yes, i_val, i_rg1, i_rg2, wp_for', wp_while, wp_rg, wp_bind, wp_then, wp_seq, wp_ok, wp_ex, wp_nx, wp_rt, wp_bk, wp_ct, wp_xx, wp_ofO, wpO_s, wpO_map, wpTr_t, wpTr_f, wpTr_n, wp_ifs, wp_ife, wp_and1, wp_and2, wp_or1, wp_or2, wp_chain, wpbin_add, wpbin_addS, wpbin_mulS, wpbin_sub, wpbin_mul, wpbin_mod, wpbin_fdiv, wpbin_addT, bind_ok, then_ok, List.length_cons, List.length_nil, Nat.reduceAdd, cx_call, cx_glob, tr_bl, bi_int, bi_abs, bi_lenL, bi_lenS, c_lt, c_le, c_gt, c_ge, c_eqI, c_eqS', c_neS', c_neI, e_isi, ty_int, ty_str, ty_bl, ty_non, ty_tup, ty_lstf, ty_any, bi_min2, Bool.not_true, Bool.not_false, ofO_some, Option.map_some, List.getElem?_cons_succ, List.getElem?_cons_zero, List.set_cons_succ, List.set_cons_zero, Int.reduceLT, Int.reduceLE, Int.reduceNeg]
      refine wpTr_d (fun h2 => ?_) (fun h2 => ?_)
      · have h2' : e = t.length := by omega
        simp only [e_var, e_int, e_str, e_bl, e_non, e_glob, e_bin, e_neg, e_cmp, e_and, e_or, e_not, e_call, e_bi, wp_meth, rc_all, true_and, wp_lc, s_try, s_aug, s_augS, isRef_t, if_true, bi_lenT, at_0, at_1, at_2, at_3, at_4, at_5, at_6, at_end, ixN_all, ix_lst, ix_tup, m_join, e_idx, e_slc, e_tup, e_lst, e_dict0, newL_true, newL_false, s_set, s_unp, s_sub, s_expr, s_ret, s_retN, s_pass, s_brk, s_cont, s_raise, ss_nil, wp_sscons, a_nil, a_cons, o_no, o_yes, p_no, p_yes, i_val, i_rg1, i_rg2, wp_for', wp_while, wp_rg, wp_bind, wp_then, wp_seq, wp_ok, wp_ex, wp_nx, wp_rt, wp_bk, wp_ct, wp_xx, wp_ofO, wpO_s, wpO_map, wpTr_t, wpTr_f, wpTr_n, wp_ifs, wp_ife, wp_and1, wp_and2, wp_or1, wp_or2, wp_chain, wpbin_add, wpbin_addS, wpbin_mulS, wpbin_sub, wpbin_mul, wpbin_mod, wpbin_fdiv, wpbin_addT, bind_ok, then_ok, List.length_cons, List.length_nil, Nat.reduceAdd, cx_call, cx_glob, tr_bl, bi_int, bi_abs, bi_lenL, bi_lenS, c_lt, c_le, c_gt, c_ge, c_eqI, c_eqS', c_neS', c_neI, e_isi, ty_int, ty_str, ty_bl, ty_non, ty_tup, ty_lstf, ty_any, bi_min2, Bool.not_true, Bool.not_false, ofO_some, Option.map_some, List.getElem?_cons_succ, List.getElem?_cons_zero, List.set_cons_succ, List.set_cons_zero, Int.reduceLT, Int.reduceLE, Int.reduceNeg]
        rw [List.getElem?_eq_none (by omega)] at hitem
        rw [hitem] at hk
        exact ret e _ take_app hk.symm
      · have hel2 : e < t.length := by omega
        rw [List.getElem?_eq_getElem hel2] at hitem
        generalize hcc : t[e] = c at hitem
        have hix : ∀ {s : Store}, index (.str t) (.int e) s = .ok (.str [c]) s := fun {s} => by rw [ix_str hel2, hcc]
        have c2 : decide ([c] = ("(".toList.map Char.toNat)) = decide (c = 40) := by rw [lO]; simp
        have c3 : decide ([c] = (")".toList.map Char.toNat)) = decide (c = 41) := by rw [lC]; simp
        have e1 : (e : Int) + 1 = ((e + 1 : Nat) : Int) := by omega
        have l40 : (40 : Nat) ∉ LET := by decide
        have l41 : (41 : Nat) ∉ LET := by decide
        simp only [e_var, e_int, e_str, e_bl, e_non, e_glob, e_bin, e_neg, e_cmp, e_and, e_or, e_not, e_call, e_bi, wp_meth, rc_all, true_and, wp_lc, s_try, s_aug, s_augS, isRef_t, if_true, bi_lenT, at_0, at_1, at_2, at_3, at_4, at_5, at_6, at_end, ixN_all, ix_lst, ix_tup, m_join, e_idx, e_slc, e_tup, e_lst, e_dict0, newL_true, newL_false, s_set, s_unp, s_sub, s_expr, s_ret, s_retN, s_pass, s_brk, s_cont, s_raise, ss_nil, wp_sscons, a_nil, a_cons, o_no, o_yes, p_no, p_yes, i_val, i_rg1, i_rg2, wp_for', wp_while, wp_rg, wp_bind, wp_then, wp_seq, wp_ok, wp_ex, wp_nx, wp_rt, wp_bk, wp_ct, wp_xx, wp_ofO, wpO_s, wpO_map, wpTr_t, wpTr_f, wpTr_n, wp_ifs, wp_ife, wp_and1, wp_and2, wp_or1, wp_or2, wp_chain, wpbin_add, wpbin_addS, wpbin_mulS, wpbin_sub, wpbin_mul, wpbin_mod, wpbin_fdiv, wpbin_addT, bind_ok, then_ok, List.length_cons, List.length_nil, Nat.reduceAdd, cx_call, cx_glob, tr_bl, bi_int, bi_abs, bi_lenL, bi_lenS, c_lt, c_le, c_gt, c_ge, c_eqI, c_eqS', c_neS', c_neI, e_isi, ty_int, ty_str, ty_bl, ty_non, ty_tup, ty_lstf, ty_any, bi_min2, Bool.not_true, Bool.not_false, ofO_some, Option.map_some, List.getElem?_cons_succ, List.getElem?_cons_zero, List.set_cons_succ, List.set_cons_zero, Int.reduceLT, Int.reduceLE, Int.reduceNeg, hix, c2]
        refine wpTr_d (fun h3 => ?_) (fun h3 => ?_)
        · subst h3
          unfold itemC at hitem
          simp only [l40, if_false, true_and] at hitem
          simp only [e_var, e_int, e_str, e_bl, e_non, e_glob, e_bin, e_neg, e_cmp, e_and, e_or, e_not, e_call, e_bi, wp_meth, rc_all, true_and, wp_lc, s_try, s_aug, s_augS, isRef_t, if_true, bi_lenT, at_0, at_1, at_2, at_3, at_4, at_5, at_6, at_end, ixN_all, ix_lst, ix_tup, m_join, e_idx, e_slc, e_tup, e_lst, e_dict0, newL_true, newL_false, s_set, s_unp, s_sub, s_expr, s_ret, s_retN, s_pass, s_brk, s_cont, s_raise, ss_nil, wp_sscons, a_nil, a_cons, o_no, o_yes, p_no, p_yes, i_val, i_rg1, i_rg2, wp_for', wp_while, wp_rg, wp_bind, wp_then, wp_seq, wp_ok, wp_ex, wp_nx, wp_rt, wp_bk, wp_ct, wp_xx, wp_ofO, wpO_s, wpO_map, wpTr_t, wpTr_f, wpTr_n, wp_ifs, wp_ife, wp_and1, wp_and2, wp_or1, wp_or2, wp_chain, wpbin_add, wpbin_addS, wpbin_mulS, wpbin_sub, wpbin_mul, wpbin_mod, wpbin_fdiv, wpbin_addT, bind_ok, then_ok, List.length_cons, List.length_nil, Nat.reduceAdd, cx_call, cx_glob, tr_bl, bi_int, bi_abs, bi_lenL, bi_lenS, c_lt, c_le, c_gt, c_ge, c_eqI, c_eqS', c_neS', c_neI, e_isi, ty_int, ty_str, ty_bl, ty_non, ty_tup, ty_lstf, ty_any, bi_min2, Bool.not_true, Bool.not_false, ofO_some, Option.map_some, List.getElem?_cons_succ, List.getElem?_cons_zero, List.set_cons_succ, List.set_cons_zero, Int.reduceLT, Int.reduceLE, Int.reduceNeg]
          refine or_pure (p := (e : Int) = (a : Int)) (q := bel.length = 6) ?_ ?_ (fun hp h => by rw [decide_eq_true hp]; exact h)
          · refine evOr_one ?_
            simp only [e_var, e_int, e_str, e_bl, e_non, e_glob, e_bin, e_neg, e_cmp, e_and, e_or, e_not, e_call, e_bi, wp_meth, rc_all, true_and, wp_lc, s_try, s_aug, s_augS, isRef_t, if_true, bi_lenT, at_0, at_1, at_2, at_3, at_4, at_5, at_6, at_end, ixN_all, ix_lst, ix_tup, m_join, e_idx, e_slc, e_tup, e_lst, e_dict0, newL_true, newL_false, s_set, s_unp, s_sub, s_expr, s_ret, s_retN, s_pass, s_brk, s_cont, s_raise, ss_nil, wp_sscons, a_nil, a_cons, o_no, o_yes, p_no, p_yes, i_val, i_rg1, i_rg2, wp_for', wp_while, wp_rg, wp_bind, wp_then, wp_seq, wp_ok, wp_ex, wp_nx, wp_rt, wp_bk, wp_ct, wp_xx, wp_ofO, wpO_s, wpO_map, wpTr_t, wpTr_f, wpTr_n, wp_ifs, wp_ife, wp_and1, wp_and2, wp_or1, wp_or2, wp_chain, wpbin_add, wpbin_addS, wpbin_mulS, wpbin_sub, wpbin_mul, wpbin_mod, wpbin_fdiv, wpbin_addT, bind_ok, then_ok, List.length_cons, List.length_nil, Nat.reduceAdd, cx_call, cx_glob, tr_bl, bi_int, bi_abs, bi_lenL, bi_lenS, c_lt, c_le, c_gt, c_ge, c_eqI, c_eqS', c_neS', c_neI, e_isi, ty_int, ty_str, ty_bl, ty_non, ty_tup, ty_lstf, ty_any, bi_min2, Bool.not_true, Bool.not_false, ofO_some, Option.map_some, List.getElem?_cons_succ, List.getElem?_cons_zero, List.set_cons_succ, List.set_cons_zero, Int.reduceLT, Int.reduceLE, Int.reduceNeg, bi_lenRf app_last, hlr]
            rw [decide_eq_decide.mpr (show (bel.length : Int) = 6 ↔ bel.length = 6 by omega)]
          refine wpTr_d (fun h4 => ?_) (fun h4 => ?_)
          · have hno : ¬ (ds ≠ [] ∧ bel.length ≤ 5) := by
              rintro ⟨z1, z2⟩
              rcases h4 with h4 | h4
              · have := hgt.mpr z1; omega
              · omega
            simp only [e_var, e_int, e_str, e_bl, e_non, e_glob, e_bin, e_neg, e_cmp, e_and, e_or, e_not, e_call, e_bi, wp_meth, rc_all, true_and, wp_lc, s_try, s_aug, s_augS, isRef_t, if_true, bi_lenT, at_0, at_1, at_2, at_3, at_4, at_5, at_6, at_end, ixN_all, ix_lst, ix_tup, m_join, e_idx, e_slc, e_tup, e_lst, e_dict0, newL_true, newL_false, s_set, s_unp, s_sub, s_expr, s_ret, s_retN, s_pass, s_brk, s_cont, s_raise, ss_nil, wp_sscons, a_nil, a_cons, o_no, o_yes, p_no, p_yes, i_val, i_rg1, i_rg2, wp_for', wp_while, wp_rg, wp_bind, wp_then, wp_seq, wp_ok, wp_ex, wp_nx, wp_rt, wp_bk, wp_ct, wp_xx, wp_ofO, wpO_s, wpO_map, wpTr_t, wpTr_f, wpTr_n, wp_ifs, wp_ife, wp_and1, wp_and2, wp_or1, wp_or2, wp_chain, wpbin_add, wpbin_addS, wpbin_mulS, wpbin_sub, wpbin_mul, wpbin_mod, wpbin_fdiv, wpbin_addT, bind_ok, then_ok, List.length_cons, List.length_nil, Nat.reduceAdd, cx_call, cx_glob, tr_bl, bi_int, bi_abs, bi_lenL, bi_lenS, c_lt, c_le, c_gt, c_ge, c_eqI, c_eqS', c_neS', c_neI, e_isi, ty_int, ty_str, ty_bl, ty_non, ty_tup, ty_lstf, ty_any, bi_min2, Bool.not_true, Bool.not_false, ofO_some, Option.map_some, List.getElem?_cons_succ, List.getElem?_cons_zero, List.set_cons_succ, List.set_cons_zero, Int.reduceLT, Int.reduceLE, Int.reduceNeg]
            rw [if_neg hno] at hitem
            have hit : item t a bel top = .err e := by
              rw [hitem]
              cases bel with
              | nil => rfl
              | cons b bel => exact if_neg (by simp)
            rw [hit] at hk
            exact ret e _ take_app hk.symm
          · have hyes : ds ≠ [] ∧ bel.length ≤ 5 := by
              refine ⟨fun z => h4 (.inl ?_), ?_⟩
              · rw [z] at he; simp at he; omega
              · have := hP.six
                by_cases z : bel.length = 6
                · exact absurd (Or.inr z) h4
                · omega
            rw [if_pos hyes] at hitem
            rw [hitem] at hk
            simp only [e_var, e_int, e_str, e_bl, e_non, e_glob, e_bin, e_neg, e_cmp, e_and, e_or, e_not, e_call, e_bi, wp_meth, rc_all, true_and, wp_lc, s_try, s_aug, s_augS, isRef_t, if_true, bi_lenT, at_0, at_1, at_2, at_3, at_4, at_5, at_6, at_end, ixN_all, ix_lst, ix_tup, m_join, e_idx, e_slc, e_tup, e_lst, e_dict0, newL_true, newL_false, s_set, s_unp, s_sub, s_expr, s_ret, s_retN, s_pass, s_brk, s_cont, s_raise, ss_nil, wp_sscons, a_nil, a_cons, o_no, o_yes, p_no, p_yes, i_val, i_rg1, i_rg2, wp_for', wp_while, wp_rg, wp_bind, wp_then, wp_seq, wp_ok, wp_ex, wp_nx, wp_rt, wp_bk, wp_ct, wp_xx, wp_ofO, wpO_s, wpO_map, wpTr_t, wpTr_f, wpTr_n, wp_ifs, wp_ife, wp_and1, wp_and2, wp_or1, wp_or2, wp_chain, wpbin_add, wpbin_addS, wpbin_mulS, wpbin_sub, wpbin_mul, wpbin_mod, wpbin_fdiv, wpbin_addT, bind_ok, then_ok, List.length_cons, List.length_nil, Nat.reduceAdd, cx_call, cx_glob, tr_bl, bi_int, bi_abs, bi_lenL, bi_lenS, c_lt, c_le, c_gt, c_ge, c_eqI, c_eqS', c_neS', c_neI, e_isi, ty_int, ty_str, ty_bl, ty_non, ty_tup, ty_lstf, ty_any, bi_min2, Bool.not_true, Bool.not_false, ofO_some, Option.map_some, List.getElem?_cons_succ, List.getElem?_cons_zero, List.set_cons_succ, List.set_cons_zero, Int.reduceLT, Int.reduceLE, Int.reduceNeg, ty_refL app_last, m_appR app_last, hlr, set_last, e1]
            refine ⟨by rw [lim_v]; omega, t.length - (e + 1), by omega, e + 1, _, _, k, e :: ps, _, _, by omega, hk, by omega, rfl, ?_, rfl, ?_⟩
            · exact {
                len := by simp [hP.len]
                six := by rw [List.length_cons]; omega
                gt := List.pairwise_cons.mpr ⟨fun p hp => by have := hP.lt p hp; omega, hP.gt⟩
                lt := fun p hp => by
                  rcases List.mem_cons.mp hp with rfl | hp
                  · omega
                  · have := hP.lt p hp; omega
                hd := fun p ps' e0 => by injection e0 with e0 _; subst e0; simp
                x1 := hk1
                xb := fun l hl => by
                  rcases List.mem_cons.mp hl with rfl | hl
                  · exact hP.x1
                  · exact hP.xb l hl }
            · rw [List.reverse_cons, List.map_append]; rfl
        · simp only [e_var, e_int, e_str, e_bl, e_non, e_glob, e_bin, e_neg, e_cmp, e_and, e_or, e_not, e_call, e_bi, wp_meth, rc_all, true_and, wp_lc, s_try, s_aug, s_augS, isRef_t, if_true, bi_lenT, at_0, at_1, at_2, at_3, at_4, at_5, at_6, at_end, ixN_all, ix_lst, ix_tup, m_join, e_idx, e_slc, e_tup, e_lst, e_dict0, newL_true, newL_false, s_set, s_unp, s_sub, s_expr, s_ret, s_retN, s_pass, s_brk, s_cont, s_raise, ss_nil, wp_sscons, a_nil, a_cons, o_no, o_yes, p_no, p_yes, i_val, i_rg1, i_rg2, wp_for', wp_while, wp_rg, wp_bind, wp_then, wp_seq, wp_ok, wp_ex, wp_nx, wp_rt, wp_bk, wp_ct, wp_xx, wp_ofO, wpO_s, wpO_map, wpTr_t, wpTr_f, wpTr_n, wp_ifs, wp_ife, wp_and1, wp_and2, wp_or1, wp_or2, wp_chain, wpbin_add, wpbin_addS, wpbin_mulS, wpbin_sub, wpbin_mul, wpbin_mod, wpbin_fdiv, wpbin_addT, bind_ok, then_ok, List.length_cons, List.length_nil, Nat.reduceAdd, cx_call, cx_glob, tr_bl, bi_int, bi_abs, bi_lenL, bi_lenS, c_lt, c_le, c_gt, c_ge, c_eqI, c_eqS', c_neS', c_neI, e_isi, ty_int, ty_str, ty_bl, ty_non, ty_tup, ty_lstf, ty_any, bi_min2, Bool.not_true, Bool.not_false, ofO_some, Option.map_some, List.getElem?_cons_succ, List.getElem?_cons_zero, List.set_cons_succ, List.set_cons_zero, Int.reduceLT, Int.reduceLE, Int.reduceNeg, c3, hix]
          refine wpTr_d (fun h4 => ?_) (fun h4 => ?_)
          · subst h4
            unfold itemC at hitem
            simp only [l41, if_false, true_and, show ¬ ((41 : Nat) = 40) by decide, false_and] at hitem
            simp only [e_var, e_int, e_str, e_bl, e_non, e_glob, e_bin, e_neg, e_cmp, e_and, e_or, e_not, e_call, e_bi, wp_meth, rc_all, true_and, wp_lc, s_try, s_aug, s_augS, isRef_t, if_true, bi_lenT, at_0, at_1, at_2, at_3, at_4, at_5, at_6, at_end, ixN_all, ix_lst, ix_tup, m_join, e_idx, e_slc, e_tup, e_lst, e_dict0, newL_true, newL_false, s_set, s_unp, s_sub, s_expr, s_ret, s_retN, s_pass, s_brk, s_cont, s_raise, ss_nil, wp_sscons, a_nil, a_cons, o_no, o_yes, p_no, p_yes, i_val, i_rg1, i_rg2, wp_for', wp_while, wp_rg, wp_bind, wp_then, wp_seq, wp_ok, wp_ex, wp_nx, wp_rt, wp_bk, wp_ct, wp_xx, wp_ofO, wpO_s, wpO_map, wpTr_t, wpTr_f, wpTr_n, wp_ifs, wp_ife, wp_and1, wp_and2, wp_or1, wp_or2, wp_chain, wpbin_add, wpbin_addS, wpbin_mulS, wpbin_sub, wpbin_mul, wpbin_mod, wpbin_fdiv, wpbin_addT, bind_ok, then_ok, List.length_cons, List.length_nil, Nat.reduceAdd, cx_call, cx_glob, tr_bl, bi_int, bi_abs, bi_lenL, bi_lenS, c_lt, c_le, c_gt, c_ge, c_eqI, c_eqS', c_neS', c_neI, e_isi, ty_int, ty_str, ty_bl, ty_non, ty_tup, ty_lstf, ty_any, bi_min2, Bool.not_true, Bool.not_false, ofO_some, Option.map_some, List.getElem?_cons_succ, List.getElem?_cons_zero, List.set_cons_succ, List.set_cons_zero, Int.reduceLT, Int.reduceLE, Int.reduceNeg]
            refine wpTr_d (fun h5 => ?_) (fun h5 => ?_)
            · skip
              have hd0 := hgt.mp h5
              have hit : item t a bel top = .err e := by
                rw [hitem]
                cases bel with
                | nil => rfl
                | cons b bel => exact if_neg (fun z => hd0 z.1)
              rw [hit] at hk
              have h5' : decide ((a : Int) < (e : Int)) = true := decide_eq_true h5
              simp only [e_var, e_int, e_str, e_bl, e_non, e_glob, e_bin, e_neg, e_cmp, e_and, e_or, e_not, e_call, e_bi, wp_meth, rc_all, true_and, wp_lc, s_try, s_aug, s_augS, isRef_t, if_true, bi_lenT, at_0, at_1, at_2, at_3, at_4, at_5, at_6, at_end, ixN_all, ix_lst, ix_tup, m_join, e_idx, e_slc, e_tup, e_lst, e_dict0, newL_true, newL_false, s_set, s_unp, s_sub, s_expr, s_ret, s_retN, s_pass, s_brk, s_cont, s_raise, ss_nil, wp_sscons, a_nil, a_cons, o_no, o_yes, p_no, p_yes, i_val, i_rg1, i_rg2, wp_for', wp_while, wp_rg, wp_bind, wp_then, wp_seq, wp_ok, wp_ex, wp_nx, wp_rt, wp_bk, wp_ct, wp_xx, wp_ofO, wpO_s, wpO_map, wpTr_t, wpTr_f, wpTr_n, wp_ifs, wp_ife, wp_and1, wp_and2, wp_or1, wp_or2, wp_chain, wpbin_add, wpbin_addS, wpbin_mulS, wpbin_sub, wpbin_mul, wpbin_mod, wpbin_fdiv, wpbin_addT, bind_ok, then_ok, List.length_cons, List.length_nil, Nat.reduceAdd, cx_call, cx_glob, tr_bl, bi_int, bi_abs, bi_lenL, bi_lenS, c_lt, c_le, c_gt, c_ge, c_eqI, c_eqS', c_neS', c_neI, e_isi, ty_int, ty_str, ty_bl, ty_non, ty_tup, ty_lstf, ty_any, bi_min2, Bool.not_true, Bool.not_false, ofO_some, Option.map_some, List.getElem?_cons_succ, List.getElem?_cons_zero, List.set_cons_succ, List.set_cons_zero, Int.reduceLT, Int.reduceLE, Int.reduceNeg, h5']
              exact ret e _ take_app hk.symm
            · have hd0 : ds = [] := by
                by_cases z : ds = []
                · exact z
                · exact absurd (hgt.mpr z) h5
              have hea : e = a := by rw [hd0] at he; simpa using he.symm
              simp only [e_var, e_int, e_str, e_bl, e_non, e_glob, e_bin, e_neg, e_cmp, e_and, e_or, e_not, e_call, e_bi, wp_meth, rc_all, true_and, wp_lc, s_try, s_aug, s_augS, isRef_t, if_true, bi_lenT, at_0, at_1, at_2, at_3, at_4, at_5, at_6, at_end, ixN_all, ix_lst, ix_tup, m_join, e_idx, e_slc, e_tup, e_lst, e_dict0, newL_true, newL_false, s_set, s_unp, s_sub, s_expr, s_ret, s_retN, s_pass, s_brk, s_cont, s_raise, ss_nil, wp_sscons, a_nil, a_cons, o_no, o_yes, p_no, p_yes, i_val, i_rg1, i_rg2, wp_for', wp_while, wp_rg, wp_bind, wp_then, wp_seq, wp_ok, wp_ex, wp_nx, wp_rt, wp_bk, wp_ct, wp_xx, wp_ofO, wpO_s, wpO_map, wpTr_t, wpTr_f, wpTr_n, wp_ifs, wp_ife, wp_and1, wp_and2, wp_or1, wp_or2, wp_chain, wpbin_add, wpbin_addS, wpbin_mulS, wpbin_sub, wpbin_mul, wpbin_mod, wpbin_fdiv, wpbin_addT, bind_ok, then_ok, List.length_cons, List.length_nil, Nat.reduceAdd, cx_call, cx_glob, tr_bl, bi_int, bi_abs, bi_lenL, bi_lenS, c_lt, c_le, c_gt, c_ge, c_eqI, c_eqS', c_neS', c_neI, e_isi, ty_int, ty_str, ty_bl, ty_non, ty_tup, ty_lstf, ty_any, bi_min2, Bool.not_true, Bool.not_false, ofO_some, Option.map_some, List.getElem?_cons_succ, List.getElem?_cons_zero, List.set_cons_succ, List.set_cons_zero, Int.reduceLT, Int.reduceLE, Int.reduceNeg, bi_lenRf app_last, hlr]
              refine wpTr_d (fun h6 => ?_) (fun h6 => ?_)
              · have hb0 : bel = [] := List.length_eq_zero_iff.mp (by omega)
                have h6' : decide ((bel.length : Int) = 0) = true := decide_eq_true h6
                have hit : item t a bel top = .err e := by rw [hitem, hb0]
                rw [hit] at hk
                simp only [e_var, e_int, e_str, e_bl, e_non, e_glob, e_bin, e_neg, e_cmp, e_and, e_or, e_not, e_call, e_bi, wp_meth, rc_all, true_and, wp_lc, s_try, s_aug, s_augS, isRef_t, if_true, bi_lenT, at_0, at_1, at_2, at_3, at_4, at_5, at_6, at_end, ixN_all, ix_lst, ix_tup, m_join, e_idx, e_slc, e_tup, e_lst, e_dict0, newL_true, newL_false, s_set, s_unp, s_sub, s_expr, s_ret, s_retN, s_pass, s_brk, s_cont, s_raise, ss_nil, wp_sscons, a_nil, a_cons, o_no, o_yes, p_no, p_yes, i_val, i_rg1, i_rg2, wp_for', wp_while, wp_rg, wp_bind, wp_then, wp_seq, wp_ok, wp_ex, wp_nx, wp_rt, wp_bk, wp_ct, wp_xx, wp_ofO, wpO_s, wpO_map, wpTr_t, wpTr_f, wpTr_n, wp_ifs, wp_ife, wp_and1, wp_and2, wp_or1, wp_or2, wp_chain, wpbin_add, wpbin_addS, wpbin_mulS, wpbin_sub, wpbin_mul, wpbin_mod, wpbin_fdiv, wpbin_addT, bind_ok, then_ok, List.length_cons, List.length_nil, Nat.reduceAdd, cx_call, cx_glob, tr_bl, bi_int, bi_abs, bi_lenL, bi_lenS, c_lt, c_le, c_gt, c_ge, c_eqI, c_eqS', c_neS', c_neI, e_isi, ty_int, ty_str, ty_bl, ty_non, ty_tup, ty_lstf, ty_any, bi_min2, Bool.not_true, Bool.not_false, ofO_some, Option.map_some, List.getElem?_cons_succ, List.getElem?_cons_zero, List.set_cons_succ, List.set_cons_zero, Int.reduceLT, Int.reduceLE, Int.reduceNeg, h6']
                exact ret e _ take_app hk.symm
              · match ps, bel, hP with
                | [], [], hP => exact absurd rfl h6
                | [], b :: bel, hP => exact absurd hP.len (by simp)
                | _ :: _, [], hP => exact absurd hP.len (by simp)
                | p :: ps, b :: bel, hP =>
                  have hm := hP.hd p ps rfl
                  have hrr : ((p :: ps).reverse.map fun p : Nat => D.int p) = (ps.reverse.map fun p : Nat => D.int p) ++ [D.int (p : Nat)] := by rw [List.reverse_cons, List.map_append]; rfl
                  rw [hrr]
                  simp only [e_var, e_int, e_str, e_bl, e_non, e_glob, e_bin, e_neg, e_cmp, e_and, e_or, e_not, e_call, e_bi, wp_meth, rc_all, true_and, wp_lc, s_try, s_aug, s_augS, isRef_t, if_true, bi_lenT, at_0, at_1, at_2, at_3, at_4, at_5, at_6, at_end, ixN_all, ix_lst, ix_tup, m_join, e_idx, e_slc, e_tup, e_lst, e_dict0, newL_true, newL_false, s_set, s_unp, s_sub, s_expr, s_ret, s_retN, s_pass, s_brk, s_cont, s_raise, ss_nil, wp_sscons, a_nil, a_cons, o_no, o_yes, p_no, p_yes, i_val, i_rg1, i_rg2, wp_for', wp_while, wp_rg, wp_bind, wp_then, wp_seq, wp_ok, wp_ex, wp_nx, wp_rt, wp_bk, wp_ct, wp_xx, wp_ofO, wpO_s, wpO_map, wpTr_t, wpTr_f, wpTr_n, wp_ifs, wp_ife, wp_and1, wp_and2, wp_or1, wp_or2, wp_chain, wpbin_add, wpbin_addS, wpbin_mulS, wpbin_sub, wpbin_mul, wpbin_mod, wpbin_fdiv, wpbin_addT, bind_ok, then_ok, List.length_cons, List.length_nil, Nat.reduceAdd, cx_call, cx_glob, tr_bl, bi_int, bi_abs, bi_lenL, bi_lenS, c_lt, c_le, c_gt, c_ge, c_eqI, c_eqS', c_neS', c_neI, e_isi, ty_int, ty_str, ty_bl, ty_non, ty_tup, ty_lstf, ty_any, bi_min2, Bool.not_true, Bool.not_false, ofO_some, Option.map_some, List.getElem?_cons_succ, List.getElem?_cons_zero, List.set_cons_succ, List.set_cons_zero, Int.reduceLT, Int.reduceLE, Int.reduceNeg, ty_refL app_last]
                  rw [m_popR app_last]
                  simp only [e_var, e_int, e_str, e_bl, e_non, e_glob, e_bin, e_neg, e_cmp, e_and, e_or, e_not, e_call, e_bi, wp_meth, rc_all, true_and, wp_lc, s_try, s_aug, s_augS, isRef_t, if_true, bi_lenT, at_0, at_1, at_2, at_3, at_4, at_5, at_6, at_end, ixN_all, ix_lst, ix_tup, m_join, e_idx, e_slc, e_tup, e_lst, e_dict0, newL_true, newL_false, s_set, s_unp, s_sub, s_expr, s_ret, s_retN, s_pass, s_brk, s_cont, s_raise, ss_nil, wp_sscons, a_nil, a_cons, o_no, o_yes, p_no, p_yes, i_val, i_rg1, i_rg2, wp_for', wp_while, wp_rg, wp_bind, wp_then, wp_seq, wp_ok, wp_ex, wp_nx, wp_rt, wp_bk, wp_ct, wp_xx, wp_ofO, wpO_s, wpO_map, wpTr_t, wpTr_f, wpTr_n, wp_ifs, wp_ife, wp_and1, wp_and2, wp_or1, wp_or2, wp_chain, wpbin_add, wpbin_addS, wpbin_mulS, wpbin_sub, wpbin_mul, wpbin_mod, wpbin_fdiv, wpbin_addT, bind_ok, then_ok, List.length_cons, List.length_nil, Nat.reduceAdd, cx_call, cx_glob, tr_bl, bi_int, bi_abs, bi_lenL, bi_lenS, c_lt, c_le, c_gt, c_ge, c_eqI, c_eqS', c_neS', c_neI, e_isi, ty_int, ty_str, ty_bl, ty_non, ty_tup, ty_lstf, ty_any, bi_min2, Bool.not_true, Bool.not_false, ofO_some, Option.map_some, List.getElem?_cons_succ, List.getElem?_cons_zero, List.set_cons_succ, List.set_cons_zero, Int.reduceLT, Int.reduceLE, Int.reduceNeg, set_last]
                  refine wpTr_d (fun h7 => ?_) (fun h7 => ?_)
                  · simp only [e_var, e_int, e_str, e_bl, e_non, e_glob, e_bin, e_neg, e_cmp, e_and, e_or, e_not, e_call, e_bi, wp_meth, rc_all, true_and, wp_lc, s_try, s_aug, s_augS, isRef_t, if_true, bi_lenT, at_0, at_1, at_2, at_3, at_4, at_5, at_6, at_end, ixN_all, ix_lst, ix_tup, m_join, e_idx, e_slc, e_tup, e_lst, e_dict0, newL_true, newL_false, s_set, s_unp, s_sub, s_expr, s_ret, s_retN, s_pass, s_brk, s_cont, s_raise, ss_nil, wp_sscons, a_nil, a_cons, o_no, o_yes, p_no, p_yes, i_val, i_rg1, i_rg2, wp_for', wp_while, wp_rg, wp_bind, wp_then, wp_seq, wp_ok, wp_ex, wp_nx, wp_rt, wp_bk, wp_ct, wp_xx, wp_ofO, wpO_s, wpO_map, wpTr_t, wpTr_f, wpTr_n, wp_ifs, wp_ife, wp_and1, wp_and2, wp_or1, wp_or2, wp_chain, wpbin_add, wpbin_addS, wpbin_mulS, wpbin_sub, wpbin_mul, wpbin_mod, wpbin_fdiv, wpbin_addT, bind_ok, then_ok, List.length_cons, List.length_nil, Nat.reduceAdd, cx_call, cx_glob, tr_bl, bi_int, bi_abs, bi_lenL, bi_lenS, c_lt, c_le, c_gt, c_ge, c_eqI, c_eqS', c_neS', c_neI, e_isi, ty_int, ty_str, ty_bl, ty_non, ty_tup, ty_lstf, ty_any, bi_min2, Bool.not_true, Bool.not_false, ofO_some, Option.map_some, List.getElem?_cons_succ, List.getElem?_cons_zero, List.set_cons_succ, List.set_cons_zero, Int.reduceLT, Int.reduceLE, Int.reduceNeg]
                    have hit : item t a (b :: bel) top = .err e := by
                      rw [hitem]
                      exact if_neg (fun z => by have := hm.mpr (by omega); omega)
                    rw [hit] at hk
                    exact ret e _ take_app hk.symm
                  · have hm0 : 0 < top.m := by
                      by_cases z : top.m = 0
                      · have := hm.mp z; omega
                      · omega
                    simp only at hitem
                    rw [if_pos ⟨hd0, hm0⟩] at hitem
                    rw [hitem] at hk
                    simp only [e_var, e_int, e_str, e_bl, e_non, e_glob, e_bin, e_neg, e_cmp, e_and, e_or, e_not, e_call, e_bi, wp_meth, rc_all, true_and, wp_lc, s_try, s_aug, s_augS, isRef_t, if_true, bi_lenT, at_0, at_1, at_2, at_3, at_4, at_5, at_6, at_end, ixN_all, ix_lst, ix_tup, m_join, e_idx, e_slc, e_tup, e_lst, e_dict0, newL_true, newL_false, s_set, s_unp, s_sub, s_expr, s_ret, s_retN, s_pass, s_brk, s_cont, s_raise, ss_nil, wp_sscons, a_nil, a_cons, o_no, o_yes, p_no, p_yes, i_val, i_rg1, i_rg2, wp_for', wp_while, wp_rg, wp_bind, wp_then, wp_seq, wp_ok, wp_ex, wp_nx, wp_rt, wp_bk, wp_ct, wp_xx, wp_ofO, wpO_s, wpO_map, wpTr_t, wpTr_f, wpTr_n, wp_ifs, wp_ife, wp_and1, wp_and2, wp_or1, wp_or2, wp_chain, wpbin_add, wpbin_addS, wpbin_mulS, wpbin_sub, wpbin_mul, wpbin_mod, wpbin_fdiv, wpbin_addT, bind_ok, then_ok, List.length_cons, List.length_nil, Nat.reduceAdd, cx_call, cx_glob, tr_bl, bi_int, bi_abs, bi_lenL, bi_lenS, c_lt, c_le, c_gt, c_ge, c_eqI, c_eqS', c_neS', c_neI, e_isi, ty_int, ty_str, ty_bl, ty_non, ty_tup, ty_lstf, ty_any, bi_min2, Bool.not_true, Bool.not_false, ofO_some, Option.map_some, List.getElem?_cons_succ, List.getElem?_cons_zero, List.set_cons_succ, List.set_cons_zero, Int.reduceLT, Int.reduceLE, Int.reduceNeg, e1]
                    have hgt2 := List.pairwise_cons.mp hP.gt
                    have hpa := hP.lt p (List.mem_cons_self ..)
                    refine ⟨t.length - (e + 1), by omega, e + 1, _, _, k, ps, _, _, by omega, hk, by omega, rfl, ?_, rfl, by trivial⟩
                    exact {
                      len := by have := hP.len; simp only [List.length_cons] at this; omega
                      six := by have := hP.six; rw [List.length_cons] at this; omega
                      gt := hgt2.2
                      lt := fun q hq => by have := hP.lt q (List.mem_cons_of_mem _ hq); omega
                      hd := fun q ps' e0 => by
                        have hq : q < p := hgt2.1 q (by rw [e0]; exact List.mem_cons_self ..)
                        have : 0 < top.m * top.x := Nat.mul_pos hm0 hP.x1
                        show b.m + top.m * top.x = 0 ↔ q + 1 = e + 1
                        omega
                      x1 := hP.xb b (List.mem_cons_self ..)
                      xb := fun l hl => hP.xb l (List.mem_cons_of_mem _ hl) }
          · simp only [e_var, e_int, e_str, e_bl, e_non, e_glob, e_bin, e_neg, e_cmp, e_and, e_or, e_not, e_call, e_bi, wp_meth, rc_all, true_and, wp_lc, s_try, s_aug, s_augS, isRef_t, if_true, bi_lenT, at_0, at_1, at_2, at_3, at_4, at_5, at_6, at_end, ixN_all, ix_lst, ix_tup, m_join, e_idx, e_slc, e_tup, e_lst, e_dict0, newL_true, newL_false, s_set, s_unp, s_sub, s_expr, s_ret, s_retN, s_pass, s_brk, s_cont, s_raise, ss_nil, wp_sscons, a_nil, a_cons, o_no, o_yes, p_no, p_yes, i_val, i_rg1, i_rg2, wp_for', wp_while, wp_rg, wp_bind, wp_then, wp_seq, wp_ok, wp_ex, wp_nx, wp_rt, wp_bk, wp_ct, wp_xx, wp_ofO, wpO_s, wpO_map, wpTr_t, wpTr_f, wpTr_n, wp_ifs, wp_ife, wp_and1, wp_and2, wp_or1, wp_or2, wp_chain, wpbin_add, wpbin_addS, wpbin_mulS, wpbin_sub, wpbin_mul, wpbin_mod, wpbin_fdiv, wpbin_addT, bind_ok, then_ok, List.length_cons, List.length_nil, Nat.reduceAdd, cx_call, cx_glob, tr_bl, bi_int, bi_abs, bi_lenL, bi_lenS, c_lt, c_le, c_gt, c_ge, c_eqI, c_eqS', c_neS', c_neI, e_isi, ty_int, ty_str, ty_bl, ty_non, ty_tup, ty_lstf, ty_any, bi_min2, Bool.not_true, Bool.not_false, ofO_some, Option.map_some, List.getElem?_cons_succ, List.getElem?_cons_zero, List.set_cons_succ, List.set_cons_zero, Int.reduceLT, Int.reduceLE, Int.reduceNeg, hix, c_nin]
            rw [hli]
            have h40 : ¬ (c = 40 ∧ ds ≠ [] ∧ bel.length ≤ 5) := fun z => h3 z.1
            refine wpTr_d (fun h5 => ?_) (fun h5 => ?_)
            · simp only [e_var, e_int, e_str, e_bl, e_non, e_glob, e_bin, e_neg, e_cmp, e_and, e_or, e_not, e_call, e_bi, wp_meth, rc_all, true_and, wp_lc, s_try, s_aug, s_augS, isRef_t, if_true, bi_lenT, at_0, at_1, at_2, at_3, at_4, at_5, at_6, at_end, ixN_all, ix_lst, ix_tup, m_join, e_idx, e_slc, e_tup, e_lst, e_dict0, newL_true, newL_false, s_set, s_unp, s_sub, s_expr, s_ret, s_retN, s_pass, s_brk, s_cont, s_raise, ss_nil, wp_sscons, a_nil, a_cons, o_no, o_yes, p_no, p_yes, i_val, i_rg1, i_rg2, wp_for', wp_while, wp_rg, wp_bind, wp_then, wp_seq, wp_ok, wp_ex, wp_nx, wp_rt, wp_bk, wp_ct, wp_xx, wp_ofO, wpO_s, wpO_map, wpTr_t, wpTr_f, wpTr_n, wp_ifs, wp_ife, wp_and1, wp_and2, wp_or1, wp_or2, wp_chain, wpbin_add, wpbin_addS, wpbin_mulS, wpbin_sub, wpbin_mul, wpbin_mod, wpbin_fdiv, wpbin_addT, bind_ok, then_ok, List.length_cons, List.length_nil, Nat.reduceAdd, cx_call, cx_glob, tr_bl, bi_int, bi_abs, bi_lenL, bi_lenS, c_lt, c_le, c_gt, c_ge, c_eqI, c_eqS', c_neS', c_neI, e_isi, ty_int, ty_str, ty_bl, ty_non, ty_tup, ty_lstf, ty_any, bi_min2, Bool.not_true, Bool.not_false, ofO_some, Option.map_some, List.getElem?_cons_succ, List.getElem?_cons_zero, List.set_cons_succ, List.set_cons_zero, Int.reduceLT, Int.reduceLE, Int.reduceNeg]
              unfold itemC at hitem
              simp only at hitem
              rw [if_pos h5] at hitem
              rw [hitem] at hk
              simp only [e_var, e_int, e_str, e_bl, e_non, e_glob, e_bin, e_neg, e_cmp, e_and, e_or, e_not, e_call, e_bi, wp_meth, rc_all, true_and, wp_lc, s_try, s_aug, s_augS, isRef_t, if_true, bi_lenT, at_0, at_1, at_2, at_3, at_4, at_5, at_6, at_end, ixN_all, ix_lst, ix_tup, m_join, e_idx, e_slc, e_tup, e_lst, e_dict0, newL_true, newL_false, s_set, s_unp, s_sub, s_expr, s_ret, s_retN, s_pass, s_brk, s_cont, s_raise, ss_nil, wp_sscons, a_nil, a_cons, o_no, o_yes, p_no, p_yes, i_val, i_rg1, i_rg2, wp_for', wp_while, wp_rg, wp_bind, wp_then, wp_seq, wp_ok, wp_ex, wp_nx, wp_rt, wp_bk, wp_ct, wp_xx, wp_ofO, wpO_s, wpO_map, wpTr_t, wpTr_f, wpTr_n, wp_ifs, wp_ife, wp_and1, wp_and2, wp_or1, wp_or2, wp_chain, wpbin_add, wpbin_addS, wpbin_mulS, wpbin_sub, wpbin_mul, wpbin_mod, wpbin_fdiv, wpbin_addT, bind_ok, then_ok, List.length_cons, List.length_nil, Nat.reduceAdd, cx_call, cx_glob, tr_bl, bi_int, bi_abs, bi_lenL, bi_lenS, c_lt, c_le, c_gt, c_ge, c_eqI, c_eqS', c_neS', c_neI, e_isi, ty_int, ty_str, ty_bl, ty_non, ty_tup, ty_lstf, ty_any, bi_min2, Bool.not_true, Bool.not_false, ofO_some, Option.map_some, List.getElem?_cons_succ, List.getElem?_cons_zero, List.set_cons_succ, List.set_cons_zero, Int.reduceLT, Int.reduceLE, Int.reduceNeg, e1]
              refine ⟨t.length - (e + 1), by omega, e + 1, _, _, k, ps, _, _, by omega, hk, by omega, rfl, ?_, rfl, by trivial⟩
              exact {
                len := hP.len
                six := hP.six
                gt := hP.gt
                lt := fun q hq => by have := hP.lt q hq; omega
                hd := fun q ps' e0 => by
                  have := hP.lt q (by rw [e0]; exact List.mem_cons_self ..)
                  show top.m + kk = 0 ↔ q + 1 = e + 1
                  omega
                x1 := hP.x1
                xb := hP.xb }
            · simp only [e_var, e_int, e_str, e_bl, e_non, e_glob, e_bin, e_neg, e_cmp, e_and, e_or, e_not, e_call, e_bi, wp_meth, rc_all, true_and, wp_lc, s_try, s_aug, s_augS, isRef_t, if_true, bi_lenT, at_0, at_1, at_2, at_3, at_4, at_5, at_6, at_end, ixN_all, ix_lst, ix_tup, m_join, e_idx, e_slc, e_tup, e_lst, e_dict0, newL_true, newL_false, s_set, s_unp, s_sub, s_expr, s_ret, s_retN, s_pass, s_brk, s_cont, s_raise, ss_nil, wp_sscons, a_nil, a_cons, o_no, o_yes, p_no, p_yes, i_val, i_rg1, i_rg2, wp_for', wp_while, wp_rg, wp_bind, wp_then, wp_seq, wp_ok, wp_ex, wp_nx, wp_rt, wp_bk, wp_ct, wp_xx, wp_ofO, wpO_s, wpO_map, wpTr_t, wpTr_f, wpTr_n, wp_ifs, wp_ife, wp_and1, wp_and2, wp_or1, wp_or2, wp_chain, wpbin_add, wpbin_addS, wpbin_mulS, wpbin_sub, wpbin_mul, wpbin_mod, wpbin_fdiv, wpbin_addT, bind_ok, then_ok, List.length_cons, List.length_nil, Nat.reduceAdd, cx_call, cx_glob, tr_bl, bi_int, bi_abs, bi_lenL, bi_lenS, c_lt, c_le, c_gt, c_ge, c_eqI, c_eqS', c_neS', c_neI, e_isi, ty_int, ty_str, ty_bl, ty_non, ty_tup, ty_lstf, ty_any, bi_min2, Bool.not_true, Bool.not_false, ofO_some, Option.map_some, List.getElem?_cons_succ, List.getElem?_cons_zero, List.set_cons_succ, List.set_cons_zero, Int.reduceLT, Int.reduceLE, Int.reduceNeg]
              unfold itemC at hitem
              simp only at hitem
              rw [if_neg h5, if_neg h40] at hitem
              have hit : item t a bel top = .err e := by
                rw [hitem]
                cases bel with
                | nil => rfl
                | cons b bel => exact if_neg (fun z => h4 z.1)
              rw [hit] at hk
              exact ret e _ take_app hk.symm
  · rw [scan, if_neg (by omega)] at hk
    rw [← hk] at h
    simp only [e_var, e_int, e_str, e_bl, e_non, e_glob, e_bin, e_neg, e_cmp, e_and, e_or, e_not, e_call, e_bi, wp_meth, rc_all, true_and, wp_lc, s_try, s_aug, s_augS, isRef_t, if_true, bi_lenT, at_0, at_1, at_2, at_3, at_4, at_5, at_6, at_end, ixN_all, ix_lst, ix_tup, m_join, e_idx, e_slc, e_tup, e_lst, e_dict0, newL_true, newL_false, s_set, s_unp, s_sub, s_expr, s_ret, s_retN, s_pass, s_brk, s_cont, s_raise, ss_nil, wp_sscons, a_nil, a_cons, o_no, o_yes, p_no, p_yes, i_val, i_rg1, i_rg2, wp_for', wp_while, wp_rg, wp_bind, wp_then, wp_seq, wp_ok, wp_ex, wp_nx, wp_rt, wp_bk, wp_ct, wp_xx, wp_ofO, wpO_s, wpO_map, wpTr_t, wpTr_f, wpTr_n, wp_ifs, wp_ife, wp_and1, wp_and2, wp_or1, wp_or2, wp_chain, wpbin_add, wpbin_addS, wpbin_mulS, wpbin_sub, wpbin_mul, wpbin_mod, wpbin_fdiv, wpbin_addT, bind_ok, then_ok, List.length_cons, List.length_nil, Nat.reduceAdd, cx_call, cx_glob, tr_bl, bi_int, bi_abs, bi_lenL, bi_lenS, c_lt, c_le, c_gt, c_ge, c_eqI, c_eqS', c_neS', c_neI, e_isi, ty_int, ty_str, ty_bl, ty_non, ty_tup, ty_lstf, ty_any, bi_min2, Bool.not_true, Bool.not_false, ofO_some, Option.map_some, List.getElem?_cons_succ, List.getElem?_cons_zero, List.set_cons_succ, List.set_cons_zero, Int.reduceLT, Int.reduceLE, Int.reduceNeg, bi_lenRf app_last, hlr]
    refine wpTr_d (fun h2 => ?_) (fun h2 => ?_)
    · have hne : bel ≠ [] := by intro e; subst e; simp at h2
      simp only [if_pos hne] at h
      simp only [e_var, e_int, e_str, e_bl, e_non, e_glob, e_bin, e_neg, e_cmp, e_and, e_or, e_not, e_call, e_bi, wp_meth, rc_all, true_and, wp_lc, s_try, s_aug, s_augS, isRef_t, if_true, bi_lenT, at_0, at_1, at_2, at_3, at_4, at_5, at_6, at_end, ixN_all, ix_lst, ix_tup, m_join, e_idx, e_slc, e_tup, e_lst, e_dict0, newL_true, newL_false, s_set, s_unp, s_sub, s_expr, s_ret, s_retN, s_pass, s_brk, s_cont, s_raise, ss_nil, wp_sscons, a_nil, a_cons, o_no, o_yes, p_no, p_yes, i_val, i_rg1, i_rg2, wp_for', wp_while, wp_rg, wp_bind, wp_then, wp_seq, wp_ok, wp_ex, wp_nx, wp_rt, wp_bk, wp_ct, wp_xx, wp_ofO, wpO_s, wpO_map, wpTr_t, wpTr_f, wpTr_n, wp_ifs, wp_ife, wp_and1, wp_and2, wp_or1, wp_or2, wp_chain, wpbin_add, wpbin_addS, wpbin_mulS, wpbin_sub, wpbin_mul, wpbin_mod, wpbin_fdiv, wpbin_addT, bind_ok, then_ok, List.length_cons, List.length_nil, Nat.reduceAdd, cx_call, cx_glob, tr_bl, bi_int, bi_abs, bi_lenL, bi_lenS, c_lt, c_le, c_gt, c_ge, c_eqI, c_eqS', c_neS', c_neI, e_isi, ty_int, ty_str, ty_bl, ty_non, ty_tup, ty_lstf, ty_any, bi_min2, Bool.not_true, Bool.not_false, ofO_some, Option.map_some, List.getElem?_cons_succ, List.getElem?_cons_zero, List.set_cons_succ, List.set_cons_zero, Int.reduceLT, Int.reduceLE, Int.reduceNeg]
      exact gc_wpW hw rfl take_app rfl h
    · have he : bel = [] := List.length_eq_zero_iff.mp (by omega)
      subst he
      simp only [ne_eq, not_true_eq_false, if_false] at h
      simp only [e_var, e_int, e_str, e_bl, e_non, e_glob, e_bin, e_neg, e_cmp, e_and, e_or, e_not, e_call, e_bi, wp_meth, rc_all, true_and, wp_lc, s_try, s_aug, s_augS, isRef_t, if_true, bi_lenT, at_0, at_1, at_2, at_3, at_4, at_5, at_6, at_end, ixN_all, ix_lst, ix_tup, m_join, e_idx, e_slc, e_tup, e_lst, e_dict0, newL_true, newL_false, s_set, s_unp, s_sub, s_expr, s_ret, s_retN, s_pass, s_brk, s_cont, s_raise, ss_nil, wp_sscons, a_nil, a_cons, o_no, o_yes, p_no, p_yes, i_val, i_rg1, i_rg2, wp_for', wp_while, wp_rg, wp_bind, wp_then, wp_seq, wp_ok, wp_ex, wp_nx, wp_rt, wp_bk, wp_ct, wp_xx, wp_ofO, wpO_s, wpO_map, wpTr_t, wpTr_f, wpTr_n, wp_ifs, wp_ife, wp_and1, wp_and2, wp_or1, wp_or2, wp_chain, wpbin_add, wpbin_addS, wpbin_mulS, wpbin_sub, wpbin_mul, wpbin_mod, wpbin_fdiv, wpbin_addT, bind_ok, then_ok, List.length_cons, List.length_nil, Nat.reduceAdd, cx_call, cx_glob, tr_bl, bi_int, bi_abs, bi_lenL, bi_lenS, c_lt, c_le, c_gt, c_ge, c_eqI, c_eqS', c_neS', c_neI, e_isi, ty_int, ty_str, ty_bl, ty_non, ty_tup, ty_lstf, ty_any, bi_min2, Bool.not_true, Bool.not_false, ofO_some, Option.map_some, List.getElem?_cons_succ, List.getElem?_cons_zero, List.set_cons_succ, List.set_cons_zero, Int.reduceLT, Int.reduceLE, Int.reduceNeg]
      exact gc_wpW hw rfl take_app rfl h
end
end K07
end T
set_option Elab.async false
set_option linter.all false
set_option autoImplicit false
set_option maxRecDepth 100000
set_option maxHeartbeats 4000000
/-! # K07q: the plain law of k07: worth, due, told -/
namespace T
theorem c_eqTI {a c : List Nat} {b d : Int} {st : Store} : cmpop .eq (.tup [.str a, .int b]) (.tup [.str c, .int d]) st = some (decide (a = c ∧ b = d)) := by
  rw [cmp_eq]
  unfold eqD
  have h1 : toPy st (.tup [.str a, .int b]) = some (.tuple [.str ⟨a.toArray⟩, .int b]) := rfl
  have h2 : toPy st (.tup [.str c, .int d]) = some (.tuple [.str ⟨c.toArray⟩, .int d]) := rfl
  rw [h1, h2]
  have d1 : ∀ (a : List Nat) (b : Int), (PySem.PyData.tuple [.str ⟨a.toArray⟩, .int b]).depth ≤ 64 := fun a b => by simp [PySem.PyData.depth, PySem.PyData.depthAll]
  simp only [d1, true_and, and_self, if_true]
  congr 1
  simp only [PySem.PyData.eqv, PySem.PyData.eqvAll, Bool.and_true]
  rw [Bool.eq_iff_iff, Bool.and_eq_true, beq_iff_eq, beq_iff_eq, decide_eq_true_iff]
  constructor
  · rintro ⟨e1, e2⟩
    injection e1 with e1
    exact ⟨Array.mk.inj e1, e2⟩
  · rintro ⟨e1, e2⟩; rw [e1, e2]; exact ⟨rfl, rfl⟩
namespace K07
open Ct
section
variable {n : Nat} {Q : D → Store → Prop} {X : Exn → Store → Prop} {st : Store}
theorem put_wp {s : Store} {r : Nat} {l : Lv} {ls : List Nat} {k : Nat} (h : s[r]? = some (lvO l)) (hw : l.w.length ≤ 400) (hl : ls.length ≤ 40000) (hQ : Q .non (s.set r (lvO (addL l ls k)))) :
    (run prog (n + 1) "_law_put" [.ref r, .str ls, .int k] s).wp Q X := by
  have hlen : r < s.length := (List.getElem?_eq_some_iff.mp h).1
  have h' : s[r]? = some (.lst [.int l.x, .str l.w, .int l.m]) := h
  have hk2 : ∀ {o : O}, (s.set r o)[r]? = some o := fun {o} => List.getElem?_set_self hlen
  refine wp_run (fd := d__law_put) rfl rfl ?_
  simp only [d__law_put, List.length_cons, List.length_nil, if_true, T.start, List.map_cons, List.map_nil, Nat.reduceAdd, Nat.reduceSub, List.replicate, List.cons_append, List.nil_append]
  simp only [e_var, e_int, e_str, e_bl, e_non, e_glob, e_bin, e_neg, e_cmp, e_and, e_or, e_not, e_call, e_bi, wp_meth, rc_all, true_and, wp_lc, s_try, s_aug, s_augS, isRef_t, if_true, bi_lenT, at_0, at_1, at_2, at_3, at_4, at_5, at_6, at_end, ixN_all, ix_lst, ix_tup, m_join, e_idx, e_slc, e_tup, e_lst, e_dict0, newL_true, newL_false, s_set, s_unp, s_sub, s_expr, s_ret, s_retN, s_pass, s_brk, s_cont, s_raise, ss_nil, wp_sscons, a_nil, a_cons, o_no, o_yes, p_no, p_yes, i_val, i_rg1, i_rg2, wp_for', wp_while, wp_rg, wp_bind, wp_then, wp_seq, wp_ok, wp_ex, wp_nx, wp_rt, wp_bk, wp_ct, wp_xx, wp_ofO, wpO_s, wpO_map, wpTr_t, wpTr_f, wpTr_n, wp_ifs, wp_ife, wp_and1, wp_and2, wp_or1, wp_or2, wp_chain, wpbin_add, wpbin_addS, wpbin_mulS, wpbin_sub, wpbin_mul, wpbin_mod, wpbin_fdiv, wpbin_addT, bind_ok, then_ok, List.length_cons, List.length_nil, Nat.reduceAdd, cx_call, cx_glob, tr_bl, bi_int, bi_abs, bi_lenL, bi_lenS, c_lt, c_le, c_gt, c_ge, c_eqI, c_eqS', c_neS', c_neI, e_isi, ty_int, ty_str, ty_bl, ty_non, ty_tup, ty_lstf, ty_any, bi_min2, Bool.not_true, Bool.not_false, ofO_some, Option.map_some, List.getElem?_cons_succ, List.getElem?_cons_zero, List.set_cons_succ, List.set_cons_zero, Int.reduceLT, Int.reduceLE, Int.reduceNeg, ix_ref h', wp_setR h', wp_setR hk2, ix_ref hk2]
  refine wpTr_d (fun hc => ?_) (fun hc => ?_)
  · simp only [e_var, e_int, e_str, e_bl, e_non, e_glob, e_bin, e_neg, e_cmp, e_and, e_or, e_not, e_call, e_bi, wp_meth, rc_all, true_and, wp_lc, s_try, s_aug, s_augS, isRef_t, if_true, bi_lenT, at_0, at_1, at_2, at_3, at_4, at_5, at_6, at_end, ixN_all, ix_lst, ix_tup, m_join, e_idx, e_slc, e_tup, e_lst, e_dict0, newL_true, newL_false, s_set, s_unp, s_sub, s_expr, s_ret, s_retN, s_pass, s_brk, s_cont, s_raise, ss_nil, wp_sscons, a_nil, a_cons, o_no, o_yes, p_no, p_yes, i_val, i_rg1, i_rg2, wp_for', wp_while, wp_rg, wp_bind, wp_then, wp_seq, wp_ok, wp_ex, wp_nx, wp_rt, wp_bk, wp_ct, wp_xx, wp_ofO, wpO_s, wpO_map, wpTr_t, wpTr_f, wpTr_n, wp_ifs, wp_ife, wp_and1, wp_and2, wp_or1, wp_or2, wp_chain, wpbin_add, wpbin_addS, wpbin_mulS, wpbin_sub, wpbin_mul, wpbin_mod, wpbin_fdiv, wpbin_addT, bind_ok, then_ok, List.length_cons, List.length_nil, Nat.reduceAdd, cx_call, cx_glob, tr_bl, bi_int, bi_abs, bi_lenL, bi_lenS, c_lt, c_le, c_gt, c_ge, c_eqI, c_eqS', c_neS', c_neI, e_isi, ty_int, ty_str, ty_bl, ty_non, ty_tup, ty_lstf, ty_any, bi_min2, Bool.not_true, Bool.not_false, ofO_some, Option.map_some, List.getElem?_cons_succ, List.getElem?_cons_zero, List.set_cons_succ, List.set_cons_zero, Int.reduceLT, Int.reduceLE, Int.reduceNeg, ix_ref hk2, wp_setR hk2]
    refine ⟨by rw [lim_v]; omega, ?_⟩
    refine gc_i (by rw [List.length_set, List.length_set]) ?_
    rw [List.set_set]
    have e : addL l ls k = ⟨l.x, l.w ++ ls, l.m + k⟩ := by unfold addL; rw [if_pos (by omega)]
    rw [e] at hQ
    exact hQ
  · simp only [e_var, e_int, e_str, e_bl, e_non, e_glob, e_bin, e_neg, e_cmp, e_and, e_or, e_not, e_call, e_bi, wp_meth, rc_all, true_and, wp_lc, s_try, s_aug, s_augS, isRef_t, if_true, bi_lenT, at_0, at_1, at_2, at_3, at_4, at_5, at_6, at_end, ixN_all, ix_lst, ix_tup, m_join, e_idx, e_slc, e_tup, e_lst, e_dict0, newL_true, newL_false, s_set, s_unp, s_sub, s_expr, s_ret, s_retN, s_pass, s_brk, s_cont, s_raise, ss_nil, wp_sscons, a_nil, a_cons, o_no, o_yes, p_no, p_yes, i_val, i_rg1, i_rg2, wp_for', wp_while, wp_rg, wp_bind, wp_then, wp_seq, wp_ok, wp_ex, wp_nx, wp_rt, wp_bk, wp_ct, wp_xx, wp_ofO, wpO_s, wpO_map, wpTr_t, wpTr_f, wpTr_n, wp_ifs, wp_ife, wp_and1, wp_and2, wp_or1, wp_or2, wp_chain, wpbin_add, wpbin_addS, wpbin_mulS, wpbin_sub, wpbin_mul, wpbin_mod, wpbin_fdiv, wpbin_addT, bind_ok, then_ok, List.length_cons, List.length_nil, Nat.reduceAdd, cx_call, cx_glob, tr_bl, bi_int, bi_abs, bi_lenL, bi_lenS, c_lt, c_le, c_gt, c_ge, c_eqI, c_eqS', c_neS', c_neI, e_isi, ty_int, ty_str, ty_bl, ty_non, ty_tup, ty_lstf, ty_any, bi_min2, Bool.not_true, Bool.not_false, ofO_some, Option.map_some, List.getElem?_cons_succ, List.getElem?_cons_zero, List.set_cons_succ, List.set_cons_zero, Int.reduceLT, Int.reduceLE, Int.reduceNeg, ix_ref hk2, wp_setR hk2]
    refine gc_i (by rw [List.length_set, List.length_set]) ?_
    rw [List.set_set]
    have e : addL l ls k = ⟨l.x, [], l.m + k⟩ := by unfold addL; rw [if_neg (by omega)]
    rw [e] at hQ
    exact hQ
theorem itemC_at {oc : Option Nat} {bel : List Lv} {top : Lv} {ds : List Nat} {k e a' : Nat} {bel' : List Lv} {top' : Lv} (h : itemC oc bel top ds k e = .ok a' bel' top') : a' = e + 1 ∧
    ∃ c, oc = some c ∧ ((c ∈ LET ∧ bel' = bel ∧ top' = addL top (List.replicate k c) k) ∨ (c = 40 ∧ bel.length ≤ 5 ∧ bel' = top :: bel ∧ top' = ⟨k, [], 0⟩) ∨
      (c = 41 ∧ ∃ b, bel = b :: bel' ∧ top' = addL b (repS top.w top.x) (top.m * top.x))) := by
  unfold itemC at h
  cases oc with
  | none => cases h
  | some c =>
    simp only at h
    split at h
    · rename_i hc; cases h; exact ⟨rfl, c, rfl, .inl ⟨hc, rfl, rfl⟩⟩
    · split at h
      · rename_i hc; cases h; exact ⟨rfl, c, rfl, .inr (.inl ⟨hc.1, hc.2.2, rfl, rfl⟩)⟩
      · split at h
        · split at h
          · rename_i hc; cases h; exact ⟨rfl, c, rfl, .inr (.inr ⟨hc.1, _, rfl, rfl⟩)⟩
          · cases h
        · cases h
theorem worth_wp {t : List Nat} {top0 : Lv} (hw : Wf st) (hs : t.length < 999999) (h0 : scan (t.length + 1) t 0 [] ⟨1, [], 0⟩ = .ok ([], top0))
    (h : Q (.tup [.str top0.w, .int top0.m]) st) : (run prog (n + 2) "_law_worth" [.str t] st).wp Q X := by
  have lO : ("(".toList.map Char.toNat) = [40] := rfl
  have lC : (")".toList.map Char.toNat) = [41] := rfl
  have lE : D.str ("".toList.map Char.toNat) = .str [] := rfl
  refine wp_run (fd := d__law_worth) rfl rfl ?_
  simp only [d__law_worth, List.length_cons, List.length_nil, if_true, T.start, List.map_cons, List.map_nil, Nat.reduceAdd, Nat.reduceSub, List.replicate, List.cons_append, List.nil_append]
  simp only [e_var, e_int, e_str, e_bl, e_non, e_glob, e_bin, e_neg, e_cmp, e_and, e_or, e_not, e_call, e_bi, wp_meth, rc_all, true_and, wp_lc, s_try, s_aug, s_augS, isRef_t, if_true, bi_lenT, at_0, at_1, at_2, at_3, at_4, at_5, at_6, at_end, ixN_all, ix_lst, ix_tup, m_join, e_idx, e_slc, e_tup, e_lst, e_dict0, newL_true, newL_false, s_set, s_unp, s_sub, s_expr, s_ret, s_retN, s_pass, s_brk, s_cont, s_raise, ss_nil, wp_sscons, a_nil, a_cons, o_no, o_yes, p_no, p_yes, i_val, i_rg1, i_rg2, wp_for', wp_while, wp_rg, wp_bind, wp_then, wp_seq, wp_ok, wp_ex, wp_nx, wp_rt, wp_bk, wp_ct, wp_xx, wp_ofO, wpO_s, wpO_map, wpTr_t, wpTr_f, wpTr_n, wp_ifs, wp_ife, wp_and1, wp_and2, wp_or1, wp_or2, wp_chain, wpbin_add, wpbin_addS, wpbin_mulS, wpbin_sub, wpbin_mul, wpbin_mod, wpbin_fdiv, wpbin_addT, bind_ok, then_ok, List.length_cons, List.length_nil, Nat.reduceAdd, cx_call, cx_glob, tr_bl, bi_int, bi_abs, bi_lenL, bi_lenS, c_lt, c_le, c_gt, c_ge, c_eqI, c_eqS', c_neS', c_neI, e_isi, ty_int, ty_str, ty_bl, ty_non, ty_tup, ty_lstf, ty_any, bi_min2, Bool.not_true, Bool.not_false, ofO_some, Option.map_some, List.getElem?_cons_succ, List.getElem?_cons_zero, List.set_cons_succ, List.set_cons_zero, Int.reduceLT, Int.reduceLE, Int.reduceNeg]
  rw [lE]
  have hst := Stk.start st
  have hl : (st ++ [O.lst [.int (1 : Nat), .str [], .int (0 : Nat)]]).length = st.length + 1 := by simp
  rw [show ((st ++ [O.lst [.int 1, .str [], .int 0]]).length) = st.length + 1 from hl]
  refine wpWhile_i (fun m env s => ∃ (a : Nat) (bel : List Lv) (top : Lv) (k : Nat) (x3 x4 x5 x6 x7 : Option D), a ≤ t.length ∧ scan k t a bel top = .ok ([], top0) ∧ t.length - a < k ∧ m = t.length - a ∧ env = [some (.str t), some (.ref (st.length + 1)), some (.int a), x3, x4, x5, x6, x7] ∧ Stk st s (st.length + 1) bel top)
    t.length (by show _ < prog.wf; rw [wfP]; omega) ⟨0, [], ⟨1, [], 0⟩, t.length + 1, _, _, _, _, _, Nat.zero_le _, h0, by omega, by omega, rfl, hst⟩ ?_
  rintro m env s ⟨a, bel, top, k, x3, x4, x5, x6, x7, ha, hk, hlt, rfl, rfl, hS⟩
  simp only [e_var, e_int, e_str, e_bl, e_non, e_glob, e_bin, e_neg, e_cmp, e_and, e_or, e_not, e_call, e_bi, wp_meth, rc_all, true_and, wp_lc, s_try, s_aug, s_augS, isRef_t, if_true, bi_lenT, at_0, at_1, at_2, at_3, at_4, at_5, at_6, at_end, ixN_all, ix_lst, ix_tup, m_join, e_idx, e_slc, e_tup, e_lst, e_dict0, newL_true, newL_false, s_set, s_unp, s_sub, s_expr, s_ret, s_retN, s_pass, s_brk, s_cont, s_raise, ss_nil, wp_sscons, a_nil, a_cons, o_no, o_yes, p_no, p_yes, i_val, i_rg1, i_rg2, wp_for', wp_while, wp_rg, wp_bind, wp_then, wp_seq, wp_ok, wp_ex, wp_nx, wp_rt, wp_bk, wp_ct, wp_xx, wp_ofO, wpO_s, wpO_map, wpTr_t, wpTr_f, wpTr_n, wp_ifs, wp_ife, wp_and1, wp_and2, wp_or1, wp_or2, wp_chain, wpbin_add, wpbin_addS, wpbin_mulS, wpbin_sub, wpbin_mul, wpbin_mod, wpbin_fdiv, wpbin_addT, bind_ok, then_ok, List.length_cons, List.length_nil, Nat.reduceAdd, cx_call, cx_glob, tr_bl, bi_int, bi_abs, bi_lenL, bi_lenS, c_lt, c_le, c_gt, c_ge, c_eqI, c_eqS', c_neS', c_neI, e_isi, ty_int, ty_str, ty_bl, ty_non, ty_tup, ty_lstf, ty_any, bi_min2, Bool.not_true, Bool.not_false, ofO_some, Option.map_some, List.getElem?_cons_succ, List.getElem?_cons_zero, List.set_cons_succ, List.set_cons_zero, Int.reduceLT, Int.reduceLE, Int.reduceNeg]
  obtain ⟨k, rfl⟩ : ∃ k', k = k' + 1 := ⟨k - 1, by omega⟩
  refine wpTr_d (fun hc => ?_) (fun hc => ?_)
  · rw [scan, if_pos (by omega)] at hk
    cases hi : item t a bel top with
    | err i => rw [hi] at hk; cases hk
    | ok a' bel' top' =>
      rw [hi] at hk
      simp only at hk
      have hle : (dg (t.drop a)).length ≤ t.length - a := Nat.le_trans (dg_le _) (by rw [List.length_drop]; exact Nat.le_refl _)
      have hsl : ∀ {fz : Bool} {st : Store}, slice fz (.str t) (some (a : Int)) (some ((a + (dg (t.drop a)).length : Nat) : Int)) st = .ok (.str (dg (t.drop a))) st := fun {fz st} => sl_dg ha
      unfold item at hi
      rw [wp_sscons]
      simp only [e_var, e_int, e_str, e_bl, e_non, e_glob, e_bin, e_neg, e_cmp, e_and, e_or, e_not, e_call, e_bi, wp_meth, rc_all, true_and, wp_lc, s_try, s_aug, s_augS, isRef_t, if_true, bi_lenT, at_0, at_1, at_2, at_3, at_4, at_5, at_6, at_end, ixN_all, ix_lst, ix_tup, m_join, e_idx, e_slc, e_tup, e_lst, e_dict0, newL_true, newL_false, s_set, s_unp, s_sub, s_expr, s_ret, s_retN, s_pass, s_brk, s_cont, s_raise, ss_nil, a_nil, a_cons, o_no, o_yes, p_no, p_yes, i_val, i_rg1, i_rg2, wp_for', wp_while, wp_rg, wp_bind, wp_then, wp_seq, wp_ok, wp_ex, wp_nx, wp_rt, wp_bk, wp_ct, wp_xx, wp_ofO, wpO_s, wpO_map, wpTr_t, wpTr_f, wpTr_n, wp_ifs, wp_ife, wp_and1, wp_and2, wp_or1, wp_or2, wp_chain, wpbin_add, wpbin_addS, wpbin_mulS, wpbin_sub, wpbin_mul, wpbin_mod, wpbin_fdiv, wpbin_addT, bind_ok, then_ok, List.length_cons, List.length_nil, Nat.reduceAdd, cx_call, cx_glob, tr_bl, bi_int, bi_abs, bi_lenL, bi_lenS, c_lt, c_le, c_gt, c_ge, c_eqI, c_eqS', c_neS', c_neI, e_isi, ty_int, ty_str, ty_bl, ty_non, ty_tup, ty_lstf, ty_any, bi_min2, Bool.not_true, Bool.not_false, ofO_some, Option.map_some, List.getElem?_cons_succ, List.getElem?_cons_zero, List.set_cons_succ, List.set_cons_zero, Int.reduceLT, Int.reduceLE, Int.reduceNeg]
      refine run_wp ha hs ?_
      generalize hds : dg (t.drop a) = ds at hle hsl hi
      generalize he : a + ds.length = e at hsl hi
      cases hv : nval ds with
      | none => rw [hv] at hi; cases hi
      | some kk =>
        rw [hv] at hi
        simp only at hi
        have hkk : 1 ≤ kk ∧ kk ≤ 99 := by rcases nval_some hv with ⟨_, h⟩ | ⟨h1, h2, _⟩ <;> omega
        rw [wp_sscons]
        simp only [e_var, e_int, e_str, e_bl, e_non, e_glob, e_bin, e_neg, e_cmp, e_and, e_or, e_not, e_call, e_bi, wp_meth, rc_all, true_and, wp_lc, s_try, s_aug, s_augS, isRef_t, if_true, bi_lenT, at_0, at_1, at_2, at_3, at_4, at_5, at_6, at_end, ixN_all, ix_lst, ix_tup, m_join, e_idx, e_slc, e_tup, e_lst, e_dict0, newL_true, newL_false, s_set, s_unp, s_sub, s_expr, s_ret, s_retN, s_pass, s_brk, s_cont, s_raise, ss_nil, a_nil, a_cons, o_no, o_yes, p_no, p_yes, i_val, i_rg1, i_rg2, wp_for', wp_while, wp_rg, wp_bind, wp_then, wp_seq, wp_ok, wp_ex, wp_nx, wp_rt, wp_bk, wp_ct, wp_xx, wp_ofO, wpO_s, wpO_map, wpTr_t, wpTr_f, wpTr_n, wp_ifs, wp_ife, wp_and1, wp_and2, wp_or1, wp_or2, wp_chain, wpbin_add, wpbin_addS, wpbin_mulS, wpbin_sub, wpbin_mul, wpbin_mod, wpbin_fdiv, wpbin_addT, bind_ok, then_ok, List.length_cons, List.length_nil, Nat.reduceAdd, cx_call, cx_glob, tr_bl, bi_int, bi_abs, bi_lenL, bi_lenS, c_lt, c_le, c_gt, c_ge, c_eqI, c_eqS', c_neS', c_neI, e_isi, ty_int, ty_str, ty_bl, ty_non, ty_tup, ty_lstf, ty_any, bi_min2, Bool.not_true, Bool.not_false, ofO_some, Option.map_some, List.getElem?_cons_succ, List.getElem?_cons_zero, List.set_cons_succ, List.set_cons_zero, Int.reduceLT, Int.reduceLE, Int.reduceNeg]
        refine ss_cut (fun ev s' => ev = [some (.str t), some (.ref (st.length + 1)), some (.int a), some (.int e), some (.int kk), x5, x6, x7] ∧ s = s') ?_ ?_
        · simp only [e_var, e_int, e_str, e_bl, e_non, e_glob, e_bin, e_neg, e_cmp, e_and, e_or, e_not, e_call, e_bi, wp_meth, rc_all, true_and, wp_lc, s_try, s_aug, s_augS, isRef_t, if_true, bi_lenT, at_0, at_1, at_2, at_3, at_4, at_5, at_6, at_end, ixN_all, ix_lst, ix_tup, m_join, e_idx, e_slc, e_tup, e_lst, e_dict0, newL_true, newL_false, s_set, s_unp, s_sub, s_expr, s_ret, s_retN, s_pass, s_brk, s_cont, s_raise, ss_nil, wp_sscons, a_nil, a_cons, o_no, o_yes, p_no, p_yes, i_val, i_rg1, i_rg2, wp_for', wp_while, wp_rg, wp_bind, wp_then, wp_seq, wp_ok, wp_ex, wp_nx, wp_rt, wp_bk, wp_ct, wp_xx, wp_ofO, wpO_s, wpO_map, wpTr_t, wpTr_f, wpTr_n, wp_ifs, wp_ife, wp_and1, wp_and2, wp_or1, wp_or2, wp_chain, wpbin_add, wpbin_addS, wpbin_mulS, wpbin_sub, wpbin_mul, wpbin_mod, wpbin_fdiv, wpbin_addT, bind_ok, then_ok, List.length_cons, List.length_nil, Nat.reduceAdd, cx_call, cx_glob, tr_bl, bi_int, bi_abs, bi_lenL, bi_lenS, c_lt, c_le, c_gt, c_ge, c_eqI, c_eqS', c_neS', c_neI, e_isi, ty_int, ty_str, ty_bl, ty_non, ty_tup, ty_lstf, ty_any, bi_min2, Bool.not_true, Bool.not_false, ofO_some, Option.map_some, List.getElem?_cons_succ, List.getElem?_cons_zero, List.set_cons_succ, List.set_cons_zero, Int.reduceLT, Int.reduceLE, Int.reduceNeg]
          refine wpTr_d (fun h1 => ?_) (fun h1 => ?_)
          · rcases nval_some hv with ⟨h2, _⟩ | ⟨h2, h3, h4, h5⟩
            · rw [h2] at he; simp at he; omega
            · obtain ⟨_, _, n3, n4⟩ := num_all kk (by omega) h2
              rw [← h4] at n3 n4
              simp only [e_var, e_int, e_str, e_bl, e_non, e_glob, e_bin, e_neg, e_cmp, e_and, e_or, e_not, e_call, e_bi, wp_meth, rc_all, true_and, wp_lc, s_try, s_aug, s_augS, isRef_t, if_true, bi_lenT, at_0, at_1, at_2, at_3, at_4, at_5, at_6, at_end, ixN_all, ix_lst, ix_tup, m_join, e_idx, e_slc, e_tup, e_lst, e_dict0, newL_true, newL_false, s_set, s_unp, s_sub, s_expr, s_ret, s_retN, s_pass, s_brk, s_cont, s_raise, ss_nil, wp_sscons, a_nil, a_cons, o_no, o_yes, p_no, p_yes, i_val, i_rg1, i_rg2, wp_for', wp_while, wp_rg, wp_bind, wp_then, wp_seq, wp_ok, wp_ex, wp_nx, wp_rt, wp_bk, wp_ct, wp_xx, wp_ofO, wpO_s, wpO_map, wpTr_t, wpTr_f, wpTr_n, wp_ifs, wp_ife, wp_and1, wp_and2, wp_or1, wp_or2, wp_chain, wpbin_add, wpbin_addS, wpbin_mulS, wpbin_sub, wpbin_mul, wpbin_mod, wpbin_fdiv, wpbin_addT, bind_ok, then_ok, List.length_cons, List.length_nil, Nat.reduceAdd, cx_call, cx_glob, tr_bl, bi_int, bi_abs, bi_lenL, bi_lenS, c_lt, c_le, c_gt, c_ge, c_eqI, c_eqS', c_neS', c_neI, e_isi, ty_int, ty_str, ty_bl, ty_non, ty_tup, ty_lstf, ty_any, bi_min2, Bool.not_true, Bool.not_false, ofO_some, Option.map_some, List.getElem?_cons_succ, List.getElem?_cons_zero, List.set_cons_succ, List.set_cons_zero, Int.reduceLT, Int.reduceLE, Int.reduceNeg, hsl, bi_intS (show ds.length ≤ 640 by omega) n4]
          · rcases nval_some hv with ⟨h2, h3⟩ | ⟨h2, h3, h4, h5⟩
            · simp only [e_var, e_int, e_str, e_bl, e_non, e_glob, e_bin, e_neg, e_cmp, e_and, e_or, e_not, e_call, e_bi, wp_meth, rc_all, true_and, wp_lc, s_try, s_aug, s_augS, isRef_t, if_true, bi_lenT, at_0, at_1, at_2, at_3, at_4, at_5, at_6, at_end, ixN_all, ix_lst, ix_tup, m_join, e_idx, e_slc, e_tup, e_lst, e_dict0, newL_true, newL_false, s_set, s_unp, s_sub, s_expr, s_ret, s_retN, s_pass, s_brk, s_cont, s_raise, ss_nil, wp_sscons, a_nil, a_cons, o_no, o_yes, p_no, p_yes, i_val, i_rg1, i_rg2, wp_for', wp_while, wp_rg, wp_bind, wp_then, wp_seq, wp_ok, wp_ex, wp_nx, wp_rt, wp_bk, wp_ct, wp_xx, wp_ofO, wpO_s, wpO_map, wpTr_t, wpTr_f, wpTr_n, wp_ifs, wp_ife, wp_and1, wp_and2, wp_or1, wp_or2, wp_chain, wpbin_add, wpbin_addS, wpbin_mulS, wpbin_sub, wpbin_mul, wpbin_mod, wpbin_fdiv, wpbin_addT, bind_ok, then_ok, List.length_cons, List.length_nil, Nat.reduceAdd, cx_call, cx_glob, tr_bl, bi_int, bi_abs, bi_lenL, bi_lenS, c_lt, c_le, c_gt, c_ge, c_eqI, c_eqS', c_neS', c_neI, e_isi, ty_int, ty_str, ty_bl, ty_non, ty_tup, ty_lstf, ty_any, bi_min2, Bool.not_true, Bool.not_false, ofO_some, Option.map_some, List.getElem?_cons_succ, List.getElem?_cons_zero, List.set_cons_succ, List.set_cons_zero, Int.reduceLT, Int.reduceLE, Int.reduceNeg]
              rw [h3]
              exact ⟨rfl, by trivial⟩
            · have := List.length_pos_iff.mpr h5
              omega
        rintro _ _ ⟨rfl, rfl⟩
        obtain ⟨rfl, c, hcc, hcase⟩ := itemC_at hi
        obtain ⟨hel2, hce⟩ := List.getElem?_eq_some_iff.mp hcc
        have hix : ∀ {s : Store}, index (.str t) (.int e) s = .ok (.str [c]) s := fun {s} => by rw [ix_str hel2, hce]
        have c2 : decide ([c] = ("(".toList.map Char.toNat)) = decide (c = 40) := by rw [lO]; simp
        have c3 : decide ([c] = (")".toList.map Char.toNat)) = decide (c = 41) := by rw [lC]; simp
        have e1 : (e : Int) + 1 = ((e + 1 : Nat) : Int) := by omega
        have l40 : (40 : Nat) ∉ LET := by decide
        have l41 : (41 : Nat) ∉ LET := by decide
        have fin : ∀ (s' : Store) (x5 x6 x7 : Option D), Stk st s' (st.length + 1) bel' top' → ∃ m', m' < t.length - a ∧ ∃ (a : Nat) (bel : List Lv) (top : Lv) (k : Nat) (x3 x4 x5_1 x6_1 x7_1 : Option D), a ≤ t.length ∧ scan k t a bel top = .ok ([], top0) ∧ t.length - a < k ∧ m' = t.length - a ∧ [some (.str t), some (.ref (st.length + 1)), some (.int ((e + 1 : Nat) : Int)), some (.int e), some (.int kk), x5, x6, x7] = [some (.str t), some (.ref (st.length + 1)), some (.int a), x3, x4, x5_1, x6_1, x7_1] ∧ Stk st s' (st.length + 1) bel top := fun s' x5 x6 x7 hS' =>
          ⟨t.length - (e + 1), by omega, e + 1, bel', top', k, _, _, _, _, _, by omega, hk, by omega, rfl, rfl, hS'⟩
        obtain ⟨rs, rt, hS⟩ := hS
        simp only [e_var, e_int, e_str, e_bl, e_non, e_glob, e_bin, e_neg, e_cmp, e_and, e_or, e_not, e_call, e_bi, wp_meth, rc_all, true_and, wp_lc, s_try, s_aug, s_augS, isRef_t, if_true, bi_lenT, at_0, at_1, at_2, at_3, at_4, at_5, at_6, at_end, ixN_all, ix_lst, ix_tup, m_join, e_idx, e_slc, e_tup, e_lst, e_dict0, newL_true, newL_false, s_set, s_unp, s_sub, s_expr, s_ret, s_retN, s_pass, s_brk, s_cont, s_raise, ss_nil, wp_sscons, a_nil, a_cons, o_no, o_yes, p_no, p_yes, i_val, i_rg1, i_rg2, wp_for', wp_while, wp_rg, wp_bind, wp_then, wp_seq, wp_ok, wp_ex, wp_nx, wp_rt, wp_bk, wp_ct, wp_xx, wp_ofO, wpO_s, wpO_map, wpTr_t, wpTr_f, wpTr_n, wp_ifs, wp_ife, wp_and1, wp_and2, wp_or1, wp_or2, wp_chain, wpbin_add, wpbin_addS, wpbin_mulS, wpbin_sub, wpbin_mul, wpbin_mod, wpbin_fdiv, wpbin_addT, bind_ok, then_ok, List.length_cons, List.length_nil, Nat.reduceAdd, cx_call, cx_glob, tr_bl, bi_int, bi_abs, bi_lenL, bi_lenS, c_lt, c_le, c_gt, c_ge, c_eqI, c_eqS', c_neS', c_neI, e_isi, ty_int, ty_str, ty_bl, ty_non, ty_tup, ty_lstf, ty_any, bi_min2, Bool.not_true, Bool.not_false, ofO_some, Option.map_some, List.getElem?_cons_succ, List.getElem?_cons_zero, List.set_cons_succ, List.set_cons_zero, Int.reduceLT, Int.reduceLE, Int.reduceNeg, hix, c2]
        refine wpTr_d (fun h3 => ?_) (fun h3 => ?_)
        · rcases hcase with ⟨z, _⟩ | ⟨_, h5, rfl, rfl⟩ | ⟨z, _⟩
          · rw [h3] at z; exact absurd z l40
          · simp only [e_var, e_int, e_str, e_bl, e_non, e_glob, e_bin, e_neg, e_cmp, e_and, e_or, e_not, e_call, e_bi, wp_meth, rc_all, true_and, wp_lc, s_try, s_aug, s_augS, isRef_t, if_true, bi_lenT, at_0, at_1, at_2, at_3, at_4, at_5, at_6, at_end, ixN_all, ix_lst, ix_tup, m_join, e_idx, e_slc, e_tup, e_lst, e_dict0, newL_true, newL_false, s_set, s_unp, s_sub, s_expr, s_ret, s_retN, s_pass, s_brk, s_cont, s_raise, ss_nil, wp_sscons, a_nil, a_cons, o_no, o_yes, p_no, p_yes, i_val, i_rg1, i_rg2, wp_for', wp_while, wp_rg, wp_bind, wp_then, wp_seq, wp_ok, wp_ex, wp_nx, wp_rt, wp_bk, wp_ct, wp_xx, wp_ofO, wpO_s, wpO_map, wpTr_t, wpTr_f, wpTr_n, wp_ifs, wp_ife, wp_and1, wp_and2, wp_or1, wp_or2, wp_chain, wpbin_add, wpbin_addS, wpbin_mulS, wpbin_sub, wpbin_mul, wpbin_mod, wpbin_fdiv, wpbin_addT, bind_ok, then_ok, List.length_cons, List.length_nil, Nat.reduceAdd, cx_call, cx_glob, tr_bl, bi_int, bi_abs, bi_lenL, bi_lenS, c_lt, c_le, c_gt, c_ge, c_eqI, c_eqS', c_neS', c_neI, e_isi, ty_int, ty_str, ty_bl, ty_non, ty_tup, ty_lstf, ty_any, bi_min2, Bool.not_true, Bool.not_false, ofO_some, Option.map_some, List.getElem?_cons_succ, List.getElem?_cons_zero, List.set_cons_succ, List.set_cons_zero, Int.reduceLT, Int.reduceLE, Int.reduceNeg, ty_refL hS.ho]
            rw [lE]
            have hlen : ((rs.reverse.map D.ref) ++ [D.ref rt]).length = bel.length + 1 := by
              rw [List.length_append, List.length_map, List.length_reverse, hS.hb.len]; rfl
            have ho2 : (s ++ [.lst [.int kk, .str [], .int 0]])[st.length + 1]? = some (.lst ((rs.reverse.map D.ref) ++ [.ref rt])) := by rw [List.getElem?_append_left hS.lo]; exact hS.ho
            rw [m_appR ho2]
            refine ⟨by rw [hlen, lim_v]; omega, ?_⟩
            have hS2 := hS.push (l := ⟨kk, [], 0⟩) ⟨by simp, by simp, hkk.1, hkk.2⟩
            simp only [e_var, e_int, e_str, e_bl, e_non, e_glob, e_bin, e_neg, e_cmp, e_and, e_or, e_not, e_call, e_bi, wp_meth, rc_all, true_and, wp_lc, s_try, s_aug, s_augS, isRef_t, if_true, bi_lenT, at_0, at_1, at_2, at_3, at_4, at_5, at_6, at_end, ixN_all, ix_lst, ix_tup, m_join, e_idx, e_slc, e_tup, e_lst, e_dict0, newL_true, newL_false, s_set, s_unp, s_sub, s_expr, s_ret, s_retN, s_pass, s_brk, s_cont, s_raise, ss_nil, wp_sscons, a_nil, a_cons, o_no, o_yes, p_no, p_yes, i_val, i_rg1, i_rg2, wp_for', wp_while, wp_rg, wp_bind, wp_then, wp_seq, wp_ok, wp_ex, wp_nx, wp_rt, wp_bk, wp_ct, wp_xx, wp_ofO, wpO_s, wpO_map, wpTr_t, wpTr_f, wpTr_n, wp_ifs, wp_ife, wp_and1, wp_and2, wp_or1, wp_or2, wp_chain, wpbin_add, wpbin_addS, wpbin_mulS, wpbin_sub, wpbin_mul, wpbin_mod, wpbin_fdiv, wpbin_addT, bind_ok, then_ok, List.length_cons, List.length_nil, Nat.reduceAdd, cx_call, cx_glob, tr_bl, bi_int, bi_abs, bi_lenL, bi_lenS, c_lt, c_le, c_gt, c_ge, c_eqI, c_eqS', c_neS', c_neI, e_isi, ty_int, ty_str, ty_bl, ty_non, ty_tup, ty_lstf, ty_any, bi_min2, Bool.not_true, Bool.not_false, ofO_some, Option.map_some, List.getElem?_cons_succ, List.getElem?_cons_zero, List.set_cons_succ, List.set_cons_zero, Int.reduceLT, Int.reduceLE, Int.reduceNeg, e1]
            exact fin _ _ _ _ ⟨_, _, hS2⟩
          · rw [h3] at z; exact absurd z (by decide)
        · simp only [e_var, e_int, e_str, e_bl, e_non, e_glob, e_bin, e_neg, e_cmp, e_and, e_or, e_not, e_call, e_bi, wp_meth, rc_all, true_and, wp_lc, s_try, s_aug, s_augS, isRef_t, if_true, bi_lenT, at_0, at_1, at_2, at_3, at_4, at_5, at_6, at_end, ixN_all, ix_lst, ix_tup, m_join, e_idx, e_slc, e_tup, e_lst, e_dict0, newL_true, newL_false, s_set, s_unp, s_sub, s_expr, s_ret, s_retN, s_pass, s_brk, s_cont, s_raise, ss_nil, wp_sscons, a_nil, a_cons, o_no, o_yes, p_no, p_yes, i_val, i_rg1, i_rg2, wp_for', wp_while, wp_rg, wp_bind, wp_then, wp_seq, wp_ok, wp_ex, wp_nx, wp_rt, wp_bk, wp_ct, wp_xx, wp_ofO, wpO_s, wpO_map, wpTr_t, wpTr_f, wpTr_n, wp_ifs, wp_ife, wp_and1, wp_and2, wp_or1, wp_or2, wp_chain, wpbin_add, wpbin_addS, wpbin_mulS, wpbin_sub, wpbin_mul, wpbin_mod, wpbin_fdiv, wpbin_addT, bind_ok, then_ok, List.length_cons, List.length_nil, Nat.reduceAdd, cx_call, cx_glob, tr_bl, bi_int, bi_abs, bi_lenL, bi_lenS, c_lt, c_le, c_gt, c_ge, c_eqI, c_eqS', c_neS', c_neI, e_isi, ty_int, ty_str, ty_bl, ty_non, ty_tup, ty_lstf, ty_any, bi_min2, Bool.not_true, Bool.not_false, ofO_some, Option.map_some, List.getElem?_cons_succ, List.getElem?_cons_zero, List.set_cons_succ, List.set_cons_zero, Int.reduceLT, Int.reduceLE, Int.reduceNeg, hix, c3]
          refine wpTr_d (fun h4 => ?_) (fun h4 => ?_)
          · rcases hcase with ⟨z, _⟩ | ⟨z, _⟩ | ⟨_, b, rfl, rfl⟩
            · rw [h4] at z; exact absurd z l41
            · rw [h4] at z; exact absurd z (by decide)
            · match rs, hS with
              | [], hS => exact hS.hb.elim
              | r :: rs, hS =>
                have hrr : ((r :: rs).reverse.map D.ref) = (rs.reverse.map D.ref) ++ [D.ref r] := by rw [List.reverse_cons, List.map_append]; rfl
                have hro : st.length + 1 ≠ r := fun e => hS.oN (by rw [e]; exact List.mem_cons_self ..)
                have ho1 : (s.set (st.length + 1) (.lst ((rs.reverse.map D.ref) ++ [D.ref r])))[st.length + 1]? = some (.lst ((rs.reverse.map D.ref) ++ [D.ref r])) := List.getElem?_set_self hS.lo
                have ht1 : (s.set (st.length + 1) (.lst ((rs.reverse.map D.ref) ++ [D.ref r])))[rt]? = some (.lst [.int top.x, .str top.w, .int top.m]) := by rw [List.getElem?_set_ne hS.ot]; exact hS.ht
                have hr1 : (s.set (st.length + 1) (.lst ((rs.reverse.map D.ref) ++ [D.ref r])))[r]? = some (lvO b) := by rw [List.getElem?_set_ne hro]; exact hS.hb.1
                have hbO := hS.bO b (List.mem_cons_self ..)
                have hrl : (repS top.w top.x).length ≤ 99 * 400 := by rw [repS_len]; exact Nat.mul_le_mul hS.tO.x9 hS.tO.w4
                simp only [e_var, e_int, e_str, e_bl, e_non, e_glob, e_bin, e_neg, e_cmp, e_and, e_or, e_not, e_call, e_bi, wp_meth, rc_all, true_and, wp_lc, s_try, s_aug, s_augS, isRef_t, if_true, bi_lenT, at_0, at_1, at_2, at_3, at_4, at_5, at_6, at_end, ixN_all, ix_lst, ix_tup, m_join, e_idx, e_slc, e_tup, e_lst, e_dict0, newL_true, newL_false, s_set, s_unp, s_sub, s_expr, s_ret, s_retN, s_pass, s_brk, s_cont, s_raise, ss_nil, wp_sscons, a_nil, a_cons, o_no, o_yes, p_no, p_yes, i_val, i_rg1, i_rg2, wp_for', wp_while, wp_rg, wp_bind, wp_then, wp_seq, wp_ok, wp_ex, wp_nx, wp_rt, wp_bk, wp_ct, wp_xx, wp_ofO, wpO_s, wpO_map, wpTr_t, wpTr_f, wpTr_n, wp_ifs, wp_ife, wp_and1, wp_and2, wp_or1, wp_or2, wp_chain, wpbin_add, wpbin_addS, wpbin_mulS, wpbin_sub, wpbin_mul, wpbin_mod, wpbin_fdiv, wpbin_addT, bind_ok, then_ok, List.length_cons, List.length_nil, Nat.reduceAdd, cx_call, cx_glob, tr_bl, bi_int, bi_abs, bi_lenL, bi_lenS, c_lt, c_le, c_gt, c_ge, c_eqI, c_eqS', c_neS', c_neI, e_isi, ty_int, ty_str, ty_bl, ty_non, ty_tup, ty_lstf, ty_any, bi_min2, Bool.not_true, Bool.not_false, ofO_some, Option.map_some, List.getElem?_cons_succ, List.getElem?_cons_zero, List.set_cons_succ, List.set_cons_zero, Int.reduceLT, Int.reduceLE, Int.reduceNeg, ty_refL hS.ho]
                rw [m_popR hS.ho, hrr]
                simp only [e_var, e_int, e_str, e_bl, e_non, e_glob, e_bin, e_neg, e_cmp, e_and, e_or, e_not, e_call, e_bi, wp_meth, rc_all, true_and, wp_lc, s_try, s_aug, s_augS, isRef_t, if_true, bi_lenT, at_0, at_1, at_2, at_3, at_4, at_5, at_6, at_end, ixN_all, ix_lst, ix_tup, m_join, e_idx, e_slc, e_tup, e_lst, e_dict0, newL_true, newL_false, s_set, s_unp, s_sub, s_expr, s_ret, s_retN, s_pass, s_brk, s_cont, s_raise, ss_nil, wp_sscons, a_nil, a_cons, o_no, o_yes, p_no, p_yes, i_val, i_rg1, i_rg2, wp_for', wp_while, wp_rg, wp_bind, wp_then, wp_seq, wp_ok, wp_ex, wp_nx, wp_rt, wp_bk, wp_ct, wp_xx, wp_ofO, wpO_s, wpO_map, wpTr_t, wpTr_f, wpTr_n, wp_ifs, wp_ife, wp_and1, wp_and2, wp_or1, wp_or2, wp_chain, wpbin_add, wpbin_addS, wpbin_mulS, wpbin_sub, wpbin_mul, wpbin_mod, wpbin_fdiv, wpbin_addT, bind_ok, then_ok, List.length_cons, List.length_nil, Nat.reduceAdd, cx_call, cx_glob, tr_bl, bi_int, bi_abs, bi_lenL, bi_lenS, c_lt, c_le, c_gt, c_ge, c_eqI, c_eqS', c_neS', c_neI, e_isi, ty_int, ty_str, ty_bl, ty_non, ty_tup, ty_lstf, ty_any, bi_min2, Bool.not_true, Bool.not_false, ofO_some, Option.map_some, List.getElem?_cons_succ, List.getElem?_cons_zero, List.set_cons_succ, List.set_cons_zero, Int.reduceLT, Int.reduceLE, Int.reduceNeg, bindT_ref3 ht1, ix_ref ho1]
                have hx9 := hS.tO.x9
                refine ⟨by rw [c60_v]; omega, ?_, mulOk_small (by omega) (by omega), ?_⟩
                · rw [Int.toNat_natCast, lim_v]
                  have := Nat.mul_le_mul hS.tO.w4 hx9
                  omega
                rw [← Int.natCast_mul]
                refine put_wp hr1 hbO.w4 (by omega) ?_
                simp only [e_var, e_int, e_str, e_bl, e_non, e_glob, e_bin, e_neg, e_cmp, e_and, e_or, e_not, e_call, e_bi, wp_meth, rc_all, true_and, wp_lc, s_try, s_aug, s_augS, isRef_t, if_true, bi_lenT, at_0, at_1, at_2, at_3, at_4, at_5, at_6, at_end, ixN_all, ix_lst, ix_tup, m_join, e_idx, e_slc, e_tup, e_lst, e_dict0, newL_true, newL_false, s_set, s_unp, s_sub, s_expr, s_ret, s_retN, s_pass, s_brk, s_cont, s_raise, ss_nil, wp_sscons, a_nil, a_cons, o_no, o_yes, p_no, p_yes, i_val, i_rg1, i_rg2, wp_for', wp_while, wp_rg, wp_bind, wp_then, wp_seq, wp_ok, wp_ex, wp_nx, wp_rt, wp_bk, wp_ct, wp_xx, wp_ofO, wpO_s, wpO_map, wpTr_t, wpTr_f, wpTr_n, wp_ifs, wp_ife, wp_and1, wp_and2, wp_or1, wp_or2, wp_chain, wpbin_add, wpbin_addS, wpbin_mulS, wpbin_sub, wpbin_mul, wpbin_mod, wpbin_fdiv, wpbin_addT, bind_ok, then_ok, List.length_cons, List.length_nil, Nat.reduceAdd, cx_call, cx_glob, tr_bl, bi_int, bi_abs, bi_lenL, bi_lenS, c_lt, c_le, c_gt, c_ge, c_eqI, c_eqS', c_neS', c_neI, e_isi, ty_int, ty_str, ty_bl, ty_non, ty_tup, ty_lstf, ty_any, bi_min2, Bool.not_true, Bool.not_false, ofO_some, Option.map_some, List.getElem?_cons_succ, List.getElem?_cons_zero, List.set_cons_succ, List.set_cons_zero, Int.reduceLT, Int.reduceLE, Int.reduceNeg, e1]
                refine fin _ _ _ _ ⟨_, _, hS.pop (addL_ok hbO ?_)⟩
                rw [repS_len, Nat.mul_comm]
                exact Nat.mul_le_mul_right _ hS.tO.wm
          · rcases hcase with ⟨z, rfl, rfl⟩ | ⟨z, _⟩ | ⟨z, _⟩
            · simp only [e_var, e_int, e_str, e_bl, e_non, e_glob, e_bin, e_neg, e_cmp, e_and, e_or, e_not, e_call, e_bi, wp_meth, rc_all, true_and, wp_lc, s_try, s_aug, s_augS, isRef_t, if_true, bi_lenT, at_0, at_1, at_2, at_3, at_4, at_5, at_6, at_end, ixN_all, ix_lst, ix_tup, m_join, e_idx, e_slc, e_tup, e_lst, e_dict0, newL_true, newL_false, s_set, s_unp, s_sub, s_expr, s_ret, s_retN, s_pass, s_brk, s_cont, s_raise, ss_nil, wp_sscons, a_nil, a_cons, o_no, o_yes, p_no, p_yes, i_val, i_rg1, i_rg2, wp_for', wp_while, wp_rg, wp_bind, wp_then, wp_seq, wp_ok, wp_ex, wp_nx, wp_rt, wp_bk, wp_ct, wp_xx, wp_ofO, wpO_s, wpO_map, wpTr_t, wpTr_f, wpTr_n, wp_ifs, wp_ife, wp_and1, wp_and2, wp_or1, wp_or2, wp_chain, wpbin_add, wpbin_addS, wpbin_mulS, wpbin_sub, wpbin_mul, wpbin_mod, wpbin_fdiv, wpbin_addT, bind_ok, then_ok, List.length_cons, List.length_nil, Nat.reduceAdd, cx_call, cx_glob, tr_bl, bi_int, bi_abs, bi_lenL, bi_lenS, c_lt, c_le, c_gt, c_ge, c_eqI, c_eqS', c_neS', c_neI, e_isi, ty_int, ty_str, ty_bl, ty_non, ty_tup, ty_lstf, ty_any, bi_min2, Bool.not_true, Bool.not_false, ofO_some, Option.map_some, List.getElem?_cons_succ, List.getElem?_cons_zero, List.set_cons_succ, List.set_cons_zero, Int.reduceLT, Int.reduceLE, Int.reduceNeg, ix_ref hS.ho, hix]
              refine ⟨by rw [c60_v]; omega, by rw [Int.toNat_natCast, lim_v]; omega, ?_⟩
              rw [repS_one]
              refine put_wp hS.ht hS.tO.w4 (by simp; omega) ?_
              simp only [e_var, e_int, e_str, e_bl, e_non, e_glob, e_bin, e_neg, e_cmp, e_and, e_or, e_not, e_call, e_bi, wp_meth, rc_all, true_and, wp_lc, s_try, s_aug, s_augS, isRef_t, if_true, bi_lenT, at_0, at_1, at_2, at_3, at_4, at_5, at_6, at_end, ixN_all, ix_lst, ix_tup, m_join, e_idx, e_slc, e_tup, e_lst, e_dict0, newL_true, newL_false, s_set, s_unp, s_sub, s_expr, s_ret, s_retN, s_pass, s_brk, s_cont, s_raise, ss_nil, wp_sscons, a_nil, a_cons, o_no, o_yes, p_no, p_yes, i_val, i_rg1, i_rg2, wp_for', wp_while, wp_rg, wp_bind, wp_then, wp_seq, wp_ok, wp_ex, wp_nx, wp_rt, wp_bk, wp_ct, wp_xx, wp_ofO, wpO_s, wpO_map, wpTr_t, wpTr_f, wpTr_n, wp_ifs, wp_ife, wp_and1, wp_and2, wp_or1, wp_or2, wp_chain, wpbin_add, wpbin_addS, wpbin_mulS, wpbin_sub, wpbin_mul, wpbin_mod, wpbin_fdiv, wpbin_addT, bind_ok, then_ok, List.length_cons, List.length_nil, Nat.reduceAdd, cx_call, cx_glob, tr_bl, bi_int, bi_abs, bi_lenL, bi_lenS, c_lt, c_le, c_gt, c_ge, c_eqI, c_eqS', c_neS', c_neI, e_isi, ty_int, ty_str, ty_bl, ty_non, ty_tup, ty_lstf, ty_any, bi_min2, Bool.not_true, Bool.not_false, ofO_some, Option.map_some, List.getElem?_cons_succ, List.getElem?_cons_zero, List.set_cons_succ, List.set_cons_zero, Int.reduceLT, Int.reduceLE, Int.reduceNeg, e1]
              exact fin _ _ _ _ ⟨_, _, hS.upd (addL_ok hS.tO (by simp))⟩
            · exact absurd z h3
            · exact absurd z h4
  · rw [scan, if_neg (by omega)] at hk
    cases hk
    obtain ⟨rt, g1, g2⟩ := hS.nil
    have g2' : s[rt]? = some (.lst [.int top0.x, .str top0.w, .int top0.m]) := g2
    simp only [e_var, e_int, e_str, e_bl, e_non, e_glob, e_bin, e_neg, e_cmp, e_and, e_or, e_not, e_call, e_bi, wp_meth, rc_all, true_and, wp_lc, s_try, s_aug, s_augS, isRef_t, if_true, bi_lenT, at_0, at_1, at_2, at_3, at_4, at_5, at_6, at_end, ixN_all, ix_lst, ix_tup, m_join, e_idx, e_slc, e_tup, e_lst, e_dict0, newL_true, newL_false, s_set, s_unp, s_sub, s_expr, s_ret, s_retN, s_pass, s_brk, s_cont, s_raise, ss_nil, wp_sscons, a_nil, a_cons, o_no, o_yes, p_no, p_yes, i_val, i_rg1, i_rg2, wp_for', wp_while, wp_rg, wp_bind, wp_then, wp_seq, wp_ok, wp_ex, wp_nx, wp_rt, wp_bk, wp_ct, wp_xx, wp_ofO, wpO_s, wpO_map, wpTr_t, wpTr_f, wpTr_n, wp_ifs, wp_ife, wp_and1, wp_and2, wp_or1, wp_or2, wp_chain, wpbin_add, wpbin_addS, wpbin_mulS, wpbin_sub, wpbin_mul, wpbin_mod, wpbin_fdiv, wpbin_addT, bind_ok, then_ok, List.length_cons, List.length_nil, Nat.reduceAdd, cx_call, cx_glob, tr_bl, bi_int, bi_abs, bi_lenL, bi_lenS, c_lt, c_le, c_gt, c_ge, c_eqI, c_eqS', c_neS', c_neI, e_isi, ty_int, ty_str, ty_bl, ty_non, ty_tup, ty_lstf, ty_any, bi_min2, Bool.not_true, Bool.not_false, ofO_some, Option.map_some, List.getElem?_cons_succ, List.getElem?_cons_zero, List.set_cons_succ, List.set_cons_zero, Int.reduceLT, Int.reduceLE, Int.reduceNeg, ix_ref g1, ix_ref g2']
    exact gc_wpW hw rfl hS.tk rfl h
/-- what is due, what is told -/
def dueD : Told → D
  | .bad i => .tup [.str ("text".toList.map Char.toNat), .int i]
  | .long m => .tup [.str ("long".toList.map Char.toNat), .int m]
  | .good w => .tup [.str ("calling".toList.map Char.toNat), .str w]
theorem due_wp {t : List Nat} (hw : Wf st) (hs : t.length < 999999) (h : Q (dueD (reads t)) st) : (run prog (n + 3) "_law_due" [.str t] st).wp Q X := by
  refine wp_run (fd := d__law_due) rfl rfl ?_
  simp only [d__law_due, List.length_cons, List.length_nil, if_true, T.start, List.map_cons, List.map_nil, Nat.reduceAdd, Nat.reduceSub, List.replicate, List.cons_append, List.nil_append]
  simp only [e_var, e_int, e_str, e_bl, e_non, e_glob, e_bin, e_neg, e_cmp, e_and, e_or, e_not, e_call, e_bi, wp_meth, rc_all, true_and, wp_lc, s_try, s_aug, s_augS, isRef_t, if_true, bi_lenT, at_0, at_1, at_2, at_3, at_4, at_5, at_6, at_end, ixN_all, ix_lst, ix_tup, m_join, e_idx, e_slc, e_tup, e_lst, e_dict0, newL_true, newL_false, s_set, s_unp, s_sub, s_expr, s_ret, s_retN, s_pass, s_brk, s_cont, s_raise, ss_nil, wp_sscons, a_nil, a_cons, o_no, o_yes, p_no, p_yes, i_val, i_rg1, i_rg2, wp_for', wp_while, wp_rg, wp_bind, wp_then, wp_seq, wp_ok, wp_ex, wp_nx, wp_rt, wp_bk, wp_ct, wp_xx, wp_ofO, wpO_s, wpO_map, wpTr_t, wpTr_f, wpTr_n, wp_ifs, wp_ife, wp_and1, wp_and2, wp_or1, wp_or2, wp_chain, wpbin_add, wpbin_addS, wpbin_mulS, wpbin_sub, wpbin_mul, wpbin_mod, wpbin_fdiv, wpbin_addT, bind_ok, then_ok, List.length_cons, List.length_nil, Nat.reduceAdd, cx_call, cx_glob, tr_bl, bi_int, bi_abs, bi_lenL, bi_lenS, c_lt, c_le, c_gt, c_ge, c_eqI, c_eqS', c_neS', c_neI, e_isi, ty_int, ty_str, ty_bl, ty_non, ty_tup, ty_lstf, ty_any, bi_min2, Bool.not_true, Bool.not_false, ofO_some, Option.map_some, List.getElem?_cons_succ, List.getElem?_cons_zero, List.set_cons_succ, List.set_cons_zero, Int.reduceLT, Int.reduceLE, Int.reduceNeg]
  unfold reads at h
  have hnn : ∀ {i : Int} {st : Store}, cmpop .notN (.int i) .non st = some true := fun {i st} => rfl
  have hnn0 : ∀ {st : Store}, cmpop .notN .non .non st = some false := fun {st} => rfl
  refine bad_wp hw hs ?_
  cases hsc : scan (t.length + 1) t 0 [] ⟨1, [], 0⟩ with
  | error i =>
    rw [hsc] at h
    simp only [e_var, e_int, e_str, e_bl, e_non, e_glob, e_bin, e_neg, e_cmp, e_and, e_or, e_not, e_call, e_bi, wp_meth, rc_all, true_and, wp_lc, s_try, s_aug, s_augS, isRef_t, if_true, bi_lenT, at_0, at_1, at_2, at_3, at_4, at_5, at_6, at_end, ixN_all, ix_lst, ix_tup, m_join, e_idx, e_slc, e_tup, e_lst, e_dict0, newL_true, newL_false, s_set, s_unp, s_sub, s_expr, s_ret, s_retN, s_pass, s_brk, s_cont, s_raise, ss_nil, wp_sscons, a_nil, a_cons, o_no, o_yes, p_no, p_yes, i_val, i_rg1, i_rg2, wp_for', wp_while, wp_rg, wp_bind, wp_then, wp_seq, wp_ok, wp_ex, wp_nx, wp_rt, wp_bk, wp_ct, wp_xx, wp_ofO, wpO_s, wpO_map, wpTr_t, wpTr_f, wpTr_n, wp_ifs, wp_ife, wp_and1, wp_and2, wp_or1, wp_or2, wp_chain, wpbin_add, wpbin_addS, wpbin_mulS, wpbin_sub, wpbin_mul, wpbin_mod, wpbin_fdiv, wpbin_addT, bind_ok, then_ok, List.length_cons, List.length_nil, Nat.reduceAdd, cx_call, cx_glob, tr_bl, bi_int, bi_abs, bi_lenL, bi_lenS, c_lt, c_le, c_gt, c_ge, c_eqI, c_eqS', c_neS', c_neI, e_isi, ty_int, ty_str, ty_bl, ty_non, ty_tup, ty_lstf, ty_any, bi_min2, Bool.not_true, Bool.not_false, ofO_some, Option.map_some, List.getElem?_cons_succ, List.getElem?_cons_zero, List.set_cons_succ, List.set_cons_zero, Int.reduceLT, Int.reduceLE, Int.reduceNeg, hnn]
    exact gc_i rfl h
  | ok p =>
    obtain ⟨bel, top⟩ := p
    rw [hsc] at h
    simp only at h ⊢
    by_cases hb : bel ≠ []
    · rw [if_pos hb] at h ⊢
      simp only [e_var, e_int, e_str, e_bl, e_non, e_glob, e_bin, e_neg, e_cmp, e_and, e_or, e_not, e_call, e_bi, wp_meth, rc_all, true_and, wp_lc, s_try, s_aug, s_augS, isRef_t, if_true, bi_lenT, at_0, at_1, at_2, at_3, at_4, at_5, at_6, at_end, ixN_all, ix_lst, ix_tup, m_join, e_idx, e_slc, e_tup, e_lst, e_dict0, newL_true, newL_false, s_set, s_unp, s_sub, s_expr, s_ret, s_retN, s_pass, s_brk, s_cont, s_raise, ss_nil, wp_sscons, a_nil, a_cons, o_no, o_yes, p_no, p_yes, i_val, i_rg1, i_rg2, wp_for', wp_while, wp_rg, wp_bind, wp_then, wp_seq, wp_ok, wp_ex, wp_nx, wp_rt, wp_bk, wp_ct, wp_xx, wp_ofO, wpO_s, wpO_map, wpTr_t, wpTr_f, wpTr_n, wp_ifs, wp_ife, wp_and1, wp_and2, wp_or1, wp_or2, wp_chain, wpbin_add, wpbin_addS, wpbin_mulS, wpbin_sub, wpbin_mul, wpbin_mod, wpbin_fdiv, wpbin_addT, bind_ok, then_ok, List.length_cons, List.length_nil, Nat.reduceAdd, cx_call, cx_glob, tr_bl, bi_int, bi_abs, bi_lenL, bi_lenS, c_lt, c_le, c_gt, c_ge, c_eqI, c_eqS', c_neS', c_neI, e_isi, ty_int, ty_str, ty_bl, ty_non, ty_tup, ty_lstf, ty_any, bi_min2, Bool.not_true, Bool.not_false, ofO_some, Option.map_some, List.getElem?_cons_succ, List.getElem?_cons_zero, List.set_cons_succ, List.set_cons_zero, Int.reduceLT, Int.reduceLE, Int.reduceNeg, hnn]
      exact gc_i rfl h
    · rw [if_neg hb] at h ⊢
      have hb' : bel = [] := by simpa using hb
      subst hb'
      simp only [e_var, e_int, e_str, e_bl, e_non, e_glob, e_bin, e_neg, e_cmp, e_and, e_or, e_not, e_call, e_bi, wp_meth, rc_all, true_and, wp_lc, s_try, s_aug, s_augS, isRef_t, if_true, bi_lenT, at_0, at_1, at_2, at_3, at_4, at_5, at_6, at_end, ixN_all, ix_lst, ix_tup, m_join, e_idx, e_slc, e_tup, e_lst, e_dict0, newL_true, newL_false, s_set, s_unp, s_sub, s_expr, s_ret, s_retN, s_pass, s_brk, s_cont, s_raise, ss_nil, wp_sscons, a_nil, a_cons, o_no, o_yes, p_no, p_yes, i_val, i_rg1, i_rg2, wp_for', wp_while, wp_rg, wp_bind, wp_then, wp_seq, wp_ok, wp_ex, wp_nx, wp_rt, wp_bk, wp_ct, wp_xx, wp_ofO, wpO_s, wpO_map, wpTr_t, wpTr_f, wpTr_n, wp_ifs, wp_ife, wp_and1, wp_and2, wp_or1, wp_or2, wp_chain, wpbin_add, wpbin_addS, wpbin_mulS, wpbin_sub, wpbin_mul, wpbin_mod, wpbin_fdiv, wpbin_addT, bind_ok, then_ok, List.length_cons, List.length_nil, Nat.reduceAdd, cx_call, cx_glob, tr_bl, bi_int, bi_abs, bi_lenL, bi_lenS, c_lt, c_le, c_gt, c_ge, c_eqI, c_eqS', c_neS', c_neI, e_isi, ty_int, ty_str, ty_bl, ty_non, ty_tup, ty_lstf, ty_any, bi_min2, Bool.not_true, Bool.not_false, ofO_some, Option.map_some, List.getElem?_cons_succ, List.getElem?_cons_zero, List.set_cons_succ, List.set_cons_zero, Int.reduceLT, Int.reduceLE, Int.reduceNeg, hnn0]
      refine worth_wp hw hs hsc ?_
      simp only [e_var, e_int, e_str, e_bl, e_non, e_glob, e_bin, e_neg, e_cmp, e_and, e_or, e_not, e_call, e_bi, wp_meth, rc_all, true_and, wp_lc, s_try, s_aug, s_augS, isRef_t, if_true, bi_lenT, at_0, at_1, at_2, at_3, at_4, at_5, at_6, at_end, ixN_all, ix_lst, ix_tup, m_join, e_idx, e_slc, e_tup, e_lst, e_dict0, newL_true, newL_false, s_set, s_unp, s_sub, s_expr, s_ret, s_retN, s_pass, s_brk, s_cont, s_raise, ss_nil, wp_sscons, a_nil, a_cons, o_no, o_yes, p_no, p_yes, i_val, i_rg1, i_rg2, wp_for', wp_while, wp_rg, wp_bind, wp_then, wp_seq, wp_ok, wp_ex, wp_nx, wp_rt, wp_bk, wp_ct, wp_xx, wp_ofO, wpO_s, wpO_map, wpTr_t, wpTr_f, wpTr_n, wp_ifs, wp_ife, wp_and1, wp_and2, wp_or1, wp_or2, wp_chain, wpbin_add, wpbin_addS, wpbin_mulS, wpbin_sub, wpbin_mul, wpbin_mod, wpbin_fdiv, wpbin_addT, bind_ok, then_ok, List.length_cons, List.length_nil, Nat.reduceAdd, cx_call, cx_glob, tr_bl, bi_int, bi_abs, bi_lenL, bi_lenS, c_lt, c_le, c_gt, c_ge, c_eqI, c_eqS', c_neS', c_neI, e_isi, ty_int, ty_str, ty_bl, ty_non, ty_tup, ty_lstf, ty_any, bi_min2, Bool.not_true, Bool.not_false, ofO_some, Option.map_some, List.getElem?_cons_succ, List.getElem?_cons_zero, List.set_cons_succ, List.set_cons_zero, Int.reduceLT, Int.reduceLE, Int.reduceNeg, bindT_tup2]
      refine wpTr_d (fun h4 => ?_) (fun h4 => ?_)
      · simp only [e_var, e_int, e_str, e_bl, e_non, e_glob, e_bin, e_neg, e_cmp, e_and, e_or, e_not, e_call, e_bi, wp_meth, rc_all, true_and, wp_lc, s_try, s_aug, s_augS, isRef_t, if_true, bi_lenT, at_0, at_1, at_2, at_3, at_4, at_5, at_6, at_end, ixN_all, ix_lst, ix_tup, m_join, e_idx, e_slc, e_tup, e_lst, e_dict0, newL_true, newL_false, s_set, s_unp, s_sub, s_expr, s_ret, s_retN, s_pass, s_brk, s_cont, s_raise, ss_nil, wp_sscons, a_nil, a_cons, o_no, o_yes, p_no, p_yes, i_val, i_rg1, i_rg2, wp_for', wp_while, wp_rg, wp_bind, wp_then, wp_seq, wp_ok, wp_ex, wp_nx, wp_rt, wp_bk, wp_ct, wp_xx, wp_ofO, wpO_s, wpO_map, wpTr_t, wpTr_f, wpTr_n, wp_ifs, wp_ife, wp_and1, wp_and2, wp_or1, wp_or2, wp_chain, wpbin_add, wpbin_addS, wpbin_mulS, wpbin_sub, wpbin_mul, wpbin_mod, wpbin_fdiv, wpbin_addT, bind_ok, then_ok, List.length_cons, List.length_nil, Nat.reduceAdd, cx_call, cx_glob, tr_bl, bi_int, bi_abs, bi_lenL, bi_lenS, c_lt, c_le, c_gt, c_ge, c_eqI, c_eqS', c_neS', c_neI, e_isi, ty_int, ty_str, ty_bl, ty_non, ty_tup, ty_lstf, ty_any, bi_min2, Bool.not_true, Bool.not_false, ofO_some, Option.map_some, List.getElem?_cons_succ, List.getElem?_cons_zero, List.set_cons_succ, List.set_cons_zero, Int.reduceLT, Int.reduceLE, Int.reduceNeg]
        rw [if_pos (by omega)] at h
        exact gc_i rfl h
      · simp only [e_var, e_int, e_str, e_bl, e_non, e_glob, e_bin, e_neg, e_cmp, e_and, e_or, e_not, e_call, e_bi, wp_meth, rc_all, true_and, wp_lc, s_try, s_aug, s_augS, isRef_t, if_true, bi_lenT, at_0, at_1, at_2, at_3, at_4, at_5, at_6, at_end, ixN_all, ix_lst, ix_tup, m_join, e_idx, e_slc, e_tup, e_lst, e_dict0, newL_true, newL_false, s_set, s_unp, s_sub, s_expr, s_ret, s_retN, s_pass, s_brk, s_cont, s_raise, ss_nil, wp_sscons, a_nil, a_cons, o_no, o_yes, p_no, p_yes, i_val, i_rg1, i_rg2, wp_for', wp_while, wp_rg, wp_bind, wp_then, wp_seq, wp_ok, wp_ex, wp_nx, wp_rt, wp_bk, wp_ct, wp_xx, wp_ofO, wpO_s, wpO_map, wpTr_t, wpTr_f, wpTr_n, wp_ifs, wp_ife, wp_and1, wp_and2, wp_or1, wp_or2, wp_chain, wpbin_add, wpbin_addS, wpbin_mulS, wpbin_sub, wpbin_mul, wpbin_mod, wpbin_fdiv, wpbin_addT, bind_ok, then_ok, List.length_cons, List.length_nil, Nat.reduceAdd, cx_call, cx_glob, tr_bl, bi_int, bi_abs, bi_lenL, bi_lenS, c_lt, c_le, c_gt, c_ge, c_eqI, c_eqS', c_neS', c_neI, e_isi, ty_int, ty_str, ty_bl, ty_non, ty_tup, ty_lstf, ty_any, bi_min2, Bool.not_true, Bool.not_false, ofO_some, Option.map_some, List.getElem?_cons_succ, List.getElem?_cons_zero, List.set_cons_succ, List.set_cons_zero, Int.reduceLT, Int.reduceLE, Int.reduceNeg]
        rw [if_neg (by omega)] at h
        exact gc_i rfl h
theorem told_wp {t : List Nat} (hw : Wf st) (hs : t.length < 999999) (h : Q (dueD (reads t)) st) : (run prog (n + 4) "_law_told" [.str t] st).wp Q X := by
  refine wp_run (fd := d__law_told) rfl rfl ?_
  simp only [d__law_told, List.length_cons, List.length_nil, if_true, T.start, List.map_cons, List.map_nil, Nat.reduceAdd, Nat.reduceSub, List.replicate, List.cons_append, List.nil_append]
  simp only [e_var, e_int, e_str, e_bl, e_non, e_glob, e_bin, e_neg, e_cmp, e_and, e_or, e_not, e_call, e_bi, wp_meth, rc_all, true_and, wp_lc, s_try, s_aug, s_augS, isRef_t, if_true, bi_lenT, at_0, at_1, at_2, at_3, at_4, at_5, at_6, at_end, ixN_all, ix_lst, ix_tup, m_join, e_idx, e_slc, e_tup, e_lst, e_dict0, newL_true, newL_false, s_set, s_unp, s_sub, s_expr, s_ret, s_retN, s_pass, s_brk, s_cont, s_raise, ss_nil, wp_sscons, a_nil, a_cons, o_no, o_yes, p_no, p_yes, i_val, i_rg1, i_rg2, wp_for', wp_while, wp_rg, wp_bind, wp_then, wp_seq, wp_ok, wp_ex, wp_nx, wp_rt, wp_bk, wp_ct, wp_xx, wp_ofO, wpO_s, wpO_map, wpTr_t, wpTr_f, wpTr_n, wp_ifs, wp_ife, wp_and1, wp_and2, wp_or1, wp_or2, wp_chain, wpbin_add, wpbin_addS, wpbin_mulS, wpbin_sub, wpbin_mul, wpbin_mod, wpbin_fdiv, wpbin_addT, bind_ok, then_ok, List.length_cons, List.length_nil, Nat.reduceAdd, cx_call, cx_glob, tr_bl, bi_int, bi_abs, bi_lenL, bi_lenS, c_lt, c_le, c_gt, c_ge, c_eqI, c_eqS', c_neS', c_neI, e_isi, ty_int, ty_str, ty_bl, ty_non, ty_tup, ty_lstf, ty_any, bi_min2, Bool.not_true, Bool.not_false, ofO_some, Option.map_some, List.getElem?_cons_succ, List.getElem?_cons_zero, List.set_cons_succ, List.set_cons_zero, Int.reduceLT, Int.reduceLE, Int.reduceNeg]
  refine calling_wp has hw hs ?_
  have ib : isX (prog.cx (run prog (n + 3))) "BadText" "TouchError" = some true := rfl
  have il : isX (prog.cx (run prog (n + 3))) "TooLong" "TouchError" = some true := rfl
  have xb : (prog.cx (run prog (n + 3))).exc "BadText" = some ⟨["at"], ["BadText", "TouchError", "ValueError", "Exception"]⟩ := rfl
  have xl : (prog.cx (run prog (n + 3))).exc "TooLong" = some ⟨["number"], ["TooLong", "TouchError", "ValueError", "Exception"]⟩ := rfl
  have n1 : (["BadText"].any fun z => ["BadText", "TouchError", "ValueError", "Exception"].contains z) = true := by decide
  have n2 : (["TooLong"].any fun z => ["BadText", "TouchError", "ValueError", "Exception"].contains z) = false := by decide
  have n3 : (["BadText"].any fun z => ["TooLong", "TouchError", "ValueError", "Exception"].contains z) = false := by decide
  have n4 : (["TooLong"].any fun z => ["TooLong", "TouchError", "ValueError", "Exception"].contains z) = true := by decide
  cases hr : reads t with
  | bad i =>
    rw [hr] at h
    simp only [btX]
    simp only [e_var, e_int, e_str, e_bl, e_non, e_glob, e_bin, e_neg, e_cmp, e_and, e_or, e_not, e_call, e_bi, wp_meth, rc_all, true_and, wp_lc, s_try, s_aug, s_augS, isRef_t, if_true, bi_lenT, at_0, at_1, at_2, at_3, at_4, at_5, at_6, at_end, ixN_all, ix_lst, ix_tup, m_join, e_idx, e_slc, e_tup, e_lst, e_dict0, newL_true, newL_false, s_set, s_unp, s_sub, s_expr, s_ret, s_retN, s_pass, s_brk, s_cont, s_raise, ss_nil, wp_sscons, a_nil, a_cons, o_no, o_yes, p_no, p_yes, i_val, i_rg1, i_rg2, wp_for', wp_while, wp_rg, wp_bind, wp_then, wp_seq, wp_ok, wp_ex, wp_nx, wp_rt, wp_bk, wp_ct, wp_xx, wp_ofO, wpO_s, wpO_map, wpTr_t, wpTr_f, wpTr_n, wp_ifs, wp_ife, wp_and1, wp_and2, wp_or1, wp_or2, wp_chain, wpbin_add, wpbin_addS, wpbin_mulS, wpbin_sub, wpbin_mul, wpbin_mod, wpbin_fdiv, wpbin_addT, bind_ok, then_ok, List.length_cons, List.length_nil, Nat.reduceAdd, cx_call, cx_glob, tr_bl, bi_int, bi_abs, bi_lenL, bi_lenS, c_lt, c_le, c_gt, c_ge, c_eqI, c_eqS', c_neS', c_neI, e_isi, ty_int, ty_str, ty_bl, ty_non, ty_tup, ty_lstf, ty_any, bi_min2, Bool.not_true, Bool.not_false, ofO_some, Option.map_some, List.getElem?_cons_succ, List.getElem?_cons_zero, List.set_cons_succ, List.set_cons_zero, Int.reduceLT, Int.reduceLE, Int.reduceNeg, ib, evE, xb, n1, n2, Nat.reduceLT, List.mem_singleton, List.lookup, beq_self_eq_true]
    exact gc_i rfl h
  | long m =>
    rw [hr] at h
    simp only [tlX]
    simp only [e_var, e_int, e_str, e_bl, e_non, e_glob, e_bin, e_neg, e_cmp, e_and, e_or, e_not, e_call, e_bi, wp_meth, rc_all, true_and, wp_lc, s_try, s_aug, s_augS, isRef_t, if_true, bi_lenT, at_0, at_1, at_2, at_3, at_4, at_5, at_6, at_end, ixN_all, ix_lst, ix_tup, m_join, e_idx, e_slc, e_tup, e_lst, e_dict0, newL_true, newL_false, s_set, s_unp, s_sub, s_expr, s_ret, s_retN, s_pass, s_brk, s_cont, s_raise, ss_nil, wp_sscons, a_nil, a_cons, o_no, o_yes, p_no, p_yes, i_val, i_rg1, i_rg2, wp_for', wp_while, wp_rg, wp_bind, wp_then, wp_seq, wp_ok, wp_ex, wp_nx, wp_rt, wp_bk, wp_ct, wp_xx, wp_ofO, wpO_s, wpO_map, wpTr_t, wpTr_f, wpTr_n, wp_ifs, wp_ife, wp_and1, wp_and2, wp_or1, wp_or2, wp_chain, wpbin_add, wpbin_addS, wpbin_mulS, wpbin_sub, wpbin_mul, wpbin_mod, wpbin_fdiv, wpbin_addT, bind_ok, then_ok, List.length_cons, List.length_nil, Nat.reduceAdd, cx_call, cx_glob, tr_bl, bi_int, bi_abs, bi_lenL, bi_lenS, c_lt, c_le, c_gt, c_ge, c_eqI, c_eqS', c_neS', c_neI, e_isi, ty_int, ty_str, ty_bl, ty_non, ty_tup, ty_lstf, ty_any, bi_min2, Bool.not_true, Bool.not_false, ofO_some, Option.map_some, List.getElem?_cons_succ, List.getElem?_cons_zero, List.set_cons_succ, List.set_cons_zero, Int.reduceLT, Int.reduceLE, Int.reduceNeg, il, evE, xl, n3, n4, Nat.reduceLT, List.mem_singleton, List.lookup, beq_self_eq_true]
    exact gc_i rfl h
  | good w =>
    rw [hr] at h
    simp only [e_var, e_int, e_str, e_bl, e_non, e_glob, e_bin, e_neg, e_cmp, e_and, e_or, e_not, e_call, e_bi, wp_meth, rc_all, true_and, wp_lc, s_try, s_aug, s_augS, isRef_t, if_true, bi_lenT, at_0, at_1, at_2, at_3, at_4, at_5, at_6, at_end, ixN_all, ix_lst, ix_tup, m_join, e_idx, e_slc, e_tup, e_lst, e_dict0, newL_true, newL_false, s_set, s_unp, s_sub, s_expr, s_ret, s_retN, s_pass, s_brk, s_cont, s_raise, ss_nil, wp_sscons, a_nil, a_cons, o_no, o_yes, p_no, p_yes, i_val, i_rg1, i_rg2, wp_for', wp_while, wp_rg, wp_bind, wp_then, wp_seq, wp_ok, wp_ex, wp_nx, wp_rt, wp_bk, wp_ct, wp_xx, wp_ofO, wpO_s, wpO_map, wpTr_t, wpTr_f, wpTr_n, wp_ifs, wp_ife, wp_and1, wp_and2, wp_or1, wp_or2, wp_chain, wpbin_add, wpbin_addS, wpbin_mulS, wpbin_sub, wpbin_mul, wpbin_mod, wpbin_fdiv, wpbin_addT, bind_ok, then_ok, List.length_cons, List.length_nil, Nat.reduceAdd, cx_call, cx_glob, tr_bl, bi_int, bi_abs, bi_lenL, bi_lenS, c_lt, c_le, c_gt, c_ge, c_eqI, c_eqS', c_neS', c_neI, e_isi, ty_int, ty_str, ty_bl, ty_non, ty_tup, ty_lstf, ty_any, bi_min2, Bool.not_true, Bool.not_false, ofO_some, Option.map_some, List.getElem?_cons_succ, List.getElem?_cons_zero, List.set_cons_succ, List.set_cons_zero, Int.reduceLT, Int.reduceLE, Int.reduceNeg]
    exact gc_i rfl h
theorem told_odd {d : D} {ty : String} (ht : tyName st d = some ty) (hn : (["str"].any (isTy ty)) = false) (h : Q (dueD (.bad 0)) st → True) (h' : Q (.tup [.str ("text".toList.map Char.toNat), .int (-1)]) st) : (run prog (n + 2) "_law_told" [d] st).wp Q X := by
  refine wp_run (fd := d__law_told) rfl rfl ?_
  simp only [d__law_told, List.length_cons, List.length_nil, if_true, T.start, List.map_cons, List.map_nil, Nat.reduceAdd, Nat.reduceSub, List.replicate, List.cons_append, List.nil_append]
  simp only [e_var, e_int, e_str, e_bl, e_non, e_glob, e_bin, e_neg, e_cmp, e_and, e_or, e_not, e_call, e_bi, wp_meth, rc_all, true_and, wp_lc, s_try, s_aug, s_augS, isRef_t, if_true, bi_lenT, at_0, at_1, at_2, at_3, at_4, at_5, at_6, at_end, ixN_all, ix_lst, ix_tup, m_join, e_idx, e_slc, e_tup, e_lst, e_dict0, newL_true, newL_false, s_set, s_unp, s_sub, s_expr, s_ret, s_retN, s_pass, s_brk, s_cont, s_raise, ss_nil, wp_sscons, a_nil, a_cons, o_no, o_yes, p_no, p_yes, i_val, i_rg1, i_rg2, wp_for', wp_while, wp_rg, wp_bind, wp_then, wp_seq, wp_ok, wp_ex, wp_nx, wp_rt, wp_bk, wp_ct, wp_xx, wp_ofO, wpO_s, wpO_map, wpTr_t, wpTr_f, wpTr_n, wp_ifs, wp_ife, wp_and1, wp_and2, wp_or1, wp_or2, wp_chain, wpbin_add, wpbin_addS, wpbin_mulS, wpbin_sub, wpbin_mul, wpbin_mod, wpbin_fdiv, wpbin_addT, bind_ok, then_ok, List.length_cons, List.length_nil, Nat.reduceAdd, cx_call, cx_glob, tr_bl, bi_int, bi_abs, bi_lenL, bi_lenS, c_lt, c_le, c_gt, c_ge, c_eqI, c_eqS', c_neS', c_neI, e_isi, ty_int, ty_str, ty_bl, ty_non, ty_tup, ty_lstf, ty_any, bi_min2, Bool.not_true, Bool.not_false, ofO_some, Option.map_some, List.getElem?_cons_succ, List.getElem?_cons_zero, List.set_cons_succ, List.set_cons_zero, Int.reduceLT, Int.reduceLE, Int.reduceNeg]
  refine calling_odd has ht hn ?_
  have ib : isX (prog.cx (run prog (n + 1))) "BadText" "TouchError" = some true := rfl
  have xb : (prog.cx (run prog (n + 1))).exc "BadText" = some ⟨["at"], ["BadText", "TouchError", "ValueError", "Exception"]⟩ := rfl
  have n1 : (["BadText"].any fun z => ["BadText", "TouchError", "ValueError", "Exception"].contains z) = true := by decide
  have n2 : (["TooLong"].any fun z => ["BadText", "TouchError", "ValueError", "Exception"].contains z) = false := by decide
  simp only [btX]
  simp only [e_var, e_int, e_str, e_bl, e_non, e_glob, e_bin, e_neg, e_cmp, e_and, e_or, e_not, e_call, e_bi, wp_meth, rc_all, true_and, wp_lc, s_try, s_aug, s_augS, isRef_t, if_true, bi_lenT, at_0, at_1, at_2, at_3, at_4, at_5, at_6, at_end, ixN_all, ix_lst, ix_tup, m_join, e_idx, e_slc, e_tup, e_lst, e_dict0, newL_true, newL_false, s_set, s_unp, s_sub, s_expr, s_ret, s_retN, s_pass, s_brk, s_cont, s_raise, ss_nil, wp_sscons, a_nil, a_cons, o_no, o_yes, p_no, p_yes, i_val, i_rg1, i_rg2, wp_for', wp_while, wp_rg, wp_bind, wp_then, wp_seq, wp_ok, wp_ex, wp_nx, wp_rt, wp_bk, wp_ct, wp_xx, wp_ofO, wpO_s, wpO_map, wpTr_t, wpTr_f, wpTr_n, wp_ifs, wp_ife, wp_and1, wp_and2, wp_or1, wp_or2, wp_chain, wpbin_add, wpbin_addS, wpbin_mulS, wpbin_sub, wpbin_mul, wpbin_mod, wpbin_fdiv, wpbin_addT, bind_ok, then_ok, List.length_cons, List.length_nil, Nat.reduceAdd, cx_call, cx_glob, tr_bl, bi_int, bi_abs, bi_lenL, bi_lenS, c_lt, c_le, c_gt, c_ge, c_eqI, c_eqS', c_neS', c_neI, e_isi, ty_int, ty_str, ty_bl, ty_non, ty_tup, ty_lstf, ty_any, bi_min2, Bool.not_true, Bool.not_false, ofO_some, Option.map_some, List.getElem?_cons_succ, List.getElem?_cons_zero, List.set_cons_succ, List.set_cons_zero, Int.reduceLT, Int.reduceLE, Int.reduceNeg, ib, evE, xb, n1, n2, Nat.reduceLT, List.mem_singleton, List.lookup, beq_self_eq_true]
  exact gc_i rfl h'
theorem isint_wp {i : Int} (H : Q (.bl true) st) : (run prog (n + 1) "_law_is_int" [.int i] st).wp Q X := by
  refine wp_run (fd := d__law_is_int) rfl rfl ?_
  simp only [d__law_is_int, List.length_cons, List.length_nil, if_true, T.start, List.map_cons, List.map_nil, Nat.reduceAdd, Nat.reduceSub, List.replicate, List.cons_append, List.nil_append]
  simp only [e_var, e_int, e_str, e_bl, e_non, e_glob, e_bin, e_neg, e_cmp, e_and, e_or, e_not, e_call, e_bi, wp_meth, rc_all, true_and, wp_lc, s_try, s_aug, s_augS, isRef_t, if_true, bi_lenT, at_0, at_1, at_2, at_3, at_4, at_5, at_6, at_end, ixN_all, ix_lst, ix_tup, m_join, e_idx, e_slc, e_tup, e_lst, e_dict0, newL_true, newL_false, s_set, s_unp, s_sub, s_expr, s_ret, s_retN, s_pass, s_brk, s_cont, s_raise, ss_nil, wp_sscons, a_nil, a_cons, o_no, o_yes, p_no, p_yes, i_val, i_rg1, i_rg2, wp_for', wp_while, wp_rg, wp_bind, wp_then, wp_seq, wp_ok, wp_ex, wp_nx, wp_rt, wp_bk, wp_ct, wp_xx, wp_ofO, wpO_s, wpO_map, wpTr_t, wpTr_f, wpTr_n, wp_ifs, wp_ife, wp_and1, wp_and2, wp_or1, wp_or2, wp_chain, wpbin_add, wpbin_addS, wpbin_mulS, wpbin_sub, wpbin_mul, wpbin_mod, wpbin_fdiv, wpbin_addT, bind_ok, then_ok, List.length_cons, List.length_nil, Nat.reduceAdd, cx_call, cx_glob, tr_bl, bi_int, bi_abs, bi_lenL, bi_lenS, c_lt, c_le, c_gt, c_ge, c_eqI, c_eqS', c_neS', c_neI, e_isi, ty_int, ty_str, ty_bl, ty_non, ty_tup, ty_lstf, ty_any, bi_min2, Bool.not_true, Bool.not_false, ofO_some, Option.map_some, List.getElem?_cons_succ, List.getElem?_cons_zero, List.set_cons_succ, List.set_cons_zero, Int.reduceLT, Int.reduceLE, Int.reduceNeg]
  exact gc_i rfl H
theorem is_told_wp {t : List Nat} (hw : Wf st) (hs : t.length < 999999) (H : Q (.bl true) st) : (run prog (n + 5) "_law_is_told" [.str t] st).wp Q X := by
  refine wp_run (fd := d__law_is_told) rfl rfl ?_
  simp only [d__law_is_told, List.length_cons, List.length_nil, if_true, T.start, List.map_cons, List.map_nil, Nat.reduceAdd, Nat.reduceSub, List.replicate, List.cons_append, List.nil_append]
  simp only [e_var, e_int, e_str, e_bl, e_non, e_glob, e_bin, e_neg, e_cmp, e_and, e_or, e_not, e_call, e_bi, wp_meth, rc_all, true_and, wp_lc, s_try, s_aug, s_augS, isRef_t, if_true, bi_lenT, at_0, at_1, at_2, at_3, at_4, at_5, at_6, at_end, ixN_all, ix_lst, ix_tup, m_join, e_idx, e_slc, e_tup, e_lst, e_dict0, newL_true, newL_false, s_set, s_unp, s_sub, s_expr, s_ret, s_retN, s_pass, s_brk, s_cont, s_raise, ss_nil, wp_sscons, a_nil, a_cons, o_no, o_yes, p_no, p_yes, i_val, i_rg1, i_rg2, wp_for', wp_while, wp_rg, wp_bind, wp_then, wp_seq, wp_ok, wp_ex, wp_nx, wp_rt, wp_bk, wp_ct, wp_xx, wp_ofO, wpO_s, wpO_map, wpTr_t, wpTr_f, wpTr_n, wp_ifs, wp_ife, wp_and1, wp_and2, wp_or1, wp_or2, wp_chain, wpbin_add, wpbin_addS, wpbin_mulS, wpbin_sub, wpbin_mul, wpbin_mod, wpbin_fdiv, wpbin_addT, bind_ok, then_ok, List.length_cons, List.length_nil, Nat.reduceAdd, cx_call, cx_glob, tr_bl, bi_int, bi_abs, bi_lenL, bi_lenS, c_lt, c_le, c_gt, c_ge, c_eqI, c_eqS', c_neS', c_neI, e_isi, ty_int, ty_str, ty_bl, ty_non, ty_tup, ty_lstf, ty_any, bi_min2, Bool.not_true, Bool.not_false, ofO_some, Option.map_some, List.getElem?_cons_succ, List.getElem?_cons_zero, List.set_cons_succ, List.set_cons_zero, Int.reduceLT, Int.reduceLE, Int.reduceNeg]
  refine due_wp (n := n + 1) hw hs ?_
  simp only [e_var, e_int, e_str, e_bl, e_non, e_glob, e_bin, e_neg, e_cmp, e_and, e_or, e_not, e_call, e_bi, wp_meth, rc_all, true_and, wp_lc, s_try, s_aug, s_augS, isRef_t, if_true, bi_lenT, at_0, at_1, at_2, at_3, at_4, at_5, at_6, at_end, ixN_all, ix_lst, ix_tup, m_join, e_idx, e_slc, e_tup, e_lst, e_dict0, newL_true, newL_false, s_set, s_unp, s_sub, s_expr, s_ret, s_retN, s_pass, s_brk, s_cont, s_raise, ss_nil, wp_sscons, a_nil, a_cons, o_no, o_yes, p_no, p_yes, i_val, i_rg1, i_rg2, wp_for', wp_while, wp_rg, wp_bind, wp_then, wp_seq, wp_ok, wp_ex, wp_nx, wp_rt, wp_bk, wp_ct, wp_xx, wp_ofO, wpO_s, wpO_map, wpTr_t, wpTr_f, wpTr_n, wp_ifs, wp_ife, wp_and1, wp_and2, wp_or1, wp_or2, wp_chain, wpbin_add, wpbin_addS, wpbin_mulS, wpbin_sub, wpbin_mul, wpbin_mod, wpbin_fdiv, wpbin_addT, bind_ok, then_ok, List.length_cons, List.length_nil, Nat.reduceAdd, cx_call, cx_glob, tr_bl, bi_int, bi_abs, bi_lenL, bi_lenS, c_lt, c_le, c_gt, c_ge, c_eqI, c_eqS', c_neS', c_neI, e_isi, ty_int, ty_str, ty_bl, ty_non, ty_tup, ty_lstf, ty_any, bi_min2, Bool.not_true, Bool.not_false, ofO_some, Option.map_some, List.getElem?_cons_succ, List.getElem?_cons_zero, List.set_cons_succ, List.set_cons_zero, Int.reduceLT, Int.reduceLE, Int.reduceNeg]
  refine told_wp hw hs ?_
  have z : ∀ {s : List Nat}, decide (s = s) = true := fun {s} => decide_eq_true rfl
  have k1 : decide (("text".toList.map Char.toNat) = ("calling".toList.map Char.toNat)) = false := by decide
  have k2 : decide (("long".toList.map Char.toNat) = ("calling".toList.map Char.toNat)) = false := by decide
  cases reads t with
  | bad i =>
    simp only [dueD]
    simp only [e_var, e_int, e_str, e_bl, e_non, e_glob, e_bin, e_neg, e_cmp, e_and, e_or, e_not, e_call, e_bi, wp_meth, rc_all, true_and, wp_lc, s_try, s_aug, s_augS, isRef_t, if_true, bi_lenT, at_0, at_1, at_2, at_3, at_4, at_5, at_6, at_end, ixN_all, ix_lst, ix_tup, m_join, e_idx, e_slc, e_tup, e_lst, e_dict0, newL_true, newL_false, s_set, s_unp, s_sub, s_expr, s_ret, s_retN, s_pass, s_brk, s_cont, s_raise, ss_nil, wp_sscons, a_nil, a_cons, o_no, o_yes, p_no, p_yes, i_val, i_rg1, i_rg2, wp_for', wp_while, wp_rg, wp_bind, wp_then, wp_seq, wp_ok, wp_ex, wp_nx, wp_rt, wp_bk, wp_ct, wp_xx, wp_ofO, wpO_s, wpO_map, wpTr_t, wpTr_f, wpTr_n, wp_ifs, wp_ife, wp_and1, wp_and2, wp_or1, wp_or2, wp_chain, wpbin_add, wpbin_addS, wpbin_mulS, wpbin_sub, wpbin_mul, wpbin_mod, wpbin_fdiv, wpbin_addT, bind_ok, then_ok, List.length_cons, List.length_nil, Nat.reduceAdd, cx_call, cx_glob, tr_bl, bi_int, bi_abs, bi_lenL, bi_lenS, c_lt, c_le, c_gt, c_ge, c_eqI, c_eqS', c_neS', c_neI, e_isi, ty_int, ty_str, ty_bl, ty_non, ty_tup, ty_lstf, ty_any, bi_min2, Bool.not_true, Bool.not_false, ofO_some, Option.map_some, List.getElem?_cons_succ, List.getElem?_cons_zero, List.set_cons_succ, List.set_cons_zero, Int.reduceLT, Int.reduceLE, Int.reduceNeg, decide_true, k1]
    exact isint_wp (gc_i rfl H)
  | long m =>
    simp only [dueD]
    simp only [e_var, e_int, e_str, e_bl, e_non, e_glob, e_bin, e_neg, e_cmp, e_and, e_or, e_not, e_call, e_bi, wp_meth, rc_all, true_and, wp_lc, s_try, s_aug, s_augS, isRef_t, if_true, bi_lenT, at_0, at_1, at_2, at_3, at_4, at_5, at_6, at_end, ixN_all, ix_lst, ix_tup, m_join, e_idx, e_slc, e_tup, e_lst, e_dict0, newL_true, newL_false, s_set, s_unp, s_sub, s_expr, s_ret, s_retN, s_pass, s_brk, s_cont, s_raise, ss_nil, wp_sscons, a_nil, a_cons, o_no, o_yes, p_no, p_yes, i_val, i_rg1, i_rg2, wp_for', wp_while, wp_rg, wp_bind, wp_then, wp_seq, wp_ok, wp_ex, wp_nx, wp_rt, wp_bk, wp_ct, wp_xx, wp_ofO, wpO_s, wpO_map, wpTr_t, wpTr_f, wpTr_n, wp_ifs, wp_ife, wp_and1, wp_and2, wp_or1, wp_or2, wp_chain, wpbin_add, wpbin_addS, wpbin_mulS, wpbin_sub, wpbin_mul, wpbin_mod, wpbin_fdiv, wpbin_addT, bind_ok, then_ok, List.length_cons, List.length_nil, Nat.reduceAdd, cx_call, cx_glob, tr_bl, bi_int, bi_abs, bi_lenL, bi_lenS, c_lt, c_le, c_gt, c_ge, c_eqI, c_eqS', c_neS', c_neI, e_isi, ty_int, ty_str, ty_bl, ty_non, ty_tup, ty_lstf, ty_any, bi_min2, Bool.not_true, Bool.not_false, ofO_some, Option.map_some, List.getElem?_cons_succ, List.getElem?_cons_zero, List.set_cons_succ, List.set_cons_zero, Int.reduceLT, Int.reduceLE, Int.reduceNeg, decide_true, k2]
    exact isint_wp (gc_i rfl H)
  | good w =>
    simp only [dueD]
    simp only [e_var, e_int, e_str, e_bl, e_non, e_glob, e_bin, e_neg, e_cmp, e_and, e_or, e_not, e_call, e_bi, wp_meth, rc_all, true_and, wp_lc, s_try, s_aug, s_augS, isRef_t, if_true, bi_lenT, at_0, at_1, at_2, at_3, at_4, at_5, at_6, at_end, ixN_all, ix_lst, ix_tup, m_join, e_idx, e_slc, e_tup, e_lst, e_dict0, newL_true, newL_false, s_set, s_unp, s_sub, s_expr, s_ret, s_retN, s_pass, s_brk, s_cont, s_raise, ss_nil, wp_sscons, a_nil, a_cons, o_no, o_yes, p_no, p_yes, i_val, i_rg1, i_rg2, wp_for', wp_while, wp_rg, wp_bind, wp_then, wp_seq, wp_ok, wp_ex, wp_nx, wp_rt, wp_bk, wp_ct, wp_xx, wp_ofO, wpO_s, wpO_map, wpTr_t, wpTr_f, wpTr_n, wp_ifs, wp_ife, wp_and1, wp_and2, wp_or1, wp_or2, wp_chain, wpbin_add, wpbin_addS, wpbin_mulS, wpbin_sub, wpbin_mul, wpbin_mod, wpbin_fdiv, wpbin_addT, bind_ok, then_ok, List.length_cons, List.length_nil, Nat.reduceAdd, cx_call, cx_glob, tr_bl, bi_int, bi_abs, bi_lenL, bi_lenS, c_lt, c_le, c_gt, c_ge, c_eqI, c_eqS', c_neS', c_neI, e_isi, ty_int, ty_str, ty_bl, ty_non, ty_tup, ty_lstf, ty_any, bi_min2, Bool.not_true, Bool.not_false, ofO_some, Option.map_some, List.getElem?_cons_succ, List.getElem?_cons_zero, List.set_cons_succ, List.set_cons_zero, Int.reduceLT, Int.reduceLE, Int.reduceNeg, decide_true]
    exact gc_i rfl H
end
end K07
end T
set_option Elab.async false
set_option linter.all false
set_option autoImplicit false
set_option maxRecDepth 100000
set_option maxHeartbeats 4000000
/-! # K07r: the plain law of k07: what is drawn, the law -/
namespace T
theorem pick_wp {P : Prog} (h1 : P.defs "_law_mix" = some d__law_mix) (h2 : P.defs "_law_pick" = some d__law_pick) {n k : Nat} {d : Drw} (ok : d.Ok) {many : Int} (hm : many < 1073741824) {st : Store} (hk : st[k]? = some d.O) {Q : D → Store → Prop} {X : Exn → Store → Prop}
    (H : ∀ (r : Int) (d' : Drw), d'.Ok → 0 ≤ r → (r < many ∨ r = 0) → Q (.int r) (st.set k d'.O)) : (run P (n + 2) "_law_pick" [.ref k, .int many] st).wp Q X := by
  obtain ⟨r, d', _, ok', _, ⟨hr0, hr⟩, e⟩ := (pick_ok (n := n) h1 h2 ok hm hk).ex
  exact wp_of e (H r d' ok' hr0 hr)
theorem at_in {l : List D} {q : Int} (h0 : 0 ≤ q) (h1 : q < l.length) : ∃ d ∈ l, L2.atI l q = some d := by
  obtain ⟨k, rfl⟩ : ∃ k : Nat, q = k := ⟨q.toNat, by omega⟩
  have hk : k < l.length := by omega
  exact ⟨l[k], List.getElem_mem hk, by rw [atI_nat]; exact List.getElem?_eq_getElem hk⟩
theorem ix_strI {s : List Nat} {q : Int} {st : Store} (h0 : 0 ≤ q) (h1 : q < s.length) : ∃ c ∈ s, index (.str s) (.int q) st = .ok (.str [c]) st := by
  obtain ⟨k, rfl⟩ : ∃ k : Nat, q = k := ⟨q.toNat, by omega⟩
  have hk : k < s.length := by omega
  exact ⟨s[k], List.getElem_mem hk, Ct.ix_str hk⟩
theorem cut_lo {l : List Nat} {j : Nat} (h : j ≤ l.length) : cut l none (some (j : Int)) = l.take j := by
  unfold cut
  rw [HT.sIx_nat]
  show (l.drop (HT.sIx l.length 0 none)).take _ = _
  have e : HT.sIx l.length 0 none = 0 := rfl
  rw [e, List.drop_zero, Nat.sub_zero, Nat.min_eq_left h]
theorem cut_hi {l : List Nat} {j : Nat} : cut l (some (j : Int)) none = l.drop j := by
  unfold cut
  rw [HT.sIx_nat]
  have e : HT.sIx l.length l.length none = l.length := rfl
  rw [e]
  by_cases h : j ≤ l.length
  · rw [Nat.min_eq_left h, List.take_of_length_le (by rw [List.length_drop]; exact Nat.le_refl _)]
  · rw [List.drop_eq_nil_of_le (show l.length ≤ j by omega), List.drop_eq_nil_of_le (by omega), List.take_nil]
theorem wf_drw {d d' : Drw} {r : Store} (h : Wf (d.O :: r)) : Wf (d'.O :: r) := by
  unfold Wf at h ⊢
  simp only [List.length_cons, List.all_cons, bel_drw, Bool.true_and] at h ⊢
  exact h
namespace K07
open Ct
section
variable {n : Nat} {Q : D → Store → Prop} {X : Exn → Store → Prop} {d : Drw} {r : Store}
theorem pick0 (ok : d.Ok) {many : Int} (hm : many < 1073741824) (H : ∀ (q : Int) (d' : Drw), d'.Ok → 0 ≤ q → (q < many ∨ q = 0) → Q (.int q) (d'.O :: r)) : (run prog (n + 2) "_law_pick" [.ref 0, .int many] (d.O :: r)).wp Q X :=
  pick_wp p_mix p_pick ok hm rfl H
theorem num_small : ∀ k : Nat, k < 130 → (numS k).length ≤ 3 := by decide +kernel
theorem strI {fz : Bool} {k : Int} {st : Store} (h0 : 0 ≤ k) (h : k < 130) : ∃ s : List Nat, s.length ≤ 3 ∧ builtin .str fz [.int k] st = .ok (.str s) st := by
  obtain ⟨k, rfl⟩ : ∃ j : Nat, k = j := ⟨k.toNat, by omega⟩
  refine ⟨numS k, num_small k (by omega), ?_⟩
  simp only [builtin]
  have hl : (k : Int).natAbs.log2 < 1920 := by rw [Int.natAbs_natCast]; exact Nat.lt_of_le_of_lt (Nat.log2_le_self k) (by omega)
  rw [if_pos hl]
  unfold lim1
  rw [if_pos (by have := num_small k (by omega); rw [lim_v]; omega)]
theorem number_wp (ok : d.Ok) (H : ∀ (s : List Nat) (d' : Drw), d'.Ok → s.length ≤ 3 → Q (.str s) (d'.O :: r)) : (run prog (n + 3) "_law_number" [.ref 0] (d.O :: r)).wp Q X := by
  refine wp_run (fd := d__law_number) rfl rfl ?_
  simp only [d__law_number, List.length_cons, List.length_nil, if_true, T.start, List.map_cons, List.map_nil, Nat.reduceAdd, Nat.reduceSub, List.replicate, List.cons_append, List.nil_append]
  simp only [e_var, e_int, e_str, e_bl, e_non, e_glob, e_bin, e_neg, e_cmp, e_and, e_or, e_not, e_call, e_bi, wp_meth, rc_all, true_and, wp_lc, s_try, s_aug, s_augS, isRef_t, if_true, bi_lenT, at_0, at_1, at_2, at_3, at_4, at_5, at_6, at_end, ixN_all, ix_lst, ix_tup, m_join, e_idx, e_slc, e_tup, e_lst, e_dict0, newL_true, newL_false, s_set, s_unp, s_sub, s_expr, s_ret, s_retN, s_pass, s_brk, s_cont, s_raise, ss_nil, wp_sscons, a_nil, a_cons, o_no, o_yes, p_no, p_yes, i_val, i_rg1, i_rg2, wp_for', wp_while, wp_rg, wp_bind, wp_then, wp_seq, wp_ok, wp_ex, wp_nx, wp_rt, wp_bk, wp_ct, wp_xx, wp_ofO, wpO_s, wpO_map, wpTr_t, wpTr_f, wpTr_n, wp_ifs, wp_ife, wp_and1, wp_and2, wp_or1, wp_or2, wp_chain, wpbin_add, wpbin_addS, wpbin_mulS, wpbin_sub, wpbin_mul, wpbin_mod, wpbin_fdiv, wpbin_addT, bind_ok, then_ok, List.length_cons, List.length_nil, Nat.reduceAdd, cx_call, cx_glob, tr_bl, bi_int, bi_abs, bi_lenL, bi_lenS, c_lt, c_le, c_gt, c_ge, c_eqI, c_eqS', c_neS', c_neI, e_isi, ty_int, ty_str, ty_bl, ty_non, ty_tup, ty_lstf, ty_any, bi_min2, Bool.not_true, Bool.not_false, ofO_some, Option.map_some, List.getElem?_cons_succ, List.getElem?_cons_zero, List.set_cons_succ, List.set_cons_zero, Int.reduceLT, Int.reduceLE, Int.reduceNeg]
  refine pick0 ok (by omega) fun q d1 ok1 q0 q1 => ?_
  simp only [e_var, e_int, e_str, e_bl, e_non, e_glob, e_bin, e_neg, e_cmp, e_and, e_or, e_not, e_call, e_bi, wp_meth, rc_all, true_and, wp_lc, s_try, s_aug, s_augS, isRef_t, if_true, bi_lenT, at_0, at_1, at_2, at_3, at_4, at_5, at_6, at_end, ixN_all, ix_lst, ix_tup, m_join, e_idx, e_slc, e_tup, e_lst, e_dict0, newL_true, newL_false, s_set, s_unp, s_sub, s_expr, s_ret, s_retN, s_pass, s_brk, s_cont, s_raise, ss_nil, wp_sscons, a_nil, a_cons, o_no, o_yes, p_no, p_yes, i_val, i_rg1, i_rg2, wp_for', wp_while, wp_rg, wp_bind, wp_then, wp_seq, wp_ok, wp_ex, wp_nx, wp_rt, wp_bk, wp_ct, wp_xx, wp_ofO, wpO_s, wpO_map, wpTr_t, wpTr_f, wpTr_n, wp_ifs, wp_ife, wp_and1, wp_and2, wp_or1, wp_or2, wp_chain, wpbin_add, wpbin_addS, wpbin_mulS, wpbin_sub, wpbin_mul, wpbin_mod, wpbin_fdiv, wpbin_addT, bind_ok, then_ok, List.length_cons, List.length_nil, Nat.reduceAdd, cx_call, cx_glob, tr_bl, bi_int, bi_abs, bi_lenL, bi_lenS, c_lt, c_le, c_gt, c_ge, c_eqI, c_eqS', c_neS', c_neI, e_isi, ty_int, ty_str, ty_bl, ty_non, ty_tup, ty_lstf, ty_any, bi_min2, Bool.not_true, Bool.not_false, ofO_some, Option.map_some, List.getElem?_cons_succ, List.getElem?_cons_zero, List.set_cons_succ, List.set_cons_zero, Int.reduceLT, Int.reduceLE, Int.reduceNeg]
  refine wpTr_d (fun h => ?_) (fun h => ?_)
  · simp only [e_var, e_int, e_str, e_bl, e_non, e_glob, e_bin, e_neg, e_cmp, e_and, e_or, e_not, e_call, e_bi, wp_meth, rc_all, true_and, wp_lc, s_try, s_aug, s_augS, isRef_t, if_true, bi_lenT, at_0, at_1, at_2, at_3, at_4, at_5, at_6, at_end, ixN_all, ix_lst, ix_tup, m_join, e_idx, e_slc, e_tup, e_lst, e_dict0, newL_true, newL_false, s_set, s_unp, s_sub, s_expr, s_ret, s_retN, s_pass, s_brk, s_cont, s_raise, ss_nil, wp_sscons, a_nil, a_cons, o_no, o_yes, p_no, p_yes, i_val, i_rg1, i_rg2, wp_for', wp_while, wp_rg, wp_bind, wp_then, wp_seq, wp_ok, wp_ex, wp_nx, wp_rt, wp_bk, wp_ct, wp_xx, wp_ofO, wpO_s, wpO_map, wpTr_t, wpTr_f, wpTr_n, wp_ifs, wp_ife, wp_and1, wp_and2, wp_or1, wp_or2, wp_chain, wpbin_add, wpbin_addS, wpbin_mulS, wpbin_sub, wpbin_mul, wpbin_mod, wpbin_fdiv, wpbin_addT, bind_ok, then_ok, List.length_cons, List.length_nil, Nat.reduceAdd, cx_call, cx_glob, tr_bl, bi_int, bi_abs, bi_lenL, bi_lenS, c_lt, c_le, c_gt, c_ge, c_eqI, c_eqS', c_neS', c_neI, e_isi, ty_int, ty_str, ty_bl, ty_non, ty_tup, ty_lstf, ty_any, bi_min2, Bool.not_true, Bool.not_false, ofO_some, Option.map_some, List.getElem?_cons_succ, List.getElem?_cons_zero, List.set_cons_succ, List.set_cons_zero, Int.reduceLT, Int.reduceLE, Int.reduceNeg]
    obtain ⟨x, hx, e⟩ := at_in (l := [D.str ("2".toList.map Char.toNat), D.str ("3".toList.map Char.toNat), D.str ("2".toList.map Char.toNat), D.str ("4".toList.map Char.toNat), D.str ("03".toList.map Char.toNat)]) q0 (by show q < 5; omega)
    simp only [e_var, e_int, e_str, e_bl, e_non, e_glob, e_bin, e_neg, e_cmp, e_and, e_or, e_not, e_call, e_bi, wp_meth, rc_all, true_and, wp_lc, s_try, s_aug, s_augS, isRef_t, if_true, bi_lenT, at_0, at_1, at_2, at_3, at_4, at_5, at_6, at_end, ixN_all, ix_lst, ix_tup, m_join, e_idx, e_slc, e_tup, e_lst, e_dict0, newL_true, newL_false, s_set, s_unp, s_sub, s_expr, s_ret, s_retN, s_pass, s_brk, s_cont, s_raise, ss_nil, wp_sscons, a_nil, a_cons, o_no, o_yes, p_no, p_yes, i_val, i_rg1, i_rg2, wp_for', wp_while, wp_rg, wp_bind, wp_then, wp_seq, wp_ok, wp_ex, wp_nx, wp_rt, wp_bk, wp_ct, wp_xx, wp_ofO, wpO_s, wpO_map, wpTr_t, wpTr_f, wpTr_n, wp_ifs, wp_ife, wp_and1, wp_and2, wp_or1, wp_or2, wp_chain, wpbin_add, wpbin_addS, wpbin_mulS, wpbin_sub, wpbin_mul, wpbin_mod, wpbin_fdiv, wpbin_addT, bind_ok, then_ok, List.length_cons, List.length_nil, Nat.reduceAdd, cx_call, cx_glob, tr_bl, bi_int, bi_abs, bi_lenL, bi_lenS, c_lt, c_le, c_gt, c_ge, c_eqI, c_eqS', c_neS', c_neI, e_isi, ty_int, ty_str, ty_bl, ty_non, ty_tup, ty_lstf, ty_any, bi_min2, Bool.not_true, Bool.not_false, ofO_some, Option.map_some, List.getElem?_cons_succ, List.getElem?_cons_zero, List.set_cons_succ, List.set_cons_zero, Int.reduceLT, Int.reduceLE, Int.reduceNeg, e]
    simp only [List.mem_cons, List.not_mem_nil, or_false] at hx
    rcases hx with rfl | rfl | rfl | rfl | rfl <;> exact gc_i rfl (H _ d1 ok1 (by decide))
  · simp only [e_var, e_int, e_str, e_bl, e_non, e_glob, e_bin, e_neg, e_cmp, e_and, e_or, e_not, e_call, e_bi, wp_meth, rc_all, true_and, wp_lc, s_try, s_aug, s_augS, isRef_t, if_true, bi_lenT, at_0, at_1, at_2, at_3, at_4, at_5, at_6, at_end, ixN_all, ix_lst, ix_tup, m_join, e_idx, e_slc, e_tup, e_lst, e_dict0, newL_true, newL_false, s_set, s_unp, s_sub, s_expr, s_ret, s_retN, s_pass, s_brk, s_cont, s_raise, ss_nil, wp_sscons, a_nil, a_cons, o_no, o_yes, p_no, p_yes, i_val, i_rg1, i_rg2, wp_for', wp_while, wp_rg, wp_bind, wp_then, wp_seq, wp_ok, wp_ex, wp_nx, wp_rt, wp_bk, wp_ct, wp_xx, wp_ofO, wpO_s, wpO_map, wpTr_t, wpTr_f, wpTr_n, wp_ifs, wp_ife, wp_and1, wp_and2, wp_or1, wp_or2, wp_chain, wpbin_add, wpbin_addS, wpbin_mulS, wpbin_sub, wpbin_mul, wpbin_mod, wpbin_fdiv, wpbin_addT, bind_ok, then_ok, List.length_cons, List.length_nil, Nat.reduceAdd, cx_call, cx_glob, tr_bl, bi_int, bi_abs, bi_lenL, bi_lenS, c_lt, c_le, c_gt, c_ge, c_eqI, c_eqS', c_neS', c_neI, e_isi, ty_int, ty_str, ty_bl, ty_non, ty_tup, ty_lstf, ty_any, bi_min2, Bool.not_true, Bool.not_false, ofO_some, Option.map_some, List.getElem?_cons_succ, List.getElem?_cons_zero, List.set_cons_succ, List.set_cons_zero, Int.reduceLT, Int.reduceLE, Int.reduceNeg]
    refine pick0 ok1 (by omega) fun q2 d2 ok2 q20 q21 => ?_
    obtain ⟨s, hs, e⟩ := strI (fz := true) (st := d2.O :: r) q20 (by omega)
    simp only [e_var, e_int, e_str, e_bl, e_non, e_glob, e_bin, e_neg, e_cmp, e_and, e_or, e_not, e_call, e_bi, wp_meth, rc_all, true_and, wp_lc, s_try, s_aug, s_augS, isRef_t, if_true, bi_lenT, at_0, at_1, at_2, at_3, at_4, at_5, at_6, at_end, ixN_all, ix_lst, ix_tup, m_join, e_idx, e_slc, e_tup, e_lst, e_dict0, newL_true, newL_false, s_set, s_unp, s_sub, s_expr, s_ret, s_retN, s_pass, s_brk, s_cont, s_raise, ss_nil, wp_sscons, a_nil, a_cons, o_no, o_yes, p_no, p_yes, i_val, i_rg1, i_rg2, wp_for', wp_while, wp_rg, wp_bind, wp_then, wp_seq, wp_ok, wp_ex, wp_nx, wp_rt, wp_bk, wp_ct, wp_xx, wp_ofO, wpO_s, wpO_map, wpTr_t, wpTr_f, wpTr_n, wp_ifs, wp_ife, wp_and1, wp_and2, wp_or1, wp_or2, wp_chain, wpbin_add, wpbin_addS, wpbin_mulS, wpbin_sub, wpbin_mul, wpbin_mod, wpbin_fdiv, wpbin_addT, bind_ok, then_ok, List.length_cons, List.length_nil, Nat.reduceAdd, cx_call, cx_glob, tr_bl, bi_int, bi_abs, bi_lenL, bi_lenS, c_lt, c_le, c_gt, c_ge, c_eqI, c_eqS', c_neS', c_neI, e_isi, ty_int, ty_str, ty_bl, ty_non, ty_tup, ty_lstf, ty_any, bi_min2, Bool.not_true, Bool.not_false, ofO_some, Option.map_some, List.getElem?_cons_succ, List.getElem?_cons_zero, List.set_cons_succ, List.set_cons_zero, Int.reduceLT, Int.reduceLE, Int.reduceNeg, e]
    exact gc_i rfl (H s d2 ok2 hs)
theorem item_wp' (ok : d.Ok) (H : ∀ (s : List Nat) (d' : Drw), d'.Ok → s.length ≤ 4 → Q (.str s) (d'.O :: r)) : (run prog (n + 4) "_law_item" [.ref 0] (d.O :: r)).wp Q X := by
  refine wp_run (fd := d__law_item) rfl rfl ?_
  simp only [d__law_item, List.length_cons, List.length_nil, if_true, T.start, List.map_cons, List.map_nil, Nat.reduceAdd, Nat.reduceSub, List.replicate, List.cons_append, List.nil_append]
  simp only [e_var, e_int, e_str, e_bl, e_non, e_glob, e_bin, e_neg, e_cmp, e_and, e_or, e_not, e_call, e_bi, wp_meth, rc_all, true_and, wp_lc, s_try, s_aug, s_augS, isRef_t, if_true, bi_lenT, at_0, at_1, at_2, at_3, at_4, at_5, at_6, at_end, ixN_all, ix_lst, ix_tup, m_join, e_idx, e_slc, e_tup, e_lst, e_dict0, newL_true, newL_false, s_set, s_unp, s_sub, s_expr, s_ret, s_retN, s_pass, s_brk, s_cont, s_raise, ss_nil, wp_sscons, a_nil, a_cons, o_no, o_yes, p_no, p_yes, i_val, i_rg1, i_rg2, wp_for', wp_while, wp_rg, wp_bind, wp_then, wp_seq, wp_ok, wp_ex, wp_nx, wp_rt, wp_bk, wp_ct, wp_xx, wp_ofO, wpO_s, wpO_map, wpTr_t, wpTr_f, wpTr_n, wp_ifs, wp_ife, wp_and1, wp_and2, wp_or1, wp_or2, wp_chain, wpbin_add, wpbin_addS, wpbin_mulS, wpbin_sub, wpbin_mul, wpbin_mod, wpbin_fdiv, wpbin_addT, bind_ok, then_ok, List.length_cons, List.length_nil, Nat.reduceAdd, cx_call, cx_glob, tr_bl, bi_int, bi_abs, bi_lenL, bi_lenS, c_lt, c_le, c_gt, c_ge, c_eqI, c_eqS', c_neS', c_neI, e_isi, ty_int, ty_str, ty_bl, ty_non, ty_tup, ty_lstf, ty_any, bi_min2, Bool.not_true, Bool.not_false, ofO_some, Option.map_some, List.getElem?_cons_succ, List.getElem?_cons_zero, List.set_cons_succ, List.set_cons_zero, Int.reduceLT, Int.reduceLE, Int.reduceNeg]
  refine pick0 ok (by omega) fun q d1 ok1 q0 q1 => ?_
  obtain ⟨c, _, e⟩ := ix_strI (s := "abpqzm".toList.map Char.toNat) (st := d1.O :: r) q0 (by show q < 6; omega)
  simp only [e_var, e_int, e_str, e_bl, e_non, e_glob, e_bin, e_neg, e_cmp, e_and, e_or, e_not, e_call, e_bi, wp_meth, rc_all, true_and, wp_lc, s_try, s_aug, s_augS, isRef_t, if_true, bi_lenT, at_0, at_1, at_2, at_3, at_4, at_5, at_6, at_end, ixN_all, ix_lst, ix_tup, m_join, e_idx, e_slc, e_tup, e_lst, e_dict0, newL_true, newL_false, s_set, s_unp, s_sub, s_expr, s_ret, s_retN, s_pass, s_brk, s_cont, s_raise, ss_nil, wp_sscons, a_nil, a_cons, o_no, o_yes, p_no, p_yes, i_val, i_rg1, i_rg2, wp_for', wp_while, wp_rg, wp_bind, wp_then, wp_seq, wp_ok, wp_ex, wp_nx, wp_rt, wp_bk, wp_ct, wp_xx, wp_ofO, wpO_s, wpO_map, wpTr_t, wpTr_f, wpTr_n, wp_ifs, wp_ife, wp_and1, wp_and2, wp_or1, wp_or2, wp_chain, wpbin_add, wpbin_addS, wpbin_mulS, wpbin_sub, wpbin_mul, wpbin_mod, wpbin_fdiv, wpbin_addT, bind_ok, then_ok, List.length_cons, List.length_nil, Nat.reduceAdd, cx_call, cx_glob, tr_bl, bi_int, bi_abs, bi_lenL, bi_lenS, c_lt, c_le, c_gt, c_ge, c_eqI, c_eqS', c_neS', c_neI, e_isi, ty_int, ty_str, ty_bl, ty_non, ty_tup, ty_lstf, ty_any, bi_min2, Bool.not_true, Bool.not_false, ofO_some, Option.map_some, List.getElem?_cons_succ, List.getElem?_cons_zero, List.set_cons_succ, List.set_cons_zero, Int.reduceLT, Int.reduceLE, Int.reduceNeg, e]
  refine pick0 ok1 (by omega) fun q2 d2 ok2 q20 q21 => ?_
  simp only [e_var, e_int, e_str, e_bl, e_non, e_glob, e_bin, e_neg, e_cmp, e_and, e_or, e_not, e_call, e_bi, wp_meth, rc_all, true_and, wp_lc, s_try, s_aug, s_augS, isRef_t, if_true, bi_lenT, at_0, at_1, at_2, at_3, at_4, at_5, at_6, at_end, ixN_all, ix_lst, ix_tup, m_join, e_idx, e_slc, e_tup, e_lst, e_dict0, newL_true, newL_false, s_set, s_unp, s_sub, s_expr, s_ret, s_retN, s_pass, s_brk, s_cont, s_raise, ss_nil, wp_sscons, a_nil, a_cons, o_no, o_yes, p_no, p_yes, i_val, i_rg1, i_rg2, wp_for', wp_while, wp_rg, wp_bind, wp_then, wp_seq, wp_ok, wp_ex, wp_nx, wp_rt, wp_bk, wp_ct, wp_xx, wp_ofO, wpO_s, wpO_map, wpTr_t, wpTr_f, wpTr_n, wp_ifs, wp_ife, wp_and1, wp_and2, wp_or1, wp_or2, wp_chain, wpbin_add, wpbin_addS, wpbin_mulS, wpbin_sub, wpbin_mul, wpbin_mod, wpbin_fdiv, wpbin_addT, bind_ok, then_ok, List.length_cons, List.length_nil, Nat.reduceAdd, cx_call, cx_glob, tr_bl, bi_int, bi_abs, bi_lenL, bi_lenS, c_lt, c_le, c_gt, c_ge, c_eqI, c_eqS', c_neS', c_neI, e_isi, ty_int, ty_str, ty_bl, ty_non, ty_tup, ty_lstf, ty_any, bi_min2, Bool.not_true, Bool.not_false, ofO_some, Option.map_some, List.getElem?_cons_succ, List.getElem?_cons_zero, List.set_cons_succ, List.set_cons_zero, Int.reduceLT, Int.reduceLE, Int.reduceNeg]
  refine wpTr_d (fun h => ?_) (fun h => ?_)
  · simp only [e_var, e_int, e_str, e_bl, e_non, e_glob, e_bin, e_neg, e_cmp, e_and, e_or, e_not, e_call, e_bi, wp_meth, rc_all, true_and, wp_lc, s_try, s_aug, s_augS, isRef_t, if_true, bi_lenT, at_0, at_1, at_2, at_3, at_4, at_5, at_6, at_end, ixN_all, ix_lst, ix_tup, m_join, e_idx, e_slc, e_tup, e_lst, e_dict0, newL_true, newL_false, s_set, s_unp, s_sub, s_expr, s_ret, s_retN, s_pass, s_brk, s_cont, s_raise, ss_nil, wp_sscons, a_nil, a_cons, o_no, o_yes, p_no, p_yes, i_val, i_rg1, i_rg2, wp_for', wp_while, wp_rg, wp_bind, wp_then, wp_seq, wp_ok, wp_ex, wp_nx, wp_rt, wp_bk, wp_ct, wp_xx, wp_ofO, wpO_s, wpO_map, wpTr_t, wpTr_f, wpTr_n, wp_ifs, wp_ife, wp_and1, wp_and2, wp_or1, wp_or2, wp_chain, wpbin_add, wpbin_addS, wpbin_mulS, wpbin_sub, wpbin_mul, wpbin_mod, wpbin_fdiv, wpbin_addT, bind_ok, then_ok, List.length_cons, List.length_nil, Nat.reduceAdd, cx_call, cx_glob, tr_bl, bi_int, bi_abs, bi_lenL, bi_lenS, c_lt, c_le, c_gt, c_ge, c_eqI, c_eqS', c_neS', c_neI, e_isi, ty_int, ty_str, ty_bl, ty_non, ty_tup, ty_lstf, ty_any, bi_min2, Bool.not_true, Bool.not_false, ofO_some, Option.map_some, List.getElem?_cons_succ, List.getElem?_cons_zero, List.set_cons_succ, List.set_cons_zero, Int.reduceLT, Int.reduceLE, Int.reduceNeg]
    refine number_wp ok2 fun s d3 ok3 hs => ?_
    simp only [e_var, e_int, e_str, e_bl, e_non, e_glob, e_bin, e_neg, e_cmp, e_and, e_or, e_not, e_call, e_bi, wp_meth, rc_all, true_and, wp_lc, s_try, s_aug, s_augS, isRef_t, if_true, bi_lenT, at_0, at_1, at_2, at_3, at_4, at_5, at_6, at_end, ixN_all, ix_lst, ix_tup, m_join, e_idx, e_slc, e_tup, e_lst, e_dict0, newL_true, newL_false, s_set, s_unp, s_sub, s_expr, s_ret, s_retN, s_pass, s_brk, s_cont, s_raise, ss_nil, wp_sscons, a_nil, a_cons, o_no, o_yes, p_no, p_yes, i_val, i_rg1, i_rg2, wp_for', wp_while, wp_rg, wp_bind, wp_then, wp_seq, wp_ok, wp_ex, wp_nx, wp_rt, wp_bk, wp_ct, wp_xx, wp_ofO, wpO_s, wpO_map, wpTr_t, wpTr_f, wpTr_n, wp_ifs, wp_ife, wp_and1, wp_and2, wp_or1, wp_or2, wp_chain, wpbin_add, wpbin_addS, wpbin_mulS, wpbin_sub, wpbin_mul, wpbin_mod, wpbin_fdiv, wpbin_addT, bind_ok, then_ok, List.length_cons, List.length_nil, Nat.reduceAdd, cx_call, cx_glob, tr_bl, bi_int, bi_abs, bi_lenL, bi_lenS, c_lt, c_le, c_gt, c_ge, c_eqI, c_eqS', c_neS', c_neI, e_isi, ty_int, ty_str, ty_bl, ty_non, ty_tup, ty_lstf, ty_any, bi_min2, Bool.not_true, Bool.not_false, ofO_some, Option.map_some, List.getElem?_cons_succ, List.getElem?_cons_zero, List.set_cons_succ, List.set_cons_zero, Int.reduceLT, Int.reduceLE, Int.reduceNeg]
    refine ⟨by rw [lim_v]; omega, ?_⟩
    exact gc_i rfl (H _ d3 ok3 (by rw [List.length_append]; show s.length + 1 ≤ 4; omega))
  · simp only [e_var, e_int, e_str, e_bl, e_non, e_glob, e_bin, e_neg, e_cmp, e_and, e_or, e_not, e_call, e_bi, wp_meth, rc_all, true_and, wp_lc, s_try, s_aug, s_augS, isRef_t, if_true, bi_lenT, at_0, at_1, at_2, at_3, at_4, at_5, at_6, at_end, ixN_all, ix_lst, ix_tup, m_join, e_idx, e_slc, e_tup, e_lst, e_dict0, newL_true, newL_false, s_set, s_unp, s_sub, s_expr, s_ret, s_retN, s_pass, s_brk, s_cont, s_raise, ss_nil, wp_sscons, a_nil, a_cons, o_no, o_yes, p_no, p_yes, i_val, i_rg1, i_rg2, wp_for', wp_while, wp_rg, wp_bind, wp_then, wp_seq, wp_ok, wp_ex, wp_nx, wp_rt, wp_bk, wp_ct, wp_xx, wp_ofO, wpO_s, wpO_map, wpTr_t, wpTr_f, wpTr_n, wp_ifs, wp_ife, wp_and1, wp_and2, wp_or1, wp_or2, wp_chain, wpbin_add, wpbin_addS, wpbin_mulS, wpbin_sub, wpbin_mul, wpbin_mod, wpbin_fdiv, wpbin_addT, bind_ok, then_ok, List.length_cons, List.length_nil, Nat.reduceAdd, cx_call, cx_glob, tr_bl, bi_int, bi_abs, bi_lenL, bi_lenS, c_lt, c_le, c_gt, c_ge, c_eqI, c_eqS', c_neS', c_neI, e_isi, ty_int, ty_str, ty_bl, ty_non, ty_tup, ty_lstf, ty_any, bi_min2, Bool.not_true, Bool.not_false, ofO_some, Option.map_some, List.getElem?_cons_succ, List.getElem?_cons_zero, List.set_cons_succ, List.set_cons_zero, Int.reduceLT, Int.reduceLE, Int.reduceNeg]
    exact gc_i rfl (H _ d2 ok2 (by show 1 ≤ 4; omega))
theorem built_wp (ok : d.Ok) (H : ∀ (s : List Nat) (d' : Drw), d'.Ok → s.length ≤ 100 → Q (.str s) (d'.O :: r)) : (run prog (n + 5) "_law_built" [.ref 0] (d.O :: r)).wp Q X := by
  refine wp_run (fd := d__law_built) rfl rfl ?_
  simp only [d__law_built, List.length_cons, List.length_nil, if_true, T.start, List.map_cons, List.map_nil, Nat.reduceAdd, Nat.reduceSub, List.replicate, List.cons_append, List.nil_append]
  simp only [e_var, e_int, e_str, e_bl, e_non, e_glob, e_bin, e_neg, e_cmp, e_and, e_or, e_not, e_call, e_bi, wp_meth, rc_all, true_and, wp_lc, s_try, s_aug, s_augS, isRef_t, if_true, bi_lenT, at_0, at_1, at_2, at_3, at_4, at_5, at_6, at_end, ixN_all, ix_lst, ix_tup, m_join, e_idx, e_slc, e_tup, e_lst, e_dict0, newL_true, newL_false, s_set, s_unp, s_sub, s_expr, s_ret, s_retN, s_pass, s_brk, s_cont, s_raise, ss_nil, wp_sscons, a_nil, a_cons, o_no, o_yes, p_no, p_yes, i_val, i_rg1, i_rg2, wp_for', wp_while, wp_rg, wp_bind, wp_then, wp_seq, wp_ok, wp_ex, wp_nx, wp_rt, wp_bk, wp_ct, wp_xx, wp_ofO, wpO_s, wpO_map, wpTr_t, wpTr_f, wpTr_n, wp_ifs, wp_ife, wp_and1, wp_and2, wp_or1, wp_or2, wp_chain, wpbin_add, wpbin_addS, wpbin_mulS, wpbin_sub, wpbin_mul, wpbin_mod, wpbin_fdiv, wpbin_addT, bind_ok, then_ok, List.length_cons, List.length_nil, Nat.reduceAdd, cx_call, cx_glob, tr_bl, bi_int, bi_abs, bi_lenL, bi_lenS, c_lt, c_le, c_gt, c_ge, c_eqI, c_eqS', c_neS', c_neI, e_isi, ty_int, ty_str, ty_bl, ty_non, ty_tup, ty_lstf, ty_any, bi_min2, Bool.not_true, Bool.not_false, ofO_some, Option.map_some, List.getElem?_cons_succ, List.getElem?_cons_zero, List.set_cons_succ, List.set_cons_zero, Int.reduceLT, Int.reduceLE, Int.reduceNeg]
  refine pick0 ok (by omega) fun q d1 ok1 q0 q1 => ?_
  simp only [e_var, e_int, e_str, e_bl, e_non, e_glob, e_bin, e_neg, e_cmp, e_and, e_or, e_not, e_call, e_bi, wp_meth, rc_all, true_and, wp_lc, s_try, s_aug, s_augS, isRef_t, if_true, bi_lenT, at_0, at_1, at_2, at_3, at_4, at_5, at_6, at_end, ixN_all, ix_lst, ix_tup, m_join, e_idx, e_slc, e_tup, e_lst, e_dict0, newL_true, newL_false, s_set, s_unp, s_sub, s_expr, s_ret, s_retN, s_pass, s_brk, s_cont, s_raise, ss_nil, wp_sscons, a_nil, a_cons, o_no, o_yes, p_no, p_yes, i_val, i_rg1, i_rg2, wp_for', wp_while, wp_rg, wp_bind, wp_then, wp_seq, wp_ok, wp_ex, wp_nx, wp_rt, wp_bk, wp_ct, wp_xx, wp_ofO, wpO_s, wpO_map, wpTr_t, wpTr_f, wpTr_n, wp_ifs, wp_ife, wp_and1, wp_and2, wp_or1, wp_or2, wp_chain, wpbin_add, wpbin_addS, wpbin_mulS, wpbin_sub, wpbin_mul, wpbin_mod, wpbin_fdiv, wpbin_addT, bind_ok, then_ok, List.length_cons, List.length_nil, Nat.reduceAdd, cx_call, cx_glob, tr_bl, bi_int, bi_abs, bi_lenL, bi_lenS, c_lt, c_le, c_gt, c_ge, c_eqI, c_eqS', c_neS', c_neI, e_isi, ty_int, ty_str, ty_bl, ty_non, ty_tup, ty_lstf, ty_any, bi_min2, Bool.not_true, Bool.not_false, ofO_some, Option.map_some, List.getElem?_cons_succ, List.getElem?_cons_zero, List.set_cons_succ, List.set_cons_zero, Int.reduceLT, Int.reduceLE, Int.reduceNeg]
  refine ⟨by rw [c62_v]; omega, ?_⟩
  refine wpLc_nm (fun j acc s => ∃ (l : List (List Nat)) (d' : Drw), d'.Ok ∧ l.length = j ∧ (∀ x ∈ l, x.length ≤ 4) ∧ acc = l.map D.str ∧ s = d'.O :: r) ⟨[], d1, ok1, rfl, by simp, rfl, rfl⟩ (fun j x acc s hd hI => ?_) (fun acc s hI => ?_)
  · obtain ⟨l, d2, ok2, hl, hx, rfl, rfl⟩ := hI
    obtain ⟨rfl, hj2⟩ := rgD_at hd
    simp only [List.map_cons, List.map_nil, wipeE, List.set_cons_succ, List.set_cons_zero]
    simp only [e_var, e_int, e_str, e_bl, e_non, e_glob, e_bin, e_neg, e_cmp, e_and, e_or, e_not, e_call, e_bi, wp_meth, rc_all, true_and, wp_lc, s_try, s_aug, s_augS, isRef_t, if_true, bi_lenT, at_0, at_1, at_2, at_3, at_4, at_5, at_6, at_end, ixN_all, ix_lst, ix_tup, m_join, e_idx, e_slc, e_tup, e_lst, e_dict0, newL_true, newL_false, s_set, s_unp, s_sub, s_expr, s_ret, s_retN, s_pass, s_brk, s_cont, s_raise, ss_nil, wp_sscons, a_nil, a_cons, o_no, o_yes, p_no, p_yes, i_val, i_rg1, i_rg2, wp_for', wp_while, wp_rg, wp_bind, wp_then, wp_seq, wp_ok, wp_ex, wp_nx, wp_rt, wp_bk, wp_ct, wp_xx, wp_ofO, wpO_s, wpO_map, wpTr_t, wpTr_f, wpTr_n, wp_ifs, wp_ife, wp_and1, wp_and2, wp_or1, wp_or2, wp_chain, wpbin_add, wpbin_addS, wpbin_mulS, wpbin_sub, wpbin_mul, wpbin_mod, wpbin_fdiv, wpbin_addT, bind_ok, then_ok, List.length_cons, List.length_nil, Nat.reduceAdd, cx_call, cx_glob, tr_bl, bi_int, bi_abs, bi_lenL, bi_lenS, c_lt, c_le, c_gt, c_ge, c_eqI, c_eqS', c_neS', c_neI, e_isi, ty_int, ty_str, ty_bl, ty_non, ty_tup, ty_lstf, ty_any, bi_min2, Bool.not_true, Bool.not_false, ofO_some, Option.map_some, List.getElem?_cons_succ, List.getElem?_cons_zero, List.set_cons_succ, List.set_cons_zero, Int.reduceLT, Int.reduceLE, Int.reduceNeg]
    refine item_wp' ok2 fun s d3 ok3 hs => ⟨by rw [List.length_map, lim_v]; omega, l ++ [s], d3, ok3, by simp [hl], ?_, by simp, rfl⟩
    intro x hxm
    rcases List.mem_append.mp hxm with hxm | hxm
    · exact hx x hxm
    · rw [List.mem_singleton.mp hxm]; exact hs
  obtain ⟨l, d2, ok2, hl, hx, rfl, rfl⟩ := hI
  rw [rgD_len] at hl
  have hl3 : l.length ≤ 3 := by omega
  have hsum : ∀ l : List (List Nat), (∀ x ∈ l, x.length ≤ 4) → (l.map (·.length)).sum ≤ 4 * l.length := by
    intro l
    induction l with
    | nil => simp
    | cons a l ih =>
      intro h
      have := h a (by simp)
      have := ih fun x hx => h x (by simp [hx])
      simp only [List.map_cons, List.sum_cons, List.length_cons]; omega
  have hs := hsum l hx
  have lE : ("".toList.map Char.toNat) = [] := rfl
  simp only [e_var, e_int, e_str, e_bl, e_non, e_glob, e_bin, e_neg, e_cmp, e_and, e_or, e_not, e_call, e_bi, wp_meth, rc_all, true_and, wp_lc, s_try, s_aug, s_augS, isRef_t, if_true, bi_lenT, at_0, at_1, at_2, at_3, at_4, at_5, at_6, at_end, ixN_all, ix_lst, ix_tup, m_join, e_idx, e_slc, e_tup, e_lst, e_dict0, newL_true, newL_false, s_set, s_unp, s_sub, s_expr, s_ret, s_retN, s_pass, s_brk, s_cont, s_raise, ss_nil, wp_sscons, a_nil, a_cons, o_no, o_yes, p_no, p_yes, i_val, i_rg1, i_rg2, wp_for', wp_while, wp_rg, wp_bind, wp_then, wp_seq, wp_ok, wp_ex, wp_nx, wp_rt, wp_bk, wp_ct, wp_xx, wp_ofO, wpO_s, wpO_map, wpTr_t, wpTr_f, wpTr_n, wp_ifs, wp_ife, wp_and1, wp_and2, wp_or1, wp_or2, wp_chain, wpbin_add, wpbin_addS, wpbin_mulS, wpbin_sub, wpbin_mul, wpbin_mod, wpbin_fdiv, wpbin_addT, bind_ok, then_ok, List.length_cons, List.length_nil, Nat.reduceAdd, cx_call, cx_glob, tr_bl, bi_int, bi_abs, bi_lenL, bi_lenS, c_lt, c_le, c_gt, c_ge, c_eqI, c_eqS', c_neS', c_neI, e_isi, ty_int, ty_str, ty_bl, ty_non, ty_tup, ty_lstf, ty_any, bi_min2, Bool.not_true, Bool.not_false, ofO_some, Option.map_some, List.getElem?_cons_succ, List.getElem?_cons_zero, List.set_cons_succ, List.set_cons_zero, Int.reduceLT, Int.reduceLE, Int.reduceNeg]
  refine ⟨by rw [lE, lim_v]; simp only [List.length_nil]; omega, ?_⟩
  rw [lE, joinL_nil]
  have hfl : l.flatten.length ≤ 12 := by
    rw [List.length_flatten]
    show (l.map fun x => x.length).sum ≤ 12
    omega
  generalize l.flatten = t at hfl
  refine pick0 ok2 (by omega) fun q2 d3 ok3 q20 q21 => ?_
  simp only [e_var, e_int, e_str, e_bl, e_non, e_glob, e_bin, e_neg, e_cmp, e_and, e_or, e_not, e_call, e_bi, wp_meth, rc_all, true_and, wp_lc, s_try, s_aug, s_augS, isRef_t, if_true, bi_lenT, at_0, at_1, at_2, at_3, at_4, at_5, at_6, at_end, ixN_all, ix_lst, ix_tup, m_join, e_idx, e_slc, e_tup, e_lst, e_dict0, newL_true, newL_false, s_set, s_unp, s_sub, s_expr, s_ret, s_retN, s_pass, s_brk, s_cont, s_raise, ss_nil, wp_sscons, a_nil, a_cons, o_no, o_yes, p_no, p_yes, i_val, i_rg1, i_rg2, wp_for', wp_while, wp_rg, wp_bind, wp_then, wp_seq, wp_ok, wp_ex, wp_nx, wp_rt, wp_bk, wp_ct, wp_xx, wp_ofO, wpO_s, wpO_map, wpTr_t, wpTr_f, wpTr_n, wp_ifs, wp_ife, wp_and1, wp_and2, wp_or1, wp_or2, wp_chain, wpbin_add, wpbin_addS, wpbin_mulS, wpbin_sub, wpbin_mul, wpbin_mod, wpbin_fdiv, wpbin_addT, bind_ok, then_ok, List.length_cons, List.length_nil, Nat.reduceAdd, cx_call, cx_glob, tr_bl, bi_int, bi_abs, bi_lenL, bi_lenS, c_lt, c_le, c_gt, c_ge, c_eqI, c_eqS', c_neS', c_neI, e_isi, ty_int, ty_str, ty_bl, ty_non, ty_tup, ty_lstf, ty_any, bi_min2, Bool.not_true, Bool.not_false, ofO_some, Option.map_some, List.getElem?_cons_succ, List.getElem?_cons_zero, List.set_cons_succ, List.set_cons_zero, Int.reduceLT, Int.reduceLE, Int.reduceNeg]
  refine ⟨by rw [c62_v]; omega, ?_⟩
  refine wpFor_nm (fun i env s => ∃ (t : List Nat) (dp : Int) (d' : Drw) (x3 x4 : Option D), d'.Ok ∧ t.length ≤ 12 + 5 * i ∧ env = [some (.ref 0), some (.str t), some (.int dp), x3, x4] ∧ s = d'.O :: r)
    ⟨t, 0, d3, _, _, ok3, hfl, rfl, rfl⟩ (fun j x env st hj hI => ?_) (fun env st hI => ?_)
  · obtain ⟨t, dp, d4, x3, x4, ok4, ht, rfl, rfl⟩ := hI
    obtain ⟨rfl, hj⟩ := rgD_at hj
    have lP : ("(".toList.map Char.toNat).length = 1 ∧ (")".toList.map Char.toNat).length = 1 := by decide
    simp only [e_var, e_int, e_str, e_bl, e_non, e_glob, e_bin, e_neg, e_cmp, e_and, e_or, e_not, e_call, e_bi, wp_meth, rc_all, true_and, wp_lc, s_try, s_aug, s_augS, isRef_t, if_true, bi_lenT, at_0, at_1, at_2, at_3, at_4, at_5, at_6, at_end, ixN_all, ix_lst, ix_tup, m_join, e_idx, e_slc, e_tup, e_lst, e_dict0, newL_true, newL_false, s_set, s_unp, s_sub, s_expr, s_ret, s_retN, s_pass, s_brk, s_cont, s_raise, ss_nil, wp_sscons, a_nil, a_cons, o_no, o_yes, p_no, p_yes, i_val, i_rg1, i_rg2, wp_for', wp_while, wp_rg, wp_bind, wp_then, wp_seq, wp_ok, wp_ex, wp_nx, wp_rt, wp_bk, wp_ct, wp_xx, wp_ofO, wpO_s, wpO_map, wpTr_t, wpTr_f, wpTr_n, wp_ifs, wp_ife, wp_and1, wp_and2, wp_or1, wp_or2, wp_chain, wpbin_add, wpbin_addS, wpbin_mulS, wpbin_sub, wpbin_mul, wpbin_mod, wpbin_fdiv, wpbin_addT, bind_ok, then_ok, List.length_cons, List.length_nil, Nat.reduceAdd, cx_call, cx_glob, tr_bl, bi_int, bi_abs, bi_lenL, bi_lenS, c_lt, c_le, c_gt, c_ge, c_eqI, c_eqS', c_neS', c_neI, e_isi, ty_int, ty_str, ty_bl, ty_non, ty_tup, ty_lstf, ty_any, bi_min2, Bool.not_true, Bool.not_false, ofO_some, Option.map_some, List.getElem?_cons_succ, List.getElem?_cons_zero, List.set_cons_succ, List.set_cons_zero, Int.reduceLT, Int.reduceLE, Int.reduceNeg]
    refine pick0 ok4 (by omega) fun q d5 ok5 q0 q1 => ?_
    simp only [e_var, e_int, e_str, e_bl, e_non, e_glob, e_bin, e_neg, e_cmp, e_and, e_or, e_not, e_call, e_bi, wp_meth, rc_all, true_and, wp_lc, s_try, s_aug, s_augS, isRef_t, if_true, bi_lenT, at_0, at_1, at_2, at_3, at_4, at_5, at_6, at_end, ixN_all, ix_lst, ix_tup, m_join, e_idx, e_slc, e_tup, e_lst, e_dict0, newL_true, newL_false, s_set, s_unp, s_sub, s_expr, s_ret, s_retN, s_pass, s_brk, s_cont, s_raise, ss_nil, wp_sscons, a_nil, a_cons, o_no, o_yes, p_no, p_yes, i_val, i_rg1, i_rg2, wp_for', wp_while, wp_rg, wp_bind, wp_then, wp_seq, wp_ok, wp_ex, wp_nx, wp_rt, wp_bk, wp_ct, wp_xx, wp_ofO, wpO_s, wpO_map, wpTr_t, wpTr_f, wpTr_n, wp_ifs, wp_ife, wp_and1, wp_and2, wp_or1, wp_or2, wp_chain, wpbin_add, wpbin_addS, wpbin_mulS, wpbin_sub, wpbin_mul, wpbin_mod, wpbin_fdiv, wpbin_addT, bind_ok, then_ok, List.length_cons, List.length_nil, Nat.reduceAdd, cx_call, cx_glob, tr_bl, bi_int, bi_abs, bi_lenL, bi_lenS, c_lt, c_le, c_gt, c_ge, c_eqI, c_eqS', c_neS', c_neI, e_isi, ty_int, ty_str, ty_bl, ty_non, ty_tup, ty_lstf, ty_any, bi_min2, Bool.not_true, Bool.not_false, ofO_some, Option.map_some, List.getElem?_cons_succ, List.getElem?_cons_zero, List.set_cons_succ, List.set_cons_zero, Int.reduceLT, Int.reduceLE, Int.reduceNeg]
    refine and_pure (p := q < 3) (q := dp < 8) ?_ ?_
    · exact evAnd_one (by simp only [e_var, e_int, e_str, e_bl, e_non, e_glob, e_bin, e_neg, e_cmp, e_and, e_or, e_not, e_call, e_bi, wp_meth, rc_all, true_and, wp_lc, s_try, s_aug, s_augS, isRef_t, if_true, bi_lenT, at_0, at_1, at_2, at_3, at_4, at_5, at_6, at_end, ixN_all, ix_lst, ix_tup, m_join, e_idx, e_slc, e_tup, e_lst, e_dict0, newL_true, newL_false, s_set, s_unp, s_sub, s_expr, s_ret, s_retN, s_pass, s_brk, s_cont, s_raise, ss_nil, wp_sscons, a_nil, a_cons, o_no, o_yes, p_no, p_yes, i_val, i_rg1, i_rg2, wp_for', wp_while, wp_rg, wp_bind, wp_then, wp_seq, wp_ok, wp_ex, wp_nx, wp_rt, wp_bk, wp_ct, wp_xx, wp_ofO, wpO_s, wpO_map, wpTr_t, wpTr_f, wpTr_n, wp_ifs, wp_ife, wp_and1, wp_and2, wp_or1, wp_or2, wp_chain, wpbin_add, wpbin_addS, wpbin_mulS, wpbin_sub, wpbin_mul, wpbin_mod, wpbin_fdiv, wpbin_addT, bind_ok, then_ok, List.length_cons, List.length_nil, Nat.reduceAdd, cx_call, cx_glob, tr_bl, bi_int, bi_abs, bi_lenL, bi_lenS, c_lt, c_le, c_gt, c_ge, c_eqI, c_eqS', c_neS', c_neI, e_isi, ty_int, ty_str, ty_bl, ty_non, ty_tup, ty_lstf, ty_any, bi_min2, Bool.not_true, Bool.not_false, ofO_some, Option.map_some, List.getElem?_cons_succ, List.getElem?_cons_zero, List.set_cons_succ, List.set_cons_zero, Int.reduceLT, Int.reduceLE, Int.reduceNeg])
    refine wpTr_d (fun h => ?_) (fun h => ?_)
    · simp only [e_var, e_int, e_str, e_bl, e_non, e_glob, e_bin, e_neg, e_cmp, e_and, e_or, e_not, e_call, e_bi, wp_meth, rc_all, true_and, wp_lc, s_try, s_aug, s_augS, isRef_t, if_true, bi_lenT, at_0, at_1, at_2, at_3, at_4, at_5, at_6, at_end, ixN_all, ix_lst, ix_tup, m_join, e_idx, e_slc, e_tup, e_lst, e_dict0, newL_true, newL_false, s_set, s_unp, s_sub, s_expr, s_ret, s_retN, s_pass, s_brk, s_cont, s_raise, ss_nil, wp_sscons, a_nil, a_cons, o_no, o_yes, p_no, p_yes, i_val, i_rg1, i_rg2, wp_for', wp_while, wp_rg, wp_bind, wp_then, wp_seq, wp_ok, wp_ex, wp_nx, wp_rt, wp_bk, wp_ct, wp_xx, wp_ofO, wpO_s, wpO_map, wpTr_t, wpTr_f, wpTr_n, wp_ifs, wp_ife, wp_and1, wp_and2, wp_or1, wp_or2, wp_chain, wpbin_add, wpbin_addS, wpbin_mulS, wpbin_sub, wpbin_mul, wpbin_mod, wpbin_fdiv, wpbin_addT, bind_ok, then_ok, List.length_cons, List.length_nil, Nat.reduceAdd, cx_call, cx_glob, tr_bl, bi_int, bi_abs, bi_lenL, bi_lenS, c_lt, c_le, c_gt, c_ge, c_eqI, c_eqS', c_neS', c_neI, e_isi, ty_int, ty_str, ty_bl, ty_non, ty_tup, ty_lstf, ty_any, bi_min2, Bool.not_true, Bool.not_false, ofO_some, Option.map_some, List.getElem?_cons_succ, List.getElem?_cons_zero, List.set_cons_succ, List.set_cons_zero, Int.reduceLT, Int.reduceLE, Int.reduceNeg]
      refine number_wp ok5 fun s d6 ok6 hs => ?_
      simp only [e_var, e_int, e_str, e_bl, e_non, e_glob, e_bin, e_neg, e_cmp, e_and, e_or, e_not, e_call, e_bi, wp_meth, rc_all, true_and, wp_lc, s_try, s_aug, s_augS, isRef_t, if_true, bi_lenT, at_0, at_1, at_2, at_3, at_4, at_5, at_6, at_end, ixN_all, ix_lst, ix_tup, m_join, e_idx, e_slc, e_tup, e_lst, e_dict0, newL_true, newL_false, s_set, s_unp, s_sub, s_expr, s_ret, s_retN, s_pass, s_brk, s_cont, s_raise, ss_nil, wp_sscons, a_nil, a_cons, o_no, o_yes, p_no, p_yes, i_val, i_rg1, i_rg2, wp_for', wp_while, wp_rg, wp_bind, wp_then, wp_seq, wp_ok, wp_ex, wp_nx, wp_rt, wp_bk, wp_ct, wp_xx, wp_ofO, wpO_s, wpO_map, wpTr_t, wpTr_f, wpTr_n, wp_ifs, wp_ife, wp_and1, wp_and2, wp_or1, wp_or2, wp_chain, wpbin_add, wpbin_addS, wpbin_mulS, wpbin_sub, wpbin_mul, wpbin_mod, wpbin_fdiv, wpbin_addT, bind_ok, then_ok, List.length_cons, List.length_nil, Nat.reduceAdd, cx_call, cx_glob, tr_bl, bi_int, bi_abs, bi_lenL, bi_lenS, c_lt, c_le, c_gt, c_ge, c_eqI, c_eqS', c_neS', c_neI, e_isi, ty_int, ty_str, ty_bl, ty_non, ty_tup, ty_lstf, ty_any, bi_min2, Bool.not_true, Bool.not_false, ofO_some, Option.map_some, List.getElem?_cons_succ, List.getElem?_cons_zero, List.set_cons_succ, List.set_cons_zero, Int.reduceLT, Int.reduceLE, Int.reduceNeg]
      refine pick0 ok6 (by omega) fun q d7 ok7 q0 q1 => ?_
      obtain ⟨x, hx, e⟩ := at_in (l := [D.str ("2".toList.map Char.toNat), D.str ("3".toList.map Char.toNat), D.str ("2".toList.map Char.toNat), D.str s]) q0 (by show q < 4; omega)
      have hxs : ∃ u : List Nat, x = .str u ∧ u.length ≤ 3 := by
        simp only [List.mem_cons, List.not_mem_nil, or_false] at hx
        rcases hx with rfl | rfl | rfl | rfl
        · exact ⟨_, rfl, by decide⟩
        · exact ⟨_, rfl, by decide⟩
        · exact ⟨_, rfl, by decide⟩
        · exact ⟨_, rfl, hs⟩
      obtain ⟨u, rfl, hu⟩ := hxs
      simp only [e_var, e_int, e_str, e_bl, e_non, e_glob, e_bin, e_neg, e_cmp, e_and, e_or, e_not, e_call, e_bi, wp_meth, rc_all, true_and, wp_lc, s_try, s_aug, s_augS, isRef_t, if_true, bi_lenT, at_0, at_1, at_2, at_3, at_4, at_5, at_6, at_end, ixN_all, ix_lst, ix_tup, m_join, e_idx, e_slc, e_tup, e_lst, e_dict0, newL_true, newL_false, s_set, s_unp, s_sub, s_expr, s_ret, s_retN, s_pass, s_brk, s_cont, s_raise, ss_nil, wp_sscons, a_nil, a_cons, o_no, o_yes, p_no, p_yes, i_val, i_rg1, i_rg2, wp_for', wp_while, wp_rg, wp_bind, wp_then, wp_seq, wp_ok, wp_ex, wp_nx, wp_rt, wp_bk, wp_ct, wp_xx, wp_ofO, wpO_s, wpO_map, wpTr_t, wpTr_f, wpTr_n, wp_ifs, wp_ife, wp_and1, wp_and2, wp_or1, wp_or2, wp_chain, wpbin_add, wpbin_addS, wpbin_mulS, wpbin_sub, wpbin_mul, wpbin_mod, wpbin_fdiv, wpbin_addT, bind_ok, then_ok, List.length_cons, List.length_nil, Nat.reduceAdd, cx_call, cx_glob, tr_bl, bi_int, bi_abs, bi_lenL, bi_lenS, c_lt, c_le, c_gt, c_ge, c_eqI, c_eqS', c_neS', c_neI, e_isi, ty_int, ty_str, ty_bl, ty_non, ty_tup, ty_lstf, ty_any, bi_min2, Bool.not_true, Bool.not_false, ofO_some, Option.map_some, List.getElem?_cons_succ, List.getElem?_cons_zero, List.set_cons_succ, List.set_cons_zero, Int.reduceLT, Int.reduceLE, Int.reduceNeg, e, List.length_append, lP.1, lP.2]
      refine ⟨by rw [lim_v]; omega, by rw [lim_v]; omega, by rw [lim_v]; omega, _, _, d7, _, _, ok7, ?_, rfl, by trivial⟩
      simp only [List.length_append, lP.1, lP.2]; omega
    · simp only [e_var, e_int, e_str, e_bl, e_non, e_glob, e_bin, e_neg, e_cmp, e_and, e_or, e_not, e_call, e_bi, wp_meth, rc_all, true_and, wp_lc, s_try, s_aug, s_augS, isRef_t, if_true, bi_lenT, at_0, at_1, at_2, at_3, at_4, at_5, at_6, at_end, ixN_all, ix_lst, ix_tup, m_join, e_idx, e_slc, e_tup, e_lst, e_dict0, newL_true, newL_false, s_set, s_unp, s_sub, s_expr, s_ret, s_retN, s_pass, s_brk, s_cont, s_raise, ss_nil, wp_sscons, a_nil, a_cons, o_no, o_yes, p_no, p_yes, i_val, i_rg1, i_rg2, wp_for', wp_while, wp_rg, wp_bind, wp_then, wp_seq, wp_ok, wp_ex, wp_nx, wp_rt, wp_bk, wp_ct, wp_xx, wp_ofO, wpO_s, wpO_map, wpTr_t, wpTr_f, wpTr_n, wp_ifs, wp_ife, wp_and1, wp_and2, wp_or1, wp_or2, wp_chain, wpbin_add, wpbin_addS, wpbin_mulS, wpbin_sub, wpbin_mul, wpbin_mod, wpbin_fdiv, wpbin_addT, bind_ok, then_ok, List.length_cons, List.length_nil, Nat.reduceAdd, cx_call, cx_glob, tr_bl, bi_int, bi_abs, bi_lenL, bi_lenS, c_lt, c_le, c_gt, c_ge, c_eqI, c_eqS', c_neS', c_neI, e_isi, ty_int, ty_str, ty_bl, ty_non, ty_tup, ty_lstf, ty_any, bi_min2, Bool.not_true, Bool.not_false, ofO_some, Option.map_some, List.getElem?_cons_succ, List.getElem?_cons_zero, List.set_cons_succ, List.set_cons_zero, Int.reduceLT, Int.reduceLE, Int.reduceNeg]
      refine wpTr_d (fun h2 => ?_) (fun h2 => ?_)
      · simp only [e_var, e_int, e_str, e_bl, e_non, e_glob, e_bin, e_neg, e_cmp, e_and, e_or, e_not, e_call, e_bi, wp_meth, rc_all, true_and, wp_lc, s_try, s_aug, s_augS, isRef_t, if_true, bi_lenT, at_0, at_1, at_2, at_3, at_4, at_5, at_6, at_end, ixN_all, ix_lst, ix_tup, m_join, e_idx, e_slc, e_tup, e_lst, e_dict0, newL_true, newL_false, s_set, s_unp, s_sub, s_expr, s_ret, s_retN, s_pass, s_brk, s_cont, s_raise, ss_nil, wp_sscons, a_nil, a_cons, o_no, o_yes, p_no, p_yes, i_val, i_rg1, i_rg2, wp_for', wp_while, wp_rg, wp_bind, wp_then, wp_seq, wp_ok, wp_ex, wp_nx, wp_rt, wp_bk, wp_ct, wp_xx, wp_ofO, wpO_s, wpO_map, wpTr_t, wpTr_f, wpTr_n, wp_ifs, wp_ife, wp_and1, wp_and2, wp_or1, wp_or2, wp_chain, wpbin_add, wpbin_addS, wpbin_mulS, wpbin_sub, wpbin_mul, wpbin_mod, wpbin_fdiv, wpbin_addT, bind_ok, then_ok, List.length_cons, List.length_nil, Nat.reduceAdd, cx_call, cx_glob, tr_bl, bi_int, bi_abs, bi_lenL, bi_lenS, c_lt, c_le, c_gt, c_ge, c_eqI, c_eqS', c_neS', c_neI, e_isi, ty_int, ty_str, ty_bl, ty_non, ty_tup, ty_lstf, ty_any, bi_min2, Bool.not_true, Bool.not_false, ofO_some, Option.map_some, List.getElem?_cons_succ, List.getElem?_cons_zero, List.set_cons_succ, List.set_cons_zero, Int.reduceLT, Int.reduceLE, Int.reduceNeg]
        refine item_wp' ok5 fun s d6 ok6 hs => ?_
        simp only [e_var, e_int, e_str, e_bl, e_non, e_glob, e_bin, e_neg, e_cmp, e_and, e_or, e_not, e_call, e_bi, wp_meth, rc_all, true_and, wp_lc, s_try, s_aug, s_augS, isRef_t, if_true, bi_lenT, at_0, at_1, at_2, at_3, at_4, at_5, at_6, at_end, ixN_all, ix_lst, ix_tup, m_join, e_idx, e_slc, e_tup, e_lst, e_dict0, newL_true, newL_false, s_set, s_unp, s_sub, s_expr, s_ret, s_retN, s_pass, s_brk, s_cont, s_raise, ss_nil, wp_sscons, a_nil, a_cons, o_no, o_yes, p_no, p_yes, i_val, i_rg1, i_rg2, wp_for', wp_while, wp_rg, wp_bind, wp_then, wp_seq, wp_ok, wp_ex, wp_nx, wp_rt, wp_bk, wp_ct, wp_xx, wp_ofO, wpO_s, wpO_map, wpTr_t, wpTr_f, wpTr_n, wp_ifs, wp_ife, wp_and1, wp_and2, wp_or1, wp_or2, wp_chain, wpbin_add, wpbin_addS, wpbin_mulS, wpbin_sub, wpbin_mul, wpbin_mod, wpbin_fdiv, wpbin_addT, bind_ok, then_ok, List.length_cons, List.length_nil, Nat.reduceAdd, cx_call, cx_glob, tr_bl, bi_int, bi_abs, bi_lenL, bi_lenS, c_lt, c_le, c_gt, c_ge, c_eqI, c_eqS', c_neS', c_neI, e_isi, ty_int, ty_str, ty_bl, ty_non, ty_tup, ty_lstf, ty_any, bi_min2, Bool.not_true, Bool.not_false, ofO_some, Option.map_some, List.getElem?_cons_succ, List.getElem?_cons_zero, List.set_cons_succ, List.set_cons_zero, Int.reduceLT, Int.reduceLE, Int.reduceNeg]
        refine ⟨by rw [lim_v]; omega, _, _, d6, _, _, ok6, ?_, rfl, by trivial⟩
        rw [List.length_append]; omega
      · simp only [e_var, e_int, e_str, e_bl, e_non, e_glob, e_bin, e_neg, e_cmp, e_and, e_or, e_not, e_call, e_bi, wp_meth, rc_all, true_and, wp_lc, s_try, s_aug, s_augS, isRef_t, if_true, bi_lenT, at_0, at_1, at_2, at_3, at_4, at_5, at_6, at_end, ixN_all, ix_lst, ix_tup, m_join, e_idx, e_slc, e_tup, e_lst, e_dict0, newL_true, newL_false, s_set, s_unp, s_sub, s_expr, s_ret, s_retN, s_pass, s_brk, s_cont, s_raise, ss_nil, wp_sscons, a_nil, a_cons, o_no, o_yes, p_no, p_yes, i_val, i_rg1, i_rg2, wp_for', wp_while, wp_rg, wp_bind, wp_then, wp_seq, wp_ok, wp_ex, wp_nx, wp_rt, wp_bk, wp_ct, wp_xx, wp_ofO, wpO_s, wpO_map, wpTr_t, wpTr_f, wpTr_n, wp_ifs, wp_ife, wp_and1, wp_and2, wp_or1, wp_or2, wp_chain, wpbin_add, wpbin_addS, wpbin_mulS, wpbin_sub, wpbin_mul, wpbin_mod, wpbin_fdiv, wpbin_addT, bind_ok, then_ok, List.length_cons, List.length_nil, Nat.reduceAdd, cx_call, cx_glob, tr_bl, bi_int, bi_abs, bi_lenL, bi_lenS, c_lt, c_le, c_gt, c_ge, c_eqI, c_eqS', c_neS', c_neI, e_isi, ty_int, ty_str, ty_bl, ty_non, ty_tup, ty_lstf, ty_any, bi_min2, Bool.not_true, Bool.not_false, ofO_some, Option.map_some, List.getElem?_cons_succ, List.getElem?_cons_zero, List.set_cons_succ, List.set_cons_zero, Int.reduceLT, Int.reduceLE, Int.reduceNeg]
        refine item_wp' ok5 fun s d6 ok6 hs => ?_
        simp only [e_var, e_int, e_str, e_bl, e_non, e_glob, e_bin, e_neg, e_cmp, e_and, e_or, e_not, e_call, e_bi, wp_meth, rc_all, true_and, wp_lc, s_try, s_aug, s_augS, isRef_t, if_true, bi_lenT, at_0, at_1, at_2, at_3, at_4, at_5, at_6, at_end, ixN_all, ix_lst, ix_tup, m_join, e_idx, e_slc, e_tup, e_lst, e_dict0, newL_true, newL_false, s_set, s_unp, s_sub, s_expr, s_ret, s_retN, s_pass, s_brk, s_cont, s_raise, ss_nil, wp_sscons, a_nil, a_cons, o_no, o_yes, p_no, p_yes, i_val, i_rg1, i_rg2, wp_for', wp_while, wp_rg, wp_bind, wp_then, wp_seq, wp_ok, wp_ex, wp_nx, wp_rt, wp_bk, wp_ct, wp_xx, wp_ofO, wpO_s, wpO_map, wpTr_t, wpTr_f, wpTr_n, wp_ifs, wp_ife, wp_and1, wp_and2, wp_or1, wp_or2, wp_chain, wpbin_add, wpbin_addS, wpbin_mulS, wpbin_sub, wpbin_mul, wpbin_mod, wpbin_fdiv, wpbin_addT, bind_ok, then_ok, List.length_cons, List.length_nil, Nat.reduceAdd, cx_call, cx_glob, tr_bl, bi_int, bi_abs, bi_lenL, bi_lenS, c_lt, c_le, c_gt, c_ge, c_eqI, c_eqS', c_neS', c_neI, e_isi, ty_int, ty_str, ty_bl, ty_non, ty_tup, ty_lstf, ty_any, bi_min2, Bool.not_true, Bool.not_false, ofO_some, Option.map_some, List.getElem?_cons_succ, List.getElem?_cons_zero, List.set_cons_succ, List.set_cons_zero, Int.reduceLT, Int.reduceLE, Int.reduceNeg]
        refine ⟨by rw [lim_v]; omega, _, _, d6, _, _, ok6, ?_, rfl, by trivial⟩
        rw [List.length_append]; omega
  · obtain ⟨t, dp, d4, x3, x4, ok4, ht, rfl, rfl⟩ := hI
    rw [rgD_len] at ht
    simp only [e_var, e_int, e_str, e_bl, e_non, e_glob, e_bin, e_neg, e_cmp, e_and, e_or, e_not, e_call, e_bi, wp_meth, rc_all, true_and, wp_lc, s_try, s_aug, s_augS, isRef_t, if_true, bi_lenT, at_0, at_1, at_2, at_3, at_4, at_5, at_6, at_end, ixN_all, ix_lst, ix_tup, m_join, e_idx, e_slc, e_tup, e_lst, e_dict0, newL_true, newL_false, s_set, s_unp, s_sub, s_expr, s_ret, s_retN, s_pass, s_brk, s_cont, s_raise, ss_nil, wp_sscons, a_nil, a_cons, o_no, o_yes, p_no, p_yes, i_val, i_rg1, i_rg2, wp_for', wp_while, wp_rg, wp_bind, wp_then, wp_seq, wp_ok, wp_ex, wp_nx, wp_rt, wp_bk, wp_ct, wp_xx, wp_ofO, wpO_s, wpO_map, wpTr_t, wpTr_f, wpTr_n, wp_ifs, wp_ife, wp_and1, wp_and2, wp_or1, wp_or2, wp_chain, wpbin_add, wpbin_addS, wpbin_mulS, wpbin_sub, wpbin_mul, wpbin_mod, wpbin_fdiv, wpbin_addT, bind_ok, then_ok, List.length_cons, List.length_nil, Nat.reduceAdd, cx_call, cx_glob, tr_bl, bi_int, bi_abs, bi_lenL, bi_lenS, c_lt, c_le, c_gt, c_ge, c_eqI, c_eqS', c_neS', c_neI, e_isi, ty_int, ty_str, ty_bl, ty_non, ty_tup, ty_lstf, ty_any, bi_min2, Bool.not_true, Bool.not_false, ofO_some, Option.map_some, List.getElem?_cons_succ, List.getElem?_cons_zero, List.set_cons_succ, List.set_cons_zero, Int.reduceLT, Int.reduceLE, Int.reduceNeg]
    exact gc_i rfl (H _ d4 ok4 (by omega))
theorem signs_wp (ok : d.Ok) (H : ∀ (s : List Nat) (d' : Drw), d'.Ok → s.length ≤ 100 → Q (.str s) (d'.O :: r)) : (run prog (n + 5) "_law_signs" [.ref 0] (d.O :: r)).wp Q X := by
  refine wp_run (fd := d__law_signs) rfl rfl ?_
  simp only [d__law_signs, List.length_cons, List.length_nil, if_true, T.start, List.map_cons, List.map_nil, Nat.reduceAdd, Nat.reduceSub, List.replicate, List.cons_append, List.nil_append]
  simp only [e_var, e_int, e_str, e_bl, e_non, e_glob, e_bin, e_neg, e_cmp, e_and, e_or, e_not, e_call, e_bi, wp_meth, rc_all, true_and, wp_lc, s_try, s_aug, s_augS, isRef_t, if_true, bi_lenT, at_0, at_1, at_2, at_3, at_4, at_5, at_6, at_end, ixN_all, ix_lst, ix_tup, m_join, e_idx, e_slc, e_tup, e_lst, e_dict0, newL_true, newL_false, s_set, s_unp, s_sub, s_expr, s_ret, s_retN, s_pass, s_brk, s_cont, s_raise, ss_nil, wp_sscons, a_nil, a_cons, o_no, o_yes, p_no, p_yes, i_val, i_rg1, i_rg2, wp_for', wp_while, wp_rg, wp_bind, wp_then, wp_seq, wp_ok, wp_ex, wp_nx, wp_rt, wp_bk, wp_ct, wp_xx, wp_ofO, wpO_s, wpO_map, wpTr_t, wpTr_f, wpTr_n, wp_ifs, wp_ife, wp_and1, wp_and2, wp_or1, wp_or2, wp_chain, wpbin_add, wpbin_addS, wpbin_mulS, wpbin_sub, wpbin_mul, wpbin_mod, wpbin_fdiv, wpbin_addT, bind_ok, then_ok, List.length_cons, List.length_nil, Nat.reduceAdd, cx_call, cx_glob, tr_bl, bi_int, bi_abs, bi_lenL, bi_lenS, c_lt, c_le, c_gt, c_ge, c_eqI, c_eqS', c_neS', c_neI, e_isi, ty_int, ty_str, ty_bl, ty_non, ty_tup, ty_lstf, ty_any, bi_min2, Bool.not_true, Bool.not_false, ofO_some, Option.map_some, List.getElem?_cons_succ, List.getElem?_cons_zero, List.set_cons_succ, List.set_cons_zero, Int.reduceLT, Int.reduceLE, Int.reduceNeg]
  refine pick0 ok (by omega) fun q d1 ok1 q0 q1 => ?_
  simp only [e_var, e_int, e_str, e_bl, e_non, e_glob, e_bin, e_neg, e_cmp, e_and, e_or, e_not, e_call, e_bi, wp_meth, rc_all, true_and, wp_lc, s_try, s_aug, s_augS, isRef_t, if_true, bi_lenT, at_0, at_1, at_2, at_3, at_4, at_5, at_6, at_end, ixN_all, ix_lst, ix_tup, m_join, e_idx, e_slc, e_tup, e_lst, e_dict0, newL_true, newL_false, s_set, s_unp, s_sub, s_expr, s_ret, s_retN, s_pass, s_brk, s_cont, s_raise, ss_nil, wp_sscons, a_nil, a_cons, o_no, o_yes, p_no, p_yes, i_val, i_rg1, i_rg2, wp_for', wp_while, wp_rg, wp_bind, wp_then, wp_seq, wp_ok, wp_ex, wp_nx, wp_rt, wp_bk, wp_ct, wp_xx, wp_ofO, wpO_s, wpO_map, wpTr_t, wpTr_f, wpTr_n, wp_ifs, wp_ife, wp_and1, wp_and2, wp_or1, wp_or2, wp_chain, wpbin_add, wpbin_addS, wpbin_mulS, wpbin_sub, wpbin_mul, wpbin_mod, wpbin_fdiv, wpbin_addT, bind_ok, then_ok, List.length_cons, List.length_nil, Nat.reduceAdd, cx_call, cx_glob, tr_bl, bi_int, bi_abs, bi_lenL, bi_lenS, c_lt, c_le, c_gt, c_ge, c_eqI, c_eqS', c_neS', c_neI, e_isi, ty_int, ty_str, ty_bl, ty_non, ty_tup, ty_lstf, ty_any, bi_min2, Bool.not_true, Bool.not_false, ofO_some, Option.map_some, List.getElem?_cons_succ, List.getElem?_cons_zero, List.set_cons_succ, List.set_cons_zero, Int.reduceLT, Int.reduceLE, Int.reduceNeg]
  refine ⟨by rw [c62_v]; omega, ?_⟩
  have hlen : ("ab()0123456789a(2(p3".toList.map Char.toNat).length = 20 := by decide
  generalize ("ab()0123456789a(2(p3".toList.map Char.toNat) = menu at hlen
  refine wpLc_nm (fun j acc s => ∃ (l : List (List Nat)) (d' : Drw), d'.Ok ∧ l.length = j ∧ (∀ x ∈ l, x.length ≤ 1) ∧ acc = l.map D.str ∧ s = d'.O :: r) ⟨[], d1, ok1, rfl, by simp, rfl, rfl⟩ (fun j x acc s hd hI => ?_) (fun acc s hI => ?_)
  · obtain ⟨l, d2, ok2, hl, hx, rfl, rfl⟩ := hI
    obtain ⟨rfl, hj2⟩ := rgD_at hd
    simp only [List.map_cons, List.map_nil, wipeE, List.set_cons_succ, List.set_cons_zero]
    simp only [e_var, e_int, e_str, e_bl, e_non, e_glob, e_bin, e_neg, e_cmp, e_and, e_or, e_not, e_call, e_bi, wp_meth, rc_all, true_and, wp_lc, s_try, s_aug, s_augS, isRef_t, if_true, bi_lenT, at_0, at_1, at_2, at_3, at_4, at_5, at_6, at_end, ixN_all, ix_lst, ix_tup, m_join, e_idx, e_slc, e_tup, e_lst, e_dict0, newL_true, newL_false, s_set, s_unp, s_sub, s_expr, s_ret, s_retN, s_pass, s_brk, s_cont, s_raise, ss_nil, wp_sscons, a_nil, a_cons, o_no, o_yes, p_no, p_yes, i_val, i_rg1, i_rg2, wp_for', wp_while, wp_rg, wp_bind, wp_then, wp_seq, wp_ok, wp_ex, wp_nx, wp_rt, wp_bk, wp_ct, wp_xx, wp_ofO, wpO_s, wpO_map, wpTr_t, wpTr_f, wpTr_n, wp_ifs, wp_ife, wp_and1, wp_and2, wp_or1, wp_or2, wp_chain, wpbin_add, wpbin_addS, wpbin_mulS, wpbin_sub, wpbin_mul, wpbin_mod, wpbin_fdiv, wpbin_addT, bind_ok, then_ok, List.length_cons, List.length_nil, Nat.reduceAdd, cx_call, cx_glob, tr_bl, bi_int, bi_abs, bi_lenL, bi_lenS, c_lt, c_le, c_gt, c_ge, c_eqI, c_eqS', c_neS', c_neI, e_isi, ty_int, ty_str, ty_bl, ty_non, ty_tup, ty_lstf, ty_any, bi_min2, Bool.not_true, Bool.not_false, ofO_some, Option.map_some, List.getElem?_cons_succ, List.getElem?_cons_zero, List.set_cons_succ, List.set_cons_zero, Int.reduceLT, Int.reduceLE, Int.reduceNeg, hlen]
    refine pick0 ok2 (by omega) fun q d3 ok3 q0 q1 => ?_
    obtain ⟨c, _, e⟩ := ix_strI (s := menu) (st := d3.O :: r) q0 (by rw [hlen]; omega)
    simp only [e_var, e_int, e_str, e_bl, e_non, e_glob, e_bin, e_neg, e_cmp, e_and, e_or, e_not, e_call, e_bi, wp_meth, rc_all, true_and, wp_lc, s_try, s_aug, s_augS, isRef_t, if_true, bi_lenT, at_0, at_1, at_2, at_3, at_4, at_5, at_6, at_end, ixN_all, ix_lst, ix_tup, m_join, e_idx, e_slc, e_tup, e_lst, e_dict0, newL_true, newL_false, s_set, s_unp, s_sub, s_expr, s_ret, s_retN, s_pass, s_brk, s_cont, s_raise, ss_nil, wp_sscons, a_nil, a_cons, o_no, o_yes, p_no, p_yes, i_val, i_rg1, i_rg2, wp_for', wp_while, wp_rg, wp_bind, wp_then, wp_seq, wp_ok, wp_ex, wp_nx, wp_rt, wp_bk, wp_ct, wp_xx, wp_ofO, wpO_s, wpO_map, wpTr_t, wpTr_f, wpTr_n, wp_ifs, wp_ife, wp_and1, wp_and2, wp_or1, wp_or2, wp_chain, wpbin_add, wpbin_addS, wpbin_mulS, wpbin_sub, wpbin_mul, wpbin_mod, wpbin_fdiv, wpbin_addT, bind_ok, then_ok, List.length_cons, List.length_nil, Nat.reduceAdd, cx_call, cx_glob, tr_bl, bi_int, bi_abs, bi_lenL, bi_lenS, c_lt, c_le, c_gt, c_ge, c_eqI, c_eqS', c_neS', c_neI, e_isi, ty_int, ty_str, ty_bl, ty_non, ty_tup, ty_lstf, ty_any, bi_min2, Bool.not_true, Bool.not_false, ofO_some, Option.map_some, List.getElem?_cons_succ, List.getElem?_cons_zero, List.set_cons_succ, List.set_cons_zero, Int.reduceLT, Int.reduceLE, Int.reduceNeg, e]
    refine ⟨by rw [List.length_map, lim_v]; omega, l ++ [[c]], d3, ok3, by simp [hl], ?_, by simp, by trivial⟩
    intro x hxm
    rcases List.mem_append.mp hxm with hxm | hxm
    · exact hx x hxm
    · rw [List.mem_singleton.mp hxm]; simp
  obtain ⟨l, d2, ok2, hl, hx, rfl, rfl⟩ := hI
  rw [rgD_len] at hl
  have hl3 : l.length ≤ 12 := by omega
  have hsum : ∀ l : List (List Nat), (∀ x ∈ l, x.length ≤ 1) → (l.map (·.length)).sum ≤ l.length := by
    intro l
    induction l with
    | nil => simp
    | cons a l ih =>
      intro h
      have := h a (by simp)
      have := ih fun x hx => h x (by simp [hx])
      simp only [List.map_cons, List.sum_cons, List.length_cons]; omega
  have hs := hsum l hx
  have lE : ("".toList.map Char.toNat) = [] := rfl
  simp only [e_var, e_int, e_str, e_bl, e_non, e_glob, e_bin, e_neg, e_cmp, e_and, e_or, e_not, e_call, e_bi, wp_meth, rc_all, true_and, wp_lc, s_try, s_aug, s_augS, isRef_t, if_true, bi_lenT, at_0, at_1, at_2, at_3, at_4, at_5, at_6, at_end, ixN_all, ix_lst, ix_tup, m_join, e_idx, e_slc, e_tup, e_lst, e_dict0, newL_true, newL_false, s_set, s_unp, s_sub, s_expr, s_ret, s_retN, s_pass, s_brk, s_cont, s_raise, ss_nil, wp_sscons, a_nil, a_cons, o_no, o_yes, p_no, p_yes, i_val, i_rg1, i_rg2, wp_for', wp_while, wp_rg, wp_bind, wp_then, wp_seq, wp_ok, wp_ex, wp_nx, wp_rt, wp_bk, wp_ct, wp_xx, wp_ofO, wpO_s, wpO_map, wpTr_t, wpTr_f, wpTr_n, wp_ifs, wp_ife, wp_and1, wp_and2, wp_or1, wp_or2, wp_chain, wpbin_add, wpbin_addS, wpbin_mulS, wpbin_sub, wpbin_mul, wpbin_mod, wpbin_fdiv, wpbin_addT, bind_ok, then_ok, List.length_cons, List.length_nil, Nat.reduceAdd, cx_call, cx_glob, tr_bl, bi_int, bi_abs, bi_lenL, bi_lenS, c_lt, c_le, c_gt, c_ge, c_eqI, c_eqS', c_neS', c_neI, e_isi, ty_int, ty_str, ty_bl, ty_non, ty_tup, ty_lstf, ty_any, bi_min2, Bool.not_true, Bool.not_false, ofO_some, Option.map_some, List.getElem?_cons_succ, List.getElem?_cons_zero, List.set_cons_succ, List.set_cons_zero, Int.reduceLT, Int.reduceLE, Int.reduceNeg]
  refine ⟨by rw [lE, lim_v]; simp only [List.length_nil]; omega, ?_⟩
  rw [lE, joinL_nil]
  exact gc_i rfl (H _ d2 ok2 (by rw [List.length_flatten]; show (l.map fun x => x.length).sum ≤ 100; omega))
theorem spoilt_wp (ok : d.Ok) {t : List Nat} (ht : t.length ≤ 100000) (H : ∀ (s : List Nat) (d' : Drw), d'.Ok → s.length ≤ t.length + 4 → Q (.str s) (d'.O :: r)) : (run prog (n + 5) "_law_spoilt" [.ref 0, .str t] (d.O :: r)).wp Q X := by
  refine wp_run (fd := d__law_spoilt) rfl rfl ?_
  simp only [d__law_spoilt, List.length_cons, List.length_nil, if_true, T.start, List.map_cons, List.map_nil, Nat.reduceAdd, Nat.reduceSub, List.replicate, List.cons_append, List.nil_append]
  simp only [e_var, e_int, e_str, e_bl, e_non, e_glob, e_bin, e_neg, e_cmp, e_and, e_or, e_not, e_call, e_bi, wp_meth, rc_all, true_and, wp_lc, s_try, s_aug, s_augS, isRef_t, if_true, bi_lenT, at_0, at_1, at_2, at_3, at_4, at_5, at_6, at_end, ixN_all, ix_lst, ix_tup, m_join, e_idx, e_slc, e_tup, e_lst, e_dict0, newL_true, newL_false, s_set, s_unp, s_sub, s_expr, s_ret, s_retN, s_pass, s_brk, s_cont, s_raise, ss_nil, wp_sscons, a_nil, a_cons, o_no, o_yes, p_no, p_yes, i_val, i_rg1, i_rg2, wp_for', wp_while, wp_rg, wp_bind, wp_then, wp_seq, wp_ok, wp_ex, wp_nx, wp_rt, wp_bk, wp_ct, wp_xx, wp_ofO, wpO_s, wpO_map, wpTr_t, wpTr_f, wpTr_n, wp_ifs, wp_ife, wp_and1, wp_and2, wp_or1, wp_or2, wp_chain, wpbin_add, wpbin_addS, wpbin_mulS, wpbin_sub, wpbin_mul, wpbin_mod, wpbin_fdiv, wpbin_addT, bind_ok, then_ok, List.length_cons, List.length_nil, Nat.reduceAdd, cx_call, cx_glob, tr_bl, bi_int, bi_abs, bi_lenL, bi_lenS, c_lt, c_le, c_gt, c_ge, c_eqI, c_eqS', c_neS', c_neI, e_isi, ty_int, ty_str, ty_bl, ty_non, ty_tup, ty_lstf, ty_any, bi_min2, Bool.not_true, Bool.not_false, ofO_some, Option.map_some, List.getElem?_cons_succ, List.getElem?_cons_zero, List.set_cons_succ, List.set_cons_zero, Int.reduceLT, Int.reduceLE, Int.reduceNeg]
  refine pick0 ok (by omega) fun q d1 ok1 q0 q1 => ?_
  have hlen : ("ab()0123456789a(2(p3 -.A~x".toList.map Char.toNat).length = 26 := by decide
  generalize ("ab()0123456789a(2(p3 -.A~x".toList.map Char.toNat) = menu at hlen
  simp only [e_var, e_int, e_str, e_bl, e_non, e_glob, e_bin, e_neg, e_cmp, e_and, e_or, e_not, e_call, e_bi, wp_meth, rc_all, true_and, wp_lc, s_try, s_aug, s_augS, isRef_t, if_true, bi_lenT, at_0, at_1, at_2, at_3, at_4, at_5, at_6, at_end, ixN_all, ix_lst, ix_tup, m_join, e_idx, e_slc, e_tup, e_lst, e_dict0, newL_true, newL_false, s_set, s_unp, s_sub, s_expr, s_ret, s_retN, s_pass, s_brk, s_cont, s_raise, ss_nil, wp_sscons, a_nil, a_cons, o_no, o_yes, p_no, p_yes, i_val, i_rg1, i_rg2, wp_for', wp_while, wp_rg, wp_bind, wp_then, wp_seq, wp_ok, wp_ex, wp_nx, wp_rt, wp_bk, wp_ct, wp_xx, wp_ofO, wpO_s, wpO_map, wpTr_t, wpTr_f, wpTr_n, wp_ifs, wp_ife, wp_and1, wp_and2, wp_or1, wp_or2, wp_chain, wpbin_add, wpbin_addS, wpbin_mulS, wpbin_sub, wpbin_mul, wpbin_mod, wpbin_fdiv, wpbin_addT, bind_ok, then_ok, List.length_cons, List.length_nil, Nat.reduceAdd, cx_call, cx_glob, tr_bl, bi_int, bi_abs, bi_lenL, bi_lenS, c_lt, c_le, c_gt, c_ge, c_eqI, c_eqS', c_neS', c_neI, e_isi, ty_int, ty_str, ty_bl, ty_non, ty_tup, ty_lstf, ty_any, bi_min2, Bool.not_true, Bool.not_false, ofO_some, Option.map_some, List.getElem?_cons_succ, List.getElem?_cons_zero, List.set_cons_succ, List.set_cons_zero, Int.reduceLT, Int.reduceLE, Int.reduceNeg, hlen]
  refine pick0 ok1 (by omega) fun q2 d2 ok2 q20 q21 => ?_
  obtain ⟨c, _, e⟩ := ix_strI (s := menu) (st := d2.O :: r) q20 (by rw [hlen]; omega)
  simp only [e_var, e_int, e_str, e_bl, e_non, e_glob, e_bin, e_neg, e_cmp, e_and, e_or, e_not, e_call, e_bi, wp_meth, rc_all, true_and, wp_lc, s_try, s_aug, s_augS, isRef_t, if_true, bi_lenT, at_0, at_1, at_2, at_3, at_4, at_5, at_6, at_end, ixN_all, ix_lst, ix_tup, m_join, e_idx, e_slc, e_tup, e_lst, e_dict0, newL_true, newL_false, s_set, s_unp, s_sub, s_expr, s_ret, s_retN, s_pass, s_brk, s_cont, s_raise, ss_nil, wp_sscons, a_nil, a_cons, o_no, o_yes, p_no, p_yes, i_val, i_rg1, i_rg2, wp_for', wp_while, wp_rg, wp_bind, wp_then, wp_seq, wp_ok, wp_ex, wp_nx, wp_rt, wp_bk, wp_ct, wp_xx, wp_ofO, wpO_s, wpO_map, wpTr_t, wpTr_f, wpTr_n, wp_ifs, wp_ife, wp_and1, wp_and2, wp_or1, wp_or2, wp_chain, wpbin_add, wpbin_addS, wpbin_mulS, wpbin_sub, wpbin_mul, wpbin_mod, wpbin_fdiv, wpbin_addT, bind_ok, then_ok, List.length_cons, List.length_nil, Nat.reduceAdd, cx_call, cx_glob, tr_bl, bi_int, bi_abs, bi_lenL, bi_lenS, c_lt, c_le, c_gt, c_ge, c_eqI, c_eqS', c_neS', c_neI, e_isi, ty_int, ty_str, ty_bl, ty_non, ty_tup, ty_lstf, ty_any, bi_min2, Bool.not_true, Bool.not_false, ofO_some, Option.map_some, List.getElem?_cons_succ, List.getElem?_cons_zero, List.set_cons_succ, List.set_cons_zero, Int.reduceLT, Int.reduceLE, Int.reduceNeg, e]
  refine pick0 ok2 (by omega) fun w d3 ok3 w0 w1 => ?_
  obtain ⟨j, rfl⟩ : ∃ j : Nat, q = j := ⟨q.toNat, by omega⟩
  have hj : j ≤ t.length := by omega
  have e1 : (j : Int) + 1 = ((j + 1 : Nat) : Int) := by omega
  have s1 : ∀ {fz : Bool} {st : Store}, slice fz (.str t) none (some (j : Int)) st = .ok (.str (t.take j)) st := fun {fz st} => by show R.ok (D.str (cut _ _ _)) st = _; rw [cut_lo hj]
  have s2 : ∀ {fz : Bool} {i : Nat} {st : Store}, slice fz (.str t) (some (i : Int)) none st = .ok (.str (t.drop i)) st := fun {fz i st} => by show R.ok (D.str (cut _ _ _)) st = _; rw [cut_hi]
  refine ss_cut (fun ev s => ∃ (u : List Nat) (d' : Drw), d'.Ok ∧ u.length ≤ 4 ∧ ev = [some (.ref 0), some (.str t), some (.str menu), some (.int j), some (.str u), some (.int w)] ∧ s = d'.O :: r) ?_ ?_
  · simp only [e_var, e_int, e_str, e_bl, e_non, e_glob, e_bin, e_neg, e_cmp, e_and, e_or, e_not, e_call, e_bi, wp_meth, rc_all, true_and, wp_lc, s_try, s_aug, s_augS, isRef_t, if_true, bi_lenT, at_0, at_1, at_2, at_3, at_4, at_5, at_6, at_end, ixN_all, ix_lst, ix_tup, m_join, e_idx, e_slc, e_tup, e_lst, e_dict0, newL_true, newL_false, s_set, s_unp, s_sub, s_expr, s_ret, s_retN, s_pass, s_brk, s_cont, s_raise, ss_nil, wp_sscons, a_nil, a_cons, o_no, o_yes, p_no, p_yes, i_val, i_rg1, i_rg2, wp_for', wp_while, wp_rg, wp_bind, wp_then, wp_seq, wp_ok, wp_ex, wp_nx, wp_rt, wp_bk, wp_ct, wp_xx, wp_ofO, wpO_s, wpO_map, wpTr_t, wpTr_f, wpTr_n, wp_ifs, wp_ife, wp_and1, wp_and2, wp_or1, wp_or2, wp_chain, wpbin_add, wpbin_addS, wpbin_mulS, wpbin_sub, wpbin_mul, wpbin_mod, wpbin_fdiv, wpbin_addT, bind_ok, then_ok, List.length_cons, List.length_nil, Nat.reduceAdd, cx_call, cx_glob, tr_bl, bi_int, bi_abs, bi_lenL, bi_lenS, c_lt, c_le, c_gt, c_ge, c_eqI, c_eqS', c_neS', c_neI, e_isi, ty_int, ty_str, ty_bl, ty_non, ty_tup, ty_lstf, ty_any, bi_min2, Bool.not_true, Bool.not_false, ofO_some, Option.map_some, List.getElem?_cons_succ, List.getElem?_cons_zero, List.set_cons_succ, List.set_cons_zero, Int.reduceLT, Int.reduceLE, Int.reduceNeg]
    refine wpTr_d (fun h => ?_) (fun h => ?_)
    · simp only [e_var, e_int, e_str, e_bl, e_non, e_glob, e_bin, e_neg, e_cmp, e_and, e_or, e_not, e_call, e_bi, wp_meth, rc_all, true_and, wp_lc, s_try, s_aug, s_augS, isRef_t, if_true, bi_lenT, at_0, at_1, at_2, at_3, at_4, at_5, at_6, at_end, ixN_all, ix_lst, ix_tup, m_join, e_idx, e_slc, e_tup, e_lst, e_dict0, newL_true, newL_false, s_set, s_unp, s_sub, s_expr, s_ret, s_retN, s_pass, s_brk, s_cont, s_raise, ss_nil, wp_sscons, a_nil, a_cons, o_no, o_yes, p_no, p_yes, i_val, i_rg1, i_rg2, wp_for', wp_while, wp_rg, wp_bind, wp_then, wp_seq, wp_ok, wp_ex, wp_nx, wp_rt, wp_bk, wp_ct, wp_xx, wp_ofO, wpO_s, wpO_map, wpTr_t, wpTr_f, wpTr_n, wp_ifs, wp_ife, wp_and1, wp_and2, wp_or1, wp_or2, wp_chain, wpbin_add, wpbin_addS, wpbin_mulS, wpbin_sub, wpbin_mul, wpbin_mod, wpbin_fdiv, wpbin_addT, bind_ok, then_ok, List.length_cons, List.length_nil, Nat.reduceAdd, cx_call, cx_glob, tr_bl, bi_int, bi_abs, bi_lenL, bi_lenS, c_lt, c_le, c_gt, c_ge, c_eqI, c_eqS', c_neS', c_neI, e_isi, ty_int, ty_str, ty_bl, ty_non, ty_tup, ty_lstf, ty_any, bi_min2, Bool.not_true, Bool.not_false, ofO_some, Option.map_some, List.getElem?_cons_succ, List.getElem?_cons_zero, List.set_cons_succ, List.set_cons_zero, Int.reduceLT, Int.reduceLE, Int.reduceNeg]
      refine pick0 ok3 (by omega) fun q3 d4 ok4 q30 q31 => ?_
      obtain ⟨x, hx, e⟩ := at_in (l := [D.str ("2()".toList.map Char.toNat), D.str ("()".toList.map Char.toNat), D.str ("2(a".toList.map Char.toNat), D.str ("a)".toList.map Char.toNat), D.str ("100a".toList.map Char.toNat), D.str ("02a".toList.map Char.toNat), D.str ("1a".toList.map Char.toNat), D.str ("7(".toList.map Char.toNat), D.str ("99".toList.map Char.toNat), D.str ("2)".toList.map Char.toNat), D.str ("3(b)".toList.map Char.toNat), D.str ("0".toList.map Char.toNat)]) q30 (by show q3 < 12; omega)
      have hxs : ∃ u : List Nat, x = .str u ∧ u.length ≤ 4 := by
        simp only [List.mem_cons, List.not_mem_nil, or_false] at hx
        rcases hx with rfl | rfl | rfl | rfl | rfl | rfl | rfl | rfl | rfl | rfl | rfl | rfl <;> exact ⟨_, rfl, by decide⟩
      obtain ⟨u, rfl, hu⟩ := hxs
      simp only [e_var, e_int, e_str, e_bl, e_non, e_glob, e_bin, e_neg, e_cmp, e_and, e_or, e_not, e_call, e_bi, wp_meth, rc_all, true_and, wp_lc, s_try, s_aug, s_augS, isRef_t, if_true, bi_lenT, at_0, at_1, at_2, at_3, at_4, at_5, at_6, at_end, ixN_all, ix_lst, ix_tup, m_join, e_idx, e_slc, e_tup, e_lst, e_dict0, newL_true, newL_false, s_set, s_unp, s_sub, s_expr, s_ret, s_retN, s_pass, s_brk, s_cont, s_raise, ss_nil, wp_sscons, a_nil, a_cons, o_no, o_yes, p_no, p_yes, i_val, i_rg1, i_rg2, wp_for', wp_while, wp_rg, wp_bind, wp_then, wp_seq, wp_ok, wp_ex, wp_nx, wp_rt, wp_bk, wp_ct, wp_xx, wp_ofO, wpO_s, wpO_map, wpTr_t, wpTr_f, wpTr_n, wp_ifs, wp_ife, wp_and1, wp_and2, wp_or1, wp_or2, wp_chain, wpbin_add, wpbin_addS, wpbin_mulS, wpbin_sub, wpbin_mul, wpbin_mod, wpbin_fdiv, wpbin_addT, bind_ok, then_ok, List.length_cons, List.length_nil, Nat.reduceAdd, cx_call, cx_glob, tr_bl, bi_int, bi_abs, bi_lenL, bi_lenS, c_lt, c_le, c_gt, c_ge, c_eqI, c_eqS', c_neS', c_neI, e_isi, ty_int, ty_str, ty_bl, ty_non, ty_tup, ty_lstf, ty_any, bi_min2, Bool.not_true, Bool.not_false, ofO_some, Option.map_some, List.getElem?_cons_succ, List.getElem?_cons_zero, List.set_cons_succ, List.set_cons_zero, Int.reduceLT, Int.reduceLE, Int.reduceNeg, e]
      exact ⟨u, d4, ok4, hu, rfl, by trivial⟩
    · simp only [e_var, e_int, e_str, e_bl, e_non, e_glob, e_bin, e_neg, e_cmp, e_and, e_or, e_not, e_call, e_bi, wp_meth, rc_all, true_and, wp_lc, s_try, s_aug, s_augS, isRef_t, if_true, bi_lenT, at_0, at_1, at_2, at_3, at_4, at_5, at_6, at_end, ixN_all, ix_lst, ix_tup, m_join, e_idx, e_slc, e_tup, e_lst, e_dict0, newL_true, newL_false, s_set, s_unp, s_sub, s_expr, s_ret, s_retN, s_pass, s_brk, s_cont, s_raise, ss_nil, wp_sscons, a_nil, a_cons, o_no, o_yes, p_no, p_yes, i_val, i_rg1, i_rg2, wp_for', wp_while, wp_rg, wp_bind, wp_then, wp_seq, wp_ok, wp_ex, wp_nx, wp_rt, wp_bk, wp_ct, wp_xx, wp_ofO, wpO_s, wpO_map, wpTr_t, wpTr_f, wpTr_n, wp_ifs, wp_ife, wp_and1, wp_and2, wp_or1, wp_or2, wp_chain, wpbin_add, wpbin_addS, wpbin_mulS, wpbin_sub, wpbin_mul, wpbin_mod, wpbin_fdiv, wpbin_addT, bind_ok, then_ok, List.length_cons, List.length_nil, Nat.reduceAdd, cx_call, cx_glob, tr_bl, bi_int, bi_abs, bi_lenL, bi_lenS, c_lt, c_le, c_gt, c_ge, c_eqI, c_eqS', c_neS', c_neI, e_isi, ty_int, ty_str, ty_bl, ty_non, ty_tup, ty_lstf, ty_any, bi_min2, Bool.not_true, Bool.not_false, ofO_some, Option.map_some, List.getElem?_cons_succ, List.getElem?_cons_zero, List.set_cons_succ, List.set_cons_zero, Int.reduceLT, Int.reduceLE, Int.reduceNeg]
      exact ⟨[c], d3, ok3, by show 1 ≤ 4; omega, rfl, by trivial⟩
  rintro _ _ ⟨u, d4, ok4, hu, rfl, rfl⟩
  simp only [e_var, e_int, e_str, e_bl, e_non, e_glob, e_bin, e_neg, e_cmp, e_and, e_or, e_not, e_call, e_bi, wp_meth, rc_all, true_and, wp_lc, s_try, s_aug, s_augS, isRef_t, if_true, bi_lenT, at_0, at_1, at_2, at_3, at_4, at_5, at_6, at_end, ixN_all, ix_lst, ix_tup, m_join, e_idx, e_slc, e_tup, e_lst, e_dict0, newL_true, newL_false, s_set, s_unp, s_sub, s_expr, s_ret, s_retN, s_pass, s_brk, s_cont, s_raise, ss_nil, wp_sscons, a_nil, a_cons, o_no, o_yes, p_no, p_yes, i_val, i_rg1, i_rg2, wp_for', wp_while, wp_rg, wp_bind, wp_then, wp_seq, wp_ok, wp_ex, wp_nx, wp_rt, wp_bk, wp_ct, wp_xx, wp_ofO, wpO_s, wpO_map, wpTr_t, wpTr_f, wpTr_n, wp_ifs, wp_ife, wp_and1, wp_and2, wp_or1, wp_or2, wp_chain, wpbin_add, wpbin_addS, wpbin_mulS, wpbin_sub, wpbin_mul, wpbin_mod, wpbin_fdiv, wpbin_addT, bind_ok, then_ok, List.length_cons, List.length_nil, Nat.reduceAdd, cx_call, cx_glob, tr_bl, bi_int, bi_abs, bi_lenL, bi_lenS, c_lt, c_le, c_gt, c_ge, c_eqI, c_eqS', c_neS', c_neI, e_isi, ty_int, ty_str, ty_bl, ty_non, ty_tup, ty_lstf, ty_any, bi_min2, Bool.not_true, Bool.not_false, ofO_some, Option.map_some, List.getElem?_cons_succ, List.getElem?_cons_zero, List.set_cons_succ, List.set_cons_zero, Int.reduceLT, Int.reduceLE, Int.reduceNeg]
  refine or_pure (p := w < 2) (q := w = 7) ?_ ?_ (fun hp h => by rw [decide_eq_true hp]; exact h)
  · exact evOr_one (by simp only [e_var, e_int, e_str, e_bl, e_non, e_glob, e_bin, e_neg, e_cmp, e_and, e_or, e_not, e_call, e_bi, wp_meth, rc_all, true_and, wp_lc, s_try, s_aug, s_augS, isRef_t, if_true, bi_lenT, at_0, at_1, at_2, at_3, at_4, at_5, at_6, at_end, ixN_all, ix_lst, ix_tup, m_join, e_idx, e_slc, e_tup, e_lst, e_dict0, newL_true, newL_false, s_set, s_unp, s_sub, s_expr, s_ret, s_retN, s_pass, s_brk, s_cont, s_raise, ss_nil, wp_sscons, a_nil, a_cons, o_no, o_yes, p_no, p_yes, i_val, i_rg1, i_rg2, wp_for', wp_while, wp_rg, wp_bind, wp_then, wp_seq, wp_ok, wp_ex, wp_nx, wp_rt, wp_bk, wp_ct, wp_xx, wp_ofO, wpO_s, wpO_map, wpTr_t, wpTr_f, wpTr_n, wp_ifs, wp_ife, wp_and1, wp_and2, wp_or1, wp_or2, wp_chain, wpbin_add, wpbin_addS, wpbin_mulS, wpbin_sub, wpbin_mul, wpbin_mod, wpbin_fdiv, wpbin_addT, bind_ok, then_ok, List.length_cons, List.length_nil, Nat.reduceAdd, cx_call, cx_glob, tr_bl, bi_int, bi_abs, bi_lenL, bi_lenS, c_lt, c_le, c_gt, c_ge, c_eqI, c_eqS', c_neS', c_neI, e_isi, ty_int, ty_str, ty_bl, ty_non, ty_tup, ty_lstf, ty_any, bi_min2, Bool.not_true, Bool.not_false, ofO_some, Option.map_some, List.getElem?_cons_succ, List.getElem?_cons_zero, List.set_cons_succ, List.set_cons_zero, Int.reduceLT, Int.reduceLE, Int.reduceNeg])
  refine wpTr_d (fun h => ?_) (fun h => ?_)
  · simp only [e_var, e_int, e_str, e_bl, e_non, e_glob, e_bin, e_neg, e_cmp, e_and, e_or, e_not, e_call, e_bi, wp_meth, rc_all, true_and, wp_lc, s_try, s_aug, s_augS, isRef_t, if_true, bi_lenT, at_0, at_1, at_2, at_3, at_4, at_5, at_6, at_end, ixN_all, ix_lst, ix_tup, m_join, e_idx, e_slc, e_tup, e_lst, e_dict0, newL_true, newL_false, s_set, s_unp, s_sub, s_expr, s_ret, s_retN, s_pass, s_brk, s_cont, s_raise, ss_nil, wp_sscons, a_nil, a_cons, o_no, o_yes, p_no, p_yes, i_val, i_rg1, i_rg2, wp_for', wp_while, wp_rg, wp_bind, wp_then, wp_seq, wp_ok, wp_ex, wp_nx, wp_rt, wp_bk, wp_ct, wp_xx, wp_ofO, wpO_s, wpO_map, wpTr_t, wpTr_f, wpTr_n, wp_ifs, wp_ife, wp_and1, wp_and2, wp_or1, wp_or2, wp_chain, wpbin_add, wpbin_addS, wpbin_mulS, wpbin_sub, wpbin_mul, wpbin_mod, wpbin_fdiv, wpbin_addT, bind_ok, then_ok, List.length_cons, List.length_nil, Nat.reduceAdd, cx_call, cx_glob, tr_bl, bi_int, bi_abs, bi_lenL, bi_lenS, c_lt, c_le, c_gt, c_ge, c_eqI, c_eqS', c_neS', c_neI, e_isi, ty_int, ty_str, ty_bl, ty_non, ty_tup, ty_lstf, ty_any, bi_min2, Bool.not_true, Bool.not_false, ofO_some, Option.map_some, List.getElem?_cons_succ, List.getElem?_cons_zero, List.set_cons_succ, List.set_cons_zero, Int.reduceLT, Int.reduceLE, Int.reduceNeg, s1, s2, List.length_append, List.length_take, List.length_drop]
    refine ⟨by rw [lim_v]; omega, by rw [lim_v]; omega, gc_i rfl (H _ d4 ok4 ?_)⟩
    simp only [List.length_append, List.length_take, List.length_drop]; omega
  · simp only [e_var, e_int, e_str, e_bl, e_non, e_glob, e_bin, e_neg, e_cmp, e_and, e_or, e_not, e_call, e_bi, wp_meth, rc_all, true_and, wp_lc, s_try, s_aug, s_augS, isRef_t, if_true, bi_lenT, at_0, at_1, at_2, at_3, at_4, at_5, at_6, at_end, ixN_all, ix_lst, ix_tup, m_join, e_idx, e_slc, e_tup, e_lst, e_dict0, newL_true, newL_false, s_set, s_unp, s_sub, s_expr, s_ret, s_retN, s_pass, s_brk, s_cont, s_raise, ss_nil, wp_sscons, a_nil, a_cons, o_no, o_yes, p_no, p_yes, i_val, i_rg1, i_rg2, wp_for', wp_while, wp_rg, wp_bind, wp_then, wp_seq, wp_ok, wp_ex, wp_nx, wp_rt, wp_bk, wp_ct, wp_xx, wp_ofO, wpO_s, wpO_map, wpTr_t, wpTr_f, wpTr_n, wp_ifs, wp_ife, wp_and1, wp_and2, wp_or1, wp_or2, wp_chain, wpbin_add, wpbin_addS, wpbin_mulS, wpbin_sub, wpbin_mul, wpbin_mod, wpbin_fdiv, wpbin_addT, bind_ok, then_ok, List.length_cons, List.length_nil, Nat.reduceAdd, cx_call, cx_glob, tr_bl, bi_int, bi_abs, bi_lenL, bi_lenS, c_lt, c_le, c_gt, c_ge, c_eqI, c_eqS', c_neS', c_neI, e_isi, ty_int, ty_str, ty_bl, ty_non, ty_tup, ty_lstf, ty_any, bi_min2, Bool.not_true, Bool.not_false, ofO_some, Option.map_some, List.getElem?_cons_succ, List.getElem?_cons_zero, List.set_cons_succ, List.set_cons_zero, Int.reduceLT, Int.reduceLE, Int.reduceNeg]
    refine wpTr_d (fun h => ?_) (fun h => ?_)
    · simp only [e_var, e_int, e_str, e_bl, e_non, e_glob, e_bin, e_neg, e_cmp, e_and, e_or, e_not, e_call, e_bi, wp_meth, rc_all, true_and, wp_lc, s_try, s_aug, s_augS, isRef_t, if_true, bi_lenT, at_0, at_1, at_2, at_3, at_4, at_5, at_6, at_end, ixN_all, ix_lst, ix_tup, m_join, e_idx, e_slc, e_tup, e_lst, e_dict0, newL_true, newL_false, s_set, s_unp, s_sub, s_expr, s_ret, s_retN, s_pass, s_brk, s_cont, s_raise, ss_nil, wp_sscons, a_nil, a_cons, o_no, o_yes, p_no, p_yes, i_val, i_rg1, i_rg2, wp_for', wp_while, wp_rg, wp_bind, wp_then, wp_seq, wp_ok, wp_ex, wp_nx, wp_rt, wp_bk, wp_ct, wp_xx, wp_ofO, wpO_s, wpO_map, wpTr_t, wpTr_f, wpTr_n, wp_ifs, wp_ife, wp_and1, wp_and2, wp_or1, wp_or2, wp_chain, wpbin_add, wpbin_addS, wpbin_mulS, wpbin_sub, wpbin_mul, wpbin_mod, wpbin_fdiv, wpbin_addT, bind_ok, then_ok, List.length_cons, List.length_nil, Nat.reduceAdd, cx_call, cx_glob, tr_bl, bi_int, bi_abs, bi_lenL, bi_lenS, c_lt, c_le, c_gt, c_ge, c_eqI, c_eqS', c_neS', c_neI, e_isi, ty_int, ty_str, ty_bl, ty_non, ty_tup, ty_lstf, ty_any, bi_min2, Bool.not_true, Bool.not_false, ofO_some, Option.map_some, List.getElem?_cons_succ, List.getElem?_cons_zero, List.set_cons_succ, List.set_cons_zero, Int.reduceLT, Int.reduceLE, Int.reduceNeg, s1, e1, s2, List.length_append, List.length_take, List.length_drop]
      refine ⟨by rw [lim_v]; omega, gc_i rfl (H _ d4 ok4 ?_)⟩
      simp only [List.length_append, List.length_take, List.length_drop]; omega
    · simp only [e_var, e_int, e_str, e_bl, e_non, e_glob, e_bin, e_neg, e_cmp, e_and, e_or, e_not, e_call, e_bi, wp_meth, rc_all, true_and, wp_lc, s_try, s_aug, s_augS, isRef_t, if_true, bi_lenT, at_0, at_1, at_2, at_3, at_4, at_5, at_6, at_end, ixN_all, ix_lst, ix_tup, m_join, e_idx, e_slc, e_tup, e_lst, e_dict0, newL_true, newL_false, s_set, s_unp, s_sub, s_expr, s_ret, s_retN, s_pass, s_brk, s_cont, s_raise, ss_nil, wp_sscons, a_nil, a_cons, o_no, o_yes, p_no, p_yes, i_val, i_rg1, i_rg2, wp_for', wp_while, wp_rg, wp_bind, wp_then, wp_seq, wp_ok, wp_ex, wp_nx, wp_rt, wp_bk, wp_ct, wp_xx, wp_ofO, wpO_s, wpO_map, wpTr_t, wpTr_f, wpTr_n, wp_ifs, wp_ife, wp_and1, wp_and2, wp_or1, wp_or2, wp_chain, wpbin_add, wpbin_addS, wpbin_mulS, wpbin_sub, wpbin_mul, wpbin_mod, wpbin_fdiv, wpbin_addT, bind_ok, then_ok, List.length_cons, List.length_nil, Nat.reduceAdd, cx_call, cx_glob, tr_bl, bi_int, bi_abs, bi_lenL, bi_lenS, c_lt, c_le, c_gt, c_ge, c_eqI, c_eqS', c_neS', c_neI, e_isi, ty_int, ty_str, ty_bl, ty_non, ty_tup, ty_lstf, ty_any, bi_min2, Bool.not_true, Bool.not_false, ofO_some, Option.map_some, List.getElem?_cons_succ, List.getElem?_cons_zero, List.set_cons_succ, List.set_cons_zero, Int.reduceLT, Int.reduceLE, Int.reduceNeg]
      refine wpTr_d (fun h => ?_) (fun h => ?_)
      · simp only [e_var, e_int, e_str, e_bl, e_non, e_glob, e_bin, e_neg, e_cmp, e_and, e_or, e_not, e_call, e_bi, wp_meth, rc_all, true_and, wp_lc, s_try, s_aug, s_augS, isRef_t, if_true, bi_lenT, at_0, at_1, at_2, at_3, at_4, at_5, at_6, at_end, ixN_all, ix_lst, ix_tup, m_join, e_idx, e_slc, e_tup, e_lst, e_dict0, newL_true, newL_false, s_set, s_unp, s_sub, s_expr, s_ret, s_retN, s_pass, s_brk, s_cont, s_raise, ss_nil, wp_sscons, a_nil, a_cons, o_no, o_yes, p_no, p_yes, i_val, i_rg1, i_rg2, wp_for', wp_while, wp_rg, wp_bind, wp_then, wp_seq, wp_ok, wp_ex, wp_nx, wp_rt, wp_bk, wp_ct, wp_xx, wp_ofO, wpO_s, wpO_map, wpTr_t, wpTr_f, wpTr_n, wp_ifs, wp_ife, wp_and1, wp_and2, wp_or1, wp_or2, wp_chain, wpbin_add, wpbin_addS, wpbin_mulS, wpbin_sub, wpbin_mul, wpbin_mod, wpbin_fdiv, wpbin_addT, bind_ok, then_ok, List.length_cons, List.length_nil, Nat.reduceAdd, cx_call, cx_glob, tr_bl, bi_int, bi_abs, bi_lenL, bi_lenS, c_lt, c_le, c_gt, c_ge, c_eqI, c_eqS', c_neS', c_neI, e_isi, ty_int, ty_str, ty_bl, ty_non, ty_tup, ty_lstf, ty_any, bi_min2, Bool.not_true, Bool.not_false, ofO_some, Option.map_some, List.getElem?_cons_succ, List.getElem?_cons_zero, List.set_cons_succ, List.set_cons_zero, Int.reduceLT, Int.reduceLE, Int.reduceNeg, s1, e1, s2, List.length_append, List.length_take, List.length_drop]
        refine ⟨by rw [lim_v]; omega, by rw [lim_v]; omega, gc_i rfl (H _ d4 ok4 ?_)⟩
        simp only [List.length_append, List.length_take, List.length_drop]; omega
      · simp only [e_var, e_int, e_str, e_bl, e_non, e_glob, e_bin, e_neg, e_cmp, e_and, e_or, e_not, e_call, e_bi, wp_meth, rc_all, true_and, wp_lc, s_try, s_aug, s_augS, isRef_t, if_true, bi_lenT, at_0, at_1, at_2, at_3, at_4, at_5, at_6, at_end, ixN_all, ix_lst, ix_tup, m_join, e_idx, e_slc, e_tup, e_lst, e_dict0, newL_true, newL_false, s_set, s_unp, s_sub, s_expr, s_ret, s_retN, s_pass, s_brk, s_cont, s_raise, ss_nil, wp_sscons, a_nil, a_cons, o_no, o_yes, p_no, p_yes, i_val, i_rg1, i_rg2, wp_for', wp_while, wp_rg, wp_bind, wp_then, wp_seq, wp_ok, wp_ex, wp_nx, wp_rt, wp_bk, wp_ct, wp_xx, wp_ofO, wpO_s, wpO_map, wpTr_t, wpTr_f, wpTr_n, wp_ifs, wp_ife, wp_and1, wp_and2, wp_or1, wp_or2, wp_chain, wpbin_add, wpbin_addS, wpbin_mulS, wpbin_sub, wpbin_mul, wpbin_mod, wpbin_fdiv, wpbin_addT, bind_ok, then_ok, List.length_cons, List.length_nil, Nat.reduceAdd, cx_call, cx_glob, tr_bl, bi_int, bi_abs, bi_lenL, bi_lenS, c_lt, c_le, c_gt, c_ge, c_eqI, c_eqS', c_neS', c_neI, e_isi, ty_int, ty_str, ty_bl, ty_non, ty_tup, ty_lstf, ty_any, bi_min2, Bool.not_true, Bool.not_false, ofO_some, Option.map_some, List.getElem?_cons_succ, List.getElem?_cons_zero, List.set_cons_succ, List.set_cons_zero, Int.reduceLT, Int.reduceLE, Int.reduceNeg, s1]
        refine gc_i rfl (H _ d4 ok4 ?_)
        rw [List.length_take]; omega
theorem app_len {d : Drw} {r : Store} {x : O} : (d.O :: (r ++ [x]))[r.length + 1]? = some x := by
  rw [List.getElem?_cons_succ]; exact app_last
theorem set_len {d : Drw} {r : Store} {x y : O} : (d.O :: (r ++ [x])).set (r.length + 1) y = d.O :: (r ++ [y]) := by
  rw [List.set_cons_succ, set_last]
theorem long_wp (hw : Wf (d.O :: r)) (ok : d.Ok) (H : ∀ (s : List Nat) (d' : Drw), d'.Ok → s.length ≤ 1000 → Q (.str s) (d'.O :: r)) : (run prog (n + 5) "_law_long" [.ref 0] (d.O :: r)).wp Q X := by
  refine wp_run (fd := d__law_long) rfl rfl ?_
  simp only [d__law_long, List.length_cons, List.length_nil, if_true, T.start, List.map_cons, List.map_nil, Nat.reduceAdd, Nat.reduceSub, List.replicate, List.cons_append, List.nil_append]
  simp only [e_var, e_int, e_str, e_bl, e_non, e_glob, e_bin, e_neg, e_cmp, e_and, e_or, e_not, e_call, e_bi, wp_meth, rc_all, true_and, wp_lc, s_try, s_aug, s_augS, isRef_t, if_true, bi_lenT, at_0, at_1, at_2, at_3, at_4, at_5, at_6, at_end, ixN_all, ix_lst, ix_tup, m_join, e_idx, e_slc, e_tup, e_lst, e_dict0, newL_true, newL_false, s_set, s_unp, s_sub, s_expr, s_ret, s_retN, s_pass, s_brk, s_cont, s_raise, ss_nil, wp_sscons, a_nil, a_cons, o_no, o_yes, p_no, p_yes, i_val, i_rg1, i_rg2, wp_for', wp_while, wp_rg, wp_bind, wp_then, wp_seq, wp_ok, wp_ex, wp_nx, wp_rt, wp_bk, wp_ct, wp_xx, wp_ofO, wpO_s, wpO_map, wpTr_t, wpTr_f, wpTr_n, wp_ifs, wp_ife, wp_and1, wp_and2, wp_or1, wp_or2, wp_chain, wpbin_add, wpbin_addS, wpbin_mulS, wpbin_sub, wpbin_mul, wpbin_mod, wpbin_fdiv, wpbin_addT, bind_ok, then_ok, List.length_cons, List.length_nil, Nat.reduceAdd, cx_call, cx_glob, tr_bl, bi_int, bi_abs, bi_lenL, bi_lenS, c_lt, c_le, c_gt, c_ge, c_eqI, c_eqS', c_neS', c_neI, e_isi, ty_int, ty_str, ty_bl, ty_non, ty_tup, ty_lstf, ty_any, bi_min2, Bool.not_true, Bool.not_false, ofO_some, Option.map_some, List.getElem?_cons_succ, List.getElem?_cons_zero, List.set_cons_succ, List.set_cons_zero, Int.reduceLT, Int.reduceLE, Int.reduceNeg]
  refine pick0 ok (by omega) fun q d1 ok1 q0 q1 => ?_
  simp only [e_var, e_int, e_str, e_bl, e_non, e_glob, e_bin, e_neg, e_cmp, e_and, e_or, e_not, e_call, e_bi, wp_meth, rc_all, true_and, wp_lc, s_try, s_aug, s_augS, isRef_t, if_true, bi_lenT, at_0, at_1, at_2, at_3, at_4, at_5, at_6, at_end, ixN_all, ix_lst, ix_tup, m_join, e_idx, e_slc, e_tup, e_lst, e_dict0, newL_true, newL_false, s_set, s_unp, s_sub, s_expr, s_ret, s_retN, s_pass, s_brk, s_cont, s_raise, ss_nil, wp_sscons, a_nil, a_cons, o_no, o_yes, p_no, p_yes, i_val, i_rg1, i_rg2, wp_for', wp_while, wp_rg, wp_bind, wp_then, wp_seq, wp_ok, wp_ex, wp_nx, wp_rt, wp_bk, wp_ct, wp_xx, wp_ofO, wpO_s, wpO_map, wpTr_t, wpTr_f, wpTr_n, wp_ifs, wp_ife, wp_and1, wp_and2, wp_or1, wp_or2, wp_chain, wpbin_add, wpbin_addS, wpbin_mulS, wpbin_sub, wpbin_mul, wpbin_mod, wpbin_fdiv, wpbin_addT, bind_ok, then_ok, List.length_cons, List.length_nil, Nat.reduceAdd, cx_call, cx_glob, tr_bl, bi_int, bi_abs, bi_lenL, bi_lenS, c_lt, c_le, c_gt, c_ge, c_eqI, c_eqS', c_neS', c_neI, e_isi, ty_int, ty_str, ty_bl, ty_non, ty_tup, ty_lstf, ty_any, bi_min2, Bool.not_true, Bool.not_false, ofO_some, Option.map_some, List.getElem?_cons_succ, List.getElem?_cons_zero, List.set_cons_succ, List.set_cons_zero, Int.reduceLT, Int.reduceLE, Int.reduceNeg]
  refine ⟨by rw [c62_v]; omega, ?_⟩
  refine wpFor_nm (fun i env s => ∃ (l : List (List Nat)) (rest : Int) (d' : Drw) (x3 x4 : Option D), d'.Ok ∧ l.length ≤ i ∧ (∀ x ∈ l, x.length ≤ 4) ∧ 0 ≤ rest ∧ rest ≤ 420 ∧ env = [some (.ref 0), some (.int rest), some (.ref (r.length + 1)), x3, x4] ∧ s = d'.O :: (r ++ [.lst (l.map D.str)]))
    ⟨[], 380 + q, d1, _, _, ok1, Nat.le_refl _, by simp, by omega, by omega, rfl, rfl⟩ (fun j x env st hj hI => ?_) (fun env st hI => ?_)
  · obtain ⟨l, rest, d2, x3, x4, ok2, hl, hx, h0, h1, rfl, rfl⟩ := hI
    obtain ⟨rfl, hj⟩ := rgD_at hj
    simp only [e_var, e_int, e_str, e_bl, e_non, e_glob, e_bin, e_neg, e_cmp, e_and, e_or, e_not, e_call, e_bi, wp_meth, rc_all, true_and, wp_lc, s_try, s_aug, s_augS, isRef_t, if_true, bi_lenT, at_0, at_1, at_2, at_3, at_4, at_5, at_6, at_end, ixN_all, ix_lst, ix_tup, m_join, e_idx, e_slc, e_tup, e_lst, e_dict0, newL_true, newL_false, s_set, s_unp, s_sub, s_expr, s_ret, s_retN, s_pass, s_brk, s_cont, s_raise, ss_nil, wp_sscons, a_nil, a_cons, o_no, o_yes, p_no, p_yes, i_val, i_rg1, i_rg2, wp_for', wp_while, wp_rg, wp_bind, wp_then, wp_seq, wp_ok, wp_ex, wp_nx, wp_rt, wp_bk, wp_ct, wp_xx, wp_ofO, wpO_s, wpO_map, wpTr_t, wpTr_f, wpTr_n, wp_ifs, wp_ife, wp_and1, wp_and2, wp_or1, wp_or2, wp_chain, wpbin_add, wpbin_addS, wpbin_mulS, wpbin_sub, wpbin_mul, wpbin_mod, wpbin_fdiv, wpbin_addT, bind_ok, then_ok, List.length_cons, List.length_nil, Nat.reduceAdd, cx_call, cx_glob, tr_bl, bi_int, bi_abs, bi_lenL, bi_lenS, c_lt, c_le, c_gt, c_ge, c_eqI, c_eqS', c_neS', c_neI, e_isi, ty_int, ty_str, ty_bl, ty_non, ty_tup, ty_lstf, ty_any, bi_min2, Bool.not_true, Bool.not_false, ofO_some, Option.map_some, List.getElem?_cons_succ, List.getElem?_cons_zero, List.set_cons_succ, List.set_cons_zero, Int.reduceLT, Int.reduceLE, Int.reduceNeg]
    refine pick0 ok2 (by omega) fun q2 d3 ok3 q20 q21 => ?_
    simp only [e_var, e_int, e_str, e_bl, e_non, e_glob, e_bin, e_neg, e_cmp, e_and, e_or, e_not, e_call, e_bi, wp_meth, rc_all, true_and, wp_lc, s_try, s_aug, s_augS, isRef_t, if_true, bi_lenT, at_0, at_1, at_2, at_3, at_4, at_5, at_6, at_end, ixN_all, ix_lst, ix_tup, m_join, e_idx, e_slc, e_tup, e_lst, e_dict0, newL_true, newL_false, s_set, s_unp, s_sub, s_expr, s_ret, s_retN, s_pass, s_brk, s_cont, s_raise, ss_nil, wp_sscons, a_nil, a_cons, o_no, o_yes, p_no, p_yes, i_val, i_rg1, i_rg2, wp_for', wp_while, wp_rg, wp_bind, wp_then, wp_seq, wp_ok, wp_ex, wp_nx, wp_rt, wp_bk, wp_ct, wp_xx, wp_ofO, wpO_s, wpO_map, wpTr_t, wpTr_f, wpTr_n, wp_ifs, wp_ife, wp_and1, wp_and2, wp_or1, wp_or2, wp_chain, wpbin_add, wpbin_addS, wpbin_mulS, wpbin_sub, wpbin_mul, wpbin_mod, wpbin_fdiv, wpbin_addT, bind_ok, then_ok, List.length_cons, List.length_nil, Nat.reduceAdd, cx_call, cx_glob, tr_bl, bi_int, bi_abs, bi_lenL, bi_lenS, c_lt, c_le, c_gt, c_ge, c_eqI, c_eqS', c_neS', c_neI, e_isi, ty_int, ty_str, ty_bl, ty_non, ty_tup, ty_lstf, ty_any, bi_min2, Bool.not_true, Bool.not_false, ofO_some, Option.map_some, List.getElem?_cons_succ, List.getElem?_cons_zero, List.set_cons_succ, List.set_cons_zero, Int.reduceLT, Int.reduceLE, Int.reduceNeg]
    have hm : ∃ m : Int, m = (if 2 + q2 < rest then 2 + q2 else rest) := ⟨_, rfl⟩
    obtain ⟨m, hm⟩ := hm
    rw [← hm]
    have hm' : m ≤ rest ∧ m ≤ 99 := by split at hm <;> omega
    refine wpTr_d (fun h => ?_) (fun h => ?_)
    · obtain ⟨u, hu, e⟩ := strI (fz := true) (k := m) (st := d3.O :: (r ++ [.lst (l.map D.str)])) (by omega) (by omega)
      simp only [e_var, e_int, e_str, e_bl, e_non, e_glob, e_bin, e_neg, e_cmp, e_and, e_or, e_not, e_call, e_bi, wp_meth, rc_all, true_and, wp_lc, s_try, s_aug, s_augS, isRef_t, if_true, bi_lenT, at_0, at_1, at_2, at_3, at_4, at_5, at_6, at_end, ixN_all, ix_lst, ix_tup, m_join, e_idx, e_slc, e_tup, e_lst, e_dict0, newL_true, newL_false, s_set, s_unp, s_sub, s_expr, s_ret, s_retN, s_pass, s_brk, s_cont, s_raise, ss_nil, wp_sscons, a_nil, a_cons, o_no, o_yes, p_no, p_yes, i_val, i_rg1, i_rg2, wp_for', wp_while, wp_rg, wp_bind, wp_then, wp_seq, wp_ok, wp_ex, wp_nx, wp_rt, wp_bk, wp_ct, wp_xx, wp_ofO, wpO_s, wpO_map, wpTr_t, wpTr_f, wpTr_n, wp_ifs, wp_ife, wp_and1, wp_and2, wp_or1, wp_or2, wp_chain, wpbin_add, wpbin_addS, wpbin_mulS, wpbin_sub, wpbin_mul, wpbin_mod, wpbin_fdiv, wpbin_addT, bind_ok, then_ok, List.length_cons, List.length_nil, Nat.reduceAdd, cx_call, cx_glob, tr_bl, bi_int, bi_abs, bi_lenL, bi_lenS, c_lt, c_le, c_gt, c_ge, c_eqI, c_eqS', c_neS', c_neI, e_isi, ty_int, ty_str, ty_bl, ty_non, ty_tup, ty_lstf, ty_any, bi_min2, Bool.not_true, Bool.not_false, ofO_some, Option.map_some, List.getElem?_cons_succ, List.getElem?_cons_zero, List.set_cons_succ, List.set_cons_zero, Int.reduceLT, Int.reduceLE, Int.reduceNeg, ty_refL app_len, e]
      refine pick0 ok3 (by omega) fun q3 d4 ok4 q30 q31 => ?_
      obtain ⟨c, _, e⟩ := ix_strI (s := "abz".toList.map Char.toNat) (st := d4.O :: (r ++ [.lst (l.map D.str)])) q30 (by show q3 < 3; omega)
      simp only [e_var, e_int, e_str, e_bl, e_non, e_glob, e_bin, e_neg, e_cmp, e_and, e_or, e_not, e_call, e_bi, wp_meth, rc_all, true_and, wp_lc, s_try, s_aug, s_augS, isRef_t, if_true, bi_lenT, at_0, at_1, at_2, at_3, at_4, at_5, at_6, at_end, ixN_all, ix_lst, ix_tup, m_join, e_idx, e_slc, e_tup, e_lst, e_dict0, newL_true, newL_false, s_set, s_unp, s_sub, s_expr, s_ret, s_retN, s_pass, s_brk, s_cont, s_raise, ss_nil, wp_sscons, a_nil, a_cons, o_no, o_yes, p_no, p_yes, i_val, i_rg1, i_rg2, wp_for', wp_while, wp_rg, wp_bind, wp_then, wp_seq, wp_ok, wp_ex, wp_nx, wp_rt, wp_bk, wp_ct, wp_xx, wp_ofO, wpO_s, wpO_map, wpTr_t, wpTr_f, wpTr_n, wp_ifs, wp_ife, wp_and1, wp_and2, wp_or1, wp_or2, wp_chain, wpbin_add, wpbin_addS, wpbin_mulS, wpbin_sub, wpbin_mul, wpbin_mod, wpbin_fdiv, wpbin_addT, bind_ok, then_ok, List.length_cons, List.length_nil, Nat.reduceAdd, cx_call, cx_glob, tr_bl, bi_int, bi_abs, bi_lenL, bi_lenS, c_lt, c_le, c_gt, c_ge, c_eqI, c_eqS', c_neS', c_neI, e_isi, ty_int, ty_str, ty_bl, ty_non, ty_tup, ty_lstf, ty_any, bi_min2, Bool.not_true, Bool.not_false, ofO_some, Option.map_some, List.getElem?_cons_succ, List.getElem?_cons_zero, List.set_cons_succ, List.set_cons_zero, Int.reduceLT, Int.reduceLE, Int.reduceNeg, e]
      refine ⟨by rw [lim_v]; omega, ?_⟩
      rw [m_appR app_len]
      simp only [e_var, e_int, e_str, e_bl, e_non, e_glob, e_bin, e_neg, e_cmp, e_and, e_or, e_not, e_call, e_bi, wp_meth, rc_all, true_and, wp_lc, s_try, s_aug, s_augS, isRef_t, if_true, bi_lenT, at_0, at_1, at_2, at_3, at_4, at_5, at_6, at_end, ixN_all, ix_lst, ix_tup, m_join, e_idx, e_slc, e_tup, e_lst, e_dict0, newL_true, newL_false, s_set, s_unp, s_sub, s_expr, s_ret, s_retN, s_pass, s_brk, s_cont, s_raise, ss_nil, wp_sscons, a_nil, a_cons, o_no, o_yes, p_no, p_yes, i_val, i_rg1, i_rg2, wp_for', wp_while, wp_rg, wp_bind, wp_then, wp_seq, wp_ok, wp_ex, wp_nx, wp_rt, wp_bk, wp_ct, wp_xx, wp_ofO, wpO_s, wpO_map, wpTr_t, wpTr_f, wpTr_n, wp_ifs, wp_ife, wp_and1, wp_and2, wp_or1, wp_or2, wp_chain, wpbin_add, wpbin_addS, wpbin_mulS, wpbin_sub, wpbin_mul, wpbin_mod, wpbin_fdiv, wpbin_addT, bind_ok, then_ok, List.length_cons, List.length_nil, Nat.reduceAdd, cx_call, cx_glob, tr_bl, bi_int, bi_abs, bi_lenL, bi_lenS, c_lt, c_le, c_gt, c_ge, c_eqI, c_eqS', c_neS', c_neI, e_isi, ty_int, ty_str, ty_bl, ty_non, ty_tup, ty_lstf, ty_any, bi_min2, Bool.not_true, Bool.not_false, ofO_some, Option.map_some, List.getElem?_cons_succ, List.getElem?_cons_zero, List.set_cons_succ, List.set_cons_zero, Int.reduceLT, Int.reduceLE, Int.reduceNeg, set_len]
      refine ⟨by rw [List.length_map, lim_v]; omega, l ++ [u ++ [c]], _, d4, _, _, ok4, by simp; omega, ?_, by omega, by omega, rfl, by simp⟩
      intro x hxm
      rcases List.mem_append.mp hxm with hxm | hxm
      · exact hx x hxm
      · rw [List.mem_singleton.mp hxm]; simp; omega
    · simp only [e_var, e_int, e_str, e_bl, e_non, e_glob, e_bin, e_neg, e_cmp, e_and, e_or, e_not, e_call, e_bi, wp_meth, rc_all, true_and, wp_lc, s_try, s_aug, s_augS, isRef_t, if_true, bi_lenT, at_0, at_1, at_2, at_3, at_4, at_5, at_6, at_end, ixN_all, ix_lst, ix_tup, m_join, e_idx, e_slc, e_tup, e_lst, e_dict0, newL_true, newL_false, s_set, s_unp, s_sub, s_expr, s_ret, s_retN, s_pass, s_brk, s_cont, s_raise, ss_nil, wp_sscons, a_nil, a_cons, o_no, o_yes, p_no, p_yes, i_val, i_rg1, i_rg2, wp_for', wp_while, wp_rg, wp_bind, wp_then, wp_seq, wp_ok, wp_ex, wp_nx, wp_rt, wp_bk, wp_ct, wp_xx, wp_ofO, wpO_s, wpO_map, wpTr_t, wpTr_f, wpTr_n, wp_ifs, wp_ife, wp_and1, wp_and2, wp_or1, wp_or2, wp_chain, wpbin_add, wpbin_addS, wpbin_mulS, wpbin_sub, wpbin_mul, wpbin_mod, wpbin_fdiv, wpbin_addT, bind_ok, then_ok, List.length_cons, List.length_nil, Nat.reduceAdd, cx_call, cx_glob, tr_bl, bi_int, bi_abs, bi_lenL, bi_lenS, c_lt, c_le, c_gt, c_ge, c_eqI, c_eqS', c_neS', c_neI, e_isi, ty_int, ty_str, ty_bl, ty_non, ty_tup, ty_lstf, ty_any, bi_min2, Bool.not_true, Bool.not_false, ofO_some, Option.map_some, List.getElem?_cons_succ, List.getElem?_cons_zero, List.set_cons_succ, List.set_cons_zero, Int.reduceLT, Int.reduceLE, Int.reduceNeg]
      exact ⟨l, rest, d3, _, _, ok3, by omega, hx, h0, h1, rfl, by trivial⟩
  · obtain ⟨l, rest, d2, x3, x4, ok2, hl, hx, h0, h1, rfl, rfl⟩ := hI
    rw [rgD_len] at hl
    have hl3 : l.length ≤ 12 := by omega
    have hsum : ∀ l : List (List Nat), (∀ x ∈ l, x.length ≤ 4) → (l.map (·.length)).sum ≤ 4 * l.length := by
      intro l
      induction l with
      | nil => simp
      | cons a l ih =>
        intro h
        have := h a (by simp)
        have := ih fun x hx => h x (by simp [hx])
        simp only [List.map_cons, List.sum_cons, List.length_cons]; omega
    have hs := hsum l hx
    have lE : ("".toList.map Char.toNat) = [] := rfl
    have lq : ("q".toList.map Char.toNat) = [113] := rfl
    obtain ⟨k, rfl⟩ : ∃ k : Nat, rest = k := ⟨rest.toNat, by omega⟩
    simp only [e_var, e_int, e_str, e_bl, e_non, e_glob, e_bin, e_neg, e_cmp, e_and, e_or, e_not, e_call, e_bi, wp_meth, rc_all, true_and, wp_lc, s_try, s_aug, s_augS, isRef_t, if_true, bi_lenT, at_0, at_1, at_2, at_3, at_4, at_5, at_6, at_end, ixN_all, ix_lst, ix_tup, m_join, e_idx, e_slc, e_tup, e_lst, e_dict0, newL_true, newL_false, s_set, s_unp, s_sub, s_expr, s_ret, s_retN, s_pass, s_brk, s_cont, s_raise, ss_nil, wp_sscons, a_nil, a_cons, o_no, o_yes, p_no, p_yes, i_val, i_rg1, i_rg2, wp_for', wp_while, wp_rg, wp_bind, wp_then, wp_seq, wp_ok, wp_ex, wp_nx, wp_rt, wp_bk, wp_ct, wp_xx, wp_ofO, wpO_s, wpO_map, wpTr_t, wpTr_f, wpTr_n, wp_ifs, wp_ife, wp_and1, wp_and2, wp_or1, wp_or2, wp_chain, wpbin_add, wpbin_addS, wpbin_mulS, wpbin_sub, wpbin_mul, wpbin_mod, wpbin_fdiv, wpbin_addT, bind_ok, then_ok, List.length_cons, List.length_nil, Nat.reduceAdd, cx_call, cx_glob, tr_bl, bi_int, bi_abs, bi_lenL, bi_lenS, c_lt, c_le, c_gt, c_ge, c_eqI, c_eqS', c_neS', c_neI, e_isi, ty_int, ty_str, ty_bl, ty_non, ty_tup, ty_lstf, ty_any, bi_min2, Bool.not_true, Bool.not_false, ofO_some, Option.map_some, List.getElem?_cons_succ, List.getElem?_cons_zero, List.set_cons_succ, List.set_cons_zero, Int.reduceLT, Int.reduceLE, Int.reduceNeg]
    rw [m_joinR app_len, lE, lq, joinL_nil]
    have hfl : l.flatten.length ≤ 48 := by
      rw [List.length_flatten]
      show (l.map fun x => x.length).sum ≤ 48
      omega
    generalize l.flatten = u at hfl
    simp only [e_var, e_int, e_str, e_bl, e_non, e_glob, e_bin, e_neg, e_cmp, e_and, e_or, e_not, e_call, e_bi, wp_meth, rc_all, true_and, wp_lc, s_try, s_aug, s_augS, isRef_t, if_true, bi_lenT, at_0, at_1, at_2, at_3, at_4, at_5, at_6, at_end, ixN_all, ix_lst, ix_tup, m_join, e_idx, e_slc, e_tup, e_lst, e_dict0, newL_true, newL_false, s_set, s_unp, s_sub, s_expr, s_ret, s_retN, s_pass, s_brk, s_cont, s_raise, ss_nil, wp_sscons, a_nil, a_cons, o_no, o_yes, p_no, p_yes, i_val, i_rg1, i_rg2, wp_for', wp_while, wp_rg, wp_bind, wp_then, wp_seq, wp_ok, wp_ex, wp_nx, wp_rt, wp_bk, wp_ct, wp_xx, wp_ofO, wpO_s, wpO_map, wpTr_t, wpTr_f, wpTr_n, wp_ifs, wp_ife, wp_and1, wp_and2, wp_or1, wp_or2, wp_chain, wpbin_add, wpbin_addS, wpbin_mulS, wpbin_sub, wpbin_mul, wpbin_mod, wpbin_fdiv, wpbin_addT, bind_ok, then_ok, List.length_cons, List.length_nil, Nat.reduceAdd, cx_call, cx_glob, tr_bl, bi_int, bi_abs, bi_lenL, bi_lenS, c_lt, c_le, c_gt, c_ge, c_eqI, c_eqS', c_neS', c_neI, e_isi, ty_int, ty_str, ty_bl, ty_non, ty_tup, ty_lstf, ty_any, bi_min2, Bool.not_true, Bool.not_false, ofO_some, Option.map_some, List.getElem?_cons_succ, List.getElem?_cons_zero, List.set_cons_succ, List.set_cons_zero, Int.reduceLT, Int.reduceLE, Int.reduceNeg]
    refine ⟨by rw [lim_v]; omega, by rw [c60_v]; omega, by rw [Int.toNat_natCast, lim_v]; omega, ?_⟩
    rw [repS_one]
    refine ⟨by rw [List.length_replicate, lim_v]; omega, ?_⟩
    have hn : (d.O :: r).length = (d2.O :: r).length := rfl
    refine gc_wpW (st0 := d2.O :: r) (wf_drw hw) rfl ?_ rfl (H _ d2 ok2 ?_)
    · show (d2.O :: (r ++ [_])).take (r.length + 1) = d2.O :: r
      rw [List.take_succ_cons, take_app]
    · rw [List.length_append, List.length_replicate]; omega
theorem wf2 {d : Drw} {l : List (List Nat)} : Wf [d.O, .lst (l.map D.str)] := by
  unfold Wf
  have : O.bel 2 (.lst (l.map D.str)) = true := bel_strs l
  simp only [List.all_cons, List.all_nil, List.length_cons, List.length_nil, bel_drw, this, Bool.and_self]
theorem law_holds : ∀ ns : List Int, ns.length ≤ 63 → (∀ z ∈ ns, PySem.Builtin.Int.intBits z ≤ 1048576) → ∃ st, run L.prog 40 "law" [.scr (ns.map D.int)] [] = .ok (.bl true) st := by
  intro ns hl _
  have key : (run prog 40 "law" [.scr (ns.map D.int)] []).wp (fun d _ => d = .bl true) (fun _ _ => False) := by
    refine wp_run (fd := d_law) rfl rfl ?_
    simp only [d_law, List.length_cons, List.length_nil, if_true, T.start, List.map_cons, List.map_nil, Nat.reduceAdd, Nat.reduceSub, List.replicate, List.cons_append, List.nil_append]
    simp only [e_var, e_int, e_str, e_bl, e_non, e_glob, e_bin, e_neg, e_cmp, e_and, e_or, e_not, e_call, e_bi, wp_meth, rc_all, true_and, wp_lc, s_try, s_aug, s_augS, isRef_t, if_true, bi_lenT, at_0, at_1, at_2, at_3, at_4, at_5, at_6, at_end, ixN_all, ix_lst, ix_tup, m_join, e_idx, e_slc, e_tup, e_lst, e_dict0, newL_true, newL_false, s_set, s_unp, s_sub, s_expr, s_ret, s_retN, s_pass, s_brk, s_cont, s_raise, ss_nil, wp_sscons, a_nil, a_cons, o_no, o_yes, p_no, p_yes, i_val, i_rg1, i_rg2, wp_for', wp_while, wp_rg, wp_bind, wp_then, wp_seq, wp_ok, wp_ex, wp_nx, wp_rt, wp_bk, wp_ct, wp_xx, wp_ofO, wpO_s, wpO_map, wpTr_t, wpTr_f, wpTr_n, wp_ifs, wp_ife, wp_and1, wp_and2, wp_or1, wp_or2, wp_chain, wpbin_add, wpbin_addS, wpbin_mulS, wpbin_sub, wpbin_mul, wpbin_mod, wpbin_fdiv, wpbin_addT, bind_ok, then_ok, List.length_cons, List.length_nil, Nat.reduceAdd, cx_call, cx_glob, tr_bl, bi_int, bi_abs, bi_lenL, bi_lenS, c_lt, c_le, c_gt, c_ge, c_eqI, c_eqS', c_neS', c_neI, e_isi, ty_int, ty_str, ty_bl, ty_non, ty_tup, ty_lstf, ty_any, bi_min2, Bool.not_true, Bool.not_false, ofO_some, Option.map_some, List.getElem?_cons_succ, List.getElem?_cons_zero, List.set_cons_succ, List.set_cons_zero, Int.reduceLT, Int.reduceLE, Int.reduceNeg]
    refine wp_of (draw_ok p_draw 38 hl []) ?_
    simp only [e_var, e_int, e_str, e_bl, e_non, e_glob, e_bin, e_neg, e_cmp, e_and, e_or, e_not, e_call, e_bi, wp_meth, rc_all, true_and, wp_lc, s_try, s_aug, s_augS, isRef_t, if_true, bi_lenT, at_0, at_1, at_2, at_3, at_4, at_5, at_6, at_end, ixN_all, ix_lst, ix_tup, m_join, e_idx, e_slc, e_tup, e_lst, e_dict0, newL_true, newL_false, s_set, s_unp, s_sub, s_expr, s_ret, s_retN, s_pass, s_brk, s_cont, s_raise, ss_nil, wp_sscons, a_nil, a_cons, o_no, o_yes, p_no, p_yes, i_val, i_rg1, i_rg2, wp_for', wp_while, wp_rg, wp_bind, wp_then, wp_seq, wp_ok, wp_ex, wp_nx, wp_rt, wp_bk, wp_ct, wp_xx, wp_ofO, wpO_s, wpO_map, wpTr_t, wpTr_f, wpTr_n, wp_ifs, wp_ife, wp_and1, wp_and2, wp_or1, wp_or2, wp_chain, wpbin_add, wpbin_addS, wpbin_mulS, wpbin_sub, wpbin_mul, wpbin_mod, wpbin_fdiv, wpbin_addT, bind_ok, then_ok, List.length_cons, List.length_nil, Nat.reduceAdd, cx_call, cx_glob, tr_bl, bi_int, bi_abs, bi_lenL, bi_lenS, c_lt, c_le, c_gt, c_ge, c_eqI, c_eqS', c_neS', c_neI, e_isi, ty_int, ty_str, ty_bl, ty_non, ty_tup, ty_lstf, ty_any, bi_min2, Bool.not_true, Bool.not_false, ofO_some, Option.map_some, List.getElem?_cons_succ, List.getElem?_cons_zero, List.set_cons_succ, List.set_cons_zero, Int.reduceLT, Int.reduceLE, Int.reduceNeg, List.length_nil, List.nil_append]
    refine built_wp (n := 34) (r := []) (drw0_ok ns) fun t d1 ok1 ht => ?_
    refine ss_cut (fun ev s => ∃ (t : List Nat) (d' : Drw), d'.Ok ∧ t.length ≤ 100 ∧ ev = [some (.scr (ns.map D.int)), some (.ref 0), some (.str t), none, none, none, none] ∧ s = [d'.O]) ?_ ?_
    · simp only [e_var, e_int, e_str, e_bl, e_non, e_glob, e_bin, e_neg, e_cmp, e_and, e_or, e_not, e_call, e_bi, wp_meth, rc_all, true_and, wp_lc, s_try, s_aug, s_augS, isRef_t, if_true, bi_lenT, at_0, at_1, at_2, at_3, at_4, at_5, at_6, at_end, ixN_all, ix_lst, ix_tup, m_join, e_idx, e_slc, e_tup, e_lst, e_dict0, newL_true, newL_false, s_set, s_unp, s_sub, s_expr, s_ret, s_retN, s_pass, s_brk, s_cont, s_raise, ss_nil, wp_sscons, a_nil, a_cons, o_no, o_yes, p_no, p_yes, i_val, i_rg1, i_rg2, wp_for', wp_while, wp_rg, wp_bind, wp_then, wp_seq, wp_ok, wp_ex, wp_nx, wp_rt, wp_bk, wp_ct, wp_xx, wp_ofO, wpO_s, wpO_map, wpTr_t, wpTr_f, wpTr_n, wp_ifs, wp_ife, wp_and1, wp_and2, wp_or1, wp_or2, wp_chain, wpbin_add, wpbin_addS, wpbin_mulS, wpbin_sub, wpbin_mul, wpbin_mod, wpbin_fdiv, wpbin_addT, bind_ok, then_ok, List.length_cons, List.length_nil, Nat.reduceAdd, cx_call, cx_glob, tr_bl, bi_int, bi_abs, bi_lenL, bi_lenS, c_lt, c_le, c_gt, c_ge, c_eqI, c_eqS', c_neS', c_neI, e_isi, ty_int, ty_str, ty_bl, ty_non, ty_tup, ty_lstf, ty_any, bi_min2, Bool.not_true, Bool.not_false, ofO_some, Option.map_some, List.getElem?_cons_succ, List.getElem?_cons_zero, List.set_cons_succ, List.set_cons_zero, Int.reduceLT, Int.reduceLE, Int.reduceNeg]
      refine pick0 (n := 37) ok1 (by omega) fun q d2 ok2 q0 q1 => ?_
      simp only [e_var, e_int, e_str, e_bl, e_non, e_glob, e_bin, e_neg, e_cmp, e_and, e_or, e_not, e_call, e_bi, wp_meth, rc_all, true_and, wp_lc, s_try, s_aug, s_augS, isRef_t, if_true, bi_lenT, at_0, at_1, at_2, at_3, at_4, at_5, at_6, at_end, ixN_all, ix_lst, ix_tup, m_join, e_idx, e_slc, e_tup, e_lst, e_dict0, newL_true, newL_false, s_set, s_unp, s_sub, s_expr, s_ret, s_retN, s_pass, s_brk, s_cont, s_raise, ss_nil, wp_sscons, a_nil, a_cons, o_no, o_yes, p_no, p_yes, i_val, i_rg1, i_rg2, wp_for', wp_while, wp_rg, wp_bind, wp_then, wp_seq, wp_ok, wp_ex, wp_nx, wp_rt, wp_bk, wp_ct, wp_xx, wp_ofO, wpO_s, wpO_map, wpTr_t, wpTr_f, wpTr_n, wp_ifs, wp_ife, wp_and1, wp_and2, wp_or1, wp_or2, wp_chain, wpbin_add, wpbin_addS, wpbin_mulS, wpbin_sub, wpbin_mul, wpbin_mod, wpbin_fdiv, wpbin_addT, bind_ok, then_ok, List.length_cons, List.length_nil, Nat.reduceAdd, cx_call, cx_glob, tr_bl, bi_int, bi_abs, bi_lenL, bi_lenS, c_lt, c_le, c_gt, c_ge, c_eqI, c_eqS', c_neS', c_neI, e_isi, ty_int, ty_str, ty_bl, ty_non, ty_tup, ty_lstf, ty_any, bi_min2, Bool.not_true, Bool.not_false, ofO_some, Option.map_some, List.getElem?_cons_succ, List.getElem?_cons_zero, List.set_cons_succ, List.set_cons_zero, Int.reduceLT, Int.reduceLE, Int.reduceNeg]
      refine wpTr_d (fun h => ?_) (fun h => ?_)
      · simp only [e_var, e_int, e_str, e_bl, e_non, e_glob, e_bin, e_neg, e_cmp, e_and, e_or, e_not, e_call, e_bi, wp_meth, rc_all, true_and, wp_lc, s_try, s_aug, s_augS, isRef_t, if_true, bi_lenT, at_0, at_1, at_2, at_3, at_4, at_5, at_6, at_end, ixN_all, ix_lst, ix_tup, m_join, e_idx, e_slc, e_tup, e_lst, e_dict0, newL_true, newL_false, s_set, s_unp, s_sub, s_expr, s_ret, s_retN, s_pass, s_brk, s_cont, s_raise, ss_nil, wp_sscons, a_nil, a_cons, o_no, o_yes, p_no, p_yes, i_val, i_rg1, i_rg2, wp_for', wp_while, wp_rg, wp_bind, wp_then, wp_seq, wp_ok, wp_ex, wp_nx, wp_rt, wp_bk, wp_ct, wp_xx, wp_ofO, wpO_s, wpO_map, wpTr_t, wpTr_f, wpTr_n, wp_ifs, wp_ife, wp_and1, wp_and2, wp_or1, wp_or2, wp_chain, wpbin_add, wpbin_addS, wpbin_mulS, wpbin_sub, wpbin_mul, wpbin_mod, wpbin_fdiv, wpbin_addT, bind_ok, then_ok, List.length_cons, List.length_nil, Nat.reduceAdd, cx_call, cx_glob, tr_bl, bi_int, bi_abs, bi_lenL, bi_lenS, c_lt, c_le, c_gt, c_ge, c_eqI, c_eqS', c_neS', c_neI, e_isi, ty_int, ty_str, ty_bl, ty_non, ty_tup, ty_lstf, ty_any, bi_min2, Bool.not_true, Bool.not_false, ofO_some, Option.map_some, List.getElem?_cons_succ, List.getElem?_cons_zero, List.set_cons_succ, List.set_cons_zero, Int.reduceLT, Int.reduceLE, Int.reduceNeg]
        refine signs_wp (n := 34) ok2 fun t d3 ok3 ht => ?_
        simp only [e_var, e_int, e_str, e_bl, e_non, e_glob, e_bin, e_neg, e_cmp, e_and, e_or, e_not, e_call, e_bi, wp_meth, rc_all, true_and, wp_lc, s_try, s_aug, s_augS, isRef_t, if_true, bi_lenT, at_0, at_1, at_2, at_3, at_4, at_5, at_6, at_end, ixN_all, ix_lst, ix_tup, m_join, e_idx, e_slc, e_tup, e_lst, e_dict0, newL_true, newL_false, s_set, s_unp, s_sub, s_expr, s_ret, s_retN, s_pass, s_brk, s_cont, s_raise, ss_nil, wp_sscons, a_nil, a_cons, o_no, o_yes, p_no, p_yes, i_val, i_rg1, i_rg2, wp_for', wp_while, wp_rg, wp_bind, wp_then, wp_seq, wp_ok, wp_ex, wp_nx, wp_rt, wp_bk, wp_ct, wp_xx, wp_ofO, wpO_s, wpO_map, wpTr_t, wpTr_f, wpTr_n, wp_ifs, wp_ife, wp_and1, wp_and2, wp_or1, wp_or2, wp_chain, wpbin_add, wpbin_addS, wpbin_mulS, wpbin_sub, wpbin_mul, wpbin_mod, wpbin_fdiv, wpbin_addT, bind_ok, then_ok, List.length_cons, List.length_nil, Nat.reduceAdd, cx_call, cx_glob, tr_bl, bi_int, bi_abs, bi_lenL, bi_lenS, c_lt, c_le, c_gt, c_ge, c_eqI, c_eqS', c_neS', c_neI, e_isi, ty_int, ty_str, ty_bl, ty_non, ty_tup, ty_lstf, ty_any, bi_min2, Bool.not_true, Bool.not_false, ofO_some, Option.map_some, List.getElem?_cons_succ, List.getElem?_cons_zero, List.set_cons_succ, List.set_cons_zero, Int.reduceLT, Int.reduceLE, Int.reduceNeg]
        exact ⟨t, d3, ok3, ht, rfl, by trivial⟩
      · simp only [e_var, e_int, e_str, e_bl, e_non, e_glob, e_bin, e_neg, e_cmp, e_and, e_or, e_not, e_call, e_bi, wp_meth, rc_all, true_and, wp_lc, s_try, s_aug, s_augS, isRef_t, if_true, bi_lenT, at_0, at_1, at_2, at_3, at_4, at_5, at_6, at_end, ixN_all, ix_lst, ix_tup, m_join, e_idx, e_slc, e_tup, e_lst, e_dict0, newL_true, newL_false, s_set, s_unp, s_sub, s_expr, s_ret, s_retN, s_pass, s_brk, s_cont, s_raise, ss_nil, wp_sscons, a_nil, a_cons, o_no, o_yes, p_no, p_yes, i_val, i_rg1, i_rg2, wp_for', wp_while, wp_rg, wp_bind, wp_then, wp_seq, wp_ok, wp_ex, wp_nx, wp_rt, wp_bk, wp_ct, wp_xx, wp_ofO, wpO_s, wpO_map, wpTr_t, wpTr_f, wpTr_n, wp_ifs, wp_ife, wp_and1, wp_and2, wp_or1, wp_or2, wp_chain, wpbin_add, wpbin_addS, wpbin_mulS, wpbin_sub, wpbin_mul, wpbin_mod, wpbin_fdiv, wpbin_addT, bind_ok, then_ok, List.length_cons, List.length_nil, Nat.reduceAdd, cx_call, cx_glob, tr_bl, bi_int, bi_abs, bi_lenL, bi_lenS, c_lt, c_le, c_gt, c_ge, c_eqI, c_eqS', c_neS', c_neI, e_isi, ty_int, ty_str, ty_bl, ty_non, ty_tup, ty_lstf, ty_any, bi_min2, Bool.not_true, Bool.not_false, ofO_some, Option.map_some, List.getElem?_cons_succ, List.getElem?_cons_zero, List.set_cons_succ, List.set_cons_zero, Int.reduceLT, Int.reduceLE, Int.reduceNeg]
        exact ⟨t, d2, ok2, ht, rfl, by trivial⟩
    rintro _ _ ⟨t, d2, ok2, ht, rfl, rfl⟩
    simp only [e_var, e_int, e_str, e_bl, e_non, e_glob, e_bin, e_neg, e_cmp, e_and, e_or, e_not, e_call, e_bi, wp_meth, rc_all, true_and, wp_lc, s_try, s_aug, s_augS, isRef_t, if_true, bi_lenT, at_0, at_1, at_2, at_3, at_4, at_5, at_6, at_end, ixN_all, ix_lst, ix_tup, m_join, e_idx, e_slc, e_tup, e_lst, e_dict0, newL_true, newL_false, s_set, s_unp, s_sub, s_expr, s_ret, s_retN, s_pass, s_brk, s_cont, s_raise, ss_nil, wp_sscons, a_nil, a_cons, o_no, o_yes, p_no, p_yes, i_val, i_rg1, i_rg2, wp_for', wp_while, wp_rg, wp_bind, wp_then, wp_seq, wp_ok, wp_ex, wp_nx, wp_rt, wp_bk, wp_ct, wp_xx, wp_ofO, wpO_s, wpO_map, wpTr_t, wpTr_f, wpTr_n, wp_ifs, wp_ife, wp_and1, wp_and2, wp_or1, wp_or2, wp_chain, wpbin_add, wpbin_addS, wpbin_mulS, wpbin_sub, wpbin_mul, wpbin_mod, wpbin_fdiv, wpbin_addT, bind_ok, then_ok, List.length_cons, List.length_nil, Nat.reduceAdd, cx_call, cx_glob, tr_bl, bi_int, bi_abs, bi_lenL, bi_lenS, c_lt, c_le, c_gt, c_ge, c_eqI, c_eqS', c_neS', c_neI, e_isi, ty_int, ty_str, ty_bl, ty_non, ty_tup, ty_lstf, ty_any, bi_min2, Bool.not_true, Bool.not_false, ofO_some, Option.map_some, List.getElem?_cons_succ, List.getElem?_cons_zero, List.set_cons_succ, List.set_cons_zero, Int.reduceLT, Int.reduceLE, Int.reduceNeg]
    refine pick0 (n := 37) ok2 (by omega) fun q d3 ok3 q0 q1 => ?_
    simp only [e_var, e_int, e_str, e_bl, e_non, e_glob, e_bin, e_neg, e_cmp, e_and, e_or, e_not, e_call, e_bi, wp_meth, rc_all, true_and, wp_lc, s_try, s_aug, s_augS, isRef_t, if_true, bi_lenT, at_0, at_1, at_2, at_3, at_4, at_5, at_6, at_end, ixN_all, ix_lst, ix_tup, m_join, e_idx, e_slc, e_tup, e_lst, e_dict0, newL_true, newL_false, s_set, s_unp, s_sub, s_expr, s_ret, s_retN, s_pass, s_brk, s_cont, s_raise, ss_nil, wp_sscons, a_nil, a_cons, o_no, o_yes, p_no, p_yes, i_val, i_rg1, i_rg2, wp_for', wp_while, wp_rg, wp_bind, wp_then, wp_seq, wp_ok, wp_ex, wp_nx, wp_rt, wp_bk, wp_ct, wp_xx, wp_ofO, wpO_s, wpO_map, wpTr_t, wpTr_f, wpTr_n, wp_ifs, wp_ife, wp_and1, wp_and2, wp_or1, wp_or2, wp_chain, wpbin_add, wpbin_addS, wpbin_mulS, wpbin_sub, wpbin_mul, wpbin_mod, wpbin_fdiv, wpbin_addT, bind_ok, then_ok, List.length_cons, List.length_nil, Nat.reduceAdd, cx_call, cx_glob, tr_bl, bi_int, bi_abs, bi_lenL, bi_lenS, c_lt, c_le, c_gt, c_ge, c_eqI, c_eqS', c_neS', c_neI, e_isi, ty_int, ty_str, ty_bl, ty_non, ty_tup, ty_lstf, ty_any, bi_min2, Bool.not_true, Bool.not_false, ofO_some, Option.map_some, List.getElem?_cons_succ, List.getElem?_cons_zero, List.set_cons_succ, List.set_cons_zero, Int.reduceLT, Int.reduceLE, Int.reduceNeg]
    refine ⟨by rw [c62_v]; omega, ?_⟩
    refine wpFor_nm (fun i env s => ∃ (l : List (List Nat)) (d' : Drw) (x4 : Option D), d'.Ok ∧ l.length = 2 + i ∧ (∀ x ∈ l, x.length ≤ 100 + 4 * i) ∧ env = [some (.scr (ns.map D.int)), some (.ref 0), some (.str t), some (.ref 1), x4, none, none] ∧ s = [d'.O, .lst (l.map D.str)])
      ⟨[t, t], d3, _, ok3, rfl, by simpa using ht, rfl, rfl⟩ (fun j x env st hj hI => ?_) (fun env st hI => ?_)
    · obtain ⟨l, d4, x4, ok4, hl, hx, rfl, rfl⟩ := hI
      obtain ⟨rfl, hj⟩ := rgD_at hj
      have h1 : ∀ {d : Drw} {l : List (List Nat)}, ([d.O, O.lst (l.map D.str)] : Store)[1]? = some (.lst (l.map D.str)) := fun {d l} => rfl
      obtain ⟨a, b, l, rfl⟩ : ∃ a b l', l = a :: b :: l' := by
        match l, hl with
        | a :: b :: l, _ => exact ⟨a, b, l, rfl⟩
        | [], hl => simp at hl; omega
        | [_], hl => simp at hl; omega
      have hb := hx b (by simp)
      have h2 : ∀ (d : Drw) (ds : List D), ([d.O, O.lst ds] : Store)[1]? = some (.lst ds) := fun _ _ => rfl
      have hix : L2.ixN (l.length + 1 + 1) 1 = some 1 := ixN_lt (i := 1) (by omega)
      simp only [e_var, e_int, e_str, e_bl, e_non, e_glob, e_bin, e_neg, e_cmp, e_and, e_or, e_not, e_call, e_bi, wp_meth, rc_all, true_and, wp_lc, s_try, s_aug, s_augS, isRef_t, if_true, bi_lenT, at_0, at_1, at_2, at_3, at_4, at_5, at_6, at_end, ixN_all, ix_lst, ix_tup, m_join, e_idx, e_slc, e_tup, e_lst, e_dict0, newL_true, newL_false, s_set, s_unp, s_sub, s_expr, s_ret, s_retN, s_pass, s_brk, s_cont, s_raise, ss_nil, wp_sscons, a_nil, a_cons, o_no, o_yes, p_no, p_yes, i_val, i_rg1, i_rg2, wp_for', wp_while, wp_rg, wp_bind, wp_then, wp_seq, wp_ok, wp_ex, wp_nx, wp_rt, wp_bk, wp_ct, wp_xx, wp_ofO, wpO_s, wpO_map, wpTr_t, wpTr_f, wpTr_n, wp_ifs, wp_ife, wp_and1, wp_and2, wp_or1, wp_or2, wp_chain, wpbin_add, wpbin_addS, wpbin_mulS, wpbin_sub, wpbin_mul, wpbin_mod, wpbin_fdiv, wpbin_addT, bind_ok, then_ok, List.length_cons, List.length_nil, Nat.reduceAdd, cx_call, cx_glob, tr_bl, bi_int, bi_abs, bi_lenL, bi_lenS, c_lt, c_le, c_gt, c_ge, c_eqI, c_eqS', c_neS', c_neI, e_isi, ty_int, ty_str, ty_bl, ty_non, ty_tup, ty_lstf, ty_any, bi_min2, Bool.not_true, Bool.not_false, ofO_some, Option.map_some, List.getElem?_cons_succ, List.getElem?_cons_zero, List.set_cons_succ, List.set_cons_zero, Int.reduceLT, Int.reduceLE, Int.reduceNeg, ix_ref (h2 _ _), List.map_cons]
      refine spoilt_wp (n := 34) ok4 (by omega) fun u d5 ok5 hu => ?_
      have hxx : ∀ x ∈ a :: u :: l, x.length ≤ 100 + 4 * (j + 1) := by
        intro x hxm
        simp only [List.mem_cons] at hxm
        rcases hxm with rfl | rfl | hxm
        · have := hx x (by simp); omega
        · omega
        · have := hx x (by simp [hxm]); omega
      simp only [e_var, e_int, e_str, e_bl, e_non, e_glob, e_bin, e_neg, e_cmp, e_and, e_or, e_not, e_call, e_bi, wp_meth, rc_all, true_and, wp_lc, s_try, s_aug, s_augS, isRef_t, if_true, bi_lenT, at_0, at_1, at_2, at_3, at_4, at_5, at_6, at_end, ixN_all, ix_lst, ix_tup, m_join, e_idx, e_slc, e_tup, e_lst, e_dict0, newL_true, newL_false, s_set, s_unp, s_sub, s_expr, s_ret, s_retN, s_pass, s_brk, s_cont, s_raise, ss_nil, wp_sscons, a_nil, a_cons, o_no, o_yes, p_no, p_yes, i_val, i_rg1, i_rg2, wp_for', wp_while, wp_rg, wp_bind, wp_then, wp_seq, wp_ok, wp_ex, wp_nx, wp_rt, wp_bk, wp_ct, wp_xx, wp_ofO, wpO_s, wpO_map, wpTr_t, wpTr_f, wpTr_n, wp_ifs, wp_ife, wp_and1, wp_and2, wp_or1, wp_or2, wp_chain, wpbin_add, wpbin_addS, wpbin_mulS, wpbin_sub, wpbin_mul, wpbin_mod, wpbin_fdiv, wpbin_addT, bind_ok, then_ok, List.length_cons, List.length_nil, Nat.reduceAdd, cx_call, cx_glob, tr_bl, bi_int, bi_abs, bi_lenL, bi_lenS, c_lt, c_le, c_gt, c_ge, c_eqI, c_eqS', c_neS', c_neI, e_isi, ty_int, ty_str, ty_bl, ty_non, ty_tup, ty_lstf, ty_any, bi_min2, Bool.not_true, Bool.not_false, ofO_some, Option.map_some, List.getElem?_cons_succ, List.getElem?_cons_zero, List.set_cons_succ, List.set_cons_zero, Int.reduceLT, Int.reduceLE, Int.reduceNeg, wp_setR (h2 _ _), List.length_map, hix, ty_refL (h2 _ _), ix_ref (h2 _ _)]
      rw [m_appR (h2 _ _)]
      simp only [e_var, e_int, e_str, e_bl, e_non, e_glob, e_bin, e_neg, e_cmp, e_and, e_or, e_not, e_call, e_bi, wp_meth, rc_all, true_and, wp_lc, s_try, s_aug, s_augS, isRef_t, if_true, bi_lenT, at_0, at_1, at_2, at_3, at_4, at_5, at_6, at_end, ixN_all, ix_lst, ix_tup, m_join, e_idx, e_slc, e_tup, e_lst, e_dict0, newL_true, newL_false, s_set, s_unp, s_sub, s_expr, s_ret, s_retN, s_pass, s_brk, s_cont, s_raise, ss_nil, wp_sscons, a_nil, a_cons, o_no, o_yes, p_no, p_yes, i_val, i_rg1, i_rg2, wp_for', wp_while, wp_rg, wp_bind, wp_then, wp_seq, wp_ok, wp_ex, wp_nx, wp_rt, wp_bk, wp_ct, wp_xx, wp_ofO, wpO_s, wpO_map, wpTr_t, wpTr_f, wpTr_n, wp_ifs, wp_ife, wp_and1, wp_and2, wp_or1, wp_or2, wp_chain, wpbin_add, wpbin_addS, wpbin_mulS, wpbin_sub, wpbin_mul, wpbin_mod, wpbin_fdiv, wpbin_addT, bind_ok, then_ok, List.length_cons, List.length_nil, Nat.reduceAdd, cx_call, cx_glob, tr_bl, bi_int, bi_abs, bi_lenL, bi_lenS, c_lt, c_le, c_gt, c_ge, c_eqI, c_eqS', c_neS', c_neI, e_isi, ty_int, ty_str, ty_bl, ty_non, ty_tup, ty_lstf, ty_any, bi_min2, Bool.not_true, Bool.not_false, ofO_some, Option.map_some, List.getElem?_cons_succ, List.getElem?_cons_zero, List.set_cons_succ, List.set_cons_zero, Int.reduceLT, Int.reduceLE, Int.reduceNeg]
      simp only [List.length_cons] at hl
      refine ⟨by simp only [List.length_map]; rw [lim_v]; omega, a :: u :: (l ++ [u]), d5, _, ok5, by simp; omega, ?_, rfl, by simp⟩
      intro x hxm
      refine hxx x ?_
      simp only [List.mem_cons, List.mem_append, List.not_mem_nil, or_false] at hxm ⊢
      rcases hxm with h | h | h | h <;> simp [h]
    · obtain ⟨l, d4, x4, ok4, hl, hx, rfl, rfl⟩ := hI
      rw [rgD_len] at hl hx
      have hx : ∀ x ∈ l, x.length ≤ 200 := fun x hm => by have := hx x hm; omega
      have hl : l.length ≤ 10 := by omega
      have h2 : ∀ (d : Drw) (ds : List D), ([d.O, O.lst ds] : Store)[1]? = some (.lst ds) := fun _ _ => rfl
      simp only [e_var, e_int, e_str, e_bl, e_non, e_glob, e_bin, e_neg, e_cmp, e_and, e_or, e_not, e_call, e_bi, wp_meth, rc_all, true_and, wp_lc, s_try, s_aug, s_augS, isRef_t, if_true, bi_lenT, at_0, at_1, at_2, at_3, at_4, at_5, at_6, at_end, ixN_all, ix_lst, ix_tup, m_join, e_idx, e_slc, e_tup, e_lst, e_dict0, newL_true, newL_false, s_set, s_unp, s_sub, s_expr, s_ret, s_retN, s_pass, s_brk, s_cont, s_raise, ss_nil, wp_sscons, a_nil, a_cons, o_no, o_yes, p_no, p_yes, i_val, i_rg1, i_rg2, wp_for', wp_while, wp_rg, wp_bind, wp_then, wp_seq, wp_ok, wp_ex, wp_nx, wp_rt, wp_bk, wp_ct, wp_xx, wp_ofO, wpO_s, wpO_map, wpTr_t, wpTr_f, wpTr_n, wp_ifs, wp_ife, wp_and1, wp_and2, wp_or1, wp_or2, wp_chain, wpbin_add, wpbin_addS, wpbin_mulS, wpbin_sub, wpbin_mul, wpbin_mod, wpbin_fdiv, wpbin_addT, bind_ok, then_ok, List.length_cons, List.length_nil, Nat.reduceAdd, cx_call, cx_glob, tr_bl, bi_int, bi_abs, bi_lenL, bi_lenS, c_lt, c_le, c_gt, c_ge, c_eqI, c_eqS', c_neS', c_neI, e_isi, ty_int, ty_str, ty_bl, ty_non, ty_tup, ty_lstf, ty_any, bi_min2, Bool.not_true, Bool.not_false, ofO_some, Option.map_some, List.getElem?_cons_succ, List.getElem?_cons_zero, List.set_cons_succ, List.set_cons_zero, Int.reduceLT, Int.reduceLE, Int.reduceNeg]
      refine long_wp (n := 34) wf2 ok4 fun w d5 ok5 hw => ?_
      simp only [e_var, e_int, e_str, e_bl, e_non, e_glob, e_bin, e_neg, e_cmp, e_and, e_or, e_not, e_call, e_bi, wp_meth, rc_all, true_and, wp_lc, s_try, s_aug, s_augS, isRef_t, if_true, bi_lenT, at_0, at_1, at_2, at_3, at_4, at_5, at_6, at_end, ixN_all, ix_lst, ix_tup, m_join, e_idx, e_slc, e_tup, e_lst, e_dict0, newL_true, newL_false, s_set, s_unp, s_sub, s_expr, s_ret, s_retN, s_pass, s_brk, s_cont, s_raise, ss_nil, wp_sscons, a_nil, a_cons, o_no, o_yes, p_no, p_yes, i_val, i_rg1, i_rg2, wp_for', wp_while, wp_rg, wp_bind, wp_then, wp_seq, wp_ok, wp_ex, wp_nx, wp_rt, wp_bk, wp_ct, wp_xx, wp_ofO, wpO_s, wpO_map, wpTr_t, wpTr_f, wpTr_n, wp_ifs, wp_ife, wp_and1, wp_and2, wp_or1, wp_or2, wp_chain, wpbin_add, wpbin_addS, wpbin_mulS, wpbin_sub, wpbin_mul, wpbin_mod, wpbin_fdiv, wpbin_addT, bind_ok, then_ok, List.length_cons, List.length_nil, Nat.reduceAdd, cx_call, cx_glob, tr_bl, bi_int, bi_abs, bi_lenL, bi_lenS, c_lt, c_le, c_gt, c_ge, c_eqI, c_eqS', c_neS', c_neI, e_isi, ty_int, ty_str, ty_bl, ty_non, ty_tup, ty_lstf, ty_any, bi_min2, Bool.not_true, Bool.not_false, ofO_some, Option.map_some, List.getElem?_cons_succ, List.getElem?_cons_zero, List.set_cons_succ, List.set_cons_zero, Int.reduceLT, Int.reduceLE, Int.reduceNeg, ty_refL (h2 _ _)]
      refine spoilt_wp (n := 34) ok5 (by omega) fun u d6 ok6 hu => ?_
      rw [m_extR (h2 _ _)]
      have e3 : l.map D.str ++ [.str w, .str u, .str t] = (l ++ [w, u, t]).map D.str := by simp
      rw [e3]
      refine ⟨by simp only [List.length_map, List.length_cons, List.length_nil]; rw [lim_v]; omega, ?_⟩
      have hall : ∀ x ∈ l ++ [w, u, t], x.length ≤ 2000 := by
        intro x hm
        simp only [List.mem_append, List.mem_cons, List.not_mem_nil, or_false] at hm
        rcases hm with hm | rfl | rfl | rfl
        · have := hx x hm; omega
        · omega
        · omega
        · omega
      have hlen : (l ++ [w, u, t]).length ≤ 13 := by simp; omega
      generalize l ++ [w, u, t] = ts at hall hlen
      have hmatch : ∀ (d : Drw) (ds : List D), (match ([d.O, O.lst ds] : Store)[1]? with | some (.lst _) => R.ok (Src.live 1) [d.O, O.lst ds] | _ => R.bad) = R.ok (Src.live 1) [d.O, O.lst ds] := fun _ _ => rfl
      simp only [e_var, e_int, e_str, e_bl, e_non, e_glob, e_bin, e_neg, e_cmp, e_and, e_or, e_not, e_call, e_bi, wp_meth, rc_all, true_and, wp_lc, s_try, s_aug, s_augS, isRef_t, if_true, bi_lenT, at_0, at_1, at_2, at_3, at_4, at_5, at_6, at_end, ixN_all, ix_lst, ix_tup, m_join, e_idx, e_slc, e_tup, e_lst, e_dict0, newL_true, newL_false, s_set, s_unp, s_sub, s_expr, s_ret, s_retN, s_pass, s_brk, s_cont, s_raise, ss_nil, wp_sscons, a_nil, a_cons, o_no, o_yes, p_no, p_yes, i_val, i_rg1, i_rg2, wp_for', wp_while, wp_rg, wp_bind, wp_then, wp_seq, wp_ok, wp_ex, wp_nx, wp_rt, wp_bk, wp_ct, wp_xx, wp_ofO, wpO_s, wpO_map, wpTr_t, wpTr_f, wpTr_n, wp_ifs, wp_ife, wp_and1, wp_and2, wp_or1, wp_or2, wp_chain, wpbin_add, wpbin_addS, wpbin_mulS, wpbin_sub, wpbin_mul, wpbin_mod, wpbin_fdiv, wpbin_addT, bind_ok, then_ok, List.length_cons, List.length_nil, Nat.reduceAdd, cx_call, cx_glob, tr_bl, bi_int, bi_abs, bi_lenL, bi_lenS, c_lt, c_le, c_gt, c_ge, c_eqI, c_eqS', c_neS', c_neI, e_isi, ty_int, ty_str, ty_bl, ty_non, ty_tup, ty_lstf, ty_any, bi_min2, Bool.not_true, Bool.not_false, ofO_some, Option.map_some, List.getElem?_cons_succ, List.getElem?_cons_zero, List.set_cons_succ, List.set_cons_zero, Int.reduceLT, Int.reduceLE, Int.reduceNeg]
      refine wpFor_live (ds := ts.map D.str) (fun i env s => ∃ (x2 x4 : Option D), env = [some (.scr (ns.map D.int)), some (.ref 0), x2, some (.ref 1), x4, some (.str w), none] ∧ s = [d6.O, .lst (ts.map D.str)]) ?_ ?_ ⟨_, _, rfl, rfl⟩ ?_ ?_
      · show _ < prog.wf
        rw [wfP, List.length_map]; omega
      · rintro i env s ⟨_, _, _, rfl⟩; rfl
      · rintro j x env s hj ⟨x2, x4, rfl, rfl⟩
        have hj' := List.mem_of_getElem? hj
        obtain ⟨v, hv, rfl⟩ := List.mem_map.mp hj'
        simp only [e_var, e_int, e_str, e_bl, e_non, e_glob, e_bin, e_neg, e_cmp, e_and, e_or, e_not, e_call, e_bi, wp_meth, rc_all, true_and, wp_lc, s_try, s_aug, s_augS, isRef_t, if_true, bi_lenT, at_0, at_1, at_2, at_3, at_4, at_5, at_6, at_end, ixN_all, ix_lst, ix_tup, m_join, e_idx, e_slc, e_tup, e_lst, e_dict0, newL_true, newL_false, s_set, s_unp, s_sub, s_expr, s_ret, s_retN, s_pass, s_brk, s_cont, s_raise, ss_nil, wp_sscons, a_nil, a_cons, o_no, o_yes, p_no, p_yes, i_val, i_rg1, i_rg2, wp_for', wp_while, wp_rg, wp_bind, wp_then, wp_seq, wp_ok, wp_ex, wp_nx, wp_rt, wp_bk, wp_ct, wp_xx, wp_ofO, wpO_s, wpO_map, wpTr_t, wpTr_f, wpTr_n, wp_ifs, wp_ife, wp_and1, wp_and2, wp_or1, wp_or2, wp_chain, wpbin_add, wpbin_addS, wpbin_mulS, wpbin_sub, wpbin_mul, wpbin_mod, wpbin_fdiv, wpbin_addT, bind_ok, then_ok, List.length_cons, List.length_nil, Nat.reduceAdd, cx_call, cx_glob, tr_bl, bi_int, bi_abs, bi_lenL, bi_lenS, c_lt, c_le, c_gt, c_ge, c_eqI, c_eqS', c_neS', c_neI, e_isi, ty_int, ty_str, ty_bl, ty_non, ty_tup, ty_lstf, ty_any, bi_min2, Bool.not_true, Bool.not_false, ofO_some, Option.map_some, List.getElem?_cons_succ, List.getElem?_cons_zero, List.set_cons_succ, List.set_cons_zero, Int.reduceLT, Int.reduceLE, Int.reduceNeg]
        refine is_told_wp (n := 34) wf2 (by have := hall v hv; omega) ?_
        simp only [e_var, e_int, e_str, e_bl, e_non, e_glob, e_bin, e_neg, e_cmp, e_and, e_or, e_not, e_call, e_bi, wp_meth, rc_all, true_and, wp_lc, s_try, s_aug, s_augS, isRef_t, if_true, bi_lenT, at_0, at_1, at_2, at_3, at_4, at_5, at_6, at_end, ixN_all, ix_lst, ix_tup, m_join, e_idx, e_slc, e_tup, e_lst, e_dict0, newL_true, newL_false, s_set, s_unp, s_sub, s_expr, s_ret, s_retN, s_pass, s_brk, s_cont, s_raise, ss_nil, wp_sscons, a_nil, a_cons, o_no, o_yes, p_no, p_yes, i_val, i_rg1, i_rg2, wp_for', wp_while, wp_rg, wp_bind, wp_then, wp_seq, wp_ok, wp_ex, wp_nx, wp_rt, wp_bk, wp_ct, wp_xx, wp_ofO, wpO_s, wpO_map, wpTr_t, wpTr_f, wpTr_n, wp_ifs, wp_ife, wp_and1, wp_and2, wp_or1, wp_or2, wp_chain, wpbin_add, wpbin_addS, wpbin_mulS, wpbin_sub, wpbin_mul, wpbin_mod, wpbin_fdiv, wpbin_addT, bind_ok, then_ok, List.length_cons, List.length_nil, Nat.reduceAdd, cx_call, cx_glob, tr_bl, bi_int, bi_abs, bi_lenL, bi_lenS, c_lt, c_le, c_gt, c_ge, c_eqI, c_eqS', c_neS', c_neI, e_isi, ty_int, ty_str, ty_bl, ty_non, ty_tup, ty_lstf, ty_any, bi_min2, Bool.not_true, Bool.not_false, ofO_some, Option.map_some, List.getElem?_cons_succ, List.getElem?_cons_zero, List.set_cons_succ, List.set_cons_zero, Int.reduceLT, Int.reduceLE, Int.reduceNeg]
        exact ⟨_, _, rfl, by trivial⟩
      · rintro env s ⟨x2, x4, rfl, rfl⟩
        simp only [e_var, e_int, e_str, e_bl, e_non, e_glob, e_bin, e_neg, e_cmp, e_and, e_or, e_not, e_call, e_bi, wp_meth, rc_all, true_and, wp_lc, s_try, s_aug, s_augS, isRef_t, if_true, bi_lenT, at_0, at_1, at_2, at_3, at_4, at_5, at_6, at_end, ixN_all, ix_lst, ix_tup, m_join, e_idx, e_slc, e_tup, e_lst, e_dict0, newL_true, newL_false, s_set, s_unp, s_sub, s_expr, s_ret, s_retN, s_pass, s_brk, s_cont, s_raise, ss_nil, wp_sscons, a_nil, a_cons, o_no, o_yes, p_no, p_yes, i_val, i_rg1, i_rg2, wp_for', wp_while, wp_rg, wp_bind, wp_then, wp_seq, wp_ok, wp_ex, wp_nx, wp_rt, wp_bk, wp_ct, wp_xx, wp_ofO, wpO_s, wpO_map, wpTr_t, wpTr_f, wpTr_n, wp_ifs, wp_ife, wp_and1, wp_and2, wp_or1, wp_or2, wp_chain, wpbin_add, wpbin_addS, wpbin_mulS, wpbin_sub, wpbin_mul, wpbin_mod, wpbin_fdiv, wpbin_addT, bind_ok, then_ok, List.length_cons, List.length_nil, Nat.reduceAdd, cx_call, cx_glob, tr_bl, bi_int, bi_abs, bi_lenL, bi_lenS, c_lt, c_le, c_gt, c_ge, c_eqI, c_eqS', c_neS', c_neI, e_isi, ty_int, ty_str, ty_bl, ty_non, ty_tup, ty_lstf, ty_any, bi_min2, Bool.not_true, Bool.not_false, ofO_some, Option.map_some, List.getElem?_cons_succ, List.getElem?_cons_zero, List.set_cons_succ, List.set_cons_zero, Int.reduceLT, Int.reduceLE, Int.reduceNeg]
        refine pick0 (n := 37) ok6 (by omega) fun q d7 ok7 q0 q1 => ?_
        obtain ⟨x, hx, e⟩ := at_in (l := [D.non, D.int 7, D.bl true, D.lst [D.str ("a".toList.map Char.toNat)], D.tup [D.str ("a".toList.map Char.toNat), D.str ("b".toList.map Char.toNat)], D.int (-1)]) q0 (by show q < 6; omega)
        simp only [e_var, e_int, e_str, e_bl, e_non, e_glob, e_bin, e_neg, e_cmp, e_and, e_or, e_not, e_call, e_bi, wp_meth, rc_all, true_and, wp_lc, s_try, s_aug, s_augS, isRef_t, if_true, bi_lenT, at_0, at_1, at_2, at_3, at_4, at_5, at_6, at_end, ixN_all, ix_lst, ix_tup, m_join, e_idx, e_slc, e_tup, e_lst, e_dict0, newL_true, newL_false, s_set, s_unp, s_sub, s_expr, s_ret, s_retN, s_pass, s_brk, s_cont, s_raise, ss_nil, wp_sscons, a_nil, a_cons, o_no, o_yes, p_no, p_yes, i_val, i_rg1, i_rg2, wp_for', wp_while, wp_rg, wp_bind, wp_then, wp_seq, wp_ok, wp_ex, wp_nx, wp_rt, wp_bk, wp_ct, wp_xx, wp_ofO, wpO_s, wpO_map, wpTr_t, wpTr_f, wpTr_n, wp_ifs, wp_ife, wp_and1, wp_and2, wp_or1, wp_or2, wp_chain, wpbin_add, wpbin_addS, wpbin_mulS, wpbin_sub, wpbin_mul, wpbin_mod, wpbin_fdiv, wpbin_addT, bind_ok, then_ok, List.length_cons, List.length_nil, Nat.reduceAdd, cx_call, cx_glob, tr_bl, bi_int, bi_abs, bi_lenL, bi_lenS, c_lt, c_le, c_gt, c_ge, c_eqI, c_eqS', c_neS', c_neI, e_isi, ty_int, ty_str, ty_bl, ty_non, ty_tup, ty_lstf, ty_any, bi_min2, Bool.not_true, Bool.not_false, ofO_some, Option.map_some, List.getElem?_cons_succ, List.getElem?_cons_zero, List.set_cons_succ, List.set_cons_zero, Int.reduceLT, Int.reduceLE, Int.reduceNeg, e]
        have hty : ∃ ty, tyName [d7.O, .lst (ts.map D.str)] x = some ty ∧ (["str"].any (isTy ty)) = false := by
          simp only [List.mem_cons, List.not_mem_nil, or_false] at hx
          rcases hx with rfl | rfl | rfl | rfl | rfl | rfl
          · exact ⟨_, rfl, by decide⟩
          · exact ⟨_, rfl, by decide⟩
          · exact ⟨_, rfl, by decide⟩
          · exact ⟨_, rfl, by decide⟩
          · exact ⟨_, rfl, by decide⟩
          · exact ⟨_, rfl, by decide⟩
        obtain ⟨ty, t1, t2⟩ := hty
        refine told_odd (n := 37) t1 t2 (fun _ => trivial) ?_
        simp only [e_var, e_int, e_str, e_bl, e_non, e_glob, e_bin, e_neg, e_cmp, e_and, e_or, e_not, e_call, e_bi, wp_meth, rc_all, true_and, wp_lc, s_try, s_aug, s_augS, isRef_t, if_true, bi_lenT, at_0, at_1, at_2, at_3, at_4, at_5, at_6, at_end, ixN_all, ix_lst, ix_tup, m_join, e_idx, e_slc, e_tup, e_lst, e_dict0, newL_true, newL_false, s_set, s_unp, s_sub, s_expr, s_ret, s_retN, s_pass, s_brk, s_cont, s_raise, ss_nil, wp_sscons, a_nil, a_cons, o_no, o_yes, p_no, p_yes, i_val, i_rg1, i_rg2, wp_for', wp_while, wp_rg, wp_bind, wp_then, wp_seq, wp_ok, wp_ex, wp_nx, wp_rt, wp_bk, wp_ct, wp_xx, wp_ofO, wpO_s, wpO_map, wpTr_t, wpTr_f, wpTr_n, wp_ifs, wp_ife, wp_and1, wp_and2, wp_or1, wp_or2, wp_chain, wpbin_add, wpbin_addS, wpbin_mulS, wpbin_sub, wpbin_mul, wpbin_mod, wpbin_fdiv, wpbin_addT, bind_ok, then_ok, List.length_cons, List.length_nil, Nat.reduceAdd, cx_call, cx_glob, tr_bl, bi_int, bi_abs, bi_lenL, bi_lenS, c_lt, c_le, c_gt, c_ge, c_eqI, c_eqS', c_neS', c_neI, e_isi, ty_int, ty_str, ty_bl, ty_non, ty_tup, ty_lstf, ty_any, bi_min2, Bool.not_true, Bool.not_false, ofO_some, Option.map_some, List.getElem?_cons_succ, List.getElem?_cons_zero, List.set_cons_succ, List.set_cons_zero, Int.reduceLT, Int.reduceLE, Int.reduceNeg, c_eqTI, and_self, decide_true]
        exact gc_wpA fun _ _ => rfl
  show ∃ st, run prog 40 "law" [.scr (ns.map D.int)] [] = .ok (.bl true) st
  cases hr : run prog 40 "law" [.scr (ns.map D.int)] [] with
  | ok a s => rw [hr] at key; exact ⟨s, by rw [show a = .bl true from key]⟩
  | ex x s => rw [hr] at key; exact key.elim
  | bad => rw [hr] at key; exact key.elim
end
end K07
end T
open PySem PySem.W PyProof.Rows
set_option maxRecDepth 100000 in
set_option maxHeartbeats 0 in
theorem PySem.Challenge.cw_truetouch_k07_bad_calling_texts_holds : PySem.Challenge.rw_truetouch_k07_bad_calling_texts.Holds := by
  w_on; o_law; k_head; (case hw => w_witness2)
  k_fill
  refine L2.walk_ofB (l := PySem.Challenge.rw_truetouch_k07_bad_calling_texts) (n := 63) (k := 40) (x := Str.ofString "_law_script") (CX := fun w => L2.CX PySem.Challenge.pw_truetouch_k07_bad_calling_texts w) (sp := fun w => T.spLaw _) rfl (by decide) rfl ⟨rfl, by decide, by decide⟩ (fun w h Y => PySem.W.kIn_of Y) ?F (fun _ _ a ns hl hb _ hS => ⟨a, ns, rfl, hS, hl, hb, fun _ => rfl⟩) (fun _ _ _ _ _ h => T.cx_no h)
  case F =>
    intro w mg fa h KX G hmg
    refine T.law_fin (L := T.K07.L) (d := T.K07.f_law) (n := 40) (T.mf_mk (P := PySem.Challenge.pw_truetouch_k07_bad_calling_texts) ?blt ?glob ?cls ?cv ?xs ?defs ?names) T.K07.chk T.K07.law_mem rfl rfl hmg T.K07.law_holds
    case blt =>
      intro x hx
      refine PySem.W.mg_none_of KX G ?_
      simp only [T.bltNames, List.mem_cons, List.not_mem_nil, or_false] at hx
      rcases hx with rfl | rfl | rfl | rfl | rfl | rfl | rfl | rfl | rfl | rfl | rfl | rfl | rfl | rfl | rfl | rfl | rfl | rfl | rfl | rfl <;> k_is
    case glob =>
      intro x d hx hd
      simp only [T.K07.L, List.mem_cons, List.not_mem_nil, or_false] at hx
      rcases hx with rfl | rfl | rfl | rfl | rfl
      · refine' T.gl_str (s := "0123456789") KX G ?e_h38 (Option.some.inj hd).symm (by decide); (case e_h38 => k_is)
      · refine' T.gl_str (s := "abcdefghijklmnopqrstuvwxyz") KX G ?e_h39 (Option.some.inj hd).symm (by decide); (case e_h39 => k_is)
      · refine' T.gl_int KX G ?e_h40 (Option.some.inj hd).symm; (case e_h40 => k_is)
      · refine' T.gl_int KX G ?e_h41 (Option.some.inj hd).symm; (case e_h41 => k_is)
      · refine' T.gl_int KX G ?e_h42 (Option.some.inj hd).symm; (case e_h42 => k_is)
    case cls =>
      intro x xd hx
      have hx := T.look_mem hx
      simp only [List.mem_cons, List.not_mem_nil, or_false, Prod.mk.injEq] at hx
      rcases hx with ⟨rfl, rfl⟩ | ⟨rfl, rfl⟩
      · refine' T.cl_mk (T.xt_mk (s := T.clsInit (T.K07.top 2)) KX G ?aC_1 ?xL_1 ?ve_1 ?sa_1 ?kC_1 ?nF_1 ?eC_1 ?tC_1 ?vC_1 ?mC_1 ?suC_1 ?inC_1 ?st_1 ?sup_1 ?top_1 ?nd_1 ?few_1 ?iC_1 ?tI_1 ?lI_1 ?cI_1 ?lc_1 ?hv_1 ?hf_1 ?le_1 ?tx_1 ?hd_1 ?sk_1 ?nc_1 ?sp_1 ?cl_1 ?lo_1 ?bi_1) ?ga_1 ?gg_1 ?dd_1 ?ha_1 ?hn_1 ?ht_1 ?hm_1 ?kit_1 ?cat_1
        (case aC_1 => k_is)
        (case xL_1 => k_is)
        (case ve_1 => rfl)
        (case sa_1 => k_is)
        (case kC_1 => k_is)
        (case nF_1 => intro f hf; simp only [List.mem_cons, List.not_mem_nil, or_false] at hf; rcases hf with rfl <;> k_is)
        (case eC_1 => k_is)
        (case tC_1 => k_is)
        (case vC_1 => k_is)
        (case mC_1 => k_is)
        (case suC_1 => ks_is)
        (case inC_1 => kx_is)
        (case st_1 => k_is)
        (case sup_1 => k_is)
        (case top_1 => decide +kernel)
        (case nd_1 => decide +kernel)
        (case few_1 => decide)
        (case iC_1 => k_is)
        (case tI_1 => k_is)
        (case lI_1 => k_is)
        (case cI_1 => k_is)
        (case lc_1 => k_is)
        (case hv_1 => rfl)
        (case hf_1 => decide +kernel)
        (case le_1 => k_is)
        (case tx_1 => decide +kernel)
        (case hd_1 => rfl)
        (case sk_1 => decide +kernel)
        (case nc_1 => decide +kernel)
        (case sp_1 => decide +kernel)
        (case cl_1 => decide +kernel)
        (case lo_1 => decide +kernel)
        (case bi_1 => exact fun us hl => match us, hl with | [_, _], _ => rfl)
        (case ga_1 => k_is)
        (case gg_1 => k_is)
        (case dd_1 => k_is)
        (case ha_1 => k_is)
        (case hn_1 => k_is)
        (case ht_1 => k_is)
        (case hm_1 => k_is)
        (case kit_1 =>
          intro z hz
          simp only [T.K07.L, List.mem_cons, List.not_mem_nil, or_false] at hz
          rcases hz with rfl | rfl
          · refine' T.kz_self KX G ?a_h43; (case a_h43 => k_is)
          · refine' T.kz_ref KX G ?a_h44 ?n_h44 ?d_h44 ?t_h44 ?s_h44; (case a_h44 => k_is); (case n_h44 => rfl); (case d_h44 => k_is); (case t_h44 => k_is); (case s_h44 => k_is))
        (case cat_1 =>
          intro z hz
          simp only [T.K07.L, List.mem_cons, List.not_mem_nil, or_false] at hz
          rcases hz with rfl
          · refine' T.cz_ref KX G ?a_h45 ?b_h45 ?d_h45 ?t_h45 ?s_h45; (case a_h45 => k_is); (case b_h45 => k_is); (case d_h45 => k_is); (case t_h45 => k_is); (case s_h45 => k_is))
      · refine' T.cl_mk (T.xt_mk (s := T.clsInit (T.K07.top 3)) KX G ?aC_2 ?xL_2 ?ve_2 ?sa_2 ?kC_2 ?nF_2 ?eC_2 ?tC_2 ?vC_2 ?mC_2 ?suC_2 ?inC_2 ?st_2 ?sup_2 ?top_2 ?nd_2 ?few_2 ?iC_2 ?tI_2 ?lI_2 ?cI_2 ?lc_2 ?hv_2 ?hf_2 ?le_2 ?tx_2 ?hd_2 ?sk_2 ?nc_2 ?sp_2 ?cl_2 ?lo_2 ?bi_2) ?ga_2 ?gg_2 ?dd_2 ?ha_2 ?hn_2 ?ht_2 ?hm_2 ?kit_2 ?cat_2
        (case aC_2 => k_is)
        (case xL_2 => k_is)
        (case ve_2 => rfl)
        (case sa_2 => k_is)
        (case kC_2 => k_is)
        (case nF_2 => intro f hf; simp only [List.mem_cons, List.not_mem_nil, or_false] at hf; rcases hf with rfl <;> k_is)
        (case eC_2 => k_is)
        (case tC_2 => k_is)
        (case vC_2 => k_is)
        (case mC_2 => k_is)
        (case suC_2 => ks_is)
        (case inC_2 => kx_is)
        (case st_2 => k_is)
        (case sup_2 => k_is)
        (case top_2 => decide +kernel)
        (case nd_2 => decide +kernel)
        (case few_2 => decide)
        (case iC_2 => k_is)
        (case tI_2 => k_is)
        (case lI_2 => k_is)
        (case cI_2 => k_is)
        (case lc_2 => k_is)
        (case hv_2 => rfl)
        (case hf_2 => decide +kernel)
        (case le_2 => k_is)
        (case tx_2 => decide +kernel)
        (case hd_2 => rfl)
        (case sk_2 => decide +kernel)
        (case nc_2 => decide +kernel)
        (case sp_2 => decide +kernel)
        (case cl_2 => decide +kernel)
        (case lo_2 => decide +kernel)
        (case bi_2 => exact fun us hl => match us, hl with | [_, _], _ => rfl)
        (case ga_2 => k_is)
        (case gg_2 => k_is)
        (case dd_2 => k_is)
        (case ha_2 => k_is)
        (case hn_2 => k_is)
        (case ht_2 => k_is)
        (case hm_2 => k_is)
        (case kit_2 =>
          intro z hz
          simp only [T.K07.L, List.mem_cons, List.not_mem_nil, or_false] at hz
          rcases hz with rfl | rfl
          · refine' T.kz_ref KX G ?a_h46 ?n_h46 ?d_h46 ?t_h46 ?s_h46; (case a_h46 => k_is); (case n_h46 => rfl); (case d_h46 => k_is); (case t_h46 => k_is); (case s_h46 => k_is)
          · refine' T.kz_self KX G ?a_h47; (case a_h47 => k_is))
        (case cat_2 =>
          intro z hz
          simp only [T.K07.L, List.mem_cons, List.not_mem_nil, or_false] at hz
          rcases hz with rfl
          · refine' T.cz_ref KX G ?a_h48 ?b_h48 ?d_h48 ?t_h48 ?s_h48; (case a_h48 => k_is); (case b_h48 => k_is); (case d_h48 => k_is); (case t_h48 => k_is); (case s_h48 => k_is))
    case cv =>
      intro z hz
      simp only [T.K07.L, List.mem_cons, List.not_mem_nil, or_false] at hz
      rcases hz with rfl
      · refine' ⟨_, .inl (PySem.W.mg_of KX G ?a_h49)⟩; (case a_h49 => k_is)
    case xs =>
      intro c n hc
      simp only [T.K07.L, List.mem_cons, List.not_mem_nil, or_false, Prod.mk.injEq] at hc
      rcases hc with ⟨rfl, rfl⟩ | ⟨rfl, rfl⟩ <;> exact ⟨_, rfl, rfl⟩
    case defs =>
      intro d hd
      simp only [T.K07.L, List.mem_cons, List.not_mem_nil, or_false] at hd
      rcases hd with rfl | rfl | rfl | rfl | rfl | rfl | rfl | rfl | rfl | rfl | rfl | rfl | rfl | rfl | rfl | rfl | rfl | rfl | rfl | rfl | rfl | rfl | rfl
      · refine' T.df_mk KX G ?a_h50 ?l_h50 ?c_h50 ?k_h50 ?b_h50; (case a_h50 => k_is); (case l_h50 => k_is); (case c_h50 => k_is); (case k_h50 => k_is); (case b_h50 => exact fun _ _ _ _ _ _ us hl => match us, hl with | [_, _], _ => rfl)
      · refine' T.df_mk KX G ?a_h51 ?l_h51 ?c_h51 ?k_h51 ?b_h51; (case a_h51 => k_is); (case l_h51 => k_is); (case c_h51 => k_is); (case k_h51 => k_is); (case b_h51 => exact fun _ _ _ _ _ _ us hl => match us, hl with | [_, _, _, _], _ => rfl)
      · refine' T.df_mk KX G ?a_h52 ?l_h52 ?c_h52 ?k_h52 ?b_h52; (case a_h52 => k_is); (case l_h52 => k_is); (case c_h52 => k_is); (case k_h52 => k_is); (case b_h52 => exact fun _ _ _ _ _ _ us hl => match us, hl with | [_, _, _], _ => rfl)
      · refine' T.df_mk KX G ?a_h53 ?l_h53 ?c_h53 ?k_h53 ?b_h53; (case a_h53 => k_is); (case l_h53 => k_is); (case c_h53 => k_is); (case k_h53 => k_is); (case b_h53 => exact fun _ _ _ _ _ _ us hl => match us, hl with | [_, _, _], _ => rfl)
      · refine' T.df_mk KX G ?a_h54 ?l_h54 ?c_h54 ?k_h54 ?b_h54; (case a_h54 => k_is); (case l_h54 => k_is); (case c_h54 => k_is); (case k_h54 => k_is); (case b_h54 => exact fun _ _ _ _ _ _ us hl => match us, hl with | [_], _ => rfl)
      · refine' T.df_mk KX G ?a_h55 ?l_h55 ?c_h55 ?k_h55 ?b_h55; (case a_h55 => k_is); (case l_h55 => k_is); (case c_h55 => k_is); (case k_h55 => k_is); (case b_h55 => exact fun _ _ _ _ _ _ us hl => match us, hl with | [_], _ => rfl)
      · refine' T.df_mk KX G ?a_h56 ?l_h56 ?c_h56 ?k_h56 ?b_h56; (case a_h56 => k_is); (case l_h56 => k_is); (case c_h56 => k_is); (case k_h56 => k_is); (case b_h56 => exact fun _ _ _ _ _ _ us hl => match us, hl with | [_, _], _ => rfl)
      · refine' T.df_mk KX G ?a_h57 ?l_h57 ?c_h57 ?k_h57 ?b_h57; (case a_h57 => k_is); (case l_h57 => k_is); (case c_h57 => k_is); (case k_h57 => k_is); (case b_h57 => exact fun _ _ _ _ _ _ us hl => match us, hl with | [_, _], _ => rfl)
      · refine' T.df_mk KX G ?a_h58 ?l_h58 ?c_h58 ?k_h58 ?b_h58; (case a_h58 => k_is); (case l_h58 => k_is); (case c_h58 => k_is); (case k_h58 => k_is); (case b_h58 => exact fun _ _ _ _ _ _ us hl => match us, hl with | [_], _ => rfl)
      · refine' T.df_mk KX G ?a_h59 ?l_h59 ?c_h59 ?k_h59 ?b_h59; (case a_h59 => k_is); (case l_h59 => k_is); (case c_h59 => k_is); (case k_h59 => k_is); (case b_h59 => exact fun _ _ _ _ _ _ us hl => match us, hl with | [_], _ => rfl)
      · refine' T.df_mk KX G ?a_h60 ?l_h60 ?c_h60 ?k_h60 ?b_h60; (case a_h60 => k_is); (case l_h60 => k_is); (case c_h60 => k_is); (case k_h60 => k_is); (case b_h60 => exact fun _ _ _ _ _ _ us hl => match us, hl with | [_], _ => rfl)
      · refine' T.df_mk KX G ?a_h61 ?l_h61 ?c_h61 ?k_h61 ?b_h61; (case a_h61 => k_is); (case l_h61 => k_is); (case c_h61 => k_is); (case k_h61 => k_is); (case b_h61 => exact fun _ _ _ _ _ _ us hl => match us, hl with | [_], _ => rfl)
      · refine' T.df_mk KX G ?a_h62 ?l_h62 ?c_h62 ?k_h62 ?b_h62; (case a_h62 => k_is); (case l_h62 => k_is); (case c_h62 => k_is); (case k_h62 => k_is); (case b_h62 => exact fun _ _ _ _ _ _ us hl => match us, hl with | [_], _ => rfl)
      · refine' T.df_mk KX G ?a_h63 ?l_h63 ?c_h63 ?k_h63 ?b_h63; (case a_h63 => k_is); (case l_h63 => k_is); (case c_h63 => k_is); (case k_h63 => k_is); (case b_h63 => exact fun _ _ _ _ _ _ us hl => match us, hl with | [_], _ => rfl)
      · refine' T.df_mk KX G ?a_h64 ?l_h64 ?c_h64 ?k_h64 ?b_h64; (case a_h64 => k_is); (case l_h64 => k_is); (case c_h64 => k_is); (case k_h64 => k_is); (case b_h64 => exact fun _ _ _ _ _ _ us hl => match us, hl with | [_, _], _ => rfl)
      · refine' T.df_mk KX G ?a_h65 ?l_h65 ?c_h65 ?k_h65 ?b_h65; (case a_h65 => k_is); (case l_h65 => k_is); (case c_h65 => k_is); (case k_h65 => k_is); (case b_h65 => exact fun _ _ _ _ _ _ us hl => match us, hl with | [_, _], _ => rfl)
      · refine' T.df_mk KX G ?a_h66 ?l_h66 ?c_h66 ?k_h66 ?b_h66; (case a_h66 => k_is); (case l_h66 => k_is); (case c_h66 => k_is); (case k_h66 => k_is); (case b_h66 => exact fun _ _ _ _ _ _ us hl => match us, hl with | [_], _ => rfl)
      · refine' T.df_mk KX G ?a_h67 ?l_h67 ?c_h67 ?k_h67 ?b_h67; (case a_h67 => k_is); (case l_h67 => k_is); (case c_h67 => k_is); (case k_h67 => k_is); (case b_h67 => exact fun _ _ _ _ _ _ us hl => match us, hl with | [_, _, _], _ => rfl)
      · refine' T.df_mk KX G ?a_h68 ?l_h68 ?c_h68 ?k_h68 ?b_h68; (case a_h68 => k_is); (case l_h68 => k_is); (case c_h68 => k_is); (case k_h68 => k_is); (case b_h68 => exact fun _ _ _ _ _ _ us hl => match us, hl with | [_], _ => rfl)
      · refine' T.df_mk KX G ?a_h69 ?l_h69 ?c_h69 ?k_h69 ?b_h69; (case a_h69 => k_is); (case l_h69 => k_is); (case c_h69 => k_is); (case k_h69 => k_is); (case b_h69 => exact fun _ _ _ _ _ _ us hl => match us, hl with | [_], _ => rfl)
      · refine' T.df_mk KX G ?a_h70 ?l_h70 ?c_h70 ?k_h70 ?b_h70; (case a_h70 => k_is); (case l_h70 => k_is); (case c_h70 => k_is); (case k_h70 => k_is); (case b_h70 => exact fun _ _ _ _ _ _ us hl => match us, hl with | [_], _ => rfl)
      · refine' T.df_mk KX G ?a_h71 ?l_h71 ?c_h71 ?k_h71 ?b_h71; (case a_h71 => k_is); (case l_h71 => k_is); (case c_h71 => k_is); (case k_h71 => k_is); (case b_h71 => exact fun _ _ _ _ _ _ us hl => match us, hl with | [_], _ => rfl)
      · refine' T.df_mk KX G ?a_h72 ?l_h72 ?c_h72 ?k_h72 ?b_h72; (case a_h72 => k_is); (case l_h72 => k_is); (case c_h72 => k_is); (case k_h72 => k_is); (case b_h72 => exact fun _ _ _ _ _ _ us hl => match us, hl with | [_], _ => rfl)
    case names =>
      intro d hd
      simp only [T.K07.L, List.mem_cons, List.not_mem_nil, or_false] at hd
      rcases hd with rfl | rfl | rfl | rfl | rfl | rfl | rfl | rfl | rfl | rfl | rfl | rfl | rfl | rfl | rfl | rfl | rfl | rfl | rfl | rfl | rfl | rfl | rfl <;> rfl
