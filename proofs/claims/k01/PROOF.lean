import PyProof.Rows.All
import Wide.All
import OpenK.AllK
import Wide.FinOn
import HandS.ForMost
import HandS.Exc
import HandS.TupAny
import HandS.Deep
import HandS.TupMul
import HandS.Flow
import HandS.ForExc
import HandS.DictComp
import HandS.More
import PyProof.NeKinds
import PyProof.CollectStr
import HandS.Conv
import HandS.IsInst
import HandS.SortKw
import HandS.SortInts
import KE.DataMinMax
import HandS.SetKeys
import HandS.ExcInit
import HandS.ExcIs
import HandS.ExcField
import PyProof.ExcBaseAll.IndexError
import PyProof.ExcBaseAll.LookupError
import PyProof.ExcBaseAll.OverflowError
import PyProof.ExcBaseAll.RuntimeError
import PyProof.ExcBaseAll.Exception
import PyProof.ExcBaseAll.ValueError
import PyProof.FactsTree
import HandS.Iter
import HandS.Zip
import KE.GoesEnumKw
import HandS.Strs
import HandS.Set
import PyProof.SetRoads
import HandS.ClsMeth
import HandS.WordsExc
import HandS.ExcOwn
import HandS.ExcValue
import HandS.EndBits
import PyProof.ReprBulk
import PyProof.Rows.ReprShort
import PySem.Challenge.RW_rowstold_k01_words_rows_and_entries
set_option Elab.async false
set_option linter.all false
set_option maxRecDepth 100000
/-! MI, part 1: values, heap objects, the small language, and what a run of it comes to (predicate transformers). -/
namespace MI
open PySem

abbrev SZ : Nat := 16777216

/-- a value: tuples and the script stand inline, what may change is a place in the heap -/
inductive D where
  | non
  | bl (b : Bool)
  | int (i : Int)
  | str (x : Str)
  | tup (xs : List D)
  | kl (xs : List D)
  | ref (i : Nat)
  | fn (k : Nat)
  | cls (k : Nat)
  | ty (n : String)
  | kd (ks : List Str) (ds : List D)
  | exv (c i : Nat)

/-- what stands at a place (fdic: a dict while it is walked) -/
inductive O where
  | lst (xs : List D)
  | dic (kvs : List (L2.Key × D))
  | fdic (kvs : List (L2.Key × D))
  | ins (c : Nat) (fs : List (Nat × D))
  | xd (c : Nat) (fs : List (Nat × D))
  | xob (c me j : Nat)
  | xo0 (c me : Nat)

abbrev Hq := List O
abbrev Env := List (Option D)

/-- outcomes: a value and a heap, a truth, a heap; under a condition -/
inductive OutD | no | ok (d : D) (hp : Hq) | cd (C : Prop) (d : D) (hp : Hq)
inductive OutB | no | ok (b : Bool) | cd (C : Prop) (b : Bool)
inductive OutH | no | ok (hp : Hq) | cd (C : Prop) (hp : Hq)
abbrev QD := D → Hq → Prop
abbrev QX := Nat → Nat → Hq → Prop
def OutD.app : OutD → QD → Prop
  | .no, _ => False
  | .ok d hp, Q => Q d hp
  | .cd C d hp, Q => C ∧ Q d hp
def OutB.app : OutB → (Bool → Prop) → Prop
  | .no, _ => False
  | .ok b, k => k b
  | .cd C b, k => C ∧ k b
def OutH.app : OutH → (Hq → Prop) → Prop
  | .no, _ => False
  | .ok hp, k => k hp
  | .cd C hp, k => C ∧ k hp
def OutB.val (neg : Bool) (hp : Hq) : OutB → OutD
  | .no => .no
  | .ok b => .ok (.bl (if neg then !b else b)) hp
  | .cd C b => .cd C (.bl (if neg then !b else b)) hp

/-! ### dicts, attributes -/
def dget {α : Type} : List (L2.Key × α) → L2.Key → Option α
  | [], _ => none
  | (k', v) :: r, k => if k' = k then some v else dget r k
def dput {α : Type} (kvs : List (L2.Key × α)) (k : L2.Key) (v : α) : List (L2.Key × α) :=
  if (kvs.any fun kv => decide (kv.1 = k)) = true then kvs.map (fun kv => if kv.1 = k then (kv.1, v) else kv) else kvs ++ [(k, v)]
def ddrop {α : Type} (kvs : List (L2.Key × α)) (k : L2.Key) : List (L2.Key × α) := kvs.filter fun kv => decide (kv.1 ≠ k)
def fget : List (Nat × D) → Nat → Option D
  | [], _ => none
  | (g, x) :: r, f => if g = f then some x else fget r f
def fput : List (Nat × D) → Nat → D → List (Nat × D)
  | [], f, v => [(f, v)]
  | (g, x) :: r, f, v => if g = f then (g, v) :: r else (g, x) :: fput r f v
def kOf : D → Option L2.Key
  | .int i => some (.inl i)
  | .str x => some (.inr x)
  | _ => none
def keyD : L2.Key → D
  | .inl i => .int i
  | .inr x => .str x

/-! ### reading the heap -/
def gtL (hp : Hq) (i : Nat) : Option (List D) := match hp[i]? with
  | some (.lst xs) => some xs
  | _ => none
def gtD (hp : Hq) (i : Nat) : Option (List (L2.Key × D)) := match hp[i]? with
  | some (.dic kvs) => some kvs
  | _ => none
def rdD (hp : Hq) (i : Nat) : Option (List (L2.Key × D)) := match hp[i]? with
  | some (.dic kvs) => some kvs
  | some (.fdic kvs) => some kvs
  | _ => none
def gtI (hp : Hq) (i : Nat) : Option (Nat × List (Nat × D)) := match hp[i]? with
  | some (.ins c fs) => some (c, fs)
  | _ => none
/-- a list's items -/
def lsOf (hp : Hq) : D → Option (List D)
  | .kl xs => some xs
  | .ref i => gtL hp i
  | _ => none
/-- a list's or tuple's -/
def sqOf (hp : Hq) : D → Option (List D)
  | .tup xs => some xs
  | .kl xs => some xs
  | .ref i => gtL hp i
  | _ => none

def mapO {α β : Type} (f : α → Option β) : List α → Option (List β)
  | [] => some []
  | x :: xs => match f x with
    | none => none
    | some y => match mapO f xs with
      | none => none
      | some ys => some (y :: ys)

/-- a value as plain data, lists read from the heap -/
def toP : Nat → Hq → D → Option PyData
  | 0, _, _ => none
  | n + 1, hp, d => match d with
    | .non => some .none
    | .bl b => some (.bool b)
    | .int i => some (.int i)
    | .str x => some (.str x)
    | .tup ds => (mapO (toP n hp) ds).map .tuple
    | .kl ds => (mapO (toP n hp) ds).map .list
    | .ref i => match gtL hp i with
      | some ds => (mapO (toP n hp) ds).map .list
      | none => none
    | _ => none

/-- .. or with empty dicts, no lists: for repr alone -/
def toR : Nat → Hq → D → Option PyData
  | 0, _, _ => none
  | n + 1, hp, d => match d with
    | .non => some .none
    | .bl b => some (.bool b)
    | .int i => some (.int i)
    | .str x => some (.str x)
    | .tup ds => (mapO (toR n hp) ds).map .tuple
    | .ref i => match hp[i]? with
      | some (.dic []) => some (.dict [])
      | _ => none
    | _ => none

/-! ### the language -/
inductive BOp | add | sub | mul | fdiv | mod | pow
  deriving DecidableEq
inductive COp | eq | ne | lt | le | gt | ge | is | nis | isin | nin
  deriving DecidableEq
/-- built-in functions of evaluated arguments -/
inductive BF | len | list1 | tuple1 | dict1 | dict0 | int1 | str1 | repr | sum1 | max1 | min1 | max2 | min2 | sorted1 | all1 | any1 | isi
  deriving DecidableEq
/-- methods of built-in types -/
inductive BM | append | extend | pop0 | pop1 | pop2 | get1 | get2 | setdef | clear
  deriving DecidableEq

mutual
inductive Ex where
  | var (i : Nat)
  | lit (d : D)
  | glob (g : Nat)
  | bin (o : BOp) (a b : Ex)
  | neg (a : Ex)
  | cmp (o : COp) (a b : Ex)
  | cmp2 (o p : COp) (a b c : Ex)
  | and (a b : Ex)
  | or (a b : Ex)
  | not (a : Ex)
  | ite (c a b : Ex)
  | tup (es : Exs)
  | lst (es : Exs)
  | dic (es : Exs)
  | bty (n : String)
  | mmd (mx : Bool) (a d : Ex)
  | ix (a i : Ex)
  | sl (a : Ex) (lo hi : Exo)
  | fld (a : Ex) (f : Nat)
  | call (f : Nat) (es : Exs)
  | callK (f : Nat) (es : Exs) (pm : List (Sum Nat D))
  | make (c : Nat) (es : Exs)
  | makeK (c : Nat) (es : Exs) (pm : List (Sum Nat D))
  | meth (a : Ex) (m : Nat) (es : Exs)
  | methK (a : Ex) (m : Nat) (es : Exs) (pm : List (Sum Nat D))
  | blt (b : BF) (es : Exs)
  | bm (m : BM) (a : Ex) (es : Exs)
  | lc (own : List Nat) (t : Tg) (it : Ix) (c : Exo) (e : Ex)
  | dc (own : List Nat) (t : Tg) (it : Ix) (c : Exo) (k e : Ex)
  | lc2 (own own1 : List Nat) (t : Tg) (it : Ix) (t1 : Tg) (a e : Ex)
  | lenD (a : Ex) (m : Nat)
  | isx (a : Ex) (bs : List Bool)
  | xfd (a : Ex) (f : Nat)
  | xnew (k f : Nat) (a : Ex)
  | xnw0 (k : Nat)
  | callL (i : Nat) (es : Exs)
  | lenS (a : Ex)
  | srtS (a : Ex)
inductive Exs where
  | nil
  | cons (e : Ex) (r : Exs)
inductive Exo where
  | no
  | so (e : Ex)
/-- targets -/
inductive Tg where
  | nm (i : Nat)
  | tp (ts : Tgs)
  | at (o : Ex) (f : Nat)
  | sb (o i : Ex)
inductive Tgs where
  | nil
  | cons (t : Tg) (r : Tgs)
/-- what is walked -/
inductive Ix where
  | vl (e : Ex)
  | rng1 (e : Ex)
  | rng2 (a b : Ex)
  | enum (e : Ex)
  | zip2 (a b : Ex)
  | zipS (a b : Ex)
  | items (e : Ex)
  | vals (e : Ex)
end

mutual
inductive St where
  | pass
  | brk
  | cont
  | expr (e : Ex)
  | ret (e : Exo)
  | asg (t : Tg) (e : Ex)
  | augn (i : Nat) (o : BOp) (e : Ex)
  | augf (o : Ex) (f : Nat) (p : BOp) (e : Ex)
  | ifs (c : Ex) (a b : Sts)
  | whl (c : Ex) (b : Sts)
  | for_ (t : Tg) (it : Ix) (b : Sts)
  | raise (c f : Nat) (e : Ex)
  | tryK (b : Sts) (bs : List Bool) (n k : Nat)
  | never
inductive Sts where
  | nil
  | cons (s : St) (r : Sts)
end

def Exs.len : Exs → Nat
  | .nil => 0
  | .cons _ r => r.len + 1
def Tgs.len : Tgs → Nat
  | .nil => 0
  | .cons _ r => r.len + 1

structure FnI where
  np : Nat
  ns : Nat
  body : Sts
structure ClsI where
  init : Nat
  meths : List (Nat × Nat)
structure Glob where
  fns : List FnI
  clss : List ClsI
  consts : List D

abbrev Cl := Nat → List D → Hq → QD → QX → Prop

def nfind : List (Nat × Nat) → Nat → Option Nat
  | [], _ => none
  | (k, v) :: r, m => if k = m then some v else nfind r m
def Glob.meth (g : Glob) (c m : Nat) : Option Nat := match g.clss[c]? with
  | some ci => nfind ci.meths m
  | none => none
def Glob.init (g : Glob) (c : Nat) : Option Nat := match g.clss[c]? with
  | some ci => some ci.init
  | none => none

/-! ### operations by values -/
def oNew (hp : Hq) (o : O) : OutD := .ok (.ref hp.length) (hp ++ [o])

def oBin : BOp → D → D → Hq → OutD
  | .add, .int i, .int j, hp => .ok (.int (i + j)) hp
  | .add, .str x, .str y, hp => .cd (x.length + y.length ≤ SZ) (.str (x ++ y)) hp
  | .add, .tup xs, .tup ys, hp => .cd (xs.length + ys.length ≤ SZ) (.tup (xs ++ ys)) hp
  | .add, .ref a, .ref b, hp => match gtL hp a, gtL hp b with
    | some xs, some ys => .cd (xs.length + ys.length ≤ SZ) (.ref hp.length) (hp ++ [.lst (xs ++ ys)])
    | _, _ => .no
  | .sub, .int i, .int j, hp => .ok (.int (i - j)) hp
  | .mul, .int i, .int j, hp => .cd ((-(2 ^ 64) < i ∧ i < 2 ^ 64) ∨ (-(2 ^ 64) < j ∧ j < 2 ^ 64)) (.int (i * j)) hp
  | .mul, .str x, .int k, hp => .cd (MulOk x k) (.str (Txt.mul x k)) hp
  | .mul, .tup xs, .int k, hp => .cd (xs ≠ [] ∧ 2 ≤ k ∧ k ≤ 1000 ∧ xs.length ≤ 1000) (.tup (List.replicate k.toNat xs).flatten) hp
  | .mul, .ref a, .int k, hp => match gtL hp a with
    | some xs => .cd (-(2 ^ 63) ≤ k ∧ k < 2 ^ 63 ∧ xs.length * k.toNat ≤ SZ) (.ref hp.length) (hp ++ [.lst (List.replicate k.toNat xs).flatten])
    | none => .no
  | .fdiv, .int i, .int j, hp => .cd (0 < j ∧ j < 1073741824) (.int (i / j)) hp
  | .mod, .int i, .int j, hp => .cd (0 < j) (.int (i % j)) hp
  | .pow, .int i, .int j, hp => .cd (0 ≤ j ∧ j ≤ 1000000 ∧ i.natAbs < 2 ^ 64) (.int (i ^ j.toNat)) hp
  | _, _, _, _ => .no

def oTru : D → Hq → OutB
  | .non, _ => .ok false
  | .bl b, _ => .ok b
  | .int i, _ => .ok (i != 0)
  | .str y, _ => .cd (y.length ≤ SZ) ((y.length : Int) != 0)
  | .tup xs, _ => .ok (!xs.isEmpty)
  | .kl xs, _ => .ok (!xs.isEmpty)
  | .ref i, hp => match hp[i]? with
    | some (.lst xs) => .ok (!xs.isEmpty)
    | some (.dic kvs) => .ok (!kvs.isEmpty)
    | _ => .no
  | _, _ => .no

/-- what is alike just by its own look -/
def flD : D → Bool
  | .non => true | .bl _ => true | .int _ => true | .str _ => true
  | _ => false
/-- two dicts that are alike -/
def oEqK (ks ls : List (L2.Key × D)) : OutB := .cd (ks.length = ls.length ∧ ∀ p ∈ ks, dget ls p.1 = some p.2 ∧ flD p.2 = true) true
/-- with an empty one -/
def oEq0 (x y : D) (hp : Hq) : OutB := match x, y with
  | .tup xs, .tup [] => .ok xs.isEmpty
  | .ref i, .ref j => match gtL hp i, gtL hp j with
    | some xs, some [] => .ok xs.isEmpty
    | _, _ => .no
  | _, _ => .no
def oEqP (x y : D) (hp : Hq) : OutB := match oEq0 x y hp with
  | .ok b => .ok b
  | _ => match toP 40 hp x, toP 40 hp y with
    | some a, some b => .cd (SeqAt.shaped a = true ∧ SeqAt.shaped b = true) (PyData.eqv a b)
    | _, _ => .no
def oEqG (x y : D) (hp : Hq) : OutB := match x, y with
  | .ref i, .ref j => match gtD hp i, gtD hp j with
    | some ks, some ls => oEqK ks ls
    | _, _ => oEqP x y hp
  | _, _ => oEqP x y hp
def oEq : D → D → Hq → OutB
  | .int i, .int j, _ => .ok (decide (i = j))
  | .str x, .str y, _ => .ok (decide (x = y))
  | .bl a, .bl b, _ => .ok (decide (a = b))
  | .non, .non, _ => .ok true
  | x, y, hp => oEqG x y hp

def isNon : D → Bool
  | .non => true
  | _ => false

def oInS (x : D) (ys : List D) (hp : Hq) : OutB := match toP 40 hp x, mapO (toP 40 hp) ys with
  | some a, some bs => .cd (SeqAt.shaped a = true ∧ SeqAt.shaped (.list bs) = true) (bs.any fun b => PyData.eqv b a)
  | _, _ => .no
def oInD (x : D) (kvs : List (L2.Key × D)) : OutB := match kOf x with
  | some key => .ok (dget kvs key).isSome
  | none => .no
def kget : List Str → List D → Str → Option D
  | k :: ks, d :: ds, x => if k = x then some d else kget ks ds x
  | _, _, _ => none
/-- a text in a text -/
def inTx (x y : Str) : Bool := !(Builtin.Str.occurrences y x 0 y.length 1).isEmpty
def oIn : D → D → Hq → OutB
  | x, .ref i, hp => match hp[i]? with
    | some (.dic kvs) => oInD x kvs
    | some (.fdic kvs) => oInD x kvs
    | some (.lst ys) => oInS x ys hp
    | _ => .no
  | x, .tup ys, hp => oInS x ys hp
  | x, .kl ys, hp => oInS x ys hp
  | .str x, .str y, _ => .ok (inTx x y)
  | .str x, .kd ks ds, _ => .ok (kget ks ds x).isSome
  | _, _, _ => .no

def oCmp : COp → D → D → Hq → OutD
  | .eq, x, y, hp => (oEq x y hp).val false hp
  | .ne, x, y, hp => (oEq x y hp).val true hp
  | .lt, .int i, .int j, hp => .ok (.bl (decide (i < j))) hp
  | .le, .int i, .int j, hp => .ok (.bl (decide (i ≤ j))) hp
  | .gt, .int i, .int j, hp => .ok (.bl (decide (j < i))) hp
  | .ge, .int i, .int j, hp => .ok (.bl (decide (j ≤ i))) hp
  | .is, x, .non, hp => .ok (.bl (isNon x)) hp
  | .nis, x, .non, hp => .ok (.bl (!isNon x)) hp
  | .is, .bl a, .bl b, hp => .ok (.bl (a == b)) hp
  | .nis, .bl a, .bl b, hp => .ok (.bl (!(a == b))) hp
  | .isin, x, y, hp => (oIn x y hp).val false hp
  | .nin, x, y, hp => (oIn x y hp).val true hp
  | _, _, _, _ => .no

def oAtI (xs : List D) (i : Int) (hp : Hq) : OutD := match L2.atI xs i with
  | some d => .ok d hp
  | none => .no
def oAtK (kvs : List (L2.Key × D)) (x : D) (hp : Hq) : OutD := match kOf x with
  | some key => match dget kvs key with
    | some d => .ok d hp
    | none => .no
  | none => .no
def oIx : D → D → Hq → OutD
  | .tup xs, .int i, hp => oAtI xs i hp
  | .kl xs, .int i, hp => oAtI xs i hp
  | .kd ks ds, .str x, hp => match kget ks ds x with
    | some d => .ok d hp
    | none => .no
  | .ref a, x, hp => match hp[a]? with
    | some (.dic kvs) => oAtK kvs x hp
    | some (.fdic kvs) => oAtK kvs x hp
    | some (.lst xs) => match x with
      | .int i => oAtI xs i hp
      | _ => .no
    | _ => .no
  | _, _, _ => .no

def cutD {α : Type} (xs : List α) (lo hi : Option Int) : List α := (xs.drop (HT.sIx xs.length 0 lo)).take (HT.sIx xs.length xs.length hi - HT.sIx xs.length 0 lo)
def bnd : Option D → Option (Option Int)
  | none => some none
  | some (.int i) => some (some i)
  | _ => none
def oSl (x : D) (l h : Option Int) (hp : Hq) : OutD := match x with
  | .tup xs => .ok (.tup (cutD xs l h)) hp
  | .ref a => match gtL hp a with
    | some xs => oNew hp (.lst (cutD xs l h))
    | none => .no
  | _ => .no

def intsOf : List D → Option (List Int)
  | [] => some []
  | .int i :: r => match intsOf r with
    | some ns => some (i :: ns)
    | none => none
  | _ => none
def boolsOf : List D → Option (List Bool)
  | [] => some []
  | .bl b :: r => match boolsOf r with
    | some bs => some (b :: bs)
    | none => none
  | _ => none
def imax : Int → List Int → Int
  | m, [] => m
  | m, n :: r => imax (if n > m then n else m) r
def imin : Int → List Int → Int
  | m, [] => m
  | m, n :: r => imin (if n < m then n else m) r

/-- the built-in type of a value -/
def tyOf (hp : Hq) : D → Option String
  | .non => some "NoneType"
  | .bl _ => some "bool"
  | .int _ => some "int"
  | .str _ => some "str"
  | .tup _ => some "tuple"
  | .kl _ => some "list"
  | .ref i => match hp[i]? with
    | some (.lst _) => some "list"
    | some (.dic _) => some "dict"
    | some (.fdic _) => some "dict"
    | _ => none
  | _ => none
def tyAll : List String := ["int", "str", "bool", "tuple", "list", "dict"]
def isiB (a b : String) : Bool := a == b || (a == "bool" && b == "int")
def oMmd (mx : Bool) (x y : D) (hp : Hq) : OutD := match (lsOf hp x).bind intsOf with
  | some [] => .ok y hp
  | some (n :: ns) => .ok (.int (if mx then imax n ns else imin n ns)) hp
  | none => .no
def pairsOf : List D → Option (List (L2.Key × D))
  | [] => some []
  | k :: v :: r => match kOf k, pairsOf r with
    | some k, some kvs => some ((k, v) :: kvs)
    | _, _ => none
  | _ => none

/-- a list of pairs, the keys ints or texts -/
def prsOf : List D → Option (List (L2.Key × D))
  | [] => some []
  | .tup [k, v] :: r => match kOf k, prsOf r with
    | some k, some kvs => some ((k, v) :: kvs)
    | _, _ => none
  | _ => none
def iins (i : Int) : List Int → List Int
  | [] => [i]
  | j :: r => if i ≤ j then i :: j :: r else j :: iins i r
def isort : List Int → List Int
  | [] => []
  | i :: r => iins i (isort r)
def keysI : List (L2.Key × D) → Option (List Int)
  | [] => some []
  | (.inl i, _) :: r => match keysI r with
    | some ns => some (i :: ns)
    | none => none
  | _ => none
/-- each once, in the order of the first meetings -/
def uq {α : Type} [DecidableEq α] (xs : List α) : List α := xs.foldl (fun acc x => if x ∈ acc then acc else acc ++ [x]) []
def strsOf : List D → Option (List Str)
  | [] => some []
  | .str x :: r => match strsOf r with
    | some ns => some (x :: ns)
    | none => none
  | _ => none
/-- len(set(xs)), xs a tuple of texts -/
def oLenS : D → Hq → OutD
  | .tup xs, hp => match strsOf xs with
    | some ys => .cd (ys.length < 1000) (.int (uq ys).length) hp
    | none => .no
  | _, _ => .no
/-- sorted(set(xs)), of ints -/
def oSrtS (x : D) (hp : Hq) : OutD := match sqOf hp x with
  | some xs => match intsOf xs with
    | some ns => .cd (ns.length < 60) (.ref hp.length) (hp ++ [.lst ((isort (uq ns)).map D.int)])
    | none => .no
  | none => .no
def oBF : BF → List D → Hq → OutD
  | .sorted1, [x], hp => match lsOf hp x with
    | some xs => match intsOf xs with
      | some ns => oNew hp (.lst ((isort ns).map D.int))
      | none => .no
    | none => match x with
      | .ref i => match rdD hp i with
        | some kvs => match keysI kvs with
          | some ns => .cd (ns.length < 64) (.ref hp.length) (hp ++ [.lst ((isort ns).map D.int)])
          | none => .no
        | none => .no
      | _ => .no
  | .len, [.str x], hp => .cd (x.length ≤ SZ) (.int x.length) hp
  | .len, [.tup xs], hp => .ok (.int xs.length) hp
  | .len, [.kl xs], hp => .ok (.int xs.length) hp
  | .len, [.ref i], hp => match hp[i]? with
    | some (.lst xs) => .ok (.int xs.length) hp
    | some (.dic kvs) => .ok (.int kvs.length) hp
    | some (.fdic kvs) => .ok (.int kvs.length) hp
    | _ => .no
  | .list1, [x], hp => match sqOf hp x with
    | some xs => oNew hp (.lst xs)
    | none => .no
  | .tuple1, [x], hp => match sqOf hp x with
    | some xs => .ok (.tup xs) hp
    | none => match x with
      | .str s => .cd (s.cps.size ≤ 1000) (.tup (s.cps.toList.map fun c => .str ⟨#[c]⟩)) hp
      | _ => .no
  | .dict1, [x], hp => match lsOf hp x with
    | some xs => match prsOf xs with
      | some kvs => oNew hp (.dic (kvs.foldl (fun acc kv => dput acc kv.1 kv.2) []))
      | none => .no
    | none => match x with
      | .ref i => match rdD hp i with
        | some kvs => oNew hp (.dic kvs)
        | none => .no
      | _ => .no
  | .int1, [.int i], hp => .ok (.int i) hp
  | .int1, [.bl b], hp => .ok (.int (if b then 1 else 0)) hp
  | .repr, [x], hp => match toP 40 hp x with
    | some a => .cd (SeqAt.shaped a = true ∧ a.showable = true ∧ a.shown.length ≤ SZ) (.str a.shown) hp
    | none => match toR 40 hp x with
      | some a => .cd (a.depth ≤ 64 ∧ a.showable = true ∧ a.shown.length ≤ SZ) (.str a.shown) hp
      | none => .no
  | .sum1, [x], hp => match (lsOf hp x).bind intsOf with
    | some ns => .ok (.int ns.sum) hp
    | none => .no
  | .max2, [.int i, .int j], hp => .ok (.int (if j > i then j else i)) hp
  | .min2, [.int i, .int j], hp => .ok (.int (if j < i then j else i)) hp
  | .max1, [x], hp => match (lsOf hp x).bind intsOf with
    | some (n :: ns) => .ok (.int (imax n ns)) hp
    | _ => .no
  | .min1, [x], hp => match (lsOf hp x).bind intsOf with
    | some (n :: ns) => .ok (.int (imin n ns)) hp
    | _ => .no
  | .all1, [x], hp => match (lsOf hp x).bind boolsOf with
    | some bs => .ok (.bl (bs.all id)) hp
    | none => .no
  | .any1, [x], hp => match (lsOf hp x).bind boolsOf with
    | some bs => .ok (.bl (bs.any id)) hp
    | none => .no
  | .isi, [x, .ty b], hp => match tyOf hp x with
    | some a => if tyAll.contains b then .ok (.bl (isiB a b)) hp else .no
    | none => .no
  | _, _, _ => .no

/-- the kind of a receiver that has such a method -/
inductive BK | lst | dic | str
  deriving DecidableEq
def bmK : BM → D → Hq → Option BK
  | .append, .ref i, hp => match hp[i]? with
    | some (.lst _) => some .lst
    | _ => none
  | .extend, .ref i, hp => match hp[i]? with
    | some (.lst _) => some .lst
    | _ => none
  | .setdef, .ref i, hp => match hp[i]? with
    | some (.dic _) => some .dic
    | _ => none
  | .get1, .ref i, hp => match hp[i]? with
    | some (.dic _) => some .dic
    | some (.fdic _) => some .dic
    | _ => none
  | .get2, .ref i, hp => match hp[i]? with
    | some (.dic _) => some .dic
    | some (.fdic _) => some .dic
    | _ => none
  | .pop1, .ref i, hp => match hp[i]? with
    | some (.dic _) => some .dic
    | some (.lst _) => some .lst
    | _ => none
  | .pop2, .ref i, hp => match hp[i]? with
    | some (.dic _) => some .dic
    | _ => none
  | .clear, .ref i, hp => match hp[i]? with
    | some (.lst _) => some .lst
    | some (.dic _) => some .dic
    | _ => none
  | _, _, _ => none
def oBM : BM → BK → D → List D → Hq → OutD
  | .append, .lst, .ref i, [d], hp => match gtL hp i with
    | some xs => .cd (xs.length < SZ) .non (hp.set i (.lst (xs ++ [d])))
    | none => .no
  | .extend, .lst, .ref i, [.ref j], hp => match gtL hp i, gtL hp j with
    | some xs, some ys => .cd (xs.length + ys.length ≤ SZ) .non (hp.set i (.lst (xs ++ ys)))
    | _, _ => .no
  | .setdef, .dic, .ref i, [x, y], hp => match gtD hp i, kOf x with
    | some kvs, some k => match dget kvs k with
      | some d => .cd (kvs.length < SZ) d hp
      | none => .cd (kvs.length < SZ) y (hp.set i (.dic (dput kvs k y)))
    | _, _ => .no
  | .get1, .dic, .ref i, [x], hp => match rdD hp i, kOf x with
    | some kvs, some k => .ok ((dget kvs k).getD .non) hp
    | _, _ => .no
  | .get2, .dic, .ref i, [x, y], hp => match rdD hp i, kOf x with
    | some kvs, some k => .ok ((dget kvs k).getD y) hp
    | _, _ => .no
  | .pop2, .dic, .ref i, [x, y], hp => match gtD hp i, kOf x with
    | some kvs, some k => match dget kvs k with
      | some d => .ok d (hp.set i (.dic (ddrop kvs k)))
      | none => .ok y hp
    | _, _ => .no
  | .pop1, .dic, .ref i, [x], hp => match gtD hp i, kOf x with
    | some kvs, some k => match dget kvs k with
      | some d => .ok d (hp.set i (.dic (ddrop kvs k)))
      | none => .no
    | _, _ => .no
  | .pop1, .lst, .ref i, [.int z], hp => match gtL hp i with
    | some xs => match L2.ixN xs.length z with
      | some j => match xs[j]? with
        | some d => .cd (-(2 ^ 63) ≤ z ∧ z < 2 ^ 63) d (hp.set i (.lst (xs.eraseIdx j)))
        | none => .no
      | none => .no
    | none => .no
  | .clear, .lst, .ref i, [], hp => match gtL hp i with
    | some _ => .ok .non (hp.set i (.lst []))
    | none => .no
  | .clear, .dic, .ref i, [], hp => match gtD hp i with
    | some _ => .ok .non (hp.set i (.dic []))
    | none => .no
  | _, _, _, _, _ => .no

def oSet : D → D → D → Hq → OutH
  | .ref a, x, v, hp => match hp[a]? with
    | some (.dic kvs) => match kOf x with
      | some key => .cd (kvs.length < SZ) (hp.set a (.dic (dput kvs key v)))
      | none => .no
    | some (.lst xs) => match x with
      | .int i => match L2.ixN xs.length i with
        | some j => .ok (hp.set a (.lst (xs.set j v)))
        | none => .no
      | _ => .no
    | _ => .no
  | _, _, _, _ => .no

def oGetF : D → Nat → Hq → OutD
  | .ref i, f, hp => match gtI hp i with
    | some (_, fs) => match fget fs f with
      | some d => .ok d hp
      | none => .no
    | none => .no
  | _, _, _ => .no
/-- a kept exception: is it of the classes that bs tells; its field -/
def gtX (hp : Hq) (i : Nat) : Option (Nat × Nat) := match hp[i]? with
  | some (.xob c me j) => if me = i then some (c, j) else none
  | _ => none
def gtX0 (hp : Hq) (i : Nat) : Option Nat := match hp[i]? with
  | some (.xo0 c me) => if me = i then some c else none
  | _ => none
def oIsX (bs : List Bool) : D → Hq → OutD
  | .ref i, hp => match gtX hp i with
    | some (c, j) => match hp[j]?, bs[c]? with
      | some (.xd _ _), some b => .ok (.bl b) hp
      | _, _ => .no
    | none => match gtX0 hp i with
      | some c => match bs[c]? with
        | some b => .ok (.bl b) hp
        | none => .no
      | none => .no
  | _, _ => .no
def oXF : D → Nat → Hq → OutD
  | .ref i, f, hp => match gtX hp i with
    | some (_, j) => match hp[j]? with
      | some (.xd _ [(g, d)]) => if g = f then .ok d hp else .no
      | _ => .no
    | none => .no
  | _, _, _ => .no
def oSetF : D → Nat → D → Hq → OutH
  | .ref i, f, v, hp => match gtI hp i with
    | some (c, fs) => .cd (fs.length < 900) (hp.set i (.ins c (fput fs f v)))
    | none => .no
  | _, _, _, _ => .no
def oAug : BOp → D → D → Hq → OutD
  | .add, .int i, .int j, hp => .ok (.int (i + j)) hp
  | .sub, .int i, .int j, hp => .ok (.int (i - j)) hp
  | _, _, _, _ => .no

/-! ### loops -/
structure Itr where
  nx : Nat → Hq → Option (Option D)
  un : Hq → Hq

/-- a comprehension: body hands on an item, or none where the test fails -/
def lcLoop (nx : Nat → Hq → Option (Option D)) (body : D → Hq → (Option D → Hq → Prop) → Prop) : Nat → Nat → List D → Hq → (List D → Hq → Prop) → Prop
  | 0, _, _, _, _ => False
  | N + 1, j, acc, hp, k => match nx j hp with
    | none => False
    | some none => k acc hp
    | some (some d) => body d hp fun r hp' => match r with
      | none => lcLoop nx body N (j + 1) acc hp' k
      | some y => acc.length < SZ ∧ lcLoop nx body N (j + 1) (acc ++ [y]) hp' k

/-- a dict comprehension: body hands on a key and a value -/
def dcLoop (nx : Nat → Hq → Option (Option D)) (body : D → Hq → (Option (D × D) → Hq → Prop) → Prop) : Nat → Nat → List (L2.Key × D) → Hq → (List (L2.Key × D) → Hq → Prop) → Prop
  | 0, _, _, _, _ => False
  | N + 1, j, acc, hp, k => match nx j hp with
    | none => False
    | some none => k acc hp
    | some (some d) => body d hp fun r hp' => match r with
      | none => dcLoop nx body N (j + 1) acc hp' k
      | some (y, z) => match kOf y with
        | some key => acc.length < SZ ∧ dcLoop nx body N (j + 1) (dput acc key z) hp' k
        | none => False
/-- a comprehension whose turns hand on what stands so far -/
def acLoop (nx : Nat → Hq → Option (Option D)) (body : D → List D → Hq → (List D → Hq → Prop) → Prop) : Nat → Nat → List D → Hq → (List D → Hq → Prop) → Prop
  | 0, _, _, _, _ => False
  | N + 1, j, acc, hp, k => match nx j hp with
    | none => False
    | some none => k acc hp
    | some (some d) => body d acc hp fun acc' hp' => acLoop nx body N (j + 1) acc' hp' k

def forLoop (nx : Nat → Hq → Option (Option D)) (body : D → Env → Hq → (Env → Hq → Prop) → Prop) : Nat → Nat → Env → Hq → (Env → Hq → Prop) → Prop
  | 0, _, _, _, _ => False
  | N + 1, j, env, hp, k => match nx j hp with
    | none => False
    | some none => k env hp
    | some (some d) => body d env hp fun env' hp' => forLoop nx body N (j + 1) env' hp' k

def whLoop (body : Env → Hq → (Env → Hq → Prop) → (Env → Hq → Prop) → Prop) : Nat → Env → Hq → (Env → Hq → Prop) → Prop
  | 0, _, _, _ => False
  | N + 1, env, hp, k => body env hp (fun env' hp' => whLoop body N env' hp' k) k

def wipeE (env : Env) : List Nat → Env
  | [] => env
  | i :: r => (wipeE env r).set i none

def perm (pm : List (Sum Nat D)) (ds : List D) : Option (List D) := mapO (fun p => match p with
  | .inl j => ds[j]?
  | .inr d => some d) pm

def itFix (xs : List D) : Itr := ⟨fun j _ => some xs[j]?, id⟩
def itLst (i : Nat) : Itr := ⟨fun j h => (gtL h i).map fun xs => xs[j]?, id⟩
def itSeq (hp : Hq) : D → Option (Itr × Hq)
  | .tup ds => some (itFix ds, hp)
  | .kl ds => some (itFix ds, hp)
  | .ref i => match hp[i]? with
    | some (.lst _) => some (itLst i, hp)
    | some (.dic kvs) => some (⟨fun j _ => some ((kvs.map fun kv => keyD kv.1)[j]?), fun h => h.set i (.dic kvs)⟩, hp.set i (.fdic kvs))
    | some (.fdic kvs) => some (itFix (kvs.map fun kv => keyD kv.1), hp)
    | _ => none
  | .str x => some (⟨fun j _ => some ((x.cps[j]?).map fun c => .str ⟨#[c]⟩), id⟩, hp)
  | _ => none
/-- .. of lists and tuples alone -/
def itSq (hp : Hq) : D → Option Itr
  | .tup ds => some (itFix ds)
  | .kl ds => some (itFix ds)
  | .ref i => match hp[i]? with
    | some (.lst _) => some (itLst i)
    | _ => none
  | _ => none
def itDic (f : L2.Key × D → D) (hp : Hq) : D → Option (Itr × Hq)
  | .ref i => match hp[i]? with
    | some (.dic kvs) => some (⟨fun j _ => some ((kvs.map f)[j]?), fun h => h.set i (.dic kvs)⟩, hp.set i (.fdic kvs))
    | some (.fdic kvs) => some (itFix (kvs.map f), hp)
    | _ => none
  | _ => none
def itRng (lo hi : Int) : Itr := ⟨fun j _ => some (if (j : Int) < hi - lo then some (.int (lo + j)) else none), id⟩
def rngOk (lo hi : Int) : Prop := (-(2 ^ 62) ≤ lo ∧ lo < 2 ^ 62) ∧ -(2 ^ 62) ≤ hi ∧ hi < 2 ^ 62
def itEnum (i : Nat) : Itr := ⟨fun j h => (gtL h i).map fun xs => (xs[j]?).map fun d => .tup [.int j, d], id⟩
def itZipT (xs ys : List D) : Itr := ⟨fun j _ => match xs[j]?, ys[j]? with
  | some x, some y => some (some (.tup [x, y]))
  | _, _ => some none, id⟩
def itZip (a b : Nat) : Itr := ⟨fun j h => match gtL h a, gtL h b with
  | some xs, some ys => match xs[j]?, ys[j]? with
    | some x, some y => some (some (.tup [x, y]))
    | none, _ => some none
    | _, none => some none
  | _, _ => none, id⟩

/-! ### runs -/
structure KS where
  nx : Env → Hq → Prop
  bk : Env → Hq → Prop
  ct : Env → Hq → Prop
  rt : QD
  ex : Nat → Nat → Env → Hq → Prop

section
variable (g : Glob) (cl : Cl)
mutual
def wE : Ex → Env → Hq → QD → QX → Prop
  | .var i, env, hp, Q, _ => match env[i]? with
    | some (some d) => Q d hp
    | _ => False
  | .lit d, _, hp, Q, _ => Q d hp
  | .glob k, _, hp, Q, _ => match g.consts[k]? with
    | some d => Q d hp
    | none => False
  | .bin o a b, env, hp, Q, E => wE a env hp (fun x hp => wE b env hp (fun y hp => (oBin o x y hp).app Q) E) E
  | .neg a, env, hp, Q, E => wE a env hp (fun x hp => match x with
    | .int i => Q (.int (-i)) hp
    | _ => False) E
  | .cmp o a b, env, hp, Q, E => wE a env hp (fun x hp => wE b env hp (fun y hp => (oCmp o x y hp).app Q) E) E
  | .cmp2 o p a b c, env, hp, Q, E => wE a env hp (fun x hp => wE b env hp (fun y hp => (oCmp o x y hp).app fun r hp => match r with
    | .bl true => wE c env hp (fun z hp => (oCmp p y z hp).app Q) E
    | .bl false => Q (.bl false) hp
    | _ => False) E) E
  | .and a b, env, hp, Q, E => wE a env hp (fun x hp => (oTru x hp).app fun t => if t = true then wE b env hp Q E else Q x hp) E
  | .or a b, env, hp, Q, E => wE a env hp (fun x hp => (oTru x hp).app fun t => if t = true then Q x hp else wE b env hp Q E) E
  | .not a, env, hp, Q, E => wE a env hp (fun x hp => (oTru x hp).app fun t => Q (.bl (!t)) hp) E
  | .ite c a b, env, hp, Q, E => wE c env hp (fun x hp => (oTru x hp).app fun t => if t = true then wE a env hp Q E else wE b env hp Q E) E
  | .tup es, env, hp, Q, E => wEs es env hp (fun ds hp => Q (.tup ds) hp) E
  | .lst es, env, hp, Q, E => wEs es env hp (fun ds hp => Q (.ref hp.length) (hp ++ [.lst ds])) E
  | .dic es, env, hp, Q, E => wEs es env hp (fun ds hp => match pairsOf ds with
    | some kvs => Q (.ref hp.length) (hp ++ [.dic (kvs.foldl (fun acc kv => dput acc kv.1 kv.2) [])])
    | none => False) E
  | .bty n, _, hp, Q, _ => Q (.ty n) hp
  | .mmd mx a d, env, hp, Q, E => wE a env hp (fun x hp => wE d env hp (fun y hp => (oMmd mx x y hp).app Q) E) E
  | .ix a i, env, hp, Q, E => wE a env hp (fun x hp => wE i env hp (fun y hp => (oIx x y hp).app Q) E) E
  | .sl a lo hi, env, hp, Q, E => wE a env hp (fun x hp => wEo lo env hp (fun l hp => match bnd l with
    | some l => wEo hi env hp (fun h hp => match bnd h with
      | some h => (oSl x l h hp).app Q
      | none => False) E
    | none => False) E) E
  | .fld a f, env, hp, Q, E => wE a env hp (fun x hp => (oGetF x f hp).app Q) E
  | .call f es, env, hp, Q, E => wEs es env hp (fun ds hp => cl f ds hp Q E) E
  | .callK f es pm, env, hp, Q, E => wEs es env hp (fun ds hp => match perm pm ds with
    | some vs => cl f vs hp Q E
    | none => False) E
  | .make c es, env, hp, Q, E => wEs es env hp (fun ds hp => match g.init c with
    | some f => cl f (.ref hp.length :: ds) (hp ++ [.ins c []]) (fun v hp' => match v with
      | .non => Q (.ref hp.length) hp'
      | _ => False) E
    | none => False) E
  | .makeK c es pm, env, hp, Q, E => wEs es env hp (fun ds hp => match g.init c, perm pm ds with
    | some f, some vs => cl f (.ref hp.length :: vs) (hp ++ [.ins c []]) (fun v hp' => match v with
      | .non => Q (.ref hp.length) hp'
      | _ => False) E
    | _, _ => False) E
  | .meth a m es, env, hp, Q, E => wE a env hp (fun x hp => match x with
    | .ref i => match gtI hp i with
      | some (c, _) => match g.meth c m with
        | some f => wEs es env hp (fun ds hp => cl f (.ref i :: ds) hp Q E) E
        | none => False
      | none => False
    | _ => False) E
  | .methK a m es pm, env, hp, Q, E => wE a env hp (fun x hp => match x with
    | .ref i => match gtI hp i with
      | some (c, _) => match g.meth c m with
        | some f => wEs es env hp (fun ds hp => match perm pm ds with
          | some vs => cl f (.ref i :: vs) hp Q E
          | none => False) E
        | none => False
      | none => False
    | _ => False) E
  | .blt b es, env, hp, Q, E => wEs es env hp (fun ds hp => (oBF b ds hp).app Q) E
  | .bm m a es, env, hp, Q, E => wE a env hp (fun x hp => match bmK m x hp with
    | some k => wEs es env hp (fun ds hp => (oBM m k x ds hp).app Q) E
    | none => False) E
  | .lc own t it c e, env, hp, Q, E => wIt it env hp (fun itr hp => ∃ N, lcLoop itr.nx (fun d hp k => wTg t d (wipeE env own) hp fun env2 hp =>
      wEo c env2 hp (fun r hp => match r with
        | none => wE e env2 hp (fun y hp => k (some y) hp) fun _ _ _ => False
        | some x => (oTru x hp).app fun b => if b = true then wE e env2 hp (fun y hp => k (some y) hp) fun _ _ _ => False else k none hp) fun _ _ _ => False)
      N 0 [] hp fun ds hp => Q (.ref (itr.un hp).length) (itr.un hp ++ [.lst ds])) E
  | .dc own t it c k e, env, hp, Q, E => wIt it env hp (fun itr hp => ∃ N, dcLoop itr.nx (fun d hp kk => wTg t d (wipeE env own) hp fun env2 hp =>
      wEo c env2 hp (fun r hp => match r with
        | none => wE k env2 hp (fun y hp => wE e env2 hp (fun z hp => kk (some (y, z)) hp) fun _ _ _ => False) fun _ _ _ => False
        | some x => (oTru x hp).app fun b => if b = true then wE k env2 hp (fun y hp => wE e env2 hp (fun z hp => kk (some (y, z)) hp) fun _ _ _ => False) fun _ _ _ => False else kk none hp) fun _ _ _ => False)
      N 0 [] hp fun ds hp => Q (.ref (itr.un hp).length) (itr.un hp ++ [.dic ds])) E
  | .lc2 own own1 t it t1 a e, env, hp, Q, E => wIt it env hp (fun itr hp => ∃ N, acLoop itr.nx (fun d acc hp k => wTg t d (wipeE env own) hp fun env2 hp =>
      wE a env2 hp (fun x hp => match itSq hp x with
        | some it1 => ∃ M, lcLoop it1.nx (fun d hp k1 => wTg t1 d (wipeE env2 own1) hp fun env3 hp => wE e env3 hp (fun y hp => k1 (some y) hp) fun _ _ _ => False) M 0 acc hp k
        | none => False) fun _ _ _ => False)
      N 0 [] hp fun ds hp => Q (.ref (itr.un hp).length) (itr.un hp ++ [.lst ds])) E
  | .lenD a m, env, hp, Q, E => wE a env hp (fun x hp => match x with
    | .ref i => match gtI hp i with
      | some (c, _) => match g.meth c m with
        | some f => cl f [.ref i] hp (fun v hp => match v with
          | .int n => (0 ≤ n ∧ n < 2 ^ 62) ∧ Q (.int n) hp
          | _ => False) fun _ _ _ => False
        | none => False
      | none => (oBF .len [x] hp).app Q
    | _ => (oBF .len [x] hp).app Q) E
  | .isx a bs, env, hp, Q, E => wE a env hp (fun x hp => (oIsX bs x hp).app Q) E
  | .xfd a f, env, hp, Q, E => wE a env hp (fun x hp => (oXF x f hp).app Q) E
  | .xnew k f a, env, hp, Q, E => wE a env hp (fun d hp => Q (.ref (hp.length + 1)) (hp ++ [.xd k [(f, d)]] ++ [.xob k (hp.length + 1) hp.length])) E
  | .lenS a, env, hp, Q, E => wE a env hp (fun x hp => (oLenS x hp).app Q) E
  | .srtS a, env, hp, Q, E => wE a env hp (fun x hp => (oSrtS x hp).app Q) E
  | .callL i es, env, hp, Q, E => match env[i]? with
    | some (some (.fn f)) => wEs es env hp (fun ds hp => cl f ds hp Q E) E
    | _ => False
  | .xnw0 k, _, hp, Q, _ => Q (.ref hp.length) (hp ++ [.xo0 k hp.length])
def wEs : Exs → Env → Hq → (List D → Hq → Prop) → QX → Prop
  | .nil, _, hp, Q, _ => Q [] hp
  | .cons e r, env, hp, Q, E => wE e env hp (fun d hp => wEs r env hp (fun ds hp => Q (d :: ds) hp) E) E
def wEo : Exo → Env → Hq → (Option D → Hq → Prop) → QX → Prop
  | .no, _, hp, Q, _ => Q none hp
  | .so e, env, hp, Q, E => wE e env hp (fun d hp => Q (some d) hp) E
def wTg : Tg → D → Env → Hq → (Env → Hq → Prop) → Prop
  | .nm i, d, env, hp, k => k (env.set i (some d)) hp
  | .tp ts, d, env, hp, k => match d with
    | .tup ds => ds.length = ts.len ∧ wTgs ts ds env hp k
    | _ => False
  | .at o f, d, env, hp, k => wE o env hp (fun x hp => (oSetF x f d hp).app (k env)) fun _ _ _ => False
  | .sb o i, d, env, hp, k => wE o env hp (fun x hp => wE i env hp (fun y hp => (oSet x y d hp).app (k env)) fun _ _ _ => False) fun _ _ _ => False
def wTgs : Tgs → List D → Env → Hq → (Env → Hq → Prop) → Prop
  | .nil, ds, env, hp, k => match ds with
    | [] => k env hp
    | _ => False
  | .cons t r, ds, env, hp, k => match ds with
    | d :: ds => wTg t d env hp fun env hp => wTgs r ds env hp k
    | [] => False
def wIt : Ix → Env → Hq → (Itr → Hq → Prop) → QX → Prop
  | .vl e, env, hp, k, E => wE e env hp (fun x hp => match itSeq hp x with
    | some (itr, hp) => k itr hp
    | none => False) E
  | .rng1 e, env, hp, k, E => wE e env hp (fun x hp => match x with
    | .int j => (-(2 ^ 62) ≤ j ∧ j < 2 ^ 62) ∧ k (itRng 0 j) hp
    | _ => False) E
  | .rng2 a b, env, hp, k, E => wE a env hp (fun x hp => wE b env hp (fun y hp => match x, y with
    | .int i, .int j => rngOk i j ∧ k (itRng i j) hp
    | _, _ => False) E) E
  | .enum e, env, hp, k, E => wE e env hp (fun x hp => match x with
    | .ref i => match gtL hp i with
      | some _ => k (itEnum i) hp
      | none => False
    | _ => False) E
  | .zip2 a b, env, hp, k, E => wE a env hp (fun x hp => wE b env hp (fun y hp => match x, y with
    | .ref i, .ref j => match gtL hp i, gtL hp j with
      | some _, some _ => k (itZip i j) hp
      | _, _ => False
    | .tup xs, .tup ys => k (itZipT xs ys) hp
    | _, _ => False) E) E
  | .zipS a b, env, hp, k, E => wE a env hp (fun x hp => wE b env hp (fun y hp => match x, y with
    | .tup xs, .tup ys => xs.length = ys.length ∧ k (itZipT xs ys) hp
    | _, _ => False) E) E
  | .items e, env, hp, k, E => wE e env hp (fun x hp => match itDic (fun kv => .tup [keyD kv.1, kv.2]) hp x with
    | some (itr, hp) => k itr hp
    | none => False) E
  | .vals e, env, hp, k, E => wE e env hp (fun x hp => match itDic (fun kv => kv.2) hp x with
    | some (itr, hp) => k itr hp
    | none => False) E
end

mutual
def wS : St → Env → Hq → KS → Prop
  | .pass, env, hp, K => K.nx env hp
  | .brk, env, hp, K => K.bk env hp
  | .cont, env, hp, K => K.ct env hp
  | .expr e, env, hp, K => wE g cl e env hp (fun _ hp => K.nx env hp) fun c i hp => K.ex c i env hp
  | .ret e, env, hp, K => wEo g cl e env hp (fun d hp => K.rt (d.getD .non) hp) fun c i hp => K.ex c i env hp
  | .asg t e, env, hp, K => wE g cl e env hp (fun d hp => wTg g cl t d env hp K.nx) fun c i hp => K.ex c i env hp
  | .augn i o e, env, hp, K => match env[i]? with
    | some (some x) => wE g cl e env hp (fun y hp => (oAug o x y hp).app fun z hp => K.nx (env.set i (some z)) hp) fun c i hp => K.ex c i env hp
    | _ => False
  | .augf a f o e, env, hp, K => wE g cl a env hp (fun r hp => (oGetF r f hp).app fun x hp => wE g cl e env hp (fun y hp => (oAug o x y hp).app fun z hp => (oSetF r f z hp).app (K.nx env)) fun c i hp => K.ex c i env hp) fun c i hp => K.ex c i env hp
  | .ifs c a b, env, hp, K => wE g cl c env hp (fun x hp => (oTru x hp).app fun t => if t = true then wSs a env hp K else wSs b env hp K) fun c i hp => K.ex c i env hp
  | .whl c b, env, hp, K => ∃ N, whLoop (fun env hp kn ke => wE g cl c env hp (fun x hp => (oTru x hp).app fun t => if t = true then wSs b env hp { K with nx := kn, ct := kn, bk := K.nx } else ke env hp) fun c i hp => K.ex c i env hp) N env hp K.nx
  | .for_ t it b, env, hp, K => wIt g cl it env hp (fun itr hp => ∃ N, forLoop itr.nx (fun d env hp kn => wTg g cl t d env hp fun env hp =>
      wSs b env hp { nx := kn, ct := kn, bk := fun env hp => K.nx env (itr.un hp), rt := fun d hp => K.rt d (itr.un hp), ex := K.ex }) N 0 env hp fun env hp => K.nx env (itr.un hp)) fun c i hp => K.ex c i env hp
  | .raise c f e, env, hp, K => wE g cl e env hp (fun d hp => K.ex c hp.length env (hp ++ [.xd c [(f, d)]])) fun c i hp => K.ex c i env hp
  | .tryK b bs n k, env, hp, K => wSs b env hp { K with ex := fun c i env hp => match bs[c]? with
    | some true => K.nx ((env.set k (some (.ref hp.length))).set n none) (hp ++ [.xob c hp.length i])
    | some false => K.ex c i env hp
    | none => False }
  | .never, _, _, _ => False
def wSs : Sts → Env → Hq → KS → Prop
  | .nil, env, hp, K => K.nx env hp
  | .cons s r, env, hp, K => wS s env hp { K with nx := fun env hp => wSs r env hp K }
end
end

def wCall (g : Glob) : Nat → Cl
  | 0, _, _, _, _, _ => False
  | n + 1, f, ds, hp, Q, E => match g.fns[f]? with
    | none => False
    | some fi => ds.length = fi.np ∧ wSs g (wCall g n) fi.body (ds.map some ++ List.replicate (fi.ns - fi.np) none) hp
        { nx := fun _ hp => Q .non hp, bk := fun _ _ => False, ct := fun _ _ => False, rt := Q, ex := fun c i _ hp => E c i hp }
end MI
/-! MI, part 2: what holds of less holds of more. -/
namespace MI
open PySem

theorem OutD.mono {o : OutD} {Q Q' : QD} (h : ∀ d hp, Q d hp → Q' d hp) (q : o.app Q) : o.app Q' := by
  cases o with
  | no => exact q
  | ok d hp => exact h _ _ q
  | cd C d hp => exact ⟨q.1, h _ _ q.2⟩
theorem OutB.mono {o : OutB} {k k' : Bool → Prop} (h : ∀ b, k b → k' b) (q : o.app k) : o.app k' := by
  cases o with
  | no => exact q
  | ok b => exact h _ q
  | cd C b => exact ⟨q.1, h _ q.2⟩
theorem OutH.mono {o : OutH} {k k' : Hq → Prop} (h : ∀ hp, k hp → k' hp) (q : o.app k) : o.app k' := by
  cases o with
  | no => exact q
  | ok b => exact h _ q
  | cd C b => exact ⟨q.1, h _ q.2⟩

def ClMono (cl : Cl) : Prop := ∀ f ds hp (Q Q' : QD) (E E' : QX), (∀ d h, Q d h → Q' d h) → (∀ c i h, E c i h → E' c i h) → cl f ds hp Q E → cl f ds hp Q' E'

theorem lcLoop_mono {nx : Nat → Hq → Option (Option D)} {body body' : D → Hq → (Option D → Hq → Prop) → Prop}
    (hb : ∀ d hp (k k' : Option D → Hq → Prop), (∀ r h, k r h → k' r h) → body d hp k → body' d hp k') :
    ∀ N j acc hp (k k' : List D → Hq → Prop), (∀ r h, k r h → k' r h) → lcLoop nx body N j acc hp k → lcLoop nx body' N j acc hp k' := by
  intro N
  induction N with
  | zero => intro j acc hp k k' _ h; exact h
  | succ N ih =>
    intro j acc hp k k' hk h
    unfold lcLoop at h ⊢
    cases e : nx j hp with
    | none => rw [e] at h; exact h
    | some o =>
      rw [e] at h
      cases o with
      | none => exact hk _ _ h
      | some d =>
        refine hb d hp _ _ (fun r h1 q => ?_) h
        cases r with
        | none => exact ih _ _ _ _ _ hk q
        | some y => exact ⟨q.1, ih _ _ _ _ _ hk q.2⟩
theorem dcLoop_mono {nx : Nat → Hq → Option (Option D)} {body body' : D → Hq → (Option (D × D) → Hq → Prop) → Prop}
    (hb : ∀ d hp (k k' : Option (D × D) → Hq → Prop), (∀ r h, k r h → k' r h) → body d hp k → body' d hp k') :
    ∀ N j acc hp (k k' : List (L2.Key × D) → Hq → Prop), (∀ r h, k r h → k' r h) → dcLoop nx body N j acc hp k → dcLoop nx body' N j acc hp k' := by
  intro N
  induction N with
  | zero => intro j acc hp k k' _ h; exact h
  | succ N ih =>
    intro j acc hp k k' hk h
    unfold dcLoop at h ⊢
    cases e : nx j hp with
    | none => rw [e] at h; exact h
    | some o =>
      rw [e] at h
      cases o with
      | none => exact hk _ _ h
      | some d =>
        refine hb d hp _ _ (fun r h1 q => ?_) h
        cases r with
        | none => exact ih _ _ _ _ _ hk q
        | some p =>
          obtain ⟨y, z⟩ := p
          simp only at q ⊢
          cases e2 : kOf y with
          | none => simp only [e2] at q
          | some key =>
            simp only [e2] at q
            exact ⟨q.1, ih _ _ _ _ _ hk q.2⟩
theorem acLoop_mono {nx : Nat → Hq → Option (Option D)} {body body' : D → List D → Hq → (List D → Hq → Prop) → Prop}
    (hb : ∀ d acc hp (k k' : List D → Hq → Prop), (∀ r h, k r h → k' r h) → body d acc hp k → body' d acc hp k') :
    ∀ N j acc hp (k k' : List D → Hq → Prop), (∀ r h, k r h → k' r h) → acLoop nx body N j acc hp k → acLoop nx body' N j acc hp k' := by
  intro N
  induction N with
  | zero => intro j acc hp k k' _ h; exact h
  | succ N ih =>
    intro j acc hp k k' hk h
    unfold acLoop at h ⊢
    cases e : nx j hp with
    | none => rw [e] at h; exact h
    | some o =>
      rw [e] at h
      cases o with
      | none => exact hk _ _ h
      | some d => exact hb d acc hp _ _ (fun r h1 q => ih _ _ _ _ _ hk q) h
theorem forLoop_mono {nx : Nat → Hq → Option (Option D)} {body body' : D → Env → Hq → (Env → Hq → Prop) → Prop}
    (hb : ∀ d env hp (k k' : Env → Hq → Prop), (∀ r h, k r h → k' r h) → body d env hp k → body' d env hp k') :
    ∀ N j env hp (k k' : Env → Hq → Prop), (∀ r h, k r h → k' r h) → forLoop nx body N j env hp k → forLoop nx body' N j env hp k' := by
  intro N
  induction N with
  | zero => intro j env hp k k' _ h; exact h
  | succ N ih =>
    intro j env hp k k' hk h
    unfold forLoop at h ⊢
    cases e : nx j hp with
    | none => rw [e] at h; exact h
    | some o =>
      rw [e] at h
      cases o with
      | none => exact hk _ _ h
      | some d => exact hb d env hp _ _ (fun r h1 q => ih _ _ _ _ _ hk q) h
theorem whLoop_mono {body body' : Env → Hq → (Env → Hq → Prop) → (Env → Hq → Prop) → Prop}
    (hb : ∀ env hp (k k' l l' : Env → Hq → Prop), (∀ r h, k r h → k' r h) → (∀ r h, l r h → l' r h) → body env hp k l → body' env hp k' l') :
    ∀ N env hp (k k' : Env → Hq → Prop), (∀ r h, k r h → k' r h) → whLoop body N env hp k → whLoop body' N env hp k' := by
  intro N
  induction N with
  | zero => intro env hp k k' _ h; exact h
  | succ N ih =>
    intro env hp k k' hk h
    exact hb env hp _ _ _ _ (fun r h1 q => ih _ _ _ _ hk q) hk h

section
variable {g : Glob} {cl : Cl}
mutual
theorem wE_mono (hc : ClMono cl) : ∀ (e : Ex) (env : Env) (hp : Hq) (Q Q' : QD) (E E' : QX), (∀ d h, Q d h → Q' d h) → (∀ c i h, E c i h → E' c i h) → wE g cl e env hp Q E → wE g cl e env hp Q' E'
  | .var i, env, hp, Q, Q', E, E', hq, he, h => by
    unfold wE at h ⊢
    split at h
    · exact hq _ _ h
    · exact h
  | .lit d, env, hp, Q, Q', E, E', hq, he, h => hq _ _ h
  | .glob k, env, hp, Q, Q', E, E', hq, he, h => by
    unfold wE at h ⊢
    split at h
    · exact hq _ _ h
    · exact h
  | .bin o a b, env, hp, Q, Q', E, E', hq, he, h => by
    unfold wE at h ⊢
    exact wE_mono hc a env hp _ _ E E' (fun x h1 q1 => wE_mono hc b env h1 _ _ E E' (fun y h2 q2 => OutD.mono hq q2) he q1) he h
  | .neg a, env, hp, Q, Q', E, E', hq, he, h => by
    unfold wE at h ⊢
    refine wE_mono hc a env hp _ _ E E' (fun x h1 q1 => ?_) he h
    split at q1
    · exact hq _ _ q1
    · exact q1
  | .cmp o a b, env, hp, Q, Q', E, E', hq, he, h => by
    unfold wE at h ⊢
    exact wE_mono hc a env hp _ _ E E' (fun x h1 q1 => wE_mono hc b env h1 _ _ E E' (fun y h2 q2 => OutD.mono hq q2) he q1) he h
  | .cmp2 o p a b c, env, hp, Q, Q', E, E', hq, he, h => by
    unfold wE at h ⊢
    refine wE_mono hc a env hp _ _ E E' (fun x h1 q1 => wE_mono hc b env h1 _ _ E E' (fun y h2 q2 => OutD.mono (fun r h3 q3 => ?_) q2) he q1) he h
    split at q3
    · exact wE_mono hc c env h3 _ _ E E' (fun z h4 q4 => OutD.mono hq q4) he q3
    · exact hq _ _ q3
    · exact q3
  | .and a b, env, hp, Q, Q', E, E', hq, he, h => by
    unfold wE at h ⊢
    refine wE_mono hc a env hp _ _ E E' (fun x h1 q1 => OutB.mono (fun t q2 => ?_) q1) he h
    cases t with
    | true => exact wE_mono hc b env h1 _ _ E E' hq he q2
    | false => exact hq _ _ q2
  | .or a b, env, hp, Q, Q', E, E', hq, he, h => by
    unfold wE at h ⊢
    refine wE_mono hc a env hp _ _ E E' (fun x h1 q1 => OutB.mono (fun t q2 => ?_) q1) he h
    cases t with
    | true => exact hq _ _ q2
    | false => exact wE_mono hc b env h1 _ _ E E' hq he q2
  | .not a, env, hp, Q, Q', E, E', hq, he, h => by
    unfold wE at h ⊢
    exact wE_mono hc a env hp _ _ E E' (fun x h1 q1 => OutB.mono (fun t q2 => hq _ _ q2) q1) he h
  | .ite c a b, env, hp, Q, Q', E, E', hq, he, h => by
    unfold wE at h ⊢
    refine wE_mono hc c env hp _ _ E E' (fun x h1 q1 => OutB.mono (fun t q2 => ?_) q1) he h
    cases t with
    | true => exact wE_mono hc a env h1 _ _ E E' hq he q2
    | false => exact wE_mono hc b env h1 _ _ E E' hq he q2
  | .tup es, env, hp, Q, Q', E, E', hq, he, h => by
    unfold wE at h ⊢
    exact wEs_mono hc es env hp _ _ E E' (fun ds h1 q1 => hq _ _ q1) he h
  | .lst es, env, hp, Q, Q', E, E', hq, he, h => by
    unfold wE at h ⊢
    exact wEs_mono hc es env hp _ _ E E' (fun ds h1 q1 => hq _ _ q1) he h
  | .dic es, env, hp, Q, Q', E, E', hq, he, h => by
    unfold wE at h ⊢
    refine wEs_mono hc es env hp _ _ E E' (fun xs h1 q1 => ?_) he h
    split at q1
    · exact hq _ _ q1
    · exact q1
  | .bty n, env, hp, Q, Q', E, E', hq, he, h => hq _ _ h
  | .mmd mx a d, env, hp, Q, Q', E, E', hq, he, h => by
    unfold wE at h ⊢
    exact wE_mono hc a env hp _ _ E E' (fun x h1 q1 => wE_mono hc d env h1 _ _ E E' (fun y h2 q2 => OutD.mono hq q2) he q1) he h
  | .ix a i, env, hp, Q, Q', E, E', hq, he, h => by
    unfold wE at h ⊢
    exact wE_mono hc a env hp _ _ E E' (fun x h1 q1 => wE_mono hc i env h1 _ _ E E' (fun y h2 q2 => OutD.mono hq q2) he q1) he h
  | .sl a lo hi, env, hp, Q, Q', E, E', hq, he, h => by
    unfold wE at h ⊢
    refine wE_mono hc a env hp _ _ E E' (fun x h1 q1 => wEo_mono hc lo env h1 _ _ E E' (fun l h2 q2 => ?_) he q1) he h
    split at q2
    · refine wEo_mono hc hi env h2 _ _ E E' (fun u h3 q3 => ?_) he q2
      split at q3
      · exact OutD.mono hq q3
      · exact q3
    · exact q2
  | .fld a f, env, hp, Q, Q', E, E', hq, he, h => by
    unfold wE at h ⊢
    exact wE_mono hc a env hp _ _ E E' (fun x h1 q1 => OutD.mono hq q1) he h
  | .call f es, env, hp, Q, Q', E, E', hq, he, h => by
    unfold wE at h ⊢
    exact wEs_mono hc es env hp _ _ E E' (fun ds h1 q1 => hc _ _ _ _ _ _ _ hq he q1) he h
  | .callK f es pm, env, hp, Q, Q', E, E', hq, he, h => by
    unfold wE at h ⊢
    refine wEs_mono hc es env hp _ _ E E' (fun ds h1 q1 => ?_) he h
    split at q1
    · exact hc _ _ _ _ _ _ _ hq he q1
    · exact q1
  | .make c es, env, hp, Q, Q', E, E', hq, he, h => by
    unfold wE at h ⊢
    refine wEs_mono hc es env hp _ _ E E' (fun ds h1 q1 => ?_) he h
    split at q1
    · refine hc _ _ _ _ _ _ _ (fun d h2 q2 => ?_) he q1
      split at q2
      · exact hq _ _ q2
      · exact q2
    · exact q1
  | .makeK c es pm, env, hp, Q, Q', E, E', hq, he, h => by
    unfold wE at h ⊢
    refine wEs_mono hc es env hp _ _ E E' (fun ds h1 q1 => ?_) he h
    split at q1
    · refine hc _ _ _ _ _ _ _ (fun d h2 q2 => ?_) he q1
      split at q2
      · exact hq _ _ q2
      · exact q2
    · exact q1
  | .meth a m es, env, hp, Q, Q', E, E', hq, he, h => by
    unfold wE at h ⊢
    refine wE_mono hc a env hp _ _ E E' (fun x h1 q1 => ?_) he h
    split at q1
    · split at q1
      · split at q1
        · exact wEs_mono hc es env h1 _ _ E E' (fun ds h2 q2 => hc _ _ _ _ _ _ _ hq he q2) he q1
        · exact q1
      · exact q1
    · exact q1
  | .methK a m es pm, env, hp, Q, Q', E, E', hq, he, h => by
    unfold wE at h ⊢
    refine wE_mono hc a env hp _ _ E E' (fun x h1 q1 => ?_) he h
    split at q1
    · split at q1
      · split at q1
        · refine wEs_mono hc es env h1 _ _ E E' (fun ds h2 q2 => ?_) he q1
          split at q2
          · exact hc _ _ _ _ _ _ _ hq he q2
          · exact q2
        · exact q1
      · exact q1
    · exact q1
  | .blt b es, env, hp, Q, Q', E, E', hq, he, h => by
    unfold wE at h ⊢
    exact wEs_mono hc es env hp _ _ E E' (fun ds h1 q1 => OutD.mono hq q1) he h
  | .bm m a es, env, hp, Q, Q', E, E', hq, he, h => by
    unfold wE at h ⊢
    refine wE_mono hc a env hp _ _ E E' (fun x h1 q1 => ?_) he h
    split at q1
    · exact wEs_mono hc es env h1 _ _ E E' (fun ds h2 q2 => OutD.mono hq q2) he q1
    · exact q1
  | .lc own t it c e, env, hp, Q, Q', E, E', hq, he, h => by
    unfold wE at h ⊢
    refine wIt_mono hc it env hp _ _ E E' (fun itr h1 q1 => ?_) he h
    obtain ⟨N, q1⟩ := q1
    refine ⟨N, lcLoop_mono (fun d h2 k k' hk q2 => ?_) N 0 [] h1 _ _ (fun r h3 q3 => hq _ _ q3) q1⟩
    refine wTg_mono hc t d _ _ _ _ (fun env2 h3 q3 => ?_) q2
    refine wEo_mono hc c env2 h3 _ _ _ _ (fun r h4 q4 => ?_) (fun _ _ _ z => z) q3
    cases r with
    | none => exact wE_mono hc e env2 h4 _ _ _ _ (fun y h5 q5 => hk _ _ q5) (fun _ _ _ z => z) q4
    | some x =>
      refine OutB.mono (fun t q5 => ?_) q4
      cases t with
      | true => exact wE_mono hc e env2 h4 _ _ _ _ (fun y h5 q5 => hk _ _ q5) (fun _ _ _ z => z) q5
      | false => exact hk _ _ q5
  | .dc own t it c kx e, env, hp, Q, Q', E, E', hq, he, h => by
    unfold wE at h ⊢
    refine wIt_mono hc it env hp _ _ E E' (fun itr h1 q1 => ?_) he h
    obtain ⟨N, q1⟩ := q1
    refine ⟨N, dcLoop_mono (fun d h2 k k' hk q2 => ?_) N 0 [] h1 _ _ (fun r h3 q3 => hq _ _ q3) q1⟩
    refine wTg_mono hc t d _ _ _ _ (fun env2 h3 q3 => ?_) q2
    refine wEo_mono hc c env2 h3 _ _ _ _ (fun r h4 q4 => ?_) (fun _ _ _ z => z) q3
    cases r with
    | none => exact wE_mono hc kx env2 h4 _ _ _ _ (fun y h5 q5 => wE_mono hc e env2 h5 _ _ _ _ (fun z h6 q6 => hk _ _ q6) (fun _ _ _ z => z) q5) (fun _ _ _ z => z) q4
    | some x =>
      refine OutB.mono (fun t q5 => ?_) q4
      cases t with
      | true => exact wE_mono hc kx env2 h4 _ _ _ _ (fun y h5 q5 => wE_mono hc e env2 h5 _ _ _ _ (fun z h6 q6 => hk _ _ q6) (fun _ _ _ z => z) q5) (fun _ _ _ z => z) q5
      | false => exact hk _ _ q5
  | .lc2 own own1 t it t1 a e, env, hp, Q, Q', E, E', hq, he, h => by
    unfold wE at h ⊢
    refine wIt_mono hc it env hp _ _ E E' (fun itr h1 q1 => ?_) he h
    obtain ⟨N, q1⟩ := q1
    refine ⟨N, acLoop_mono (fun d acc h2 k k' hk q2 => ?_) N 0 [] h1 _ _ (fun r h3 q3 => hq _ _ q3) q1⟩
    refine wTg_mono hc t d _ _ _ _ (fun env2 h3 q3 => ?_) q2
    refine wE_mono hc a env2 h3 _ _ _ _ (fun x h4 q4 => ?_) (fun _ _ _ z => z) q3
    split at q4
    · obtain ⟨M, q4⟩ := q4
      refine ⟨M, lcLoop_mono (fun d h5 k1 k1' hk1 q5 => ?_) M 0 acc h4 _ _ hk q4⟩
      exact wTg_mono hc t1 d _ _ _ _ (fun env3 h6 q6 => wE_mono hc e env3 h6 _ _ _ _ (fun y h7 q7 => hk1 _ _ q7) (fun _ _ _ z => z) q6) q5
    · exact q4
  | .lenD a m, env, hp, Q, Q', E, E', hq, he, h => by
    unfold wE at h ⊢
    refine wE_mono hc a env hp _ _ E E' (fun x h1 q1 => ?_) he h
    split at q1
    · split at q1
      · split at q1
        · refine hc _ _ _ _ _ _ _ (fun v h2 q2 => ?_) (fun _ _ _ z => z) q1
          split at q2
          · exact ⟨q2.1, hq _ _ q2.2⟩
          · exact q2
        · exact q1
      · exact OutD.mono hq q1
    · exact OutD.mono hq q1
  | .isx a bs, env, hp, Q, Q', E, E', hq, he, h => by
    unfold wE at h ⊢
    exact wE_mono hc a env hp _ _ E E' (fun x h1 q1 => OutD.mono hq q1) he h
  | .xfd a f, env, hp, Q, Q', E, E', hq, he, h => by
    unfold wE at h ⊢
    exact wE_mono hc a env hp _ _ E E' (fun x h1 q1 => OutD.mono hq q1) he h
  | .xnew k f a, env, hp, Q, Q', E, E', hq, he, h => by
    unfold wE at h ⊢
    exact wE_mono hc a env hp _ _ E E' (fun x h1 q1 => hq _ _ q1) he h
  | .lenS a, env, hp, Q, Q', E, E', hq, he, h => by
    unfold wE at h ⊢
    exact wE_mono hc a env hp _ _ E E' (fun x h1 q1 => OutD.mono hq q1) he h
  | .srtS a, env, hp, Q, Q', E, E', hq, he, h => by
    unfold wE at h ⊢
    exact wE_mono hc a env hp _ _ E E' (fun x h1 q1 => OutD.mono hq q1) he h
  | .callL i es, env, hp, Q, Q', E, E', hq, he, h => by
    unfold wE at h ⊢
    split at h
    · exact wEs_mono hc es env hp _ _ E E' (fun ds h1 q1 => hc _ _ _ _ _ _ _ hq he q1) he h
    · exact h
  | .xnw0 k, env, hp, Q, Q', E, E', hq, he, h => by
    unfold wE at h ⊢
    exact hq _ _ h
theorem wEs_mono (hc : ClMono cl) : ∀ (es : Exs) (env : Env) (hp : Hq) (Q Q' : List D → Hq → Prop) (E E' : QX), (∀ d h, Q d h → Q' d h) → (∀ c i h, E c i h → E' c i h) → wEs g cl es env hp Q E → wEs g cl es env hp Q' E'
  | .nil, env, hp, Q, Q', E, E', hq, he, h => hq _ _ h
  | .cons e r, env, hp, Q, Q', E, E', hq, he, h => by
    unfold wEs at h ⊢
    exact wE_mono hc e env hp _ _ E E' (fun d h1 q1 => wEs_mono hc r env h1 _ _ E E' (fun ds h2 q2 => hq _ _ q2) he q1) he h
theorem wEo_mono (hc : ClMono cl) : ∀ (eo : Exo) (env : Env) (hp : Hq) (Q Q' : Option D → Hq → Prop) (E E' : QX), (∀ d h, Q d h → Q' d h) → (∀ c i h, E c i h → E' c i h) → wEo g cl eo env hp Q E → wEo g cl eo env hp Q' E'
  | .no, env, hp, Q, Q', E, E', hq, he, h => hq _ _ h
  | .so e, env, hp, Q, Q', E, E', hq, he, h => by
    unfold wEo at h ⊢
    exact wE_mono hc e env hp _ _ E E' (fun d h1 q1 => hq _ _ q1) he h
theorem wTg_mono (hc : ClMono cl) : ∀ (t : Tg) (d : D) (env : Env) (hp : Hq) (k k' : Env → Hq → Prop), (∀ r h, k r h → k' r h) → wTg g cl t d env hp k → wTg g cl t d env hp k'
  | .nm i, d, env, hp, k, k', hk, h => hk _ _ h
  | .tp ts, d, env, hp, k, k', hk, h => by
    unfold wTg at h ⊢
    cases d <;> first | exact False.elim h | skip
    exact ⟨h.1, wTgs_mono hc ts _ env hp k k' hk h.2⟩
  | .at o f, d, env, hp, k, k', hk, h => by
    unfold wTg at h ⊢
    exact wE_mono hc o env hp _ _ _ _ (fun x h1 q1 => OutH.mono (fun h2 q2 => hk _ _ q2) q1) (fun _ _ _ z => z) h
  | .sb o i, d, env, hp, k, k', hk, h => by
    unfold wTg at h ⊢
    exact wE_mono hc o env hp _ _ _ _ (fun x h1 q1 => wE_mono hc i env h1 _ _ _ _ (fun y h2 q2 => OutH.mono (fun h3 q3 => hk _ _ q3) q2) (fun _ _ _ z => z) q1) (fun _ _ _ z => z) h
theorem wTgs_mono (hc : ClMono cl) : ∀ (ts : Tgs) (ds : List D) (env : Env) (hp : Hq) (k k' : Env → Hq → Prop), (∀ r h, k r h → k' r h) → wTgs g cl ts ds env hp k → wTgs g cl ts ds env hp k'
  | .nil, ds, env, hp, k, k', hk, h => by
    cases ds with
    | nil => exact hk _ _ h
    | cons _ _ => exact h
  | .cons t r, ds, env, hp, k, k', hk, h => by
    cases ds with
    | nil => exact h
    | cons d ds =>
      unfold wTgs at h ⊢
      exact wTg_mono hc t d env hp _ _ (fun env1 h1 q1 => wTgs_mono hc r ds env1 h1 k k' hk q1) h
theorem wIt_mono (hc : ClMono cl) : ∀ (it : Ix) (env : Env) (hp : Hq) (k k' : Itr → Hq → Prop) (E E' : QX), (∀ d h, k d h → k' d h) → (∀ c i h, E c i h → E' c i h) → wIt g cl it env hp k E → wIt g cl it env hp k' E'
  | .vl e, env, hp, k, k', E, E', hk, he, h => by
    unfold wIt at h ⊢
    refine wE_mono hc e env hp _ _ E E' (fun x h1 q1 => ?_) he h
    split at q1
    · exact hk _ _ q1
    · exact q1
  | .rng1 e, env, hp, k, k', E, E', hk, he, h => by
    unfold wIt at h ⊢
    refine wE_mono hc e env hp _ _ E E' (fun x h1 q1 => ?_) he h
    split at q1
    · exact ⟨q1.1, hk _ _ q1.2⟩
    · exact q1
  | .rng2 a b, env, hp, k, k', E, E', hk, he, h => by
    unfold wIt at h ⊢
    refine wE_mono hc a env hp _ _ E E' (fun x h1 q1 => wE_mono hc b env h1 _ _ E E' (fun y h2 q2 => ?_) he q1) he h
    split at q2
    · exact ⟨q2.1, hk _ _ q2.2⟩
    · exact q2
  | .enum e, env, hp, k, k', E, E', hk, he, h => by
    unfold wIt at h ⊢
    refine wE_mono hc e env hp _ _ E E' (fun x h1 q1 => ?_) he h
    split at q1
    · split at q1
      · exact hk _ _ q1
      · exact q1
    · exact q1
  | .zip2 a b, env, hp, k, k', E, E', hk, he, h => by
    unfold wIt at h ⊢
    refine wE_mono hc a env hp _ _ E E' (fun x h1 q1 => wE_mono hc b env h1 _ _ E E' (fun y h2 q2 => ?_) he q1) he h
    split at q2
    · split at q2
      · exact hk _ _ q2
      · exact q2
    · exact hk _ _ q2
    · exact q2
  | .zipS a b, env, hp, k, k', E, E', hk, he, h => by
    unfold wIt at h ⊢
    refine wE_mono hc a env hp _ _ E E' (fun x h1 q1 => wE_mono hc b env h1 _ _ E E' (fun y h2 q2 => ?_) he q1) he h
    split at q2
    · exact ⟨q2.1, hk _ _ q2.2⟩
    · exact q2
  | .items e, env, hp, k, k', E, E', hk, he, h => by
    unfold wIt at h ⊢
    refine wE_mono hc e env hp _ _ E E' (fun x h1 q1 => ?_) he h
    split at q1
    · exact hk _ _ q1
    · exact q1
  | .vals e, env, hp, k, k', E, E', hk, he, h => by
    unfold wIt at h ⊢
    refine wE_mono hc e env hp _ _ E E' (fun x h1 q1 => ?_) he h
    split at q1
    · exact hk _ _ q1
    · exact q1
end

structure KS.le (K K' : KS) : Prop where
  nx : ∀ e h, K.nx e h → K'.nx e h
  bk : ∀ e h, K.bk e h → K'.bk e h
  ct : ∀ e h, K.ct e h → K'.ct e h
  rt : ∀ d h, K.rt d h → K'.rt d h
  ex : ∀ c i e h, K.ex c i e h → K'.ex c i e h
mutual
theorem wS_mono (hc : ClMono cl) : ∀ (s : St) (env : Env) (hp : Hq) (K K' : KS), K.le K' → wS g cl s env hp K → wS g cl s env hp K'
  | .pass, env, hp, K, K', l, h => l.nx _ _ h
  | .brk, env, hp, K, K', l, h => l.bk _ _ h
  | .cont, env, hp, K, K', l, h => l.ct _ _ h
  | .expr e, env, hp, K, K', l, h => by
    unfold wS at h ⊢
    exact wE_mono hc e env hp _ _ _ _ (fun d h1 q1 => l.nx _ _ q1) (fun c i h1 q1 => l.ex _ _ _ _ q1) h
  | .ret e, env, hp, K, K', l, h => by
    unfold wS at h ⊢
    exact wEo_mono hc e env hp _ _ _ _ (fun d h1 q1 => l.rt _ _ q1) (fun c i h1 q1 => l.ex _ _ _ _ q1) h
  | .asg t e, env, hp, K, K', l, h => by
    unfold wS at h ⊢
    exact wE_mono hc e env hp _ _ _ _ (fun d h1 q1 => wTg_mono hc t d env h1 _ _ l.nx q1) (fun c i h1 q1 => l.ex _ _ _ _ q1) h
  | .augn i o e, env, hp, K, K', l, h => by
    unfold wS at h ⊢
    split at h
    · exact wE_mono hc e env hp _ _ _ _ (fun d h1 q1 => OutD.mono (fun z h2 q2 => l.nx _ _ q2) q1) (fun c i h1 q1 => l.ex _ _ _ _ q1) h
    · exact h
  | .augf a f o e, env, hp, K, K', l, h => by
    unfold wS at h ⊢
    refine wE_mono hc a env hp _ _ _ _ (fun r h1 q1 => OutD.mono (fun x h2 q2 => ?_) q1) (fun c i h1 q1 => l.ex _ _ _ _ q1) h
    exact wE_mono hc e env h2 _ _ _ _ (fun y h3 q3 => OutD.mono (fun z h4 q4 => OutH.mono (fun h5 q5 => l.nx _ _ q5) q4) q3) (fun c i h1 q1 => l.ex _ _ _ _ q1) q2
  | .ifs c a b, env, hp, K, K', l, h => by
    unfold wS at h ⊢
    refine wE_mono hc c env hp _ _ _ _ (fun x h1 q1 => OutB.mono (fun t q2 => ?_) q1) (fun c i h1 q1 => l.ex _ _ _ _ q1) h
    cases t with
    | true => exact wSs_mono hc a env h1 _ _ l q2
    | false => exact wSs_mono hc b env h1 _ _ l q2
  | .whl c b, env, hp, K, K', l, h => by
    unfold wS at h ⊢
    obtain ⟨N, h⟩ := h
    refine ⟨N, whLoop_mono (fun env h1 k k' m m' hk hm q => ?_) N env hp _ _ l.nx h⟩
    refine wE_mono hc c env h1 _ _ _ _ (fun x h1 q1 => OutB.mono (fun t q2 => ?_) q1) (fun c i h1 q1 => l.ex _ _ _ _ q1) q
    cases t with
    | true =>
      refine wSs_mono hc b env h1 _ _ ?_ q2
      exact ⟨hk, l.nx, hk, l.rt, l.ex⟩
    | false => exact hm _ _ q2
  | .for_ t it b, env, hp, K, K', l, h => by
    unfold wS at h ⊢
    refine wIt_mono hc it env hp _ _ _ _ (fun itr h1 q1 => ?_) (fun c i h1 q1 => l.ex _ _ _ _ q1) h
    obtain ⟨N, q1⟩ := q1
    refine ⟨N, forLoop_mono (fun d env h2 k k' hk q2 => ?_) N 0 env h1 _ _ (fun e h q => l.nx _ _ q) q1⟩
    refine wTg_mono hc t d env h2 _ _ (fun env3 h3 q3 => wSs_mono hc b env3 h3 _ _ ?_ q3) q2
    exact ⟨hk, fun e h q => l.nx _ _ q, hk, fun d h q => l.rt _ _ q, l.ex⟩
  | .raise c f e, env, hp, K, K', l, h => by
    unfold wS at h ⊢
    exact wE_mono hc e env hp _ _ _ _ (fun d h1 q1 => l.ex _ _ _ _ q1) (fun c i h1 q1 => l.ex _ _ _ _ q1) h
  | .tryK b bs n k, env, hp, K, K', l, h => by
    unfold wS at h ⊢
    refine wSs_mono hc b env hp _ _ ?_ h
    refine ⟨l.nx, l.bk, l.ct, l.rt, fun c i e h1 q => ?_⟩
    show (match bs[c]? with
      | some true => K'.nx ((e.set k (some (.ref h1.length))).set n none) (h1 ++ [.xob c h1.length i])
      | some false => K'.ex c i e h1
      | none => False)
    have q : (match bs[c]? with
      | some true => K.nx ((e.set k (some (.ref h1.length))).set n none) (h1 ++ [.xob c h1.length i])
      | some false => K.ex c i e h1
      | none => False) := q
    cases z : bs[c]? with
    | none => rw [z] at q; exact q
    | some b =>
      rw [z] at q
      cases b with
      | true => exact l.nx _ _ q
      | false => exact l.ex _ _ _ _ q
  | .never, env, hp, K, K', l, h => h
theorem wSs_mono (hc : ClMono cl) : ∀ (s : Sts) (env : Env) (hp : Hq) (K K' : KS), K.le K' → wSs g cl s env hp K → wSs g cl s env hp K'
  | .nil, env, hp, K, K', l, h => l.nx _ _ h
  | .cons s r, env, hp, K, K', l, h => by
    unfold wSs at h ⊢
    refine wS_mono hc s env hp _ _ ?_ h
    exact ⟨fun e h1 q => wSs_mono hc r e h1 _ _ l q, l.bk, l.ct, l.rt, l.ex⟩
end
end
theorem wCall_mono (g : Glob) : ∀ n, ClMono (wCall g n) := by
  intro n
  induction n with
  | zero => intro f ds hp Q Q' E E' _ _ h; exact h
  | succ n ih =>
    intro f ds hp Q Q' E E' hq he h
    unfold wCall at h ⊢
    split at h
    · exact h
    · refine ⟨h.1, wSs_mono ih _ _ _ _ _ ?_ h.2⟩
      exact ⟨fun e h q => hq _ _ q, fun _ _ z => z, fun _ _ z => z, hq, fun c i e h q => he _ _ _ q⟩
end MI
/-! MI, part 3: how the small heap stands in the layer's heap. -/
namespace MI
open PySem PySem.Spec L2

/-- a kept exception: of the class at C, its dict at d -/
def kx (a C d : Addr) : HO := .ext fun h => ∃ (ob : Obj) (ws : Array Value), h.get? a = some ob ∧ Zc (.ref C) (some d) ob ∧ ob.data = .fields ws
section
variable {P : Program} {w : World} {H : Hp} {h : Heap} {a C d : Addr}
theorem kx_ok {ob : Obj} {ws : Array Value} (e : h.get? a = some ob) (z : Zc (.ref C) (some d) ob) (q : ob.data = .fields ws) : ObjOk P w H h a (kx a C d) :=
  ⟨⟨ob, ws, e, z, q⟩, ⟨ob, e⟩, fun h1 h2 x k => by
    obtain ⟨o', w', e1, z1, q1⟩ := x
    exact ⟨o', w', k _ e1, z1, q1⟩⟩
theorem kx_at (ok : HOk P w H h) (e : H a = some (kx a C d)) : ∃ (ob : Obj) (ws : Array Value), h.get? a = some ob ∧ Zc (.ref C) (some d) ob ∧ ob.data = .fields ws := by
  have x : ObjOk P w H h a (.ext fun h => ∃ (ob : Obj) (ws : Array Value), h.get? a = some ob ∧ Zc (.ref C) (some d) ob ∧ ob.data = .fields ws) := ok a _ e
  exact x.1
end

/-- an exception without a dict -/
def kx0 (a C : Addr) : HO := .ext fun h => ∃ (ob : Obj) (ws : Array Value), h.get? a = some ob ∧ Zc (.ref C) none ob ∧ ob.data = .fields ws
section
variable {P : Program} {w : World} {H : Hp} {h : Heap} {a C : Addr}
theorem kx0_ok {ob : Obj} {ws : Array Value} (e : h.get? a = some ob) (z : Zc (.ref C) none ob) (q : ob.data = .fields ws) : ObjOk P w H h a (kx0 a C) :=
  ⟨⟨ob, ws, e, z, q⟩, ⟨ob, e⟩, fun h1 h2 x k => by
    obtain ⟨o', w', e1, z1, q1⟩ := x
    exact ⟨o', w', k _ e1, z1, q1⟩⟩
theorem kx0_at (ok : HOk P w H h) (e : H a = some (kx0 a C)) : ∃ (ob : Obj) (ws : Array Value), h.get? a = some ob ∧ Zc (.ref C) none ob ∧ ob.data = .fields ws := by
  have x : ObjOk P w H h a (.ext fun h => ∃ (ob : Obj) (ws : Array Value), h.get? a = some ob ∧ Zc (.ref C) none ob ∧ ob.data = .fields ws) := ok a _ e
  exact x.1
end

theorem nodup_at {α : Type} {l : List α} (hN : l.Nodup) {i j : Nat} {x : α} (a : l[i]? = some x) (b : l[j]? = some x) : i = j := by
  obtain ⟨h1, e1⟩ := List.getElem?_eq_some_iff.mp a
  obtain ⟨h2, e2⟩ := List.getElem?_eq_some_iff.mp b
  exact (List.getElem_inj hN).mp (e1.trans e2.symm)

/-- where the text's own things stand; the attributes' names -/
structure Lay where
  fns : List Addr
  clss : List Addr
  exs : List Addr
  pr : Params
  attrs : List Str

/-- a list that stands still: locked, or of the written part -/
def KlL (K : PySem.W.Frag) (H : Hp) (a : Addr) (xs : List V) : Prop :=
  (∃ o, H a = some (.frz o (.lst xs))) ∨
    ∃ (o : Obj) (its : Array Value) (n : Nat), K.lookup a = some o ∧ o.cls = .type "list" ∧ o.dict = none ∧ o.data = .seq its n ∧ its.size ≤ sizeLine ∧ Vals xs its.toList
theorem KlL.sq {K : PySem.W.Frag} {H : Hp} {a : Addr} {xs : List V} (h : KlL K H a xs) : SqL K H a xs := by
  rcases h with h | h
  · exact .inl (.inr h)
  · exact .inr h

/-- a written dict with text keys, entry by entry -/
inductive KdE (pr : Params) : List DictEntry → List Str → List V → Prop
  | nil : KdE pr [] [] []
  | cons {e : DictEntry} {es : List DictEntry} {k : Str} {ks : List Str} {v : V} {vs : List V} : (∃ t, e.key = .str k t) → e.hash = PyData.keyHash pr k → RelV v e.val → KdE pr es ks vs → KdE pr (e :: es) (k :: ks) (v :: vs)
def KdL (K : PySem.W.Frag) (pr : Params) (a : Addr) (ks : List Str) (vs : List V) : Prop := (a == sysModules) = false ∧ ∃ es n, K.lookup a = some ⟨.type "dict", none, .dict es n, #[]⟩ ∧ KdE pr es.toList ks vs
mutual
inductive RD (K : PySem.W.Frag) (L : Lay) (ρ : List Addr) (H : Hp) : D → V → Prop
  | non : RD K L ρ H .non .non
  | bl (b : Bool) : RD K L ρ H (.bl b) (.bl b)
  | int (i : Int) : RD K L ρ H (.int i) (.int i)
  | str (x : Str) : RD K L ρ H (.str x) (.str x)
  | tup {a : Addr} {xs : List V} {ds : List D} : SqT K H a xs → RDs K L ρ H ds xs → RD K L ρ H (.tup ds) (.ref a)
  | kl {a : Addr} {xs : List V} {ds : List D} : KlL K H a xs → RDs K L ρ H ds xs → RD K L ρ H (.kl ds) (.ref a)
  | ref {i : Nat} {a : Addr} : ρ[i]? = some a → RD K L ρ H (.ref i) (.ref a)
  | fn {k : Nat} {a : Addr} : L.fns[k]? = some a → RD K L ρ H (.fn k) (.ref a)
  | cls {k : Nat} {a : Addr} : L.clss[k]? = some a → RD K L ρ H (.cls k) (.ref a)
  | kd {a : Addr} {ks : List Str} {ds : List D} {vs : List V} : KdL K L.pr a ks vs → RDs K L ρ H ds vs → RD K L ρ H (.kd ks ds) (.ref a)
  | ty (n : String) : RD K L ρ H (.ty n) (.ty n)
inductive RDs (K : PySem.W.Frag) (L : Lay) (ρ : List Addr) (H : Hp) : List D → List V → Prop
  | nil : RDs K L ρ H [] []
  | cons {d : D} {v : V} {ds : List D} {vs : List V} : RD K L ρ H d v → RDs K L ρ H ds vs → RDs K L ρ H (d :: ds) (v :: vs)
end

def RFs (K : PySem.W.Frag) (L : Lay) (ρ : List Addr) (H : Hp) : List (Nat × D) → List (Str × V) → Prop := Paired fun p q => L.attrs[p.1]? = some q.1 ∧ RD K L ρ H p.2 q.2
def RKs (K : PySem.W.Frag) (L : Lay) (ρ : List Addr) (H : Hp) : List (Key × D) → List (Key × V) → Prop := Paired fun p q => p.1 = q.1 ∧ RD K L ρ H p.2 q.2

inductive RHO (K : PySem.W.Frag) (L : Lay) (ρ : List Addr) (H : Hp) : O → HO → Prop
  | lst {xs : List D} {vs : List V} : RDs K L ρ H xs vs → RHO K L ρ H (.lst xs) (.lst vs)
  | dic {kvs : List (Key × D)} {vs : List (Key × V)} : RKs K L ρ H kvs vs → RHO K L ρ H (.dic kvs) (.dK vs)
  | fdic {kvs : List (Key × D)} {vs : List (Key × V)} {ob : Obj} : RKs K L ρ H kvs vs → RHO K L ρ H (.fdic kvs) (.frz ob (.dK vs))
  | ins {c : Nat} {C dx : Addr} {fs : List (Nat × D)} {vs : List (Str × V)} : L.clss[c]? = some C → RFs K L ρ H fs vs → RHO K L ρ H (.ins c fs) (.ins C dx vs)
  | xd {c : Nat} {fs : List (Nat × D)} {vs : List (Str × V)} : RFs K L ρ H fs vs → RHO K L ρ H (.xd c fs) (.xd vs)
  | xob {c me j : Nat} {a C d : Addr} : ρ[me]? = some a → L.exs[c]? = some C → ρ[j]? = some d → RHO K L ρ H (.xob c me j) (kx a C d)
  | xo0 {c me : Nat} {a C : Addr} : ρ[me]? = some a → L.exs[c]? = some C → RHO K L ρ H (.xo0 c me) (kx0 a C)

/-- tuples, locked lists -/
inductive Stb : HO → Prop
  | tup (xs : List V) : Stb (.tup xs)
  | flst (o : Obj) (xs : List V) : Stb (.frz o (.lst xs))
  | ftup (o : Obj) (xs : List V) : Stb (.frz o (.tup xs))
theorem RHO.nst {K : PySem.W.Frag} {L : Lay} {ρ : List Addr} {H : Hp} {o : O} {u : HO} (r : RHO K L ρ H o u) : ¬ Stb u := by
  intro s
  cases r <;> cases s

structure RelH (K : PySem.W.Frag) (L : Lay) (ρ : List Addr) (hp : Hq) (H : Hp) : Prop where
  nd : ρ.Nodup
  len : ρ.length = hp.length
  at_ : ∀ (i : Nat) (o : O), hp[i]? = some o → ∃ a u, ρ[i]? = some a ∧ H a = some u ∧ RHO K L ρ H o u

structure Ext (ρ : List Addr) (H : Hp) (ρ' : List Addr) (H' : Hp) : Prop where
  pre : ∃ more, ρ' = ρ ++ more
  new : ∀ a, a ∈ ρ' → a ∈ ρ ∨ H a = none
  out : ∀ a o, H a = some o → a ∉ ρ → H' a = some o
  st : ∀ a o, H a = some o → Stb o → H' a = some o
  fz : ∀ a o kvs, H a = some (.frz o (.dK kvs)) → H' a = some (.frz o (.dK kvs))
theorem Ext.refl (ρ : List Addr) (H : Hp) : Ext ρ H ρ H := ⟨⟨[], by simp⟩, fun _ h => .inl h, fun _ _ h _ => h, fun _ _ h _ => h, fun _ _ _ h => h⟩
/-- what a value's reading needs -/
structure ExtW (ρ : List Addr) (H : Hp) (ρ' : List Addr) (H' : Hp) : Prop where
  pre : ∃ more, ρ' = ρ ++ more
  st : ∀ a o, H a = some o → Stb o → H' a = some o
theorem Ext.w {ρ ρ' : List Addr} {H H' : Hp} (e : Ext ρ H ρ' H') : ExtW ρ H ρ' H' := ⟨e.pre, e.st⟩
theorem Ext.trans {ρ ρ1 ρ2 : List Addr} {H H1 H2 : Hp} (a : Ext ρ H ρ1 H1) (b : Ext ρ1 H1 ρ2 H2) : Ext ρ H ρ2 H2 := by
  obtain ⟨m1, e1⟩ := a.pre
  obtain ⟨m2, e2⟩ := b.pre
  refine ⟨⟨m1 ++ m2, by rw [e2, e1, List.append_assoc]⟩, fun x hx => ?_, fun x o h n => ?_, fun x o h s => b.st x o (a.st x o h s) s, fun x o k h => b.fz x o k (a.fz x o k h)⟩
  · rcases b.new x hx with h | h
    · exact a.new x h
    · by_cases hm : x ∈ ρ
      · exact .inl hm
      · right
        cases q : H x with
        | none => rfl
        | some o => rw [a.out x o q hm] at h; cases h
  · refine b.out x o (a.out x o h n) fun hm => ?_
    rcases a.new x hm with q | q
    · exact n q
    · rw [q] at h; cases h
theorem ExtW.ix {ρ ρ' : List Addr} {H H' : Hp} (e : ExtW ρ H ρ' H') {i : Nat} {a : Addr} (h : ρ[i]? = some a) : ρ'[i]? = some a := by
  obtain ⟨m, rfl⟩ := e.pre
  have hl := (List.getElem?_eq_some_iff.mp h).1
  rw [List.getElem?_append_left hl]
  exact h

theorem Ext.ix {ρ ρ' : List Addr} {H H' : Hp} (e : Ext ρ H ρ' H') {i : Nat} {a : Addr} (h : ρ[i]? = some a) : ρ'[i]? = some a := e.w.ix h
section
variable {K : PySem.W.Frag} {L : Lay} {ρ ρ' : List Addr} {H H' : Hp}
theorem SqT.monoW {a : Addr} {xs : List V} (e : ExtW ρ H ρ' H') (h : SqT K H a xs) : SqT K H' a xs := by
  rcases h with (h | ⟨o, h⟩) | h
  · exact .inl (.inl (e.st _ _ h (.tup xs)))
  · exact .inl (.inr ⟨o, e.st _ _ h (.ftup o xs)⟩)
  · exact .inr h
theorem KlL.monoW {a : Addr} {xs : List V} (e : ExtW ρ H ρ' H') (h : KlL K H a xs) : KlL K H' a xs := by
  rcases h with ⟨o, h⟩ | h
  · exact .inl ⟨o, e.st _ _ h (.flst o xs)⟩
  · exact .inr h
mutual
theorem RD.monoW (e : ExtW ρ H ρ' H') : ∀ {d : D} {v : V}, RD K L ρ H d v → RD K L ρ' H' d v
  | _, _, .non => .non
  | _, _, .bl b => .bl b
  | _, _, .int i => .int i
  | _, _, .str x => .str x
  | _, _, .tup h r => .tup (SqT.monoW e h) (RDs.monoW e r)
  | _, _, .kl h r => .kl (KlL.monoW e h) (RDs.monoW e r)
  | _, _, .ref h => .ref (e.ix h)
  | _, _, .fn h => .fn h
  | _, _, .cls h => .cls h
  | _, _, .kd h t => .kd h (RDs.monoW e t)
  | _, _, .ty n => .ty n
theorem RDs.monoW (e : ExtW ρ H ρ' H') : ∀ {d : List D} {v : List V}, RDs K L ρ H d v → RDs K L ρ' H' d v
  | _, _, .nil => .nil
  | _, _, .cons r t => .cons (RD.monoW e r) (RDs.monoW e t)
end
theorem Paired.imp' {α β : Type} {F G : α → β → Prop} (f : ∀ a b, F a b → G a b) : ∀ {l₁ : List α} {l₂ : List β}, Paired F l₁ l₂ → Paired G l₁ l₂
  | _, _, .nil => .nil
  | _, _, .cons r t => .cons (f _ _ r) (Paired.imp' f t)
theorem RFs.monoW (e : ExtW ρ H ρ' H') {fs : List (Nat × D)} {vs : List (Str × V)} (h : RFs K L ρ H fs vs) : RFs K L ρ' H' fs vs := Paired.imp' (fun _ _ q => ⟨q.1, q.2.monoW e⟩) h
theorem RKs.monoW (e : ExtW ρ H ρ' H') {fs : List (Key × D)} {vs : List (Key × V)} (h : RKs K L ρ H fs vs) : RKs K L ρ' H' fs vs := Paired.imp' (fun _ _ q => ⟨q.1, q.2.monoW e⟩) h
theorem RHO.monoW (e : ExtW ρ H ρ' H') {o : O} {u : HO} (h : RHO K L ρ H o u) : RHO K L ρ' H' o u := by
  cases h with
  | lst r => exact .lst (r.monoW e)
  | dic r => exact .dic (r.monoW e)
  | fdic r => exact .fdic (r.monoW e)
  | ins c r => exact .ins c (r.monoW e)
  | xd r => exact .xd (r.monoW e)
  | xob h1 h2 h3 => exact .xob (e.ix h1) h2 (e.ix h3)
  | xo0 h1 h2 => exact .xo0 (e.ix h1) h2

theorem SqT.mono {a : Addr} {xs : List V} (e : Ext ρ H ρ' H') (h : SqT K H a xs) : SqT K H' a xs := SqT.monoW e.w h
theorem KlL.mono {a : Addr} {xs : List V} (e : Ext ρ H ρ' H') (h : KlL K H a xs) : KlL K H' a xs := KlL.monoW e.w h
theorem RD.mono (e : Ext ρ H ρ' H') {d : D} {v : V} (h : RD K L ρ H d v) : RD K L ρ' H' d v := RD.monoW e.w h
theorem RDs.mono (e : Ext ρ H ρ' H') {d : List D} {v : List V} (h : RDs K L ρ H d v) : RDs K L ρ' H' d v := RDs.monoW e.w h
theorem RFs.mono (e : Ext ρ H ρ' H') {fs : List (Nat × D)} {vs : List (Str × V)} (h : RFs K L ρ H fs vs) : RFs K L ρ' H' fs vs := RFs.monoW e.w h
theorem RKs.mono (e : Ext ρ H ρ' H') {fs : List (Key × D)} {vs : List (Key × V)} (h : RKs K L ρ H fs vs) : RKs K L ρ' H' fs vs := RKs.monoW e.w h
theorem RHO.mono (e : Ext ρ H ρ' H') {o : O} {u : HO} (h : RHO K L ρ H o u) : RHO K L ρ' H' o u := RHO.monoW e.w h

theorem RelH.at2 {hp : Hq} (r : RelH K L ρ hp H) {i : Nat} {a : Addr} (h : ρ[i]? = some a) : ∃ o u, hp[i]? = some o ∧ H a = some u ∧ RHO K L ρ H o u := by
  have hl := (List.getElem?_eq_some_iff.mp h).1
  have hl2 : i < hp.length := by rw [← r.len]; exact hl
  obtain ⟨a', u, h1, h2, h3⟩ := r.at_ i hp[i] (List.getElem?_eq_getElem hl2)
  rw [h] at h1
  cases h1
  exact ⟨_, u, List.getElem?_eq_getElem hl2, h2, h3⟩
theorem RelH.mem {hp : Hq} (r : RelH K L ρ hp H) {a : Addr} (h : a ∈ ρ) : ∃ (i : Nat) (o : O) (u : HO), ρ[i]? = some a ∧ hp[i]? = some o ∧ H a = some u ∧ RHO K L ρ H o u := by
  obtain ⟨i, hi, e⟩ := List.mem_iff_getElem.mp h
  have e' : ρ[i]? = some a := by rw [List.getElem?_eq_getElem hi, e]
  obtain ⟨o, u, h1, h2, h3⟩ := r.at2 e'
  exact ⟨i, o, u, e', h1, h2, h3⟩
theorem RelH.notin {hp : Hq} (r : RelH K L ρ hp H) {p : Addr} (h : H p = none) : p ∉ ρ := fun hm => by
  obtain ⟨_, _, u, _, _, e, _⟩ := r.mem hm
  rw [h] at e; cases e
theorem RelH.stnot {hp : Hq} (r : RelH K L ρ hp H) {p : Addr} {u : HO} (h : H p = some u) (s : Stb u) : p ∉ ρ := fun hm => by
  obtain ⟨_, _, u', _, _, e, q⟩ := r.mem hm
  rw [h] at e; cases e
  exact q.nst s

/-- a new thing, told in the small heap too -/
theorem RelH.push {hp : Hq} {p : Addr} {o : O} {u : HO} (r : RelH K L ρ hp H) (hn : H p = none) (q : RHO K L ρ H o u) :
    RelH K L (ρ ++ [p]) (hp ++ [o]) (upd H p u) ∧ Ext ρ H (ρ ++ [p]) (upd H p u) := by
  have e : Ext ρ H (ρ ++ [p]) (upd H p u) := by
    refine ⟨⟨[p], rfl⟩, fun a ha => ?_, fun a o' h _ => ?_, fun a o' h _ => ?_, fun a o' k h => ?_⟩
    · rcases List.mem_append.mp ha with h | h
      · exact .inl h
      · have : a = p := by simpa using h
        subst this
        exact .inr hn
    · rw [upd_ne (ne_of_none h hn)]; exact h
    · rw [upd_ne (ne_of_none h hn)]; exact h
    · rw [upd_ne (ne_of_none h hn)]; exact h
  refine ⟨⟨?_, by simp [r.len], fun i o' h => ?_⟩, e⟩
  · rw [List.nodup_append]
    refine ⟨r.nd, by simp, fun a ha b hb => ?_⟩
    have : b = p := by simpa using hb
    subst this
    exact fun z => r.notin hn (z ▸ ha)
  · by_cases hi : i < hp.length
    · rw [List.getElem?_append_left hi] at h
      obtain ⟨a, u', h1, h2, h3⟩ := r.at_ i o' h
      exact ⟨a, u', e.ix h1, by rw [upd_ne (ne_of_none h2 hn)]; exact h2, h3.mono e⟩
    · have hl : i < (hp ++ [o]).length := (List.getElem?_eq_some_iff.mp h).1
      have hi2 : i = hp.length := by
        rw [List.length_append, List.length_singleton] at hl
        omega
      subst hi2
      rw [List.getElem?_append_right (Nat.le_refl _)] at h
      have : o = o' := by simpa using h
      subst this
      refine ⟨p, u, ?_, upd_same, q.mono e⟩
      rw [← r.len, List.getElem?_append_right (Nat.le_refl _)]
      simp
/-- a new thing, not told -/
theorem RelH.tmp {hp : Hq} {p : Addr} {u : HO} (r : RelH K L ρ hp H) (hn : H p = none) : RelH K L ρ hp (upd H p u) ∧ Ext ρ H ρ (upd H p u) := by
  have e : Ext ρ H ρ (upd H p u) := ⟨⟨[], by simp⟩, fun _ h => .inl h, fun a o' h _ => by rw [upd_ne (ne_of_none h hn)]; exact h, fun a o' h _ => by rw [upd_ne (ne_of_none h hn)]; exact h, fun a o' k h => by rw [upd_ne (ne_of_none h hn)]; exact h⟩
  refine ⟨⟨r.nd, r.len, fun i o' h => ?_⟩, e⟩
  obtain ⟨a, u', h1, h2, h3⟩ := r.at_ i o' h
  exact ⟨a, u', h1, by rw [upd_ne (ne_of_none h2 hn)]; exact h2, h3.mono e⟩
/-- a change -/
theorem RelH.put {hp : Hq} {i : Nat} {a : Addr} {o : O} {u : HO} (r : RelH K L ρ hp H) (ha : ρ[i]? = some a) (q : RHO K L ρ H o u) (hu : ∀ o' k, H a ≠ some (.frz o' (.dK k))) :
    RelH K L ρ (hp.set i o) (upd H a u) ∧ Ext ρ H ρ (upd H a u) := by
  obtain ⟨o0, u0, g1, g2, g3⟩ := r.at2 ha
  have e : Ext ρ H ρ (upd H a u) := by
    refine ⟨⟨[], by simp⟩, fun _ h => .inl h, fun b o' h n => ?_, fun b o' h s => ?_, fun b o' k h => ?_⟩
    · rw [upd_ne fun z => n (by rw [z]; exact List.mem_of_getElem? ha)]; exact h
    · rw [upd_ne fun z => ?_]
      · exact h
      · subst z
        rw [g2] at h; cases h
        exact g3.nst s
    · rw [upd_ne fun z => hu o' k (by rw [← z]; exact h)]; exact h
  refine ⟨⟨r.nd, by simp [r.len], fun j o' h => ?_⟩, e⟩
  by_cases hj : i = j
  · subst hj
    have hl : i < hp.length := (List.getElem?_eq_some_iff.mp g1).1
    rw [List.getElem?_set_self hl] at h
    cases h
    exact ⟨a, u, ha, upd_same, q.mono e⟩
  · rw [List.getElem?_set_ne hj] at h
    obtain ⟨b, u', h1, h2, h3⟩ := r.at_ j o' h
    refine ⟨b, u', h1, ?_, h3.mono e⟩
    rw [upd_ne fun z => ?_]
    · exact h2
    · subst z
      exact hj (nodup_at r.nd ha h1)

/-! ### lists of related values -/
theorem RDs.len : ∀ {ds : List D} {vs : List V}, RDs K L ρ H ds vs → ds.length = vs.length
  | _, _, .nil => rfl
  | _, _, .cons _ t => by rw [List.length_cons, List.length_cons, RDs.len t]
theorem RDs.get : ∀ {ds : List D} {vs : List V} {i : Nat} {d : D}, RDs K L ρ H ds vs → ds[i]? = some d → ∃ v, vs[i]? = some v ∧ RD K L ρ H d v
  | _, _, _, _, .nil, h => by simp at h
  | _, _, 0, _, .cons r _, h => by
    simp at h
    subst h
    exact ⟨_, rfl, r⟩
  | _, _, i + 1, _, .cons _ t, h => by
    obtain ⟨v, h1, h2⟩ := RDs.get (i := i) t (by simpa using h)
    exact ⟨v, by simpa using h1, h2⟩
theorem RDs.getV : ∀ {ds : List D} {vs : List V} {i : Nat} {v : V}, RDs K L ρ H ds vs → vs[i]? = some v → ∃ d, ds[i]? = some d ∧ RD K L ρ H d v
  | _, _, _, _, .nil, h => by simp at h
  | _, _, 0, _, .cons r _, h => by
    simp at h
    subst h
    exact ⟨_, rfl, r⟩
  | _, _, i + 1, _, .cons _ t, h => by
    obtain ⟨v, h1, h2⟩ := RDs.getV (i := i) t (by simpa using h)
    exact ⟨v, by simpa using h1, h2⟩
theorem RDs.app : ∀ {ds es : List D} {vs us : List V}, RDs K L ρ H ds vs → RDs K L ρ H es us → RDs K L ρ H (ds ++ es) (vs ++ us)
  | _, _, _, _, .nil, s => s
  | _, _, _, _, .cons r t, s => .cons r (RDs.app t s)
theorem RDs.take : ∀ {ds : List D} {vs : List V} (n : Nat), RDs K L ρ H ds vs → RDs K L ρ H (ds.take n) (vs.take n)
  | _, _, 0, _ => .nil
  | _, _, _ + 1, .nil => .nil
  | _, _, n + 1, .cons r t => .cons r (RDs.take n t)
theorem RDs.drop : ∀ {ds : List D} {vs : List V} (n : Nat), RDs K L ρ H ds vs → RDs K L ρ H (ds.drop n) (vs.drop n)
  | _, _, 0, r => r
  | _, _, _ + 1, .nil => .nil
  | _, _, n + 1, .cons _ t => RDs.drop n t
theorem RDs.set : ∀ {ds : List D} {vs : List V} {d : D} {v : V} (i : Nat), RD K L ρ H d v → RDs K L ρ H ds vs → RDs K L ρ H (ds.set i d) (vs.set i v)
  | _, _, _, _, _, _, .nil => .nil
  | _, _, _, _, 0, q, .cons _ t => .cons q t
  | _, _, _, _, i + 1, q, .cons r t => .cons r (RDs.set i q t)
theorem RDs.rep {ds : List D} {vs : List V} (h : RDs K L ρ H ds vs) : ∀ n, RDs K L ρ H (List.replicate n ds).flatten (List.replicate n vs).flatten
  | 0 => .nil
  | n + 1 => by
    rw [List.replicate_succ, List.replicate_succ, List.flatten_cons, List.flatten_cons]
    exact h.app (RDs.rep h n)
theorem RDs.one {d : D} {v : V} (h : RD K L ρ H d v) : RDs K L ρ H [d] [v] := .cons h .nil

/-! ### data -/
mutual
theorem toP_dp {hp : Hq} (r : RelH K L ρ hp H) : ∀ (n : Nat) (d : D) (v : V) (a : PyData), RD K L ρ H d v → toP n hp d = some a → Dp K H v a
  | 0, _, _, _, _, h => by cases h
  | n + 1, d, v, a, q, h => by
    cases q with
    | non => cases h; exact .non
    | bl b => cases h; exact .bl b
    | int i => cases h; exact .int i
    | str x => cases h; exact .str x
    | @tup p xs ds hs t =>
      have h' : (mapO (toP n hp) ds).map .tuple = some a := h
      cases e : mapO (toP n hp) ds with
      | none => rw [e] at h'; cases h'
      | some as =>
        rw [e] at h'
        cases h'
        exact .tup hs (toPs_dp r n ds xs as t e)
    | @kl p xs ds hs t =>
      have h' : (mapO (toP n hp) ds).map .list = some a := h
      cases e : mapO (toP n hp) ds with
      | none => rw [e] at h'; cases h'
      | some as =>
        rw [e] at h'
        cases h'
        exact .lst hs.sq (toPs_dp r n ds xs as t e)
    | @ref i p hs =>
      have h' : (match gtL hp i with | some ds => (mapO (toP n hp) ds).map .list | none => none) = some a := h
      obtain ⟨o, u, h1, h2, h3⟩ := r.at2 hs
      unfold gtL at h'
      rw [h1] at h'
      cases h3 with
      | @lst xs vs t =>
        have h' : (mapO (toP n hp) xs).map .list = some a := h'
        cases e : mapO (toP n hp) xs with
        | none => rw [e] at h'; cases h'
        | some as =>
          rw [e] at h'
          cases h'
          exact .lst (.of h2) (toPs_dp r n xs vs as t e)
      | _ => cases h'
    | _ => cases h
theorem toPs_dp {hp : Hq} (r : RelH K L ρ hp H) : ∀ (n : Nat) (ds : List D) (vs : List V) (as : List PyData), RDs K L ρ H ds vs → mapO (toP n hp) ds = some as → DpAll K H vs as
  | n, [], _, as, .nil, h => by cases h; exact .nil
  | n, d :: ds, _, as, .cons q t, h => by
    unfold mapO at h
    cases e : toP n hp d with
    | none => rw [e] at h; cases h
    | some y =>
      rw [e] at h
      cases e2 : mapO (toP n hp) ds with
      | none => simp only [e2] at h; cases h
      | some ys =>
        simp only [e2] at h
        cases h
        exact .cons (toP_dp r n d _ y q e) (toPs_dp r n ds _ ys t e2)
end

/-! ### names in slots -/
structure RE (K : PySem.W.Frag) (L : Lay) (ρ : List Addr) (H : Hp) (env : Env) (σ : L2.St) : Prop where
  len : env.length = σ.length
  at_ : ∀ (i : Nat) (d : D), env[i]? = some (some d) → ∃ v, σ[i]? = some (some v) ∧ RD K L ρ H d v
theorem RE.monoW {env : Env} {σ : L2.St} (e : ExtW ρ H ρ' H') (h : RE K L ρ H env σ) : RE K L ρ' H' env σ := ⟨h.len, fun i d q => let ⟨v, h1, h2⟩ := h.at_ i d q; ⟨v, h1, h2.monoW e⟩⟩
theorem RE.mono {env : Env} {σ : L2.St} (e : Ext ρ H ρ' H') (h : RE K L ρ H env σ) : RE K L ρ' H' env σ := ⟨h.len, fun i d q => let ⟨v, h1, h2⟩ := h.at_ i d q; ⟨v, h1, h2.mono e⟩⟩
theorem RE.set {env : Env} {σ : L2.St} {d : D} {v : V} (h : RE K L ρ H env σ) (i : Nat) (r : RD K L ρ H d v) : RE K L ρ H (env.set i (some d)) (σ.set i (some v)) := by
  refine ⟨by simp [h.len], fun j e q => ?_⟩
  by_cases hj : i = j
  · subst hj
    have hl : i < env.length := by
      have := (List.getElem?_eq_some_iff.mp q).1
      simpa using this
    rw [List.getElem?_set_self hl] at q
    cases q
    exact ⟨v, by rw [List.getElem?_set_self (by rw [← h.len]; exact hl)], r⟩
  · rw [List.getElem?_set_ne hj] at q
    obtain ⟨w, h1, h2⟩ := h.at_ j e q
    exact ⟨w, by rw [List.getElem?_set_ne hj]; exact h1, h2⟩
theorem RE.wipe {env : Env} {σ : L2.St} (h : RE K L ρ H env σ) : ∀ own : List Nat, RE K L ρ H (wipeE env own) (L2.wipe σ own) := by
  intro own
  induction own with
  | nil => exact h
  | cons i r ih =>
    show RE K L ρ H ((wipeE env r).set i none) ((L2.wipe σ r).set i none)
    refine ⟨by simp [ih.len], fun j e q => ?_⟩
    by_cases hj : i = j
    · subst hj
      by_cases hl : i < (wipeE env r).length
      · rw [List.getElem?_set_self hl] at q; cases q
      · have := (List.getElem?_eq_some_iff.mp q).1
        exact absurd (by simpa using this) hl
    · rw [List.getElem?_set_ne hj] at q
      obtain ⟨w, h1, h2⟩ := ih.at_ j e q
      exact ⟨w, by rw [List.getElem?_set_ne hj]; exact h1, h2⟩
end
end MI
/-! MI, part 4: that a tree of the text is the tree of the small language. -/
namespace MI
open PySem L2

/-- the names by which the text calls its things -/
structure Nm where
  fnN : List (Option Str)
  clsN : List Str
  constN : List Str
  attrs : List Str
  mths : List Str
  blts : List Str
  shp : List (Nat × Nat × List Str × List Nat) := []
  mks : List (Nat × Nat × List Str × List Nat) := []
  excN : List (Str × Nat) := []
  exc0 : List (Nat × Str) := []
  exm : List (Str × List Bool) := []

structure Ck where
  nm : Nm
  sc : Scope
  N : List Str
  top : Bool

def bopOf : BOp → Operator
  | .add => .Add | .sub => .Sub | .mul => .Mult | .fdiv => .FloorDiv | .mod => .Mod | .pow => .Pow
def copOf : COp → CmpOp
  | .eq => .Eq | .ne => .NotEq | .lt => .Lt | .le => .LtE | .gt => .Gt | .ge => .GtE | .is => .Is | .nis => .IsNot | .isin => .In | .nin => .NotIn
def bfName : BF → Str
  | .len => "len" | .list1 => "list" | .tuple1 => "tuple" | .dict1 => "dict" | .dict0 => "dict" | .int1 => "int" | .str1 => "str" | .repr => "repr" | .sum1 => "sum"
  | .max1 => "max" | .min1 => "min" | .max2 => "max" | .min2 => "min" | .sorted1 => "sorted" | .all1 => "all" | .any1 => "any" | .isi => "isinstance"
def bfAr : BF → Nat
  | .max2 => 2 | .min2 => 2 | .isi => 2 | _ => 1
def bmName : BM → Str
  | .append => "append" | .extend => "extend" | .pop0 => "pop" | .pop1 => "pop" | .pop2 => "pop" | .get1 => "get" | .get2 => "get" | .setdef => "setdefault" | .clear => "clear"

def Ck.glob (c : Ck) (x : Str) : Bool := decide (c.sc.names.lookup x = some .globalImplicit) && !(x == ("__debug__" : Str)) && decide (x ≠ ("__name__" : Str)) && (x != ("super" : Str))
def Ck.vis (c : Ck) (x : Str) : Bool := (match c.sc.names.lookup x with | some .local => true | some .cell => true | some .free => true | _ => false) && !(x == ("__debug__" : Str)) && !(x == ("__classdict__" : Str))
def Ck.loc (c : Ck) (x : Str) : Bool := match c.sc.names.lookup x with | some .local => true | some .cell => c.top | _ => false
def Ck.inner (c : Ck) (scope : Scope) : Ck := { c with sc := relS scope c.sc, top := false }
def ownOf (N : List Str) (own : List Nat) : List (Str × Nat) := own.map fun i => (N.getD i "", i)

def isSub (e : Expr) : Bool := match e with | .Starred _ _ => true | .Set _ _ _ => true | .Slice _ _ _ _ => true | _ => false
def noComp (e : Expr) : Bool := match e with | .ListComp _ _ _ _ => false | .SetComp _ _ _ _ => false | .DictComp _ _ _ _ _ => false | _ => true
def isTupX (e : Expr) : Bool := match e with | .Tuple _ _ _ => true | _ => false
def isBoolX (e : Expr) : Bool := match e with | .BoolOp _ _ _ => true | _ => false
/-- what a test takes apart -/
def tstX (e : Expr) : Bool := match e with | .UnaryOp .Not _ _ => true | .BoolOp _ _ _ => true | .IfExp _ _ _ _ => true | .Compare _ _ _ _ => true | _ => false
def tstK : Ex → Bool
  | .cmp _ _ _ => true | .cmp2 _ _ _ _ _ => true | .and _ _ => true | .or _ _ => true | .not _ => true | .ite _ _ _ => true | _ => false
/-- pairs come: the target is a tuple -/
def itTg (it : Ix) (e : Expr) : Bool := match it with
  | .enum _ => isTupX e
  | .zip2 _ _ => isTupX e
  | .zipS _ _ => isTupX e
  | .items _ => isTupX e
  | _ => true
/-- no name but a set's, a slice's, a star's: what stands as an item -/
def tgSlots : Tg → List Nat
  | .nm i => [i]
  | _ => []

def takeX : Nat → Exs → Exs
  | 0, _ => .nil
  | _ + 1, .nil => .nil
  | n + 1, .cons e r => .cons e (takeX n r)
def dropX : Nat → Exs → Exs
  | 0, es => es
  | _ + 1, .nil => .nil
  | n + 1, .cons _ r => dropX n r
def kwNames (ks : List Keyword) : List Str := ks.map fun k => k.arg.getD ""
mutual
def chkE (c : Ck) : Ex → Expr → Bool
  | .var i, e => match e with
    | .Name x _ => decide (c.N[i]? = some x) && c.vis x
    | _ => false
  | .lit d, e => match d, e with
    | .non, .Constant .none _ _ => true
    | .bl b, .Constant (.bool b') _ _ => b == b'
    | .int i, .Constant (.int j) _ _ => decide (i = j)
    | .str x, .Constant (.str y) _ _ => decide (x = y)
    | _, _ => false
  | .glob g, e => match e with
    | .Name x _ => decide (c.nm.constN[g]? = some x) && c.glob x
    | _ => false
  | .bin o a b, e => match e with
    | .BinOp x p y _ => decide (p = bopOf o) && chkE c a x && chkE c b y
    | _ => false
  | .neg a, e => match e with
    | .UnaryOp .USub x _ => chkE c a x
    | _ => false
  | .cmp o a b, e => match e with
    | .Compare x [p] [y] _ => decide (p = copOf o) && chkE c a x && chkE c b y
    | _ => false
  | .cmp2 o p a b d, e => match e with
    | .Compare x [q, r] [y, z] _ => decide (q = copOf o) && decide (r = copOf p) && chkE c a x && chkE c b y && chkE c d z
    | _ => false
  | .and a b, e => match e with
    | .BoolOp .And (x :: y :: rest) p => chkE c a x && (match rest with | [] => chkE c b y | _ => chkE c b (.BoolOp .And (y :: rest) p))
    | _ => false
  | .or a b, e => match e with
    | .BoolOp .Or (x :: y :: rest) p => chkE c a x && (match rest with | [] => chkE c b y | _ => chkE c b (.BoolOp .Or (y :: rest) p))
    | _ => false
  | .not a, e => match e with
    | .UnaryOp .Not x _ => chkE c a x
    | _ => false
  | .ite t a b, e => match e with
    | .IfExp x y z _ => chkE c t x && chkE c a y && chkE c b z
    | _ => false
  | .tup es, e => match e with
    | .Tuple xs _ _ => chkEs c es xs && decide (xs.length ≤ 1000)
    | _ => false
  | .lst es, e => match e with
    | .List xs _ => chkEs c es xs && decide (xs.length ≤ 1000)
    | _ => false
  | .dic es, e => match e with
    | .Dict ks vs _ => chkDi c es ks vs && decide (ks.length ≤ 15)
    | _ => false
  | .bty n, e => match e with
    | .Name x _ => decide (x = PySem.Str.ofString n) && tyAll.contains n && c.glob x && c.nm.blts.contains x
    | _ => false
  | .mmd mx a d, e => match e with
    | .Call (.Name x _) [y] [⟨some k, z, _⟩] _ => decide (x = (if mx then "max" else "min" : Str)) && decide (k = "default") && c.glob x && c.nm.blts.contains x && chkE c a y && chkE c d z
    | _ => false
  | .ix a i, e => match e with
    | .Subscript x y _ => chkE c a x && chkE c i y
    | _ => false
  | .sl a lo hi, e => match e with
    | .Subscript x (.Slice l h none _) _ => chkE c a x && chkEo c lo l && chkEo c hi h
    | _ => false
  | .fld a f, e => match e with
    | .Attribute x n _ => decide (c.nm.attrs[f]? = some n) && chkE c a x
    | _ => false
  | .call f es, e => match e with
    | .Call (.Name x _) (y :: ys) [] _ => decide (c.nm.fnN[f]? = some (some x)) && c.glob x && chkEs c es (y :: ys)
    | .Call (.Name x _) [] [] _ => decide (c.nm.fnN[f]? = some (some x)) && c.glob x && (match es with | .nil => true | _ => false)
    | _ => false
  | .make k es, e => match e with
    | .Call (.Name x _) (y :: ys) [] _ => decide (c.nm.clsN[k]? = some x) && c.glob x && chkEs c es (y :: ys)
    | .Call (.Name x _) [] [] _ => decide (c.nm.clsN[k]? = some x) && c.glob x && (match es with | .nil => true | _ => false)
    | _ => false
  | .meth a m es, e => match e with
    | .Call (.Attribute o n p) (y :: ys) [] q => decide (c.nm.mths[m]? = some n) && chkE c a o && chkEs c es (y :: ys) && decide ((y :: ys).length ≤ 20) && (p.endLine == q.line)
    | .Call (.Attribute o n p) [] [] q => decide (c.nm.mths[m]? = some n) && chkE c a o && (match es with | .nil => true | _ => false) && (p.endLine == q.line)
    | _ => false
  | .blt b es, e => match e with
    | .Call (.Name x _) (y :: ys) [] _ => decide (x = bfName b) && c.glob x && c.nm.blts.contains x && chkEs c es (y :: ys) && decide ((y :: ys).length = bfAr b)
    | _ => false
  | .bm m a es, e => match e with
    | .Call (.Attribute o n p) (y :: ys) [] q => decide (n = bmName m) && chkE c a o && chkEs c es (y :: ys) && decide ((y :: ys).length ≤ 2) && (p.endLine == q.line)
    | .Call (.Attribute o n p) [] [] q => decide (n = bmName m) && chkE c a o && (match es with | .nil => true | _ => false) && (p.endLine == q.line)
    | _ => false
  | .lc own t it d e', e => match e with
    | .ListComp elt [⟨tg, iter, ifs, 0⟩] scope _ => blkC c.N c.sc scope (ownOf c.N own) && chkTg (c.inner scope) t tg && (tgIn own t) && itTg it tg && chkIt c it iter && chkIf (c.inner scope) d ifs && chkE (c.inner scope) e' elt
    | _ => false
  | .dc own t it d k e', e => match e with
    | .DictComp kx vx [⟨tg, iter, ifs, 0⟩] scope _ => blkC c.N c.sc scope (ownOf c.N own) && chkTg (c.inner scope) t tg && (tgIn own t) && itTg it tg && chkIt c it iter && chkIf (c.inner scope) d ifs && chkE (c.inner scope) k kx && chkE (c.inner scope) e' vx
    | _ => false
  | .lc2 own own1 t it t1 a e', e => match e with
    | .ListComp elt [⟨tg, iter, [], 0⟩, ⟨tg1, iter1, [], 0⟩] scope _ => blkC c.N c.sc scope (ownOf c.N own) && chkTg (c.inner scope) t tg && (tgIn own t) && itTg it tg && chkIt c it iter && chkTg (c.inner scope) t1 tg1 && (tgIn own1 t1) && (own1.all fun i => own.contains i) && chkE (c.inner scope) a iter1 && chkE (c.inner scope) e' elt
    | _ => false
  | .lenD a m, e => match e with
    | .Call (.Name x _) [y] [] _ => decide (x = "len") && c.glob x && c.nm.blts.contains x && decide (c.nm.mths[m]? = some "__len__") && chkE c a y
    | _ => false
  | .isx a bs, e => match e with
    | .Call (.Name x _) [y, .Name z _] [] _ => decide (x = "isinstance") && c.glob x && c.nm.blts.contains x && chkE c a y && c.glob z && c.nm.exm.contains (z, bs)
    | .Call (.Name x _) [y, .Tuple [.Name z _, .Name z2 _] _ _] [] _ => decide (x = "isinstance") && c.glob x && c.nm.blts.contains x && chkE c a y && c.glob z && c.glob z2 && (c.nm.exm.any fun p => p.1 == z && c.nm.exm.any fun q => q.1 == z2 && decide (bs = List.zipWith (· || ·) p.2 q.2))
    | .Call (.Name x _) [y, .Tuple [.Name z _, .Name z2 _, .Name z3 _] _ _] [] _ => decide (x = "isinstance") && c.glob x && c.nm.blts.contains x && chkE c a y && c.glob z && c.glob z2 && c.glob z3 && (c.nm.exm.any fun p => p.1 == z && c.nm.exm.any fun q => q.1 == z2 && c.nm.exm.any fun w => w.1 == z3 && decide (bs = List.zipWith (· || ·) p.2 (List.zipWith (· || ·) q.2 w.2)))
    | _ => false
  | .xfd a f, e => match e with
    | .Attribute y m _ => decide (c.nm.attrs[f]? = some m) && (c.nm.excN.any fun p => decide (p.2 = f)) && chkE c a y
    | _ => false
  | .xnew k f a, e => match e with
    | .Call (.Name x _) [y] [] _ => decide (c.nm.excN[k]? = some (x, f)) && c.glob x && chkE c a y
    | _ => false
  | .lenS a, e => match e with
    | .Call (.Name x _) [.Call (.Name y _) [z] [] _] [] _ => decide (x = "len") && decide (y = "set") && c.glob x && c.glob y && c.nm.blts.contains x && c.nm.blts.contains y && chkE c a z
    | _ => false
  | .srtS a, e => match e with
    | .Call (.Name x _) [.Call (.Name y _) [z] [] _] [] _ => decide (x = "sorted") && decide (y = "set") && c.glob x && c.glob y && c.nm.blts.contains x && c.nm.blts.contains y && chkE c a z
    | _ => false
  | .callL i es, e => match e with
    | .Call (.Name x _) (y :: ys) [] _ => decide (c.N[i]? = some x) && c.vis x && chkEs c es (y :: ys)
    | _ => false
  | .xnw0 k, e => match e with
    | .Call (.Name x _) [] [] _ => c.nm.exc0.contains (k, x) && c.glob x
    | _ => false
  | .callK f es pm, e => match e with
    | .Call (.Name u _) xs (k :: ks) _ => decide (c.nm.fnN[f]? = some (some u)) && c.glob u && chkEk c es xs (k :: ks) &&
      (k :: ks).all (fun z => z.arg.isSome) && (c.nm.shp.any fun z => decide (z.1 = f) && decide (z.2.1 = xs.length) && decide (z.2.2.1 = kwNames (k :: ks)) && decide (pm.map (fun s => match s with | .inl j => some j | .inr _ => none) = z.2.2.2.map some))
    | _ => false
  | .makeK _ _ _, _ => false
  | .methK a m es pm, e => match e with
    | .Call (.Attribute o n p) xs (k :: ks) q => decide (c.nm.mths[m]? = some n) && chkE c a o && chkEk c es xs (k :: ks) &&
      (k :: ks).all (fun z => z.arg.isSome) && (c.nm.mks.any fun z => decide (z.1 = m) && decide (z.2.1 = xs.length) && decide (z.2.2.1 = kwNames (k :: ks)) && decide (pm.map (fun s => match s with | .inl j => some j | .inr _ => none) = z.2.2.2.map some)) && decide (xs.length + (k :: ks).length ≤ 20) && (p.endLine == q.line)
    | _ => false
def chkEs (c : Ck) : Exs → List Expr → Bool
  | .nil, xs => match xs with
    | [] => true
    | _ => false
  | .cons e r, xs => match xs with
    | y :: ys => chkE c e y && chkEs c r ys
    | [] => false
def chkEk (c : Ck) : Exs → List Expr → List Keyword → Bool
  | .nil, xs, ks => match xs, ks with
    | [], [] => true
    | _, _ => false
  | .cons e r, xs, ks => match xs with
    | y :: ys => chkE c e y && chkEk c r ys ks
    | [] => match ks with
      | k :: ks => chkE c e k.value && chkEk c r [] ks
      | [] => false
def chkDi (c : Ck) : Exs → List (Option Expr) → List Expr → Bool
  | .nil, ks, vs => match ks, vs with
    | [], [] => true
    | _, _ => false
  | .cons e r, ks, vs => match r with
    | .nil => false
    | .cons e' r' => match ks, vs with
      | some x :: xs, y :: ys => chkE c e x && chkE c e' y && chkDi c r' xs ys
      | _, _ => false
def chkEo (c : Ck) : Exo → Option Expr → Bool
  | .no, x => match x with
    | none => true
    | _ => false
  | .so e, x => match x with
    | some y => chkE c e y
    | none => false
def chkIf (c : Ck) : Exo → List Expr → Bool
  | .no, x => match x with
    | [] => true
    | _ => false
  | .so e, x => match x with
    | [y] => chkE c e y
    | _ => false
def chkTg (c : Ck) : Tg → Expr → Bool
  | .nm i, e => match e with
    | .Name x _ => decide (c.N[i]? = some x) && c.loc x
    | _ => false
  | .tp ts, e => match e with
    | .Tuple xs _ _ => chkTgs c ts xs
    | _ => false
  | .at o f, e => match e with
    | .Attribute x n _ => decide (c.nm.attrs[f]? = some n) && chkE c o x
    | _ => false
  | .sb o i, e => match e with
    | .Subscript x y _ => chkE c o x && chkE c i y
    | _ => false
def chkTgs (c : Ck) : Tgs → List Expr → Bool
  | .nil, xs => match xs with
    | [] => true
    | _ => false
  | .cons t r, xs => match xs with
    | y :: ys => chkTg c t y && chkTgs c r ys
    | [] => false
/-- a target that stores only names of some slots -/
def tgIn (own : List Nat) : Tg → Bool
  | .nm i => own.contains i
  | .tp ts => tgsIn own ts
  | _ => false
def tgsIn (own : List Nat) : Tgs → Bool
  | .nil => true
  | .cons t r => tgIn own t && tgsIn own r
def chkIt (c : Ck) : Ix → Expr → Bool
  | .vl e, x => chkE c e x
  | .rng1 e, x => match x with
    | .Call (.Name n _) [y] [] _ => decide (n = "range") && c.glob n && c.nm.blts.contains n && chkE c e y
    | _ => false
  | .rng2 a b, x => match x with
    | .Call (.Name n _) [y, z] [] _ => decide (n = "range") && c.glob n && c.nm.blts.contains n && chkE c a y && chkE c b z
    | _ => false
  | .enum e, x => match x with
    | .Call (.Name n _) [y] [] _ => decide (n = "enumerate") && c.glob n && c.nm.blts.contains n && chkE c e y
    | _ => false
  | .zip2 a b, x => match x with
    | .Call (.Name n _) [y, z] [] _ => decide (n = "zip") && c.glob n && c.nm.blts.contains n && chkE c a y && chkE c b z
    | _ => false
  | .zipS a b, x => match x with
    | .Call (.Name n _) [y, z] [⟨some s, .Constant (.bool true) _ _, _⟩] _ => decide (n = "zip") && decide (s = "strict") && c.glob n && c.nm.blts.contains n && chkE c a y && chkE c b z
    | _ => false
  | .items e, x => match x with
    | .Call (.Attribute y n p) [] [] q => decide (n = "items") && chkE c e y && (p.endLine == q.line)
    | _ => false
  | .vals e, x => match x with
    | .Call (.Attribute y n p) [] [] q => decide (n = "values") && chkE c e y && (p.endLine == q.line)
    | _ => false
end

def aopOf : BOp → Bool
  | .add => true | .sub => true | _ => false
def isLc : Ex → Bool
  | .lc _ _ _ _ _ => true | _ => false

mutual
def chkS (c : Ck) : St → Stmt → Bool
  | .pass, s => match s with
    | .Pass _ => true
    | .Expr (.Constant (.str _) _ _) _ => true
    | _ => false
  | .brk, s => match s with
    | .Break _ => true
    | _ => false
  | .cont, s => match s with
    | .Continue _ => true
    | _ => false
  | .expr e, s => match s with
    | .Expr x _ => chkE c e x && noComp x
    | _ => false
  | .ret e, s => match s with
    | .Return x _ => chkEo c e x
    | _ => false
  | .asg t e, s => match s with
    | .Assign [x] y _ => match t with
      | .tp ts => match e with
        | .tup es => chkPar c ts es x y
        | _ => chkTg c t x && chkE c e y && !isTupX y
      | .nm _ => chkTg c t x && chkE c e y && (noComp y || isLc e)
      | _ => chkTg c t x && chkE c e y
    | _ => false
  | .augn i o e, s => match s with
    | .AugAssign (.Name x _) p y _ => decide (c.N[i]? = some x) && c.loc x && decide (p = bopOf o) && aopOf o && chkE c e y
    | _ => false
  | .augf a f o e, s => match s with
    | .AugAssign (.Attribute x n _) p y _ => decide (c.nm.attrs[f]? = some n) && decide (p = bopOf o) && aopOf o && chkE c a x && chkE c e y
    | _ => false
  | .ifs t a b, s => match s with
    | .If x y z _ => chkE c t x && chkSs c a y && chkSs c b z
    | _ => false
  | .whl t b, s => match s with
    | .While x y [] _ => chkE c t x && chkSs c b y
    | _ => false
  | .for_ t it b, s => match s with
    | .For x y z [] _ => chkTg c t x && itTg it x && chkIt c it y && chkSs c b z
    | _ => false
  | .raise k f e, s => match s with
    | .Raise (some (.Call (.Name x _) [y] [] _)) none _ => decide (c.nm.excN[k]? = some (x, f)) && c.glob x && chkE c e y
    | _ => false
  | .tryK b bs n k, s => match s with
    | .Try body [.ExceptHandler (some (.Name x _)) (some m) [.Assign [.Name kn _] (.Name m2 _) _] _] [] [] _ => c.top && c.glob x && c.nm.exm.contains (x, bs) && decide (m2 = m) && decide (c.N[n]? = some m) && decide (c.N[k]? = some kn) && decide (n ≠ k) && decide (c.sc.names.lookup m = some .local) && decide (c.sc.names.lookup kn = some .local) && c.vis m && chkSs c b body
    | _ => false
  | .never, _ => true
def chkSs (c : Ck) : Sts → List Stmt → Bool
  | .nil, s => match s with
    | [] => true
    | _ => false
  | .cons s r, ss => match ss with
    | x :: xs => chkS c s x && chkSs c r xs
    | [] => false
/-- a, b = x, y: two local names of one line -/
def chkPar (c : Ck) : Tgs → Exs → Expr → Expr → Bool
  | .cons (.nm i) (.cons (.nm j) .nil), .cons a (.cons b .nil), e, e' => match e, e' with
    | .Tuple [.Name x p, .Name y q] _ _, .Tuple [va, vb] _ _ => decide (i ≠ j) && decide (x ≠ y) && decide (c.N[i]? = some x) && decide (c.N[j]? = some y) && decide (c.sc.names.lookup x = some .local) && decide (c.sc.names.lookup y = some .local) && (q.line == p.line) &&
      chkE c a va && chkE c b vb && !([va, vb].all (foldedForSure 8)) && !([va, vb].all (constantsAlone 8))
    | _, _ => false
  | _, _, _, _ => false
end

def fnScopeB (N : List Str) (np : Nat) (sc : Scope) : Bool :=
  (match sc.kind with | .function => true | _ => false) && !sc.isCoroutine && !sc.isGenerator && decide N.Nodup && decide (np ≤ N.length) &&
    ((N.take np).all fun x => match sc.names.lookup x with | some .local => true | some .cell => true | _ => false) && (sc.names.all fun y => match y.2 with | .free => false | _ => true)
theorem fnScope_by {N : List Str} {np : Nat} {sc : Scope} (h : fnScopeB N np sc = true) : FnScope N (N.take np) sc := by
  unfold fnScopeB at h
  simp only [Bool.and_eq_true, List.all_eq_true, decide_eq_true_eq, Bool.not_eq_true'] at h
  obtain ⟨⟨⟨⟨⟨⟨h1, h2⟩, h3⟩, h4⟩, h5⟩, h6⟩, h7⟩ := h
  refine ⟨?_, h2, h3, h4, ?_, fun x hx => ?_, fun y hy e => ?_⟩
  · split at h1
    · assumption
    · cases h1
  · rw [List.length_take, Nat.min_eq_left h5]
  · have q := h6 x hx
    split at q <;> first | exact .inl (by assumption) | exact .inr (by assumption) | cases q
  · have q := h7 y hy
    rw [e] at q
    cases q
end MI
/-! MI, part 5: readings that say «the small language's run says so»; operations by values. -/
namespace MI
open PySem L2

def KQ (K : PySem.W.Frag) (L : Lay) (ρ : List Addr) (H : Hp) (Q : VK) : QD := fun d hp' => ∀ ρ' H' v, Ext ρ H ρ' H' → RelH K L ρ' hp' H' → RD K L ρ' H' d v → Q v H'
def KQs (K : PySem.W.Frag) (L : Lay) (ρ : List Addr) (H : Hp) (Q : List V → Hp → Prop) : List D → Hq → Prop := fun ds hp' => ∀ ρ' H' vs, Ext ρ H ρ' H' → RelH K L ρ' hp' H' → RDs K L ρ' H' ds vs → Q vs H'
/-- an exception of class c, its dict at place i -/
def KX (K : PySem.W.Frag) (L : Lay) (ρ : List Addr) (H : Hp) (σ : L2.St) (W : WX) : QX := fun c i hp' => ∀ ρ' H' a C, Ext ρ H ρ' H' → RelH K L ρ' hp' H' → ρ'[i]? = some a → L.exs[c]? = some C → W (.ref C) (some a) σ H'
section
variable {K : PySem.W.Frag} {L : Lay} {ρ ρ' : List Addr} {H H' : Hp} {hp hp' : Hq}
theorem KQ.here {Q : VK} {d : D} {v : V} (k : KQ K L ρ H Q d hp) (r : RelH K L ρ hp H) (q : RD K L ρ H d v) : Q v H := k ρ H v (Ext.refl _ _) r q
theorem KQ.ext {Q : VK} {d : D} (k : KQ K L ρ H Q d hp) (e : Ext ρ H ρ' H') : KQ K L ρ' H' Q d hp := fun ρ2 H2 v e2 r q => k ρ2 H2 v (e.trans e2) r q
theorem KX.ext {σ : L2.St} {W : WX} {c i : Nat} (k : KX K L ρ H σ W c i hp) (e : Ext ρ H ρ' H') : KX K L ρ' H' σ W c i hp := fun ρ2 H2 a C e2 r q z => k ρ2 H2 a C (e.trans e2) r q z
/-- a new thing handed on -/
theorem KQ.new {Q : VK} {o : O} {u : HO} (k : KQ K L ρ H Q (.ref hp.length) (hp ++ [o])) (r : RelH K L ρ hp H) (q : RHO K L ρ H o u) : ∀ p, H p = none → Q (.ref p) (upd H p u) := fun p hn => by
  obtain ⟨r2, e2⟩ := r.push hn q
  refine k _ _ _ e2 r2 (.ref ?_)
  rw [← r.len, List.getElem?_append_right (Nat.le_refl _)]
  simp
/-- a new tuple handed on -/
theorem KQ.tup {Q : VK} {ds : List D} {vs : List V} (k : KQ K L ρ H Q (.tup ds) hp) (r : RelH K L ρ hp H) (q : RDs K L ρ H ds vs) : ∀ p, H p = none → Q (.ref p) (upd H p (.tup vs)) := fun p hn => by
  obtain ⟨r2, e2⟩ := r.tmp (u := .tup vs) hn
  exact k _ _ _ e2 r2 (.tup (.of upd_same) (q.mono e2))
theorem RelH.lst {i : Nat} {a : Addr} {xs : List D} (r : RelH K L ρ hp H) (ha : ρ[i]? = some a) (h : gtL hp i = some xs) : ∃ vs, H a = some (.lst vs) ∧ RDs K L ρ H xs vs := by
  obtain ⟨o, u, h1, h2, h3⟩ := r.at2 ha
  unfold gtL at h
  rw [h1] at h
  cases h3 with
  | lst t => cases h; exact ⟨_, h2, t⟩
  | _ => cases h
theorem RelH.dic {i : Nat} {a : Addr} {xs : List (Key × D)} (r : RelH K L ρ hp H) (ha : ρ[i]? = some a) (h : gtD hp i = some xs) : ∃ vs, H a = some (.dK vs) ∧ RKs K L ρ H xs vs := by
  obtain ⟨o, u, h1, h2, h3⟩ := r.at2 ha
  unfold gtD at h
  rw [h1] at h
  cases h3 with
  | dic t => cases h; exact ⟨_, h2, t⟩
  | _ => cases h
theorem RelH.rdic {i : Nat} {a : Addr} {xs : List (Key × D)} (r : RelH K L ρ hp H) (ha : ρ[i]? = some a) (h : rdD hp i = some xs) : ∃ vs, Rd H a (.dK vs) ∧ RKs K L ρ H xs vs := by
  obtain ⟨o, u, h1, h2, h3⟩ := r.at2 ha
  unfold rdD at h
  rw [h1] at h
  cases h3 with
  | dic t => cases h; exact ⟨_, .inl h2, t⟩
  | fdic t => cases h; exact ⟨_, .inr ⟨_, h2⟩, t⟩
  | _ => cases h
theorem RelH.ins {i : Nat} {a : Addr} {c : Nat} {fs : List (Nat × D)} (r : RelH K L ρ hp H) (ha : ρ[i]? = some a) (h : gtI hp i = some (c, fs)) : ∃ C dx vs, L.clss[c]? = some C ∧ H a = some (.ins C dx vs) ∧ RFs K L ρ H fs vs := by
  obtain ⟨o, u, h1, h2, h3⟩ := r.at2 ha
  unfold gtI at h
  rw [h1] at h
  cases h3 with
  | ins hc t => cases h; exact ⟨_, _, _, hc, h2, t⟩
  | _ => cases h
theorem RKs.get {kvs : List (Key × D)} {vs : List (Key × V)} (h : RKs K L ρ H kvs vs) (k : Key) : (dget kvs k = none ∧ valV vs k = none) ∨ ∃ d v, dget kvs k = some d ∧ valV vs k = some v ∧ RD K L ρ H d v := by
  unfold RKs at h
  induction h with
  | nil => exact .inl ⟨rfl, rfl⟩
  | @cons p q l m r t ih =>
    obtain ⟨k', d⟩ := p
    obtain ⟨k2, v⟩ := q
    obtain ⟨e, r⟩ := r
    have e : k' = k2 := e
    subst e
    by_cases hk : k' = k
    · refine .inr ⟨d, v, ?_, valV_pos hk, r⟩
      show (if k' = k then some d else dget l k) = some d
      rw [if_pos hk]
    · have e1 : dget ((k', d) :: l) k = dget l k := by
        show (if k' = k then some d else dget l k) = _
        rw [if_neg hk]
      have e2 : valV ((k', v) :: m) k = valV m k := valV_neg hk
      rw [e1, e2]
      exact ih
theorem RKs.any {kvs : List (Key × D)} {vs : List (Key × V)} (h : RKs K L ρ H kvs vs) (k : Key) : (kvs.any fun kv => decide (kv.1 = k)) = (vs.any fun kv => decide (kv.1 = k)) := by
  unfold RKs at h
  induction h with
  | nil => rfl
  | cons r t ih => rw [List.any_cons, List.any_cons, r.1, ih]
theorem RKs.len {kvs : List (Key × D)} {vs : List (Key × V)} (h : RKs K L ρ H kvs vs) : kvs.length = vs.length := Paired.length h
theorem Paired.app' {α β : Type} {F : α → β → Prop} : ∀ {l₁ m₁ : List α} {l₂ m₂ : List β}, Paired F l₁ l₂ → Paired F m₁ m₂ → Paired F (l₁ ++ m₁) (l₂ ++ m₂)
  | _, _, _, _, .nil, s => s
  | _, _, _, _, .cons r t, s => .cons r (Paired.app' t s)
theorem RKs.map {kvs : List (Key × D)} {vs : List (Key × V)} {d : D} {v : V} (h : RKs K L ρ H kvs vs) (k : Key) (r : RD K L ρ H d v) : RKs K L ρ H (kvs.map fun kv => if kv.1 = k then (kv.1, d) else kv) (vs.map fun kv => if kv.1 = k then (kv.1, v) else kv) := by
  unfold RKs at h ⊢
  induction h with
  | nil => exact .nil
  | @cons p q l m r' t ih =>
    rw [List.map_cons, List.map_cons]
    refine .cons ?_ ih
    rw [r'.1]
    by_cases e : q.1 = k
    · rw [if_pos e, if_pos e]; exact ⟨rfl, r⟩
    · rw [if_neg e, if_neg e]; exact r'
theorem RKs.put {kvs : List (Key × D)} {vs : List (Key × V)} {d : D} {v : V} (h : RKs K L ρ H kvs vs) (k : Key) (r : RD K L ρ H d v) : RKs K L ρ H (dput kvs k d) (putK vs k v) := by
  unfold dput putK
  rw [h.any k]
  split
  · exact RKs.map h k r
  · exact Paired.app' h (.cons ⟨rfl, r⟩ .nil)
theorem RKs.drop {kvs : List (Key × D)} {vs : List (Key × V)} (h : RKs K L ρ H kvs vs) (k : Key) : RKs K L ρ H (ddrop kvs k) (dropK vs k) := by
  unfold ddrop dropK
  unfold RKs at h ⊢
  induction h with
  | nil => exact .nil
  | @cons p q l m r t ih =>
    rw [List.filter_cons, List.filter_cons, r.1]
    split
    · exact .cons r ih
    · exact ih
theorem RFs.get {fs : List (Nat × D)} {vs : List (Str × V)} (nd : L.attrs.Nodup) (h : RFs K L ρ H fs vs) {f : Nat} {n : Str} (hn : L.attrs[f]? = some n) :
    (fget fs f = none ∧ vs.lookup n = none) ∨ ∃ d v, fget fs f = some d ∧ vs.lookup n = some v ∧ RD K L ρ H d v := by
  unfold RFs at h
  induction h with
  | nil => exact .inl ⟨rfl, rfl⟩
  | @cons p q l m r t ih =>
    obtain ⟨g, d⟩ := p
    obtain ⟨x, v⟩ := q
    obtain ⟨e, r⟩ := r
    have e : L.attrs[g]? = some x := e
    by_cases hk : g = f
    · subst hk
      rw [e] at hn
      cases hn
      refine .inr ⟨d, v, ?_, ?_, r⟩
      · show (if g = g then some d else fget l g) = some d
        rw [if_pos rfl]
      · simp [List.lookup]
    · have hx : ¬ n = x := fun z => hk (nodup_at nd e (by rw [hn, z]))
      have e1 : fget ((g, d) :: l) f = fget l f := by
        show (if g = f then some d else fget l f) = _
        rw [if_neg hk]
      have e2 : ((x, v) :: m).lookup n = m.lookup n := by
        show (match n == x with | true => some v | false => m.lookup n) = _
        rw [show (n == x) = false from beq_eq_false_iff_ne.mpr hx]
      rw [e1, e2]
      exact ih
theorem RFs.put {fs : List (Nat × D)} {vs : List (Str × V)} {d : D} {v : V} (nd : L.attrs.Nodup) (h : RFs K L ρ H fs vs) {f : Nat} {n : Str} (hn : L.attrs[f]? = some n) (r : RD K L ρ H d v) :
    RFs K L ρ H (fput fs f d) (putF n v vs) := by
  unfold RFs at h ⊢
  induction h with
  | nil => exact .cons ⟨hn, r⟩ .nil
  | @cons p q l m r' t ih =>
    obtain ⟨g, e⟩ := p
    obtain ⟨x, w⟩ := q
    obtain ⟨hx, r2⟩ := r'
    have hx : L.attrs[g]? = some x := hx
    show Paired _ (if g = f then (g, d) :: l else (g, e) :: fput l f d) (if x = n then (x, v) :: m else (x, w) :: putF n v m)
    by_cases hk : g = f
    · subst hk
      rw [hx] at hn
      cases hn
      rw [if_pos rfl, if_pos rfl]
      exact .cons ⟨hx, r⟩ t
    · have hne : ¬ x = n := fun z => hk (nodup_at nd hx (by rw [hn, z]))
      rw [if_neg hk, if_neg hne]
      exact .cons ⟨hx, r2⟩ ih
theorem RFs.len {fs : List (Nat × D)} {vs : List (Str × V)} (h : RFs K L ρ H fs vs) : fs.length = vs.length := Paired.length h
/-- a value that is a list to be read -/
theorem RD.lsq {d : D} {v : V} {xs : List D} (r : RelH K L ρ hp H) (q : RD K L ρ H d v) (h : lsOf hp d = some xs) : ∃ a vs, v = .ref a ∧ SqL K H a vs ∧ RDs K L ρ H xs vs := by
  cases q with
  | @kl a ys ds hs t => cases h; exact ⟨a, ys, rfl, hs.sq, t⟩
  | @ref i a hs =>
    obtain ⟨vs, h1, h2⟩ := r.lst hs h
    exact ⟨a, vs, rfl, .of h1, h2⟩
  | _ => cases h
theorem RD.sq {d : D} {v : V} {xs : List D} (r : RelH K L ρ hp H) (q : RD K L ρ H d v) (h : sqOf hp d = some xs) : ∃ a vs, v = .ref a ∧ (SqL K H a vs ∨ SqT K H a vs) ∧ RDs K L ρ H xs vs := by
  cases q with
  | @tup a ys ds hs t => cases h; exact ⟨a, ys, rfl, .inr hs, t⟩
  | @kl a ys ds hs t => cases h; exact ⟨a, ys, rfl, .inl hs.sq, t⟩
  | @ref i a hs =>
    obtain ⟨vs, h1, h2⟩ := r.lst hs h
    exact ⟨a, vs, rfl, .inl (.of h1), h2⟩
  | _ => cases h
theorem intsOf_map : ∀ {xs : List D} {vs : List V} {ns : List Int}, RDs K L ρ H xs vs → intsOf xs = some ns → vs = ns.map V.int
  | [], _, ns, .nil, h => by cases h; rfl
  | d :: ds, _, ns, .cons r t, h => by
    cases d with
    | int i =>
      cases r
      unfold intsOf at h
      cases e : intsOf ds with
      | none => rw [e] at h; cases h
      | some ms =>
        rw [e] at h
        cases h
        rw [intsOf_map t e, List.map_cons]
    | _ => cases h
theorem boolsOf_map : ∀ {xs : List D} {vs : List V} {ns : List Bool}, RDs K L ρ H xs vs → boolsOf xs = some ns → vs = ns.map V.bl
  | [], _, ns, .nil, h => by cases h; rfl
  | d :: ds, _, ns, .cons r t, h => by
    cases d with
    | bl i =>
      cases r
      unfold boolsOf at h
      cases e : boolsOf ds with
      | none => rw [e] at h; cases h
      | some ms =>
        rw [e] at h
        cases h
        rw [boolsOf_map t e, List.map_cons]
    | _ => cases h
theorem kOf_kV {d : D} {v : V} {k : Key} (q : RD K L ρ H d v) (h : kOf d = some k) : v = kV k := by
  cases q <;> cases h <;> rfl
theorem keyD_kV (k : Key) : RD K L ρ H (keyD k) (kV k) := by
  cases k with
  | inl i => exact .int i
  | inr x => exact .str x
theorem atI_rd {xs : List D} {vs : List V} {i : Int} {d : D} (t : RDs K L ρ H xs vs) (h : atI xs i = some d) : ∃ v, atI vs i = some v ∧ RD K L ρ H d v := by
  unfold atI at h ⊢
  rw [← t.len]
  cases e : ixN xs.length i with
  | none => rw [e] at h; cases h
  | some j =>
    rw [e] at h
    exact t.get h
theorem cut_rd {xs : List D} {vs : List V} (t : RDs K L ρ H xs vs) (lo hi : Option Int) : RDs K L ρ H (cutD xs lo hi) (cutV vs lo hi) := by
  unfold cutD cutV
  rw [← t.len]
  exact (t.drop _).take _
end

/-! ### rules by values -/
def rMI (K : PySem.W.Frag) (L : Lay) (o : D → D → Hq → OutD) : R2 := fun x y H Q => ∃ ρ hp d e, RelH K L ρ hp H ∧ RD K L ρ H d x ∧ RD K L ρ H e y ∧ (o d e hp).app (KQ K L ρ H Q)
section
variable {X : Cx} {L : Lay}
theorem sz_line : SZ = sizeLine := sizeLine_eq.symm
theorem mi_bin (o : BOp) : OpR X (binaryOp (bopOf o)) (rMI X.K L (oBin o)) := by
  intro pins s σ H x y v u Q I rx ry h
  obtain ⟨ρ, hp, d, e, r, q1, q2, h⟩ := h
  cases o with
  | add =>
    cases d <;> cases e <;> first | exact False.elim h | skip
    · cases q1; cases q2
      exact op_add pins s σ H _ _ v u Q I rx ry ⟨_, _, rfl, rfl, h.here r (.int _)⟩
    · cases q1; cases q2
      exact op_add_str pins s σ H _ _ v u Q I rx ry ⟨_, _, rfl, rfl, by rw [← sz_line]; exact h.1, h.2.here r (.str _)⟩
    · rename_i xs ys
      cases q1 with
      | @tup a vs _ ha ta =>
        cases q2 with
        | @tup b us _ hb tb =>
          refine op_catA pins s σ H _ _ v u Q I rx ry ⟨a, b, vs, us, rfl, rfl, ha, hb, ?_, ?_, ?_, ?_⟩
          · rw [← sz_line, ← ta.len, ← tb.len]; exact h.1
          · intro e
            subst e
            cases ta
            exact h.2.here r (.tup hb tb)
          · intro _ e
            subst e
            cases tb
            have h2 := h.2
            rw [List.append_nil] at h2
            exact h2.here r (.tup ha ta)
          · intro _ _
            exact h.2.tup r (ta.app tb)
    · rename_i i j
      cases q1 with
      | ref ha =>
        cases q2 with
        | ref hb =>
          have h : (match gtL hp i, gtL hp j with
            | some xs, some ys => OutD.cd (xs.length + ys.length ≤ SZ) (.ref hp.length) (hp ++ [O.lst (xs ++ ys)])
            | _, _ => .no).app (KQ X.K L ρ H Q) := h
          cases e1 : gtL hp i with
          | none => rw [e1] at h; exact False.elim h
          | some xs =>
            cases e2 : gtL hp j with
            | none => rw [e1, e2] at h; exact False.elim h
            | some ys =>
              rw [e1, e2] at h
              obtain ⟨vs, g1, t1⟩ := r.lst ha e1
              obtain ⟨us, g2, t2⟩ := r.lst hb e2
              refine op_cat pins s σ H _ _ v u Q I rx ry ⟨_, _, vs, us, rfl, rfl, g1, g2, ?_, ?_⟩
              · rw [← sz_line, ← t1.len, ← t2.len]; exact h.1
              · exact h.2.new r (.lst (t1.app t2))
  | sub =>
    cases d <;> cases e <;> first | exact False.elim h | skip
    cases q1; cases q2
    exact op_sub pins s σ H _ _ v u Q I rx ry ⟨_, _, rfl, rfl, h.here r (.int _)⟩
  | mul =>
    cases d <;> cases e <;> first | exact False.elim h | skip
    · cases q1; cases q2
      exact op_mul pins s σ H _ _ v u Q I rx ry ⟨_, _, rfl, rfl, h.1, h.2.here r (.int _)⟩
    · cases q1; cases q2
      obtain ⟨t1, rfl⟩ := rx
      obtain ⟨t2, rfl⟩ := ry
      exact PySem.SB.mul h.1 fun t' k => ⟨.str _, H, I.tok _, ⟨t', rfl⟩, h.2.here r (.str _)⟩
    · cases q2
      cases q1 with
      | @tup a vs _ ha ta =>
        obtain ⟨⟨c0, c1, c2, c3⟩, h⟩ := h
        refine op_repT pins s σ H _ _ v u Q I rx ry ⟨a, _, vs, rfl, rfl, ha, ?_, c1, c2, by rw [← ta.len]; exact c3, fun p hp => h.tup r (ta.rep _) p hp⟩
        intro z
        subst z
        cases ta
        exact c0 rfl
    · rename_i i k
      cases q2
      cases q1 with
      | ref ha =>
        have h : (match gtL hp i with
          | some xs => OutD.cd (-(2 ^ 63) ≤ k ∧ k < 2 ^ 63 ∧ xs.length * k.toNat ≤ SZ) (.ref hp.length) (hp ++ [O.lst (List.replicate k.toNat xs).flatten])
          | none => .no).app (KQ X.K L ρ H Q) := h
        cases e1 : gtL hp i with
        | none => rw [e1] at h; exact False.elim h
        | some xs =>
          rw [e1] at h
          obtain ⟨vs, g1, t1⟩ := r.lst ha e1
          obtain ⟨⟨c1, c2, c3⟩, h⟩ := h
          refine op_rep pins s σ H _ _ v u Q I rx ry ⟨_, _, vs, rfl, rfl, g1, c1, c2, ?_, ?_⟩
          · rw [← sz_line, ← t1.len]; exact c3
          · exact h.new r (.lst (t1.rep _))
  | fdiv =>
    cases d <;> cases e <;> first | exact False.elim h | skip
    cases q1; cases q2
    exact op_fdiv pins s σ H _ _ v u Q I rx ry ⟨_, _, rfl, rfl, h.1, h.2.here r (.int _)⟩
  | mod =>
    cases d <;> cases e <;> first | exact False.elim h | skip
    cases q1; cases q2
    exact op_mod pins s σ H _ _ v u Q I rx ry ⟨_, _, rfl, rfl, h.1, h.2.here r (.int _)⟩
  | pow =>
    cases d <;> cases e <;> first | exact False.elim h | skip
    cases q1; cases q2
    exact op_pow pins s σ H _ _ v u Q I rx ry ⟨_, _, rfl, rfl, h.1, h.2.here r (.int _)⟩
end
end MI
/-! MI, part 6: comparisons, truth, items, slices, built-in functions and methods, by values. -/
namespace MI
open PySem PySem.Spec PyProof.Rows L2
section
variable {X : Cx} {L : Lay} {ρ : List Addr} {hp : Hq} {H : Hp}

theorem flD_eq {K : PySem.W.Frag} {d : D} {x y : V} (q1 : RD K L ρ H d x) (q2 : RD K L ρ H d y) (h : flD d = true) : y = x ∧ flatB x = true := by
  cases q1 <;> first | (cases h; done) | skip
  all_goals
    cases q2
    exact ⟨rfl, rfl⟩
theorem rks_of {K : PySem.W.Frag} : ∀ {ks : List (Key × D)} {vs : List (Key × V)}, RKs K L ρ H ks vs → ∀ q ∈ vs, ∃ p ∈ ks, p.1 = q.1 ∧ RD K L ρ H p.2 q.2
  | _, _, .nil, q, h => by cases h
  | _, _, .cons (a := p) r t, q, h => by
    rcases List.mem_cons.mp h with e | e
    · subst e; exact ⟨p, List.mem_cons_self, r⟩
    · obtain ⟨p', h1, h2⟩ := rks_of t q e
      exact ⟨p', List.mem_cons_of_mem _ h1, h2⟩
theorem eq_dic {K : PySem.W.Frag} {ks ls : List (Key × D)} {vs us : List (Key × V)} (t1 : RKs K L ρ H ks vs) (t2 : RKs K L ρ H ls us) (h : ks.length = ls.length ∧ ∀ p ∈ ks, dget ls p.1 = some p.2 ∧ flD p.2 = true) :
    vs.length = us.length ∧ ∀ p ∈ vs, valV us p.1 = some p.2 ∧ flatB p.2 = true := by
  refine ⟨by rw [← t1.len, ← t2.len]; exact h.1, fun q hq => ?_⟩
  obtain ⟨p, hp, e, r⟩ := rks_of t1 q hq
  obtain ⟨g1, g2⟩ := h.2 p hp
  rcases t2.get p.1 with ⟨z, _⟩ | ⟨d, v, z1, z2, z3⟩
  · rw [z] at g1; cases g1
  · rw [z1] at g1
    cases g1
    obtain ⟨e1, e2⟩ := flD_eq r z3 g2
    rw [← e, z2, e1]
    exact ⟨rfl, e2⟩
/-! ### written dicts -/
theorem KdE.lit {pr : Params} {es : List DictEntry} {ks : List Str} {vs : List V} (h : KdE pr es ks vs) : PySem.W.KeysLit pr es := by
  induction h with
  | nil => trivial
  | cons a b _ _ ih =>
    obtain ⟨t, a⟩ := a
    exact ⟨⟨_, t, a, b⟩, ih⟩
theorem KdE.noref {pr : Params} {es : List DictEntry} {ks : List Str} {vs : List V} (h : KdE pr es ks vs) : es.any (·.refKey) = false := by
  induction h with
  | nil => rfl
  | cons a _ _ _ ih =>
    obtain ⟨t, a⟩ := a
    rw [List.any_cons, ih, Bool.or_false]
    unfold DictEntry.refKey
    rw [a]
theorem KdE.find {K : PySem.W.Frag} {pr : Params} {es : List DictEntry} {ks : List Str} {vs : List V} {ds : List D} (h : KdE pr es ks vs) (t : RDs K L ρ H ds vs) (z : Str) :
    (kget ks ds z = none ∧ es.find? (·.key.isStr z) = none) ∨ ∃ d v e, kget ks ds z = some d ∧ es.find? (·.key.isStr z) = some e ∧ RelV v e.val ∧ RD K L ρ H d v := by
  induction h generalizing ds with
  | nil => cases t; exact .inl ⟨rfl, rfl⟩
  | @cons e es k ks v vs a b c _ ih =>
    cases t with
    | @cons d _ ds _ q t =>
      obtain ⟨tk, a⟩ := a
      have e1 : e.key.isStr z = decide (k = z) := by
        rw [a]
        show decide _ = _
        by_cases hz : k = z <;> simp [hz]
      by_cases hz : k = z
      · refine .inr ⟨d, v, e, ?_, ?_, c, q⟩
        · unfold kget
          rw [if_pos hz]
        · rw [List.find?_cons, e1, decide_eq_true hz]
      · have e2 : kget (k :: ks) (d :: ds) z = kget ks ds z := by
          show (if k = z then some d else kget ks ds z) = _
          rw [if_neg hz]
        rw [e2, List.find?_cons, e1, decide_eq_false hz]
        exact ih t
theorem kd_at {K : PySem.W.Frag} {w : World} {a : Addr} {ks : List Str} {ds : List D} {vs : List V} (hp : L.pr = w.params) (h : KdL K L.pr a ks vs) (t : RDs K L ρ H ds vs) : ∃ es n, KDict K w a es n ∧
    ∀ z, (kget ks ds z = none ∧ PySem.W.nsIn K a z = some none) ∨ ∃ d v u, kget ks ds z = some d ∧ PySem.W.nsIn K a z = some (some u) ∧ RelV v u ∧ RD K L ρ H d v := by
  obtain ⟨low, es, n, l, k⟩ := h
  rw [hp] at k
  refine ⟨es, n, ⟨l, k.lit, low⟩, fun z => ?_⟩
  rcases k.find t z with ⟨g1, g2⟩ | ⟨d, v, e, g1, g2, g3, g4⟩
  · refine .inl ⟨g1, ?_⟩
    unfold PySem.W.nsIn
    rw [l]
    dsimp only
    rw [g2, k.noref]
    rfl
  · refine .inr ⟨d, v, e.val, g1, ?_, g3, g4⟩
    unfold PySem.W.nsIn
    rw [l]
    dsimp only
    rw [g2]
theorem eq_cases {K : PySem.W.Frag} {d e : D} {x y : V} {k : Bool → Prop} (r : RelH K L ρ hp H) (q1 : RD K L ρ H d x) (q2 : RD K L ρ H e y) (h : (oEq d e hp).app k) :
    (scal x y = true ∧ k (decide (x = y))) ∨ (∃ a b vs us, x = .ref a ∧ y = .ref b ∧ H a = some (.dK vs) ∧ H b = some (.dK us) ∧ vs.length = us.length ∧ (∀ p ∈ vs, valV us p.1 = some p.2 ∧ flatB p.2 = true) ∧ k true) ∨ (∃ a b, Dp K H x a ∧ Dp K H y b ∧ SeqAt.shaped a = true ∧ SeqAt.shaped b = true ∧ k (PyData.eqv a b)) ∨ ∃ a b vs, x = .ref a ∧ y = .ref b ∧ ((SqT K H a vs ∧ SqT K H b []) ∨ (SqL K H a vs ∧ SqL K H b [])) ∧ k vs.isEmpty := by
  unfold oEq at h
  split at h
  · cases q1; cases q2
    refine .inl ⟨rfl, ?_⟩
    have : ∀ i j : Int, decide (V.int i = V.int j) = decide (i = j) := fun i j => by simp
    rw [this]; exact h
  · cases q1; cases q2
    refine .inl ⟨rfl, ?_⟩
    have : ∀ i j : Str, decide (V.str i = V.str j) = decide (i = j) := fun i j => by simp
    rw [this]; exact h
  · cases q1; cases q2
    refine .inl ⟨rfl, ?_⟩
    have : ∀ i j : Bool, decide (V.bl i = V.bl j) = decide (i = j) := fun i j => by simp
    rw [this]; exact h
  · cases q1; cases q2
    exact .inl ⟨rfl, h⟩
  · right
    have emp : (oEq0 d e hp).app k → ∃ a b vs, x = .ref a ∧ y = .ref b ∧ ((SqT K H a vs ∧ SqT K H b []) ∨ (SqL K H a vs ∧ SqL K H b [])) ∧ k vs.isEmpty := by
      intro h
      unfold oEq0 at h
      split at h
      · rename_i xs
        cases q1 with
        | @tup a vs _ ha ta =>
          cases q2 with
          | @tup b us _ hb tb =>
            cases tb
            refine ⟨a, b, vs, rfl, rfl, .inl ⟨ha, hb⟩, ?_⟩
            cases ta <;> exact h
      · rename_i i j
        cases q1 with
        | ref ha =>
          cases q2 with
          | ref hb =>
            split at h
            · rename_i xs z1 z2
              obtain ⟨vs, g1, t1⟩ := r.lst ha z1
              obtain ⟨us, g2, t2⟩ := r.lst hb z2
              cases t2
              refine ⟨_, _, vs, rfl, rfl, .inr ⟨.of g1, .of g2⟩, ?_⟩
              cases t1 <;> exact h
            · exact False.elim h
      · exact False.elim h
    have plain : (oEqP d e hp).app k → (∃ a b, Dp K H x a ∧ Dp K H y b ∧ SeqAt.shaped a = true ∧ SeqAt.shaped b = true ∧ k (PyData.eqv a b)) ∨ ∃ a b vs, x = .ref a ∧ y = .ref b ∧ ((SqT K H a vs ∧ SqT K H b []) ∨ (SqL K H a vs ∧ SqL K H b [])) ∧ k vs.isEmpty := by
      intro h
      unfold oEqP at h
      have rest : ((match toP 40 hp d, toP 40 hp e with
        | some a, some b => OutB.cd (SeqAt.shaped a = true ∧ SeqAt.shaped b = true) (PyData.eqv a b)
        | _, _ => .no).app k) → (∃ a b, Dp K H x a ∧ Dp K H y b ∧ SeqAt.shaped a = true ∧ SeqAt.shaped b = true ∧ k (PyData.eqv a b)) := by
        intro h
        cases e1 : toP 40 hp d with
        | none => rw [e1] at h; exact False.elim h
        | some a =>
          cases e2 : toP 40 hp e with
          | none => rw [e1, e2] at h; exact False.elim h
          | some b =>
            rw [e1, e2] at h
            exact ⟨a, b, toP_dp r 40 d x a q1 e1, toP_dp r 40 e y b q2 e2, h.1.1, h.1.2, h.2⟩
      cases e0 : oEq0 d e hp with
      | ok b => rw [e0] at h; exact .inr (emp (by rw [e0]; exact h))
      | cd C b => rw [e0] at h; exact .inl (rest h)
      | no => rw [e0] at h; exact .inl (rest h)
    unfold oEqG at h
    split at h
    · split at h
      · rename_i ks ls z1 z2
        left
        cases q1 with
        | ref h1 =>
          cases q2 with
          | ref h2 =>
            obtain ⟨vs, g1, t1⟩ := r.dic h1 z1
            obtain ⟨us, g2, t2⟩ := r.dic h2 z2
            obtain ⟨c1, c2⟩ := eq_dic t1 t2 h.1
            exact ⟨_, _, vs, us, rfl, rfl, g1, g2, c1, c2, h.2⟩
      · exact .inr (plain h)
    · exact .inr (plain h)

theorem isNon_rd {K : PySem.W.Frag} {d : D} {x : V} (q : RD K L ρ H d x) : isNon d = decide (x = .non) := by
  cases q <;> rfl

theorem op_inT (hu : X.A.units + 65 < cLine) : OpR X (compareOp .In) (fun x y H Q => ∃ d ds, Dp X.K H x d ∧ Dp X.K H y (.tuple ds) ∧ SeqAt.shaped d = true ∧ SeqAt.shaped (.list ds) = true ∧ Q (.bl (ds.any fun z => PyData.eqv z d)) H) := by
  intro pins s σ H x y v u Q I rx ry h
  obtain ⟨d, ds, hd, he, sd, se, q⟩ := h
  obtain ⟨as, r1⟩ := Dp.reads I d x v hd rx
  obtain ⟨bs, r2⟩ := Dp.reads I (.tuple ds) y u he ry
  exact SeqAt.in_tuple_reads r2 r1 (SeqAt.canLay_of_shaped se) (SeqAt.canLay_of_shaped sd) (room_in_shaped sd hu) ⟨.bl _, H, I, rfl, q⟩
theorem op_notInT (hu : X.A.units + 65 < cLine) : OpR X (compareOp .NotIn) (fun x y H Q => ∃ d ds, Dp X.K H x d ∧ Dp X.K H y (.tuple ds) ∧ SeqAt.shaped d = true ∧ SeqAt.shaped (.list ds) = true ∧ Q (.bl (!ds.any fun z => PyData.eqv z d)) H) := by
  intro pins s σ H x y v u Q I rx ry h
  obtain ⟨d, ds, hd, he, sd, se, q⟩ := h
  obtain ⟨as, r1⟩ := Dp.reads I d x v hd rx
  obtain ⟨bs, r2⟩ := Dp.reads I (.tuple ds) y u he ry
  exact SeqAt.notIn_tuple_reads r2 r1 (SeqAt.canLay_of_shaped se) (SeqAt.canLay_of_shaped sd) (room_in_shaped sd hu) ⟨.bl _, H, I, rfl, q⟩

theorem in_cases {K : PySem.W.Frag} {d e : D} {x y : V} {k : Bool → Prop} (r : RelH K L ρ hp H) (q1 : RD K L ρ H d x) (q2 : RD K L ρ H e y) (h : (oIn d e hp).app k) :
    (∃ a o, y = .ref a ∧ DGet H a x o ∧ k o.isSome) ∨ (∃ a b, Dp K H x a ∧ Dp K H y (.list b) ∧ SeqAt.shaped a = true ∧ SeqAt.shaped (.list b) = true ∧ k (b.any fun z => PyData.eqv z a)) ∨
      (∃ a b, Dp K H x a ∧ Dp K H y (.tuple b) ∧ SeqAt.shaped a = true ∧ SeqAt.shaped (.list b) = true ∧ k (b.any fun z => PyData.eqv z a)) ∨
      (∃ z s, x = .str z ∧ y = .str s ∧ k (inTx z s)) ∨ ∃ z a ks ds vs, x = .str z ∧ y = .ref a ∧ KdL K L.pr a ks vs ∧ RDs K L ρ H ds vs ∧ k (kget ks ds z).isSome := by
  have seq : ∀ ys : List D, (oInS d ys hp).app k → ∃ a b, toP 40 hp d = some a ∧ mapO (toP 40 hp) ys = some b ∧ SeqAt.shaped a = true ∧ SeqAt.shaped (.list b) = true ∧ k (b.any fun z => PyData.eqv z a) := fun ys h => by
    unfold oInS at h
    cases e1 : toP 40 hp d with
    | none => rw [e1] at h; exact False.elim h
    | some a =>
      cases e2 : mapO (toP 40 hp) ys with
      | none => rw [e1, e2] at h; exact False.elim h
      | some b =>
        rw [e1, e2] at h
        exact ⟨a, b, rfl, rfl, h.1.1, h.1.2, h.2⟩
  have dic : ∀ (a : Addr) (kvs : List (Key × D)) (vs : List (Key × V)), y = .ref a → Rd H a (.dK vs) → RKs K L ρ H kvs vs → (oInD d kvs).app k → ∃ a o, y = .ref a ∧ DGet H a x o ∧ k o.isSome := fun a kvs vs ey hr hk h => by
    unfold oInD at h
    cases e1 : kOf d with
    | none => rw [e1] at h; exact False.elim h
    | some key =>
      rw [e1] at h
      have ex := kOf_kV q1 e1
      refine ⟨a, valV vs key, ey, .inl ⟨vs, key, hr, ex, rfl⟩, ?_⟩
      rcases hk.get key with ⟨g1, g2⟩ | ⟨d', v', g1, g2, _⟩
      · have h : k (dget kvs key).isSome := h
        rw [g1] at h
        rw [g2]; exact h
      · have h : k (dget kvs key).isSome := h
        rw [g1] at h
        rw [g2]; exact h
  cases q2 with
  | @tup a vs ys hs t =>
    right; right; left
    obtain ⟨a', b, e1, e2, s1, s2, h⟩ := seq ys h
    exact ⟨a', b, toP_dp r 40 d x a' q1 e1, .tup hs (toPs_dp r 40 ys vs b t e2), s1, s2, h⟩
  | @kl a vs ys hs t =>
    right; left
    obtain ⟨a', b, e1, e2, s1, s2, h⟩ := seq ys h
    exact ⟨a', b, toP_dp r 40 d x a' q1 e1, .lst hs.sq (toPs_dp r 40 ys vs b t e2), s1, s2, h⟩
  | @ref i a hs =>
    obtain ⟨o, u, g1, g2, g3⟩ := r.at2 hs
    have h : (match hp[i]? with
      | some (.dic kvs) => oInD d kvs
      | some (.fdic kvs) => oInD d kvs
      | some (.lst ys) => oInS d ys hp
      | _ => .no).app k := h
    rw [g1] at h
    cases g3 with
    | @lst ys vs t =>
      right; left
      obtain ⟨a', b, e1, e2, s1, s2, h⟩ := seq ys h
      exact ⟨a', b, toP_dp r 40 d x a' q1 e1, .lst (.of g2) (toPs_dp r 40 ys vs b t e2), s1, s2, h⟩
    | dic t => exact .inl (dic a _ _ rfl (.inl g2) t h)
    | fdic t => exact .inl (dic a _ _ rfl (.inr ⟨_, g2⟩) t h)
    | _ => exact False.elim h
  | str s =>
    cases q1 <;> first | exact False.elim h | skip
    exact .inr (.inr (.inr (.inl ⟨_, _, rfl, rfl, h⟩)))
  | kd hk t =>
    cases q1 <;> first | exact False.elim h | skip
    exact .inr (.inr (.inr (.inr ⟨_, _, _, _, _, rfl, rfl, hk, t, h⟩)))
  | _ => exact False.elim h

/-- against an empty one -/
theorem op_eq0 (hu : X.A.units < cLine) : OpR X (compareOp .Eq) (fun x y H Q => ∃ a b vs, x = .ref a ∧ y = .ref b ∧ ((SqT X.K H a vs ∧ SqT X.K H b []) ∨ (SqL X.K H a vs ∧ SqL X.K H b [])) ∧ Q (.bl vs.isEmpty) H) := by
  intro pins s σ H x y v u Q I rx ry h
  obtain ⟨a, b, vs, rfl, rfl, h, q⟩ := h
  cases rx
  cases ry
  rcases h with ⟨h1, h2⟩ | ⟨h1, h2⟩
  · obtain ⟨its, r1, p1, _⟩ := I.tuple h1
    obtain ⟨its2, r2, p2, _⟩ := I.tuple h2
    cases r2
    have e : ((List.range (min its.toArray.size ([] : List Value).toArray.size)).all (fun _ => true) && its.toArray.size == ([] : List Value).toArray.size) = vs.isEmpty := by
      have := r1.length
      cases r1 <;> simp
    have := SeqAt.eq_tupleAt (prog := X.prog) (w := X.w) (E := X.xe) (Q := EP X pins σ Q) (e := fun _ => true) (show s.heap.IsTuple a its.toArray from p1) (show s.heap.IsTuple b ([] : List Value).toArray from p2) hu (fun j _ h => absurd h (by simp)) (by rw [e]; exact ⟨.bl _, H, I, rfl, q⟩)
    exact this
  · obtain ⟨its, r1, p1, _⟩ := I.list h1
    obtain ⟨its2, r2, p2, _⟩ := I.list h2
    cases r2
    cases r1 with
    | nil => exact SeqAt.eq_listAt (e := fun _ => true) p1.isList p2.isList rfl hu (fun j _ h => absurd h (by simp)) ⟨.bl _, H, I, rfl, q⟩
    | cons _ _ => exact SeqAt.eq_list_lengthsAt p1.isList p2.isList (by simp) hu ⟨.bl _, H, I, rfl, q⟩
theorem op_ne0 (hu : X.A.units < cLine) : OpR X (compareOp .NotEq) (fun x y H Q => ∃ a b vs, x = .ref a ∧ y = .ref b ∧ ((SqT X.K H a vs ∧ SqT X.K H b []) ∨ (SqL X.K H a vs ∧ SqL X.K H b [])) ∧ Q (.bl (!vs.isEmpty)) H) := by
  intro pins s σ H x y v u Q I rx ry h
  obtain ⟨a, b, vs, rfl, rfl, h, q⟩ := h
  cases rx
  cases ry
  rcases h with ⟨h1, h2⟩ | ⟨h1, h2⟩
  · obtain ⟨its, r1, p1, _⟩ := I.tuple h1
    obtain ⟨its2, r2, p2, _⟩ := I.tuple h2
    cases r2
    have e : (!((List.range (min its.toArray.size ([] : List Value).toArray.size)).all (fun _ => true) && its.toArray.size == ([] : List Value).toArray.size)) = !vs.isEmpty := by
      cases r1 <;> simp
    have := SeqAt.RcNeAt.tuples (A := X.A) (e := fun _ => true) (show s.heap.IsTuple a its.toArray from p1) (show s.heap.IsTuple b ([] : List Value).toArray from p2) hu (fun j _ h => absurd h (by simp)) X.prog X.w X.xe (EP X pins σ Q) (by rw [e]; exact ⟨.bl _, H, I, rfl, q⟩)
    exact this
  · obtain ⟨its, r1, p1, _⟩ := I.list h1
    obtain ⟨its2, r2, p2, _⟩ := I.list h2
    cases r2
    cases r1 with
    | nil => exact SeqAt.RcNeAt.lists (A := X.A) (e := fun _ => true) p1.isList p2.isList rfl hu (fun j _ h => absurd h (by simp)) X.prog X.w X.xe (EP X pins σ Q) ⟨.bl _, H, I, rfl, q⟩
    | cons _ _ => exact SeqAt.RcNeAt.lists_lengths (A := X.A) p1.isList p2.isList (by simp) hu X.prog X.w X.xe (EP X pins σ Q) ⟨.bl _, H, I, rfl, q⟩
theorem val_app {o : OutB} {neg : Bool} {Q : QD} (h : (o.val neg hp).app Q) : o.app fun b => Q (.bl (if neg then !b else b)) hp := by
  cases o with
  | no => exact h
  | ok b => exact h
  | cd C b => exact h
theorem mi_cmp (hu : X.A.units + 65 < cLine ∧ L.pr = X.w.params) (o : COp) : OpR X (compareOp (copOf o)) (rMI X.K L (oCmp o)) := by
  intro pins s σ H x y v u Q I rx ry h
  obtain ⟨ρ, hp, d, e, r, q1, q2, h⟩ := h
  have bl : ∀ b, KQ X.K L ρ H Q (.bl b) hp → Q (.bl b) H := fun b k => k.here r (.bl b)
  obtain ⟨hu, hpr⟩ := hu
  cases o with
  | eq =>
    have h := val_app h
    rcases eq_cases r q1 q2 h with ⟨hs, k⟩ | ⟨a, b, vs, us, e1, e2, g1, g2, c1, c2, k⟩ | ⟨a, b, d1, d2, s1, s2, k⟩ | ⟨a, b, vs, e1, e2, g, k⟩
    · exact op_eq pins s σ H x y v u Q I rx ry ⟨hs, bl _ k⟩
    · exact op_eq_dictA (by omega) pins s σ H x y v u Q I rx ry ⟨a, b, vs, us, e1, e2, g1, g2, c1, c2, bl _ k⟩
    · exact op_eqD (by omega) pins s σ H x y v u Q I rx ry ⟨a, b, d1, d2, s1, s2, bl _ k⟩
    · exact op_eq0 (by omega) pins s σ H x y v u Q I rx ry ⟨a, b, vs, e1, e2, g, bl _ k⟩
  | ne =>
    have h := val_app h
    rcases eq_cases r q1 q2 h with ⟨hs, k⟩ | ⟨a, b, vs, us, e1, e2, g1, g2, c1, c2, k⟩ | ⟨a, b, d1, d2, s1, s2, k⟩ | ⟨a, b, vs, e1, e2, g, k⟩
    · exact op_ne pins s σ H x y v u Q I rx ry ⟨hs, bl _ k⟩
    · exact op_ne_dictA (by omega) pins s σ H x y v u Q I rx ry ⟨a, b, vs, us, e1, e2, g1, g2, c1, c2, bl _ k⟩
    · exact op_neD (by omega) pins s σ H x y v u Q I rx ry ⟨a, b, d1, d2, s1, s2, bl _ k⟩
    · exact op_ne0 (by omega) pins s σ H x y v u Q I rx ry ⟨a, b, vs, e1, e2, g, bl _ k⟩
  | lt =>
    cases d <;> cases e <;> first | exact False.elim h | skip
    cases q1; cases q2
    exact op_lt pins s σ H _ _ v u Q I rx ry ⟨_, _, rfl, rfl, bl _ h⟩
  | le =>
    cases d <;> cases e <;> first | exact False.elim h | skip
    cases q1; cases q2
    exact op_le pins s σ H _ _ v u Q I rx ry ⟨_, _, rfl, rfl, bl _ h⟩
  | gt =>
    cases d <;> cases e <;> first | exact False.elim h | skip
    cases q1; cases q2
    exact op_gt pins s σ H _ _ v u Q I rx ry ⟨_, _, rfl, rfl, bl _ h⟩
  | ge =>
    cases d <;> cases e <;> first | exact False.elim h | skip
    cases q1; cases q2
    exact op_ge pins s σ H _ _ v u Q I rx ry ⟨_, _, rfl, rfl, bl _ h⟩
  | is =>
    cases e <;> first | (exfalso; cases d <;> exact h) | skip
    · cases q2
      have h : KQ X.K L ρ H Q (.bl (isNon d)) hp := by cases d <;> exact h
      rw [isNon_rd q1] at h
      exact op_isN pins s σ H _ _ v u Q I rx ry ⟨rfl, bl _ h⟩
    · cases d <;> first | exact False.elim h | skip
      cases q1; cases q2; cases rx; cases ry
      exact PyProof.Rows.is_bool ⟨.bl _, H, I, rfl, bl _ h⟩
  | nis =>
    cases e <;> first | (exfalso; cases d <;> exact h) | skip
    · cases q2
      have h : KQ X.K L ρ H Q (.bl (!isNon d)) hp := by cases d <;> exact h
      rw [isNon_rd q1] at h
      exact op_notN pins s σ H _ _ v u Q I rx ry ⟨rfl, bl _ h⟩
    · cases d <;> first | exact False.elim h | skip
      cases q1; cases q2; cases rx; cases ry
      exact PyProof.Rows.isnot_bool ⟨.bl _, H, I, rfl, bl _ h⟩
  | isin =>
    have h := val_app h
    rcases in_cases r q1 q2 h with ⟨a, o, ey, g, k⟩ | ⟨a, b, d1, d2, s1, s2, k⟩ | ⟨a, b, d1, d2, s1, s2, k⟩ | ⟨z, s', e1, e2, k⟩ | ⟨z, a, ks, ds, vs, e1, e2, g, t, k⟩
    · subst ey
      cases ry
      exact d_in (by omega) I g rx fun s3 I3 => ⟨.bl o.isSome, H, I3, rfl, bl _ k⟩
    · exact op_inD hu pins s σ H x y v u Q I rx ry ⟨a, b, d1, d2, s1, s2, bl _ k⟩
    · exact op_inT hu pins s σ H x y v u Q I rx ry ⟨a, b, d1, d2, s1, s2, bl _ k⟩
    · subst e1 e2
      obtain ⟨t1, rfl⟩ := rx
      obtain ⟨t2, rfl⟩ := ry
      exact PySem.P.in_str ⟨.bl _, H, I, rfl, bl _ k⟩
    · obtain ⟨es, n, KD, kk⟩ := kd_at hpr g t
      rcases kk z with ⟨z1, z2⟩ | ⟨d', v', u', z1, z2, _, _⟩
      · rw [z1] at k
        exact op_in_kd KD pins s σ H x y v u Q I rx ry ⟨z, none, e1, e2, z2, bl _ k⟩
      · rw [z1] at k
        exact op_in_kd KD pins s σ H x y v u Q I rx ry ⟨z, some u', e1, e2, z2, bl _ k⟩
  | nin =>
    have h := val_app h
    rcases in_cases r q1 q2 h with ⟨a, o, ey, g, k⟩ | ⟨a, b, d1, d2, s1, s2, k⟩ | ⟨a, b, d1, d2, s1, s2, k⟩ | ⟨z, s', e1, e2, k⟩ | ⟨z, a, ks, ds, vs, e1, e2, g, t, k⟩
    · subst ey
      cases ry
      exact d_notIn (by omega) I g rx fun s3 I3 => ⟨.bl (!o.isSome), H, I3, rfl, bl _ k⟩
    · exact op_notInD hu pins s σ H x y v u Q I rx ry ⟨a, b, d1, d2, s1, s2, bl _ k⟩
    · exact op_notInT hu pins s σ H x y v u Q I rx ry ⟨a, b, d1, d2, s1, s2, bl _ k⟩
    · subst e1 e2
      obtain ⟨t1, rfl⟩ := rx
      obtain ⟨t2, rfl⟩ := ry
      exact PySem.P.notIn_str ⟨.bl _, H, I, rfl, bl _ k⟩
    · obtain ⟨es, n, KD, kk⟩ := kd_at hpr g t
      rcases kk z with ⟨z1, z2⟩ | ⟨d', v', u', z1, z2, _, _⟩
      · rw [z1] at k
        exact op_notIn_kd KD pins s σ H x y v u Q I rx ry ⟨z, none, e1, e2, z2, bl _ k⟩
      · rw [z1] at k
        exact op_notIn_kd KD pins s σ H x y v u Q I rx ry ⟨z, some u', e1, e2, z2, bl _ k⟩

/-! ### truth -/
theorem tru_of {K : PySem.W.Frag} {d : D} {x : V} {k : Bool → Prop} (r : RelH K L ρ hp H) (q : RD K L ρ H d x) (h : (oTru d hp).app k) : ∃ b, TruV K x H b ∧ k b := by
  cases q with
  | non => exact ⟨_, rfl, h⟩
  | bl b => exact ⟨_, rfl, h⟩
  | int i => exact ⟨_, rfl, h⟩
  | str y => exact ⟨_, ⟨by rw [← sz_line]; exact h.1, rfl⟩, h.2⟩
  | @tup a xs ds hs t =>
    refine ⟨!xs.isEmpty, .inr (.inl ⟨xs, hs, rfl⟩), ?_⟩
    have h : k (!ds.isEmpty) := h
    cases t <;> exact h
  | @kl a xs ds hs t =>
    refine ⟨!xs.isEmpty, .inl ⟨xs, hs.sq, rfl⟩, ?_⟩
    have h : k (!ds.isEmpty) := h
    cases t <;> exact h
  | @ref i a hs =>
    obtain ⟨o, u, g1, g2, g3⟩ := r.at2 hs
    have h : (match hp[i]? with
      | some (.lst xs) => OutB.ok (!xs.isEmpty)
      | some (.dic kvs) => .ok (!kvs.isEmpty)
      | _ => .no).app k := h
    rw [g1] at h
    cases g3 with
    | @lst xs vs t =>
      refine ⟨!vs.isEmpty, .inl ⟨vs, .of g2, rfl⟩, ?_⟩
      have h : k (!xs.isEmpty) := h
      cases t <;> exact h
    | @dic xs vs t =>
      refine ⟨!vs.isEmpty, .inr (.inr ⟨vs, g2, rfl⟩), ?_⟩
      have h : k (!xs.isEmpty) := h
      unfold RKs at t
      cases t <;> exact h
    | _ => exact False.elim h
  | _ => exact False.elim h

/-! ### items, slices -/
theorem mi_ix (hu : X.A.units + 65 < cLine ∧ L.pr = X.w.params) : IxR X (rMI X.K L oIx) := by
  intro value slice pins s σ H x y v u Q I rx ry h hs
  obtain ⟨ρ, hp, d, e, r, q1, q2, h⟩ := h
  obtain ⟨hu, hpr⟩ := hu
  have item : ∀ (ds : List D) (i : Int) (vs : List V), RDs X.K L ρ H ds vs → (oAtI ds i hp).app (KQ X.K L ρ H Q) → ∃ w, atI vs i = some w ∧ Q w H := fun ds i vs t h => by
    unfold oAtI at h
    cases e1 : atI ds i with
    | none => rw [e1] at h; exact False.elim h
    | some d' =>
      rw [e1] at h
      obtain ⟨w, g1, g2⟩ := atI_rd t e1
      exact ⟨w, g1, KQ.here h r g2⟩
  have dic : ∀ (a : Addr) (kvs : List (Key × D)) (vs : List (Key × V)), x = .ref a → Rd H a (.dK vs) → RKs X.K L ρ H kvs vs → (oAtK kvs e hp).app (KQ X.K L ρ H Q) → wpAny (model X.prog X.w) X.A (subscriptTail value slice v u) (EP X pins σ Q) X.xe s := fun a kvs vs ex hr hk h => by
    unfold oAtK at h
    cases e1 : kOf e with
    | none => rw [e1] at h; exact False.elim h
    | some key =>
      rw [e1] at h
      rcases hk.get key with ⟨g1, g2⟩ | ⟨d', v', g1, g2, g3⟩
      · simp only [g1] at h; exact False.elim h
      · simp only [g1] at h
        have ey := kOf_kV q2 e1
        subst ex
        have rx' : v = Value.ref a := rx
        subst rx'
        have g : DGet H a y (some v') := .inl ⟨vs, key, hr, ey, g2.symm⟩
        obtain ⟨kvs', hd⟩ : ∃ kvs', Rd H a (.dK kvs') := ⟨vs, hr⟩
        obtain ⟨_, hd2, vs', _, dd⟩ := dk_rd I.hok hd
        exact tail_any dd.typeIs PySem.F.slot_dict_getitem.lookup (d_getItem (by omega) I g ry fun w' s' I' rw' => ⟨v', H, I', rw', KQ.here h r g3⟩) hs
  cases q1 with
  | @tup a vs ds hs' t =>
    cases e <;> first | exact False.elim h | skip
    cases q2
    obtain ⟨w, g1, g2⟩ := item ds _ vs t h
    exact ix_tup value slice pins s σ H _ _ v u Q I rx ry ⟨a, vs, _, w, rfl, rfl, hs', g1, g2⟩ hs
  | @kl a vs ds hs' t =>
    cases e <;> first | exact False.elim h | skip
    cases q2
    obtain ⟨w, g1, g2⟩ := item ds _ vs t h
    exact ix_list value slice pins s σ H _ _ v u Q I rx ry ⟨a, vs, _, w, rfl, rfl, hs'.sq, g1, g2⟩ hs
  | @ref i a ha =>
    obtain ⟨o, w, g1, g2, g3⟩ := r.at2 ha
    unfold oIx at h
    simp only [g1] at h
    cases g3 with
    | @lst ds vs t =>
      cases e <;> first | exact False.elim h | skip
      cases q2
      obtain ⟨w, k1, k2⟩ := item ds _ vs t h
      exact ix_list value slice pins s σ H _ _ v u Q I rx ry ⟨a, vs, _, w, rfl, rfl, .of g2, k1, k2⟩ hs
    | dic t => exact dic a _ _ rfl (.inl g2) t h
    | fdic t => exact dic a _ _ rfl (.inr ⟨_, g2⟩) t h
    | _ => exact False.elim h
  | kd g t =>
    cases e <;> first | exact False.elim h | skip
    cases q2
    rename_i z
    obtain ⟨es, n, KD, kk⟩ := kd_at hpr g t
    rcases kk z with ⟨z1, z2⟩ | ⟨d', v', u', z1, z2, z3, z4⟩
    · unfold oIx at h
      simp only [z1] at h
      exact False.elim h
    · unfold oIx at h
      simp only [z1] at h
      exact ix_kdict value slice pins s σ H _ _ v u Q I rx ry ⟨_, z, v', rfl, rfl, ⟨es, n, u', KD.at_, KD.lit, z2, z3⟩, KQ.here h r z4⟩ hs
  | _ => exact False.elim h

def rSlMI (K : PySem.W.Frag) (L : Lay) : V → Option Int → Option Int → Hp → VK → Prop := fun x lo hi H Q => ∃ ρ hp d, RelH K L ρ hp H ∧ RD K L ρ H d x ∧ (oSl d lo hi hp).app (KQ K L ρ H Q)
theorem mi_sl : SlR X (rSlMI X.K L) := by
  intro pins s σ H x v vl vu lo hi sl Q I rx hs pl pu h
  obtain ⟨ρ, hp, d, r, q, h⟩ := h
  unfold oSl at h
  cases q with
  | @tup a vs ds ht t =>
    have h : KQ X.K L ρ H Q (.tup (cutD ds lo hi)) hp := h
    refine sl_tupA pins s σ H _ v vl vu lo hi sl Q I rx hs pl pu ⟨a, vs, rfl, ht, fun hz => ?_, fun _ => h.tup r (cut_rd t lo hi)⟩
    obtain ⟨z1, z2⟩ := hz
    have e : cutD ds lo hi = ds := by
      unfold cutD
      rw [t.len, z1, z2, List.drop_zero, Nat.sub_zero, ← t.len, List.take_length]
    rw [e] at h
    exact h.here r (.tup ht t)
  | @ref i a ha =>
    have h : (match gtL hp i with
      | some xs => oNew hp (.lst (cutD xs lo hi))
      | none => .no).app (KQ X.K L ρ H Q) := h
    cases e1 : gtL hp i with
    | none => rw [e1] at h; exact False.elim h
    | some xs =>
      rw [e1] at h
      obtain ⟨vs, g1, t⟩ := r.lst ha e1
      exact sl_list pins s σ H _ v vl vu lo hi sl Q I rx hs pl pu ⟨a, vs, rfl, .of g1, KQ.new h r (.lst (cut_rd t lo hi))⟩
  | _ => exact False.elim h
end
end MI
set_option maxHeartbeats 2000000
/-! MI: tuple(text). -/
namespace MI
open PySem PySem.Spec L2
section
variable {prog : Program} {w : World} {A : Around} {E : Value → Shared → Prop} {s : Shared}
theorem new_tupS {Q₁ : Value → Shared → Prop} (hh : A.handled = none) (x : Str) (t : Tok) (hn : x.cps.size ≤ 1000)
    (h : ∀ (s' : Shared) (acc : Array Value), (∀ b o, s.heap.get? b = some o → s'.heap.get? b = some o) → s'.gens = s.gens → s'.os = s.os → ItemsOf (SignAt x) acc x.cps.size → Q₁ (.ref s'.heap.objs.size) { s' with heap := s'.heap.push { cls := .type "tuple", data := .seq acc } }) :
    codeAny (model prog w) A (.call (.builtin "tuple.__new__") ⟨[.type "tuple", .str x t], []⟩) (wants Q₁ E) s := by
  refine codeAny_of_tree ?_
  show wpAny _ A.in1 (do checkBuiltinCall "tuple.__new__" ⟨[.type "tuple", .str x t], []⟩; again (.builtin "tuple.__new__" ⟨[.type "tuple", .str x t], []⟩)) _ _ s
  have chk := F.newCall_tuple_1 (.str x t)
  refine wpAny_bind (wpAny_of_eq chk (wpAny_pure ⟨plainId_quiet F.plain_tuple_new _, codeAny_builtin F.entry_tuple_new ?_⟩))
  rw [Around.under_plainId F.plain_tuple_new _]
  have hsub := sub_tuple_self
  have hinit := init_tuple_lookup
  have hmh := madeHere_tuple
  have isS : s.TypeIs (.str x t) "str" := rfl
  have h1 : A.in1.handled = none := hh
  have hz : x.cps.size ≤ sizeLine := by rw [sizeLine_eq]; omega
  wp_walk using wpAny_typeOf isS, wpAny_collect_str (A := A.in1) h1 x t
  intro s' acc hk hg hd ho hi
  show wpAny _ _ (Builtin.Tuple.tupleExact acc.toList.toArray >>= fun v => ret v) _ _ _
  unfold Builtin.Tuple.tupleExact
  have e : acc.toList.toArray = acc := by simp
  rw [e]
  refine wpAny_bind (wpAny_newObj_type ?_ (by show acc.size ≤ sizeLine; rw [hi.1]; exact hz))
  refine wpAny_pure ?_
  exact h s' acc hk hg ho hi
theorem call_tuple_str {x : Str} {t : Tok} {Q : Value → Shared → Prop} (hh : A.handled = none) (hn : x.cps.size ≤ 1000)
    (h : ∀ (s' : Shared) (acc : Array Value), (∀ b o, s.heap.get? b = some o → s'.heap.get? b = some o) → s'.gens = s.gens → s'.os = s.os → ItemsOf (SignAt x) acc x.cps.size → Q (.ref s'.heap.objs.size) { s' with heap := s'.heap.push { cls := .type "tuple", data := .seq acc } }) :
    wpAny (model prog w) A (call (.type "tuple") [.str x t]) Q E s := by
  refine callType_codes (Q₁ := fun obj s₁ => s₁.TypeIs obj "tuple" ∧ Q obj s₁) F.called_tuple (F.typeCall_tuple_1 _) F.entry_object_init
    (new_tupS (A := A.in1) hh x t hn fun s' acc hk hg ho hi => ⟨⟨_, Heap.get?_push_size _ rfl, rfl⟩, h s' acc hk hg ho hi⟩) fun obj s₁ h₁ => ?_
  exact ⟨h₁.1, F.args_object_init_2 obj _, object_init_meets F.called_tuple.init.lookup F.called_tuple.made (by decide) prog w A.in1 _ s₁ ⟨h₁.1, rfl, h₁.2⟩⟩
end
end MI
/-! MI, part 7: built-in functions, methods of built-in types, stores, by values. -/
namespace MI
open PySem PySem.Spec PyProof.Rows L2

def bfV : BF → Value
  | .list1 => .type "list"
  | .tuple1 => .type "tuple"
  | .int1 => .type "int"
  | .dict1 => .type "dict"
  | .dict0 => .type "dict"
  | .str1 => .type "str"
  | .len => .builtin "len"
  | .repr => .builtin "repr"
  | .sum1 => .builtin "sum"
  | .max1 => .builtin "max"
  | .min1 => .builtin "min"
  | .max2 => .builtin "max"
  | .min2 => .builtin "min"
  | .sorted1 => .builtin "sorted"
  | .all1 => .builtin "all"
  | .any1 => .builtin "any"
  | .isi => .builtin "isinstance"
def rBF (K : PySem.W.Frag) (L : Lay) (b : BF) : List V → Hp → VK → Prop := fun vs H Q => ∃ ρ hp ds, RelH K L ρ hp H ∧ RDs K L ρ H ds vs ∧ (oBF b ds hp).app (KQ K L ρ H Q)

theorem iins_perm (i : Int) : ∀ l : List Int, (iins i l).Perm (i :: l)
  | [] => .refl _
  | j :: r => by
    unfold iins
    split
    · exact .refl _
    · exact ((iins_perm i r).cons j).trans (.swap i j r)
theorem isort_perm : ∀ l : List Int, (isort l).Perm l
  | [] => .refl _
  | i :: r => (iins_perm i (isort r)).trans ((isort_perm r).cons i)
theorem iins_pw (i : Int) : ∀ l : List Int, l.Pairwise (· ≤ ·) → (iins i l).Pairwise (· ≤ ·)
  | [], _ => by unfold iins; simp
  | j :: r, h => by
    have h' := List.pairwise_cons.mp h
    unfold iins
    split
    · rename_i q
      refine List.pairwise_cons.mpr ⟨fun x hx => ?_, h⟩
      rcases List.mem_cons.mp hx with z | z
      · rw [z]; exact q
      · exact Int.le_trans q (h'.1 x z)
    · rename_i q
      refine List.pairwise_cons.mpr ⟨fun x hx => ?_, iins_pw i r h'.2⟩
      rcases List.mem_cons.mp ((iins_perm i r).subset hx) with z | z
      · rw [z]; omega
      · exact h'.1 x z
theorem isort_pw : ∀ l : List Int, (isort l).Pairwise (· ≤ ·)
  | [] => List.Pairwise.nil
  | i :: r => iins_pw i _ (isort_pw r)
theorem pw_uniq : ∀ {a b : List Int}, a.Perm b → a.Pairwise (· ≤ ·) → b.Pairwise (· ≤ ·) → a = b
  | [], b, p, _, _ => (List.nil_perm.mp p).symm
  | x :: a, [], p, _, _ => by cases List.perm_nil.mp p
  | x :: a, y :: b, p, ha, hb => by
    have ha' := List.pairwise_cons.mp ha
    have hb' := List.pairwise_cons.mp hb
    have e : x = y := by
      have h1 : y ≤ x := by
        rcases List.mem_cons.mp (p.subset (List.mem_cons_self (a := x) (l := a))) with z | z
        · rw [z]; exact Int.le_refl _
        · exact hb'.1 x z
      have h2 : x ≤ y := by
        rcases List.mem_cons.mp (p.symm.subset (List.mem_cons_self (a := y) (l := b))) with z | z
        · rw [z]; exact Int.le_refl _
        · exact ha'.1 y z
      exact Int.le_antisymm h2 h1
    subst e
    rw [pw_uniq (List.Perm.cons_inv p) ha'.2 hb'.2]
theorem isort_uniq {a b : List Int} (p : a.Perm b) (h : a.Pairwise (· ≤ ·)) : a = isort b := pw_uniq (p.trans (isort_perm b).symm) h (isort_pw b)
theorem RDs.ints {K : PySem.W.Frag} {L : Lay} {ρ : List Addr} {H : Hp} : ∀ ns : List Int, RDs K L ρ H (ns.map D.int) (ns.map V.int)
  | [] => .nil
  | n :: r => .cons (.int n) (RDs.ints r)
theorem keysI_map {K : PySem.W.Frag} {L : Lay} {ρ : List Addr} {H : Hp} : ∀ {kvs : List (Key × D)} {vs : List (Key × V)} {ns : List Int}, RKs K L ρ H kvs vs → keysI kvs = some ns → vs.map (·.1) = ns.map Sum.inl
  | [], _, ns, .nil, h => by cases h; rfl
  | (k, d) :: kvs, _, ns, .cons (b := q) r t, h => by
    obtain ⟨e, _⟩ := r
    cases k with
    | inr x => cases h
    | inl i =>
      have h : (match keysI kvs with | some ns => some (i :: ns) | none => none) = some ns := h
      cases z : keysI kvs with
      | none => rw [z] at h; cases h
      | some ms =>
        rw [z] at h
        cases h
        rw [List.map_cons, List.map_cons, keysI_map t z]
        have e : Sum.inl i = q.1 := e
        rw [← e]
theorem merge_rks {K : PySem.W.Frag} {L : Lay} {ρ : List Addr} {H : Hp} : ∀ {kvs : List (Key × D)} {vs : List (Key × V)} {acc : List (Key × D)} {acv : List (Key × V)}, RKs K L ρ H kvs vs → RKs K L ρ H acc acv → RKs K L ρ H (kvs.foldl (fun acc kv => dput acc kv.1 kv.2) acc) (mergeK acv vs)
  | [], _, acc, acv, .nil, ra => ra
  | p :: kvs, _, acc, acv, .cons (b := q) r t, ra => by
    obtain ⟨e, r⟩ := r
    show RKs K L ρ H (kvs.foldl _ (dput acc p.1 p.2)) (mergeK (putK acv q.1 q.2) _)
    refine merge_rks t ?_
    rw [← e]
    exact ra.put p.1 r
theorem prs_rd {K : PySem.W.Frag} {L : Lay} {ρ : List Addr} {H : Hp} : ∀ {xs : List D} {vs : List V} {kvs : List (Key × D)}, RDs K L ρ H xs vs → prsOf xs = some kvs → ∃ (ps : List Addr) (kvs' : List (Key × V)), vs = ps.map V.ref ∧ Paired (fun p kv => SqT K H p [kV kv.1, kv.2]) ps kvs' ∧ RKs K L ρ H kvs kvs'
  | [], _, kvs, .nil, h => by
    cases h
    exact ⟨[], [], rfl, .nil, .nil⟩
  | d :: xs, _, kvs, .cons r t, h => by
    unfold prsOf at h
    split at h
    · rename_i z
      cases z
    · rename_i k v r' heq
      cases heq
      cases e : kOf k with
      | none => simp only [e] at h; cases h
      | some key =>
        cases e2 : prsOf xs with
        | none => simp only [e, e2] at h; cases h
        | some kvs0 =>
          simp only [e, e2] at h
          cases h
          obtain ⟨ps, kvs', h1, h2, h3⟩ := prs_rd t e2
          cases r with
          | @tup a us _ hs tt =>
            cases tt with
            | cons r1 tt =>
              cases tt with
              | cons r2 tt =>
                cases tt
                have ek := kOf_kV r1 e
                subst ek
                exact ⟨a :: ps, (key, _) :: kvs', by rw [h1]; rfl, .cons hs h2, .cons ⟨rfl, r2⟩ h3⟩
    · cases h
theorem imax_spec : ∀ (ns : List Int) (m : Int), (imax m ns = m ∨ imax m ns ∈ ns) ∧ m ≤ imax m ns ∧ ∀ y ∈ ns, y ≤ imax m ns
  | [], m => ⟨.inl rfl, Int.le_refl _, fun y h => by cases h⟩
  | n :: r, m => by
    have ih := imax_spec r (if n > m then n else m)
    show (imax (if n > m then n else m) r = m ∨ imax (if n > m then n else m) r ∈ n :: r) ∧ m ≤ imax (if n > m then n else m) r ∧ ∀ y ∈ n :: r, y ≤ imax (if n > m then n else m) r
    obtain ⟨h1, h2, h3⟩ := ih
    refine ⟨?_, ?_, fun y hy => ?_⟩
    · rcases h1 with h1 | h1
      · by_cases h : n > m
        · rw [if_pos h] at h1 ⊢; right; rw [h1]; exact List.mem_cons_self
        · rw [if_neg h] at h1 ⊢; left; exact h1
      · right; exact List.mem_cons_of_mem _ h1
    · split at h2 <;> split <;> omega
    · rcases List.mem_cons.mp hy with e | e
      · subst e; split at h2 <;> split <;> omega
      · exact h3 y e
theorem imin_spec : ∀ (ns : List Int) (m : Int), (imin m ns = m ∨ imin m ns ∈ ns) ∧ imin m ns ≤ m ∧ ∀ y ∈ ns, imin m ns ≤ y
  | [], m => ⟨.inl rfl, Int.le_refl _, fun y h => by cases h⟩
  | n :: r, m => by
    have ih := imin_spec r (if n < m then n else m)
    show (imin (if n < m then n else m) r = m ∨ imin (if n < m then n else m) r ∈ n :: r) ∧ imin (if n < m then n else m) r ≤ m ∧ ∀ y ∈ n :: r, imin (if n < m then n else m) r ≤ y
    obtain ⟨h1, h2, h3⟩ := ih
    refine ⟨?_, ?_, fun y hy => ?_⟩
    · rcases h1 with h1 | h1
      · by_cases h : n < m
        · rw [if_pos h] at h1 ⊢; right; rw [h1]; exact List.mem_cons_self
        · rw [if_neg h] at h1 ⊢; left; exact h1
      · right; exact List.mem_cons_of_mem _ h1
    · split at h2 <;> split <;> omega
    · rcases List.mem_cons.mp hy with e | e
      · subst e; split at h2 <;> split <;> omega
      · exact h3 y e

section
variable {X : Cx} {L : Lay}
theorem repr_any (hg : X.A.guards = some []) (hu : X.A.units + 200 < cLine) : CallR X (.builtin "repr") (fun vs H Q => ∃ x a, vs = [x] ∧ Dp X.K H x a ∧ SeqAt.shaped a = true ∧ a.showable = true ∧ a.shown.length ≤ sizeLine ∧ Q (.str a.shown) H) := by
  intro pins s σ H xs us Q I rv h
  obtain ⟨x, a, rfl, hd, hs, hw, hz, q⟩ := h
  obtain ⟨u, rfl, rx⟩ := vals1 rv
  have fin : ∀ (h' : Heap) (t tk : Nat), (∀ b o, s.heap.get? b = some o → h'.get? b = some o) → EP X pins σ Q (.str a.shown t) { s with heap := h', toks := tk } := fun h' t tk k => ⟨.str a.shown, H, I.kept k, ⟨t, rfl⟩, q⟩
  have hdep : a.depth ≤ 64 := by
    unfold SeqAt.shaped at hs
    simp only [Bool.and_eq_true, decide_eq_true_eq] at hs
    exact hs.2
  have hnd : a.hasDict = false := PyData.hasDict_of_canLay a (SeqAt.canLay_of_shaped hs)
  have refs : ∀ (p : Addr), u = .ref p → wpAny (model X.prog X.w) X.A (call (.builtin "repr") [u]) (EP X pins σ Q) X.xe s := fun p e => by
    obtain ⟨as, r1⟩ := Dp.reads I a x u hd rx
    subst e
    exact repr_of_reads' r1 hw (PyData.noDict_hsm hnd) hg (by omega) (fun _ _ e => e) (fun h' t tk k => fin h' t tk k) hz
  cases hd with
  | non =>
    cases rx
    refine PySem.P.repr_of_none ?_
    have := fin s.heap s.toks (s.toks + 1) (fun _ _ e => e)
    rw [PyData.shown_none] at this
    exact this
  | bl b =>
    cases rx
    refine PySem.P.repr_of_bool ?_
    have := fin s.heap s.toks (s.toks + 1) (fun _ _ e => e)
    rw [PyData.shown_bool] at this
    exact this
  | int i =>
    obtain ⟨t, rfl⟩ := rx
    refine PySem.P.repr_of_int (by simpa [PyData.showable] using hw) ?_
    have := fin s.heap s.toks (s.toks + 1) (fun _ _ e => e)
    rw [PyData.shown_int] at this
    exact this
  | str z =>
    obtain ⟨t, rfl⟩ := rx
    refine PySem.P.repr_of_str ?_ (by rw [PyData.shown_str] at hz; exact hz)
    have := fin s.heap s.toks (s.toks + 1) (fun _ _ e => e)
    rw [PyData.shown_str] at this
    exact this
  | lst _ _ => cases rx; exact refs _ rfl
  | tup _ _ => cases rx; exact refs _ rfl

/-! data for repr: empty dicts too -/
mutual
inductive Dr (K : PySem.W.Frag) (H : Hp) : V → PyData → Prop
  | non : Dr K H .non .none
  | bl (b : Bool) : Dr K H (.bl b) (.bool b)
  | int (i : Int) : Dr K H (.int i) (.int i)
  | str (x : Str) : Dr K H (.str x) (.str x)
  | dic {p : Addr} : H p = some (.dK []) → Dr K H (.ref p) (.dict [])
  | tup {a : Addr} {xs : List V} {ds : List PyData} : SqT K H a xs → DrAll K H xs ds → Dr K H (.ref a) (.tuple ds)
inductive DrAll (K : PySem.W.Frag) (H : Hp) : List V → List PyData → Prop
  | nil : DrAll K H [] []
  | cons {v : V} {vs : List V} {d : PyData} {ds : List PyData} : Dr K H v d → DrAll K H vs ds → DrAll K H (v :: vs) (d :: ds)
end
mutual
theorem Dr.reads {pins : List (Addr × Obj)} {σ : L2.St} {H : Hp} {s : Shared} (I : Inv X pins σ H s) : ∀ (d : PyData) (v : V) (u : Value), Dr X.K H v d → RelV v u → ∃ as, Reads s.heap u d as ∧ sysModules ∉ as
  | .none, _, _, h, r => by
    cases h; cases r
    exact ⟨_, .none, nofun⟩
  | .bool b, _, _, h, r => by
    cases h; cases r
    exact ⟨_, .bool _, nofun⟩
  | .int i, _, _, h, r => by
    cases h
    obtain ⟨t, rfl⟩ := r
    exact ⟨_, .int _ _, nofun⟩
  | .str x, _, _, h, r => by
    cases h
    obtain ⟨t, rfl⟩ := r
    exact ⟨_, .str _ _, nofun⟩
  | .list _, _, _, h, _ => by cases h
  | .dict kvs, _, _, h, r => by
    cases h with
    | @dic p h =>
      cases r
      obtain ⟨_, z, vs, rel, o, es, ep, e1, e2, e3, _, e5, _⟩ := (show ObjOk X.prog X.w H s.heap p (.dK []) from I.hok p _ h)
      cases rel
      have e6 : es.toList = [] := by
        cases q : es.toList with
        | nil => rfl
        | cons x l => rw [q] at e5; cases e5
      refine ⟨_, Reads.dict (kvs := []) e1 e2.1 e3 (by rw [e6]; exact .nil) (by rw [e6]; exact .nil), fun hm => ?_⟩
      have : sysModules = p := by simpa using hm
      rw [← this] at z
      simp at z
  | .tuple ds, _, _, h, r => by
    cases h with
    | tup hs t =>
      cases r
      obtain ⟨its, rv, ⟨o, ho, hc, n, hd⟩, _⟩ := I.tuple hs
      obtain ⟨as, q, nq⟩ := DrAll.reads I ds _ its t rv
      exact ⟨_, Reads.tuple ho hc hd q, nq⟩
theorem DrAll.reads {pins : List (Addr × Obj)} {σ : L2.St} {H : Hp} {s : Shared} (I : Inv X pins σ H s) : ∀ (ds : List PyData) (vs : List V) (us : List Value), DrAll X.K H vs ds → Vals vs us → ∃ as, ReadsAll s.heap us ds as ∧ sysModules ∉ as
  | [], _, _, h, r => by
    cases h; cases r
    exact ⟨_, .nil, nofun⟩
  | d :: ds, _, _, h, r => by
    cases h with
    | cons h t =>
      cases r with
      | cons r rs =>
        obtain ⟨as, q1, n1⟩ := Dr.reads I d _ _ h r
        obtain ⟨bs, q2, n2⟩ := DrAll.reads I ds _ _ t rs
        refine ⟨_, .cons q1 q2, fun hm => ?_⟩
        rcases List.mem_append.mp hm with hm | hm
        · exact n1 hm
        · exact n2 hm
end
theorem repr_dr (hg : X.A.guards = some []) (hu : X.A.units + 200 < cLine) : CallR X (.builtin "repr") (fun vs H Q => ∃ x a, vs = [x] ∧ Dr X.K H x a ∧ a.depth ≤ 64 ∧ a.showable = true ∧ a.shown.length ≤ sizeLine ∧ Q (.str a.shown) H) := by
  intro pins s σ H xs us Q I rv h
  obtain ⟨x, a, rfl, hd, hdep, hw, hz, q⟩ := h
  obtain ⟨u, rfl, rx⟩ := vals1 rv
  have fin : ∀ (h' : Heap) (t tk : Nat), (∀ b o, s.heap.get? b = some o → h'.get? b = some o) → EP X pins σ Q (.str a.shown t) { s with heap := h', toks := tk } := fun h' t tk k => ⟨.str a.shown, H, I.kept k, ⟨t, rfl⟩, q⟩
  have refs : ∀ (p : Addr), u = .ref p → wpAny (model X.prog X.w) X.A (call (.builtin "repr") [u]) (EP X pins σ Q) X.xe s := fun p e => by
    obtain ⟨as, r1, ns⟩ := Dr.reads I a x u hd rx
    subst e
    exact repr_of_reads' r1 hw (fun _ => ns) hg (by omega) (fun _ _ e => e) (fun h' t tk k => fin h' t tk k) hz
  cases hd with
  | non =>
    cases rx
    refine PySem.P.repr_of_none ?_
    have := fin s.heap s.toks (s.toks + 1) (fun _ _ e => e)
    rw [PyData.shown_none] at this
    exact this
  | bl b =>
    cases rx
    refine PySem.P.repr_of_bool ?_
    have := fin s.heap s.toks (s.toks + 1) (fun _ _ e => e)
    rw [PyData.shown_bool] at this
    exact this
  | int i =>
    obtain ⟨t, rfl⟩ := rx
    refine PySem.P.repr_of_int (by simpa [PyData.showable] using hw) ?_
    have := fin s.heap s.toks (s.toks + 1) (fun _ _ e => e)
    rw [PyData.shown_int] at this
    exact this
  | str z =>
    obtain ⟨t, rfl⟩ := rx
    refine PySem.P.repr_of_str ?_ (by rw [PyData.shown_str] at hz; exact hz)
    have := fin s.heap s.toks (s.toks + 1) (fun _ _ e => e)
    rw [PyData.shown_str] at this
    exact this
  | dic _ => cases rx; exact refs _ rfl
  | tup _ _ => cases rx; exact refs _ rfl
section
variable {ρ : List Addr} {hp : Hq} {H : Hp} {K : PySem.W.Frag}
mutual
theorem toR_dr (r : RelH K L ρ hp H) : ∀ (n : Nat) (d : D) (v : V) (a : PyData), RD K L ρ H d v → toR n hp d = some a → Dr K H v a
  | 0, _, _, _, _, h => by cases h
  | n + 1, d, v, a, q, h => by
    cases q with
    | non => cases h; exact .non
    | bl b => cases h; exact .bl b
    | int i => cases h; exact .int i
    | str x => cases h; exact .str x
    | @tup p xs ds hs t =>
      have h' : (mapO (toR n hp) ds).map .tuple = some a := h
      cases e : mapO (toR n hp) ds with
      | none => rw [e] at h'; cases h'
      | some as =>
        rw [e] at h'
        cases h'
        exact .tup hs (toRs_dr r n ds xs as t e)
    | @ref i p hs =>
      have h' : (match hp[i]? with | some (.dic []) => some (PyData.dict []) | _ => none) = some a := h
      obtain ⟨o, u, h1, h2, h3⟩ := r.at2 hs
      rw [h1] at h'
      cases h3 with
      | dic t =>
        cases t with
        | nil => cases h'; exact .dic h2
        | cons _ _ => cases h'
      | _ => cases h'
    | _ => cases h
theorem toRs_dr (r : RelH K L ρ hp H) : ∀ (n : Nat) (ds : List D) (vs : List V) (as : List PyData), RDs K L ρ H ds vs → mapO (toR n hp) ds = some as → DrAll K H vs as
  | n, [], _, as, .nil, h => by cases h; exact .nil
  | n, d :: ds, _, as, .cons q t, h => by
    unfold mapO at h
    cases e : toR n hp d with
    | none => rw [e] at h; cases h
    | some y =>
      rw [e] at h
      cases e2 : mapO (toR n hp) ds with
      | none => simp only [e2] at h; cases h
      | some ys =>
        simp only [e2] at h
        cases h
        exact .cons (toR_dr r n d _ y q e) (toRs_dr r n ds _ ys t e2)
end
end

theorem kit_all : ∀ a ∈ "NoneType" :: tyAll, ∀ b ∈ tyAll, kitB a b = some (isiB a b) := by decide +kernel
theorem ty_of {ρ : List Addr} {hp : Hq} {H : Hp} {d : D} {v : V} {a : String} (r : RelH X.K L ρ hp H) (q : RD X.K L ρ H d v) (h : tyOf hp d = some a) : TyX X.K H v (.type a) ∧ a ∈ "NoneType" :: tyAll := by
  cases q with
  | non => cases h; exact ⟨.base .non, by decide +kernel⟩
  | bl b => cases h; exact ⟨.base (.bl b), by decide +kernel⟩
  | int i => cases h; exact ⟨.base (.int i), by decide +kernel⟩
  | str x => cases h; exact ⟨.base (.str x), by decide +kernel⟩
  | tup hs t =>
    cases h
    refine ⟨?_, by decide +kernel⟩
    rcases hs with (e | ⟨o, e⟩) | ⟨o, its, n, e, c, _⟩
    · exact .base (.tup e)
    · exact .fTuple e
    · exact .kTuple e c
  | kl hs t =>
    cases h
    refine ⟨?_, by decide +kernel⟩
    rcases hs with ⟨o, e⟩ | ⟨o, its, n, e, c, _⟩
    · exact .base (.frz e)
    · exact .kList e c
  | @ref i p hs =>
    obtain ⟨o, u, g1, g2, g3⟩ := r.at2 hs
    unfold tyOf at h
    simp only [g1] at h
    cases g3 with
    | lst t => cases h; exact ⟨.base (.lst g2), by decide +kernel⟩
    | dic t => cases h; exact ⟨.base (.dK g2), by decide +kernel⟩
    | fdic t => cases h; exact ⟨.fDict g2, by decide +kernel⟩
    | _ => cases h
  | _ => cases h
theorem RDs.signs {K : PySem.W.Frag} {L : Lay} {ρ : List Addr} {H : Hp} : ∀ l : List _, RDs K L ρ H (l.map fun c => D.str ⟨#[c]⟩) (l.map fun c => V.str ⟨#[c]⟩)
  | [] => .nil
  | c :: r => .cons (.str _) (RDs.signs r)
theorem vals_signs {x : Str} {acc : Array Value} (h : ItemsOf (SignAt x) acc x.cps.size) : Vals (x.cps.toList.map fun c => V.str ⟨#[c]⟩) acc.toList := by
  refine vals_of_at (by rw [List.length_map, Array.length_toList, Array.length_toList]; exact h.1.symm) fun j y u h1 h2 => ?_
  obtain ⟨c, t, hc, rfl⟩ := h.2 j u (by rw [← h2, Array.getElem?_toList])
  rw [List.getElem?_map, Array.getElem?_toList, hc] at h1
  cases h1
  exact ⟨t, rfl⟩
theorem tuple_text {X : Cx} {pins : List (Addr × Obj)} {s : Shared} {σ : L2.St} {H : Hp} {Q : VK} {x : Str} {t : Tok} (I : Inv X pins σ H s) (hc : X.calm = true) (hn : x.cps.size ≤ 1000)
    (q : ∀ p, H p = none → Q (.ref p) (upd H p (.tup (x.cps.toList.map fun c => V.str ⟨#[c]⟩)))) : wpAny (model X.prog X.w) X.A (call (.type "tuple") [.str x t]) (EP X pins σ Q) X.xe s := by
  refine call_tuple_str (I.ok.hd hc) hn fun s' acc hk hg ho hi => ?_
  have hz : (x.cps.toList.map fun c => V.str ⟨#[c]⟩).length ≤ sizeLine := by rw [List.length_map, Array.length_toList, sizeLine_eq]; omega
  have I1 : Inv X pins σ H { s with heap := s'.heap, toks := s'.toks } := I.kept (t' := s'.toks) hk
  have hp : H s'.heap.objs.size = none := I1.hok.fresh (Nat.le_refl _)
  have kk : ∀ b o, s'.heap.get? b = some o → (s'.heap.push { cls := .type "tuple", data := .seq acc }).get? b = some o := fun b o e => Heap.get?_push_of_some _ e
  have J : Inv X pins σ (upd H s'.heap.objs.size (.tup (x.cps.toList.map fun c => V.str ⟨#[c]⟩))) { s with heap := s'.heap.push { cls := .type "tuple", data := .seq acc }, gens := s'.gens, drawn := s'.drawn, toks := s'.toks } := by
    refine Inv.call (s := { s with heap := s'.heap, toks := s'.toks }) I1 (ch := []) (Un.laid (h := s'.heap) kk (Nat.le_refl _) hp) (I1.hok.laid kk (Nat.le_refl _) ?_) (by rw [hg]; exact I.bare) (fun _ z => nomatch z)
    exact ⟨hz, acc.toList, vals_signs hi, by rw [Array.toArray_toList]; exact IsTup.new _ _⟩
  have e : { s' with heap := s'.heap.push { cls := .type "tuple", data := .seq acc } } = { s with heap := s'.heap.push { cls := .type "tuple", data := .seq acc }, gens := s'.gens, drawn := s'.drawn, toks := s'.toks } := by
    cases s'
    cases s
    cases ho
    rfl
  rw [e]
  exact ⟨.ref s'.heap.objs.size, _, J, rfl, q _ hp⟩
theorem mi_bf (hc : X.calm = true) (hg : X.A.guards = some []) (hu : X.A.units + 200 < cLine) (b : BF) : CallR X (bfV b) (rBF X.K L b) := by
  intro pins s σ H vs us Q I rv h
  obtain ⟨ρ, hp, ds, r, q, h⟩ := h
  cases b with
  | len =>
    cases q with
    | nil => exact False.elim h
    | @cons d v _ _ qd qt =>
      cases qt with
      | cons _ _ => exact False.elim (by cases d <;> exact h)
      | nil =>
        cases qd with
        | str x => exact call_len_str pins s σ H _ us Q I rv ⟨x, rfl, by rw [← sz_line]; exact h.1, h.2.here r (.int _)⟩
        | @tup a xs ys hs t =>
          have h : KQ X.K L ρ H Q (.int ys.length) hp := h
          rw [t.len] at h
          exact call_len_seq pins s σ H _ us Q I rv ⟨a, xs, rfl, .inr hs, h.here r (.int _)⟩
        | @kl a xs ys hs t =>
          have h : KQ X.K L ρ H Q (.int ys.length) hp := h
          rw [t.len] at h
          exact call_len_seq pins s σ H _ us Q I rv ⟨a, xs, rfl, .inl hs.sq, h.here r (.int _)⟩
        | @ref i a hs =>
          obtain ⟨o, w, g1, g2, g3⟩ := r.at2 hs
          unfold oBF at h
          simp only [g1] at h
          cases g3 with
          | @lst ys xs t =>
            have h : KQ X.K L ρ H Q (.int ys.length) hp := h
            rw [t.len] at h
            exact call_len_seq pins s σ H _ us Q I rv ⟨a, xs, rfl, .inl (.of g2), h.here r (.int _)⟩
          | @dic ys xs t =>
            have h : KQ X.K L ρ H Q (.int ys.length) hp := h
            rw [t.len] at h
            obtain ⟨u, rfl, rx⟩ := vals1 rv
            cases rx
            exact d_len I (.inl g2) fun t' s' I' => ⟨.int xs.length, H, I', ⟨t', rfl⟩, h.here r (.int _)⟩
          | @fdic ys xs ob t =>
            have h : KQ X.K L ρ H Q (.int ys.length) hp := h
            rw [t.len] at h
            obtain ⟨u, rfl, rx⟩ := vals1 rv
            cases rx
            exact d_len I (.inr ⟨_, g2⟩) fun t' s' I' => ⟨.int xs.length, H, I', ⟨t', rfl⟩, h.here r (.int _)⟩
          | _ => exact False.elim h
        | _ => exact False.elim h
  | list1 =>
    cases q with
    | nil => exact False.elim h
    | @cons d v _ _ qd qt =>
      cases qt with
      | cons _ _ => exact False.elim h
      | nil =>
        unfold oBF at h
        cases e : sqOf hp d with
        | none => simp only [e] at h; exact False.elim h
        | some ys =>
          simp only [e] at h
          obtain ⟨a, xs, rfl, hs, t⟩ := qd.sq r e
          exact call_list_of pins s σ H _ us Q I rv ⟨a, xs, rfl, hs, KQ.new h r (.lst t)⟩
  | tuple1 =>
    cases q with
    | nil => exact False.elim h
    | @cons d v _ _ qd qt =>
      cases qt with
      | cons _ _ => exact False.elim h
      | nil =>
        unfold oBF at h
        cases e : sqOf hp d with
        | none =>
          simp only [e] at h
          cases qd with
          | str x =>
            obtain ⟨h1, h2⟩ := h
            obtain ⟨u, rfl, rx⟩ := vals1 rv
            obtain ⟨tk, rfl⟩ := rx
            exact tuple_text I hc h1 fun p hn => h2.tup r (RDs.signs x.cps.toList) p hn
          | _ => exact False.elim h
        | some ys =>
          simp only [e] at h
          have h : KQ X.K L ρ H Q (.tup ys) hp := h
          obtain ⟨a, xs, rfl, hs, t⟩ := qd.sq r e
          refine call_tuple_of pins s σ H _ us Q I rv ⟨a, xs, rfl, ?_⟩
          rcases hs with hs | hs
          · exact .inl ⟨hs, h.tup r t⟩
          · exact .inr ⟨hs, h.here r (.tup hs t)⟩
  | dict1 =>
    cases q with
    | nil => exact False.elim h
    | @cons d v _ _ qd qt =>
      cases qt with
      | cons _ _ => exact False.elim h
      | nil =>
        unfold oBF at h
        cases e : lsOf hp d with
        | some ys =>
          simp only [e] at h
          cases e2 : prsOf ys with
          | none => simp only [e2] at h; exact False.elim h
          | some kvs =>
            simp only [e2] at h
            obtain ⟨a, xs, rfl, hs, t⟩ := qd.lsq r e
            obtain ⟨ps, kvs', rfl, h2, h3⟩ := prs_rd t e2
            exact call_dictP hc pins s σ H _ us Q I rv ⟨a, ps, kvs', rfl, hs, h2, KQ.new h r (.dic (merge_rks h3 .nil))⟩
        | none =>
          simp only [e] at h
          cases qd with
          | @ref i a ha =>
            simp only at h
            cases e2 : rdD hp i with
            | none => simp only [e2] at h; exact False.elim h
            | some kvs =>
              simp only [e2] at h
              obtain ⟨vs, g1, t⟩ := r.rdic ha e2
              exact call_dictD pins s σ H _ us Q I rv ⟨a, vs, rfl, g1, KQ.new h r (.dic t)⟩
          | _ => exact False.elim h
  | int1 =>
    cases q with
    | nil => exact False.elim h
    | @cons d v _ _ qd qt =>
      cases qt with
      | cons _ _ => exact False.elim (by cases d <;> exact h)
      | nil =>
        cases qd with
        | int i => exact call_int1 pins s σ H _ us Q I rv (.inl ⟨i, rfl, KQ.here h r (.int _)⟩)
        | bl k => exact call_int1 pins s σ H _ us Q I rv (.inr ⟨k, rfl, KQ.here h r (.int _)⟩)
        | _ => exact False.elim h
  | repr =>
    cases q with
    | nil => exact False.elim h
    | @cons d v _ _ qd qt =>
      cases qt with
      | cons _ _ => exact False.elim h
      | nil =>
        unfold oBF at h
        cases e : toP 40 hp d with
        | none =>
          simp only [e] at h
          cases e3 : toR 40 hp d with
          | none => simp only [e3] at h; exact False.elim h
          | some a =>
            simp only [e3] at h
            obtain ⟨⟨h1, h2, h3⟩, h⟩ := h
            exact repr_dr hg hu pins s σ H _ us Q I rv ⟨v, a, rfl, toR_dr r 40 d v a qd e3, h1, h2, by rw [← sz_line]; exact h3, KQ.here h r (.str _)⟩
        | some a =>
          simp only [e] at h
          obtain ⟨⟨h1, h2, h3⟩, h⟩ := h
          exact repr_any hg hu pins s σ H _ us Q I rv ⟨v, a, rfl, toP_dp r 40 d v a qd e, h1, h2, by rw [← sz_line]; exact h3, KQ.here h r (.str _)⟩
  | sorted1 =>
    cases q with
    | nil => exact False.elim h
    | @cons d v _ _ qd qt =>
      cases qt with
      | cons _ _ => exact False.elim h
      | nil =>
        unfold oBF at h
        cases e : lsOf hp d with
        | some ys =>
          cases e2 : intsOf ys with
          | none => simp only [e, e2] at h; exact False.elim h
          | some ns =>
            simp only [e, e2] at h
            obtain ⟨a, xs, rfl, hs, t⟩ := qd.lsq r e
            have ex := intsOf_map t e2
            subst ex
            refine cr_sortedI pins s σ H _ us Q I rv ⟨a, ns, rfl, hs, fun ns' p hp' hw hn => ?_⟩
            rw [isort_uniq hp' hw]
            exact KQ.new h r (.lst (RDs.ints _)) p hn
        | none =>
          cases qd with
          | @ref i a hs =>
            have h : (match rdD hp i with
              | some kvs => match keysI kvs with
                | some ns => OutD.cd (ns.length < 64) (.ref hp.length) (hp ++ [O.lst ((isort ns).map D.int)])
                | none => .no
              | none => .no).app (KQ X.K L ρ H Q) := by
              simp only [e] at h
              exact h
            cases e1 : rdD hp i with
            | none => simp only [e1] at h; exact False.elim h
            | some kvs =>
              cases e2 : keysI kvs with
              | none => simp only [e1, e2] at h; exact False.elim h
              | some ns =>
                simp only [e1, e2] at h
                obtain ⟨h1, h2⟩ := h
                obtain ⟨vs, g1, t⟩ := r.rdic hs e1
                refine call_sortedDI hc pins s σ H _ us Q I rv ⟨a, vs, ns, rfl, g1, keysI_map t e2, h1, fun ys p hp' hw hn => ?_⟩
                rw [isort_uniq hp' hw]
                exact KQ.new h2 r (.lst (RDs.ints _)) p hn
          | _ => simp only [e] at h; exact False.elim h
  | sum1 =>
    cases q with
    | nil => exact False.elim h
    | @cons d v _ _ qd qt =>
      cases qt with
      | cons _ _ => exact False.elim h
      | nil =>
        unfold oBF at h
        cases e : lsOf hp d with
        | none => simp only [e] at h; exact False.elim h
        | some ys =>
          cases e2 : intsOf ys with
          | none => simp only [e, Option.bind_some, e2] at h; exact False.elim h
          | some ns =>
            simp only [e, Option.bind_some, e2] at h
            obtain ⟨a, xs, rfl, hs, t⟩ := qd.lsq r e
            have ex := intsOf_map t e2
            subst ex
            exact cr_sum hc pins s σ H _ us Q I rv ⟨a, ns, rfl, hs, KQ.here h r (.int _)⟩
  | max2 =>
    cases q with
    | nil => exact False.elim h
    | @cons d v _ _ qd qt =>
      cases qt with
      | nil => exact False.elim (by cases d <;> exact h)
      | @cons d2 v2 _ _ qd2 qt =>
        cases qt with
        | cons _ _ => exact False.elim (by cases d <;> cases d2 <;> exact h)
        | nil =>
          cases d <;> cases d2 <;> first | exact False.elim h | skip
          cases qd; cases qd2
          exact call_max2 hc pins s σ H _ us Q I rv ⟨_, _, rfl, KQ.here h r (.int _)⟩
  | min2 =>
    cases q with
    | nil => exact False.elim h
    | @cons d v _ _ qd qt =>
      cases qt with
      | nil => exact False.elim (by cases d <;> exact h)
      | @cons d2 v2 _ _ qd2 qt =>
        cases qt with
        | cons _ _ => exact False.elim (by cases d <;> cases d2 <;> exact h)
        | nil =>
          cases d <;> cases d2 <;> first | exact False.elim h | skip
          cases qd; cases qd2
          exact call_min2 hc pins s σ H _ us Q I rv ⟨_, _, rfl, KQ.here h r (.int _)⟩
  | max1 =>
    cases q with
    | nil => exact False.elim h
    | @cons d v _ _ qd qt =>
      cases qt with
      | cons _ _ => exact False.elim h
      | nil =>
        unfold oBF at h
        cases e : lsOf hp d with
        | none => simp only [e] at h; exact False.elim h
        | some ys =>
          cases e2 : intsOf ys with
          | none => simp only [e, Option.bind_some, e2] at h; exact False.elim h
          | some ns =>
            simp only [e, Option.bind_some, e2] at h
            obtain ⟨a, xs, rfl, hs, t⟩ := qd.lsq r e
            have ex := intsOf_map t e2
            subst ex
            cases ns with
            | nil => exact False.elim h
            | cons n ns =>
              have h : KQ X.K L ρ H Q (.int (imax n ns)) hp := h
              refine cr_max hc pins s σ H _ us Q I rv ⟨a, n :: ns, rfl, hs, by simp, fun m hm hle => ?_⟩
              obtain ⟨k1, k2, k3⟩ := imax_spec ns n
              have e3 : m = imax n ns := by
                apply Int.le_antisymm
                · rcases List.mem_cons.mp hm with z | z
                  · rw [z]; exact k2
                  · exact k3 m z
                · rcases k1 with z | z
                  · rw [z]; exact hle n List.mem_cons_self
                  · exact hle _ (List.mem_cons_of_mem _ z)
              rw [e3]
              exact KQ.here h r (.int _)
  | min1 =>
    cases q with
    | nil => exact False.elim h
    | @cons d v _ _ qd qt =>
      cases qt with
      | cons _ _ => exact False.elim h
      | nil =>
        unfold oBF at h
        cases e : lsOf hp d with
        | none => simp only [e] at h; exact False.elim h
        | some ys =>
          cases e2 : intsOf ys with
          | none => simp only [e, Option.bind_some, e2] at h; exact False.elim h
          | some ns =>
            simp only [e, Option.bind_some, e2] at h
            obtain ⟨a, xs, rfl, hs, t⟩ := qd.lsq r e
            have ex := intsOf_map t e2
            subst ex
            cases ns with
            | nil => exact False.elim h
            | cons n ns =>
              have h : KQ X.K L ρ H Q (.int (imin n ns)) hp := h
              refine cr_min hc pins s σ H _ us Q I rv ⟨a, n :: ns, rfl, hs, by simp, fun m hm hle => ?_⟩
              obtain ⟨k1, k2, k3⟩ := imin_spec ns n
              have e3 : m = imin n ns := by
                apply Int.le_antisymm
                · rcases k1 with z | z
                  · rw [z]; exact hle n List.mem_cons_self
                  · exact hle _ (List.mem_cons_of_mem _ z)
                · rcases List.mem_cons.mp hm with z | z
                  · rw [z]; exact k2
                  · exact k3 m z
              rw [e3]
              exact KQ.here h r (.int _)
  | all1 =>
    cases q with
    | nil => exact False.elim h
    | @cons d v _ _ qd qt =>
      cases qt with
      | cons _ _ => exact False.elim h
      | nil =>
        unfold oBF at h
        cases e : lsOf hp d with
        | none => simp only [e] at h; exact False.elim h
        | some ys =>
          cases e2 : boolsOf ys with
          | none => simp only [e, Option.bind_some, e2] at h; exact False.elim h
          | some ns =>
            simp only [e, Option.bind_some, e2] at h
            obtain ⟨a, xs, rfl, hs, t⟩ := qd.lsq r e
            have ex := boolsOf_map t e2
            subst ex
            exact cr_all hc pins s σ H _ us Q I rv ⟨a, ns, rfl, hs, KQ.here h r (.bl _)⟩
  | any1 =>
    cases q with
    | nil => exact False.elim h
    | @cons d v _ _ qd qt =>
      cases qt with
      | cons _ _ => exact False.elim h
      | nil =>
        unfold oBF at h
        cases e : lsOf hp d with
        | none => simp only [e] at h; exact False.elim h
        | some ys =>
          cases e2 : boolsOf ys with
          | none => simp only [e, Option.bind_some, e2] at h; exact False.elim h
          | some ns =>
            simp only [e, Option.bind_some, e2] at h
            obtain ⟨a, xs, rfl, hs, t⟩ := qd.lsq r e
            have ex := boolsOf_map t e2
            subst ex
            exact cr_any hc pins s σ H _ us Q I rv ⟨a, ns, rfl, hs, KQ.here h r (.bl _)⟩
  | isi =>
    cases q with
    | nil => exact False.elim h
    | @cons d v _ _ qd qt =>
      cases qt with
      | nil => exact False.elim h
      | @cons d2 v2 _ _ qd2 qt =>
        cases qt with
        | cons _ _ => exact False.elim (by cases d2 <;> exact h)
        | nil =>
          cases qd2 with
          | ty b =>
            unfold oBF at h
            cases e : tyOf hp d with
            | none => simp only [e] at h; exact False.elim h
            | some a =>
              simp only [e] at h
              split at h
              · rename_i hb
                obtain ⟨ty, ha⟩ := ty_of r qd e
                exact call_isi pins s σ H _ us Q I rv ⟨v, .ty b, .type a, .type b, isiB a b, rfl, .ty b, ty, kit_ty (kit_all a ha b (by simpa using hb)), h.here r (.bl _)⟩
              · exact False.elim h
          | _ => exact False.elim h
  | _ => exact False.elim h
theorem alike_ints (ns : List Int) : PySem.W.AlikeAll (ns.map PyData.int) := by
  refine ⟨fun x hx y hy => ?_, fun x hx => ?_⟩
  · obtain ⟨i, _, rfl⟩ := List.mem_map.mp hx
    obtain ⟨j, _, rfl⟩ := List.mem_map.mp hy
    rfl
  · obtain ⟨i, _, rfl⟩ := List.mem_map.mp hx
    exact fun z => nomatch z
theorem DpAll.ints {K : PySem.W.Frag} {H : Hp} : ∀ ns : List Int, DpAll K H (ns.map V.int) (ns.map PyData.int)
  | [] => .nil
  | n :: r => .cons (.int n) (DpAll.ints r)
theorem depth_ints : ∀ ns : List Int, PyData.depthAll (ns.map PyData.int) ≤ 1
  | [] => Nat.zero_le _
  | n :: r => by
    show max (PyData.int n).depth (PyData.depthAll (r.map PyData.int)) ≤ 1
    exact Nat.max_le.mpr ⟨by unfold PyData.depth; exact Nat.zero_le _, depth_ints r⟩
theorem imin_fold : ∀ (ns : List Int) (m : Int), imin m ns = ns.foldl min m
  | [], m => rfl
  | n :: r, m => by
    show imin (if n < m then n else m) r = r.foldl min (min m n)
    rw [imin_fold r]
    congr 1
    split <;> omega
theorem imax_fold : ∀ (ns : List Int) (m : Int), imax m ns = ns.foldl max m
  | [], m => rfl
  | n :: r, m => by
    show imax (if n > m then n else m) r = r.foldl max (max m n)
    rw [imax_fold r]
    congr 1
    split <;> omega
def rMmd (K : PySem.W.Frag) (L : Lay) (mx : Bool) : List V → List V → Hp → VK → Prop := fun vs zs H Q => ∃ ρ hp d e v z, vs = [v] ∧ zs = [z] ∧ RelH K L ρ hp H ∧ RD K L ρ H d v ∧ RD K L ρ H e z ∧ (oMmd mx d e hp).app (KQ K L ρ H Q)
theorem mi_mmd (hc : X.calm = true) (hu : X.A.units + 200 < cLine) (mx : Bool) : CallRK X (.builtin (if mx then "max" else "min")) ["default"] (rMmd X.K L mx) := by
  intro pins s σ H vs zs us ws Q I rv rz h
  obtain ⟨ρ, hp, d, e, v, z, rfl, rfl, r, q1, q2, h⟩ := h
  unfold oMmd at h
  cases e1 : lsOf hp d with
  | none => simp only [e1] at h; exact False.elim h
  | some ys =>
    cases e2 : intsOf ys with
    | none => simp only [e1, Option.bind_some, e2] at h; exact False.elim h
    | some ns =>
      simp only [e1, Option.bind_some, e2] at h
      obtain ⟨a, xs, rfl, hs, t⟩ := q1.lsq r e1
      have ex := intsOf_map t e2
      subst ex
      obtain ⟨its, rx, hl, _⟩ := I.list hs
      obtain ⟨as, ra⟩ := Dp.readsAll I (ns.map PyData.int) _ _ (DpAll.ints ns) rx
      have ru := Vals.ref1 rv
      subst ru
      obtain ⟨w, rfl, rw'⟩ := Vals.one rz
      have hd := depth_ints ns
      have kp : ∀ {v' : V} {u' : Value} {h' : Heap} {tk : Nat}, RelV v' u' → Q v' H → (∀ b o, s.heap.get? b = some o → h'.get? b = some o) → EP X pins σ Q u' { s with heap := h', toks := tk } := fun {v' u' h' tk} r q k => ⟨v', H, I.kept k, r, q⟩
      have itm : ∀ {i : Nat} {u : Value} {n : Int} {h' : Heap} {bs : List Addr}, its.toArray[i]? = some u → Reads h' u (.int n) bs → RelV (.int n) u := fun {i u n h' bs} _ rr => by
        cases rr with
        | int _ t => exact ⟨t, rfl⟩
      cases mx with
      | false =>
        refine PySem.W.min_list_default (I.ok.hd hc) hl.isList (by simpa using ra) (alike_ints ns) (by omega) (fun hn h' tk k => ?_) (fun y yt i u h' tk bs hy hi rr k => ?_)
        · cases ns with
          | nil => exact kp rw' (h.here r q2) k
          | cons _ _ => cases hn
        · cases ns with
          | nil => cases hy
          | cons n nr =>
            cases hy
            rw [PySem.W.minD_ints, ← imin_fold] at rr
            exact kp (itm hi rr) (h.here r (.int _)) k
      | true =>
        refine PySem.W.max_list_default (I.ok.hd hc) hl.isList (by simpa using ra) (alike_ints ns) (by omega) (fun hn h' tk k => ?_) (fun y yt i u h' tk bs hy hi rr k => ?_)
        · cases ns with
          | nil => exact kp rw' (h.here r q2) k
          | cons _ _ => cases hn
        · cases ns with
          | nil => cases hy
          | cons n nr =>
            cases hy
            rw [PySem.W.maxD_ints, ← imax_fold] at rr
            exact kp (itm hi rr) (h.here r (.int _)) k
end
end MI
/-! MI, part 8: methods of built-in types; stores; attributes, by values. -/
namespace MI
open PySem PySem.Spec PyProof.Rows L2
section
variable {X : Cx} {L : Lay}

def bkT : BK → String
  | .lst => "list"
  | .dic => "dict"
  | .str => "str"
/-- a built-in type's method, as the text calls it on a receiver of this kind -/
structure BmFact (X : Cx) (L : Lay) (m : BM) (k : BK) : Prop where
  ex : ∃ T id, PlainAttrs T ∧ Slot T (bmName m) id ∧ typeOf (.builtin id) = pure (.type "method_descriptor") ∧ bkT k = T ∧
    ∀ (pins : List (Addr × Obj)) (s : Shared) (σ : L2.St) (H : Hp) (x : V) (xs : List V) (v : Value) (us : List Value) (Q : VK) (ρ : List Addr) (hp : Hq) (d : D) (ds : List D),
      Inv X pins σ H s → RelV x v → Vals xs us → RelH X.K L ρ hp H → RD X.K L ρ H d x → RDs X.K L ρ H ds xs → (oBM m k d ds hp).app (KQ X.K L ρ H Q) →
      wpAny (model X.prog X.w) X.A (call (.builtin id) (v :: us)) (EP X pins σ Q) X.xe s

theorem bm_kind {pins : List (Addr × Obj)} {σ : L2.St} {H : Hp} {s : Shared} {ρ : List Addr} {hp : Hq} {d : D} {x : V} {v : Value} {m : BM} {k : BK} (I : Inv X pins σ H s) (r : RelH X.K L ρ hp H) (q : RD X.K L ρ H d x) (rx : RelV x v) (h : bmK m d hp = some k) :
    s.TypeIs v (bkT k) ∧ ∀ a, v = .ref a → ∃ ob, s.heap.get? a = some ob ∧ ob.dict = none := by
  cases q with
  | @ref i a hs =>
    cases rx
    obtain ⟨o, u, g1, g2, g3⟩ := r.at2 hs
    unfold bmK at h
    cases m <;> simp only [g1] at h <;> cases g3 <;> simp only [Option.some.injEq, reduceCtorEq] at h <;> subst h
    all_goals first
      | exact tyV_is (T := "list") (x := V.ref a) I rfl (.inl ⟨rfl, _, .of g2⟩)
      | exact let ⟨t1, t2, _⟩ := isD_at I (.inl ⟨_, .inl g2⟩); ⟨t1, t2⟩
      | exact let ⟨t1, t2, _⟩ := isD_at I (.inl ⟨_, .inr ⟨_, g2⟩⟩); ⟨t1, t2⟩
  | _ => exact False.elim (by cases m <;> cases h)

theorem bm_fact (hu : X.A.units + 65 < cLine) (hh : X.calm = true) : ∀ (m : BM) (k : BK) (d : D) (hp : Hq), bmK m d hp = some k → BmFact X L m k := by
  intro m k d hp h
  have hk : (m = .append ∧ k = .lst) ∨ (m = .get1 ∧ k = .dic) ∨ (m = .get2 ∧ k = .dic) ∨ (m = .pop1 ∧ k = .dic) ∨ (m = .pop1 ∧ k = .lst) ∨ (m = .pop2 ∧ k = .dic) ∨ (m = .clear ∧ k = .lst) ∨ (m = .clear ∧ k = .dic) ∨ (m = .extend ∧ k = .lst) ∨ (m = .setdef ∧ k = .dic) := by
    unfold bmK at h
    split at h <;> (try split at h) <;> simp_all
  clear h
  rcases hk with ⟨rfl, rfl⟩ | ⟨rfl, rfl⟩ | ⟨rfl, rfl⟩ | ⟨rfl, rfl⟩ | ⟨rfl, rfl⟩ | ⟨rfl, rfl⟩ | ⟨rfl, rfl⟩ | ⟨rfl, rfl⟩ | ⟨rfl, rfl⟩ | ⟨rfl, rfl⟩
  · -- append
    refine ⟨"list", "list.append", PySem.F.plainAttrs_list, PySem.F.slot_list_append, PySem.F.type_list_append, rfl, ?_⟩
    intro pins s σ H x xs v us Q ρ hp d ds I rx rv r q qs h
    cases q with
    | @ref i a hs =>
      cases qs with
      | nil => exact False.elim h
      | @cons e w _ _ qe qt =>
        cases qt with
        | cons _ _ => exact False.elim h
        | nil =>
          unfold oBM at h
          cases e1 : gtL hp i with
          | none => simp only [e1] at h; exact False.elim h
          | some ys =>
            simp only [e1] at h
            obtain ⟨vs, g1, t⟩ := r.lst hs e1
            obtain ⟨h1, h2⟩ := h
            have tl : RDs X.K L ρ H (ys ++ [e]) (vs ++ [w]) := t.app (.one qe)
            obtain ⟨r2, e2⟩ := r.put hs (.lst tl) (by intro o k z; rw [g1] at z; cases z)
            exact mt_append pins s σ H _ _ v us Q I rx rv ⟨a, vs, w, rfl, rfl, g1, by rw [← sz_line, ← t.len]; exact h1, h2 _ _ _ e2 r2 .non⟩
    | _ => exact False.elim h
  · -- get1
    refine ⟨"dict", "dict.get", PySem.F.plainAttrs_dict, PySem.F.slot_dict_get, PySem.F.type_dict_get, rfl, ?_⟩
    intro pins s σ H x xs v us Q ρ hp d ds I rx rv r q qs h
    cases q with
    | @ref i a hs =>
      cases qs with
      | nil => exact False.elim h
      | @cons e w _ _ qe qt =>
        cases qt with
        | cons _ _ => exact False.elim h
        | nil =>
          unfold oBM at h
          cases e1 : rdD hp i with
          | none => simp only [e1] at h; exact False.elim h
          | some kvs =>
            cases e2 : kOf e with
            | none => simp only [e1, e2] at h; exact False.elim h
            | some key =>
              simp only [e1, e2] at h
              obtain ⟨vs, g1, t⟩ := r.rdic hs e1
              have ew := kOf_kV qe e2
              obtain ⟨u, rfl, ru⟩ := Vals.one rv
              cases rx
              have g : DGet H a w (valV vs key) := .inl ⟨vs, key, g1, ew, rfl⟩
              refine d_get1 (by omega) I g ru fun w' s3 I3 rw' => ⟨_, H, I3, rw', ?_⟩
              have h : KQ X.K L ρ H Q ((dget kvs key).getD .non) hp := h
              rcases t.get key with ⟨k1, k2⟩ | ⟨d', v', k1, k2, k3⟩
              · rw [k1] at h; rw [k2]; exact h.here r .non
              · rw [k1] at h; rw [k2]; exact h.here r k3
    | _ => exact False.elim h
  · -- get2
    refine ⟨"dict", "dict.get", PySem.F.plainAttrs_dict, PySem.F.slot_dict_get, PySem.F.type_dict_get, rfl, ?_⟩
    intro pins s σ H x xs v us Q ρ hp d ds I rx rv r q qs h
    cases q with
    | @ref i a hs =>
      cases qs with
      | nil => exact False.elim h
      | @cons e w _ _ qe qt =>
        cases qt with
        | nil => exact False.elim h
        | @cons e' w' _ _ qe' qt =>
          cases qt with
          | cons _ _ => exact False.elim h
          | nil =>
            unfold oBM at h
            cases e1 : rdD hp i with
            | none => simp only [e1] at h; exact False.elim h
            | some kvs =>
              cases e2 : kOf e with
              | none => simp only [e1, e2] at h; exact False.elim h
              | some key =>
                simp only [e1, e2] at h
                obtain ⟨vs, g1, t⟩ := r.rdic hs e1
                have ew := kOf_kV qe e2
                obtain ⟨u, u', rfl, ru, ru'⟩ := Vals.two rv
                cases rx
                have g : DGet H a w (valV vs key) := .inl ⟨vs, key, g1, ew, rfl⟩
                refine d_get2 (by omega) I g ru ru' fun w2 s3 I3 rw' => ⟨_, H, I3, rw', ?_⟩
                have h : KQ X.K L ρ H Q ((dget kvs key).getD e') hp := h
                rcases t.get key with ⟨k1, k2⟩ | ⟨d', v', k1, k2, k3⟩
                · rw [k1] at h; rw [k2]; exact h.here r qe'
                · rw [k1] at h; rw [k2]; exact h.here r k3
    | _ => exact False.elim h
  · -- pop1 of a dict
    refine ⟨"dict", "dict.pop", PySem.F.plainAttrs_dict, PySem.F.slot_dict_pop, PySem.F.type_dict_pop, rfl, ?_⟩
    intro pins s σ H x xs v us Q ρ hp d ds I rx rv r q qs h
    cases q with
    | @ref i a hs =>
      cases qs with
      | nil => exact False.elim h
      | @cons e w _ _ qe qt =>
        cases qt with
        | cons _ _ => exact False.elim h
        | nil =>
          unfold oBM at h
          cases e1 : gtD hp i with
          | none => simp only [e1] at h; exact False.elim h
          | some kvs =>
            cases e2 : kOf e with
            | none => simp only [e1, e2] at h; exact False.elim h
            | some key =>
              simp only [e1, e2] at h
              obtain ⟨vs, g1, t⟩ := r.dic hs e1
              have ew := kOf_kV qe e2
              obtain ⟨u, rfl, ru⟩ := Vals.one rv
              cases rx
              rcases t.get key with ⟨k1, k2⟩ | ⟨d', v', k1, k2, k3⟩
              · simp only [k1] at h; exact False.elim h
              · simp only [k1] at h
                have h : KQ X.K L ρ H Q d' (hp.set i (.dic (ddrop kvs key))) := h
                obtain ⟨r2, x2⟩ := r.put hs (.dic (t.drop key)) (by intro o k z; rw [g1] at z; cases z)
                subst ew
                exact d_pop I g1 ru k2 (.inl rfl) fun w' s3 I3 rw' => ⟨_, _, I3, rw', h _ _ _ x2 r2 (k3.mono x2)⟩
    | _ => exact False.elim (by cases ds <;> first | exact h | (rename_i a b; cases b <;> exact h))
  · -- pop1 of a list
    refine ⟨"list", "list.pop", PySem.F.plainAttrs_list, PySem.F.slot_list_pop, PySem.F.type_list_pop, rfl, ?_⟩
    intro pins s σ H x xs v us Q ρ hp d ds I rx rv r q qs h
    cases q with
    | @ref i a hs =>
      cases qs with
      | nil => exact False.elim h
      | @cons e w _ _ qe qt =>
        cases qt with
        | cons _ _ => exact False.elim (by cases e <;> exact h)
        | nil =>
          cases qe with
          | int z =>
            unfold oBM at h
            cases e1 : gtL hp i with
            | none => simp only [e1] at h; exact False.elim h
            | some ys =>
              simp only [e1] at h
              cases e2 : ixN ys.length z with
              | none => simp only [e2] at h; exact False.elim h
              | some j =>
                simp only [e2] at h
                cases e3 : ys[j]? with
                | none => simp only [e3] at h; exact False.elim h
                | some d' =>
                  simp only [e3] at h
                  obtain ⟨⟨h1, h2⟩, h⟩ := h
                  obtain ⟨vs, g1, t⟩ := r.lst hs e1
                  obtain ⟨v', g2, g3⟩ := t.get e3
                  have er : ∀ {ds : List D} {vs : List V} (j : Nat), RDs X.K L ρ H ds vs → RDs X.K L ρ H (ds.eraseIdx j) (vs.eraseIdx j) := by
                    intro ds vs j t
                    rw [List.eraseIdx_eq_take_drop_succ, List.eraseIdx_eq_take_drop_succ]
                    exact (t.take _).app (t.drop _)
                  obtain ⟨r2, x2⟩ := r.put hs (.lst (er j t)) (by intro o k z; rw [g1] at z; cases z)
                  rw [t.len] at e2
                  exact mt_popAt pins s σ H _ _ v us Q I rx rv ⟨a, vs, z, j, v', rfl, rfl, g1, h1, h2, (ixN_seq e2).1, g2, h _ _ _ x2 r2 (g3.mono x2)⟩
          | _ => exact False.elim h
    | _ => exact False.elim (by cases ds <;> first | exact h | (rename_i a b; cases a <;> cases b <;> exact h))
  · -- pop2
    refine ⟨"dict", "dict.pop", PySem.F.plainAttrs_dict, PySem.F.slot_dict_pop, PySem.F.type_dict_pop, rfl, ?_⟩
    intro pins s σ H x xs v us Q ρ hp d ds I rx rv r q qs h
    cases q with
    | @ref i a hs =>
      cases qs with
      | nil => exact False.elim h
      | @cons e w _ _ qe qt =>
        cases qt with
        | nil => exact False.elim h
        | @cons e' w' _ _ qe' qt =>
          cases qt with
          | cons _ _ => exact False.elim h
          | nil =>
            unfold oBM at h
            cases e1 : gtD hp i with
            | none => simp only [e1] at h; exact False.elim h
            | some kvs =>
              cases e2 : kOf e with
              | none => simp only [e1, e2] at h; exact False.elim h
              | some key =>
                simp only [e1, e2] at h
                obtain ⟨vs, g1, t⟩ := r.dic hs e1
                have ew := kOf_kV qe e2
                obtain ⟨u, u', rfl, ru, ru'⟩ := Vals.two rv
                cases rx
                subst ew
                rcases t.get key with ⟨k1, k2⟩ | ⟨d', v', k1, k2, k3⟩
                · simp only [k1] at h
                  have h : KQ X.K L ρ H Q e' hp := h
                  exact d_popD I g1 ru k2 fun s3 I3 => ⟨w', H, I3, ru', h.here r qe'⟩
                · simp only [k1] at h
                  have h : KQ X.K L ρ H Q d' (hp.set i (.dic (ddrop kvs key))) := h
                  obtain ⟨r2, x2⟩ := r.put hs (.dic (t.drop key)) (by intro o k z; rw [g1] at z; cases z)
                  exact d_pop I g1 ru k2 (.inr ⟨_, rfl⟩) fun w2 s3 I3 rw' => ⟨_, _, I3, rw', h _ _ _ x2 r2 (k3.mono x2)⟩
    | _ => exact False.elim h
  · -- clear of a list
    refine ⟨"list", "list.clear", PySem.F.plainAttrs_list, PySem.F.slot_list_clear, PySem.F.type_list_clear, rfl, ?_⟩
    intro pins s σ H x xs v us Q ρ hp d ds I rx rv r q qs h
    cases q with
    | @ref i a hs =>
      cases qs with
      | cons _ _ => exact False.elim h
      | nil =>
        unfold oBM at h
        cases e1 : gtL hp i with
        | none => simp only [e1] at h; exact False.elim h
        | some ys =>
          simp only [e1] at h
          have h : KQ X.K L ρ H Q .non (hp.set i (.lst [])) := h
          obtain ⟨vs, g1, t⟩ := r.lst hs e1
          obtain ⟨r2, x2⟩ := r.put (o := .lst []) (u := .lst []) hs (.lst .nil) (by intro o k z; rw [g1] at z; cases z)
          exact mt_clear pins s σ H _ _ v us Q I rx rv ⟨a, vs, rfl, rfl, g1, h _ _ _ x2 r2 .non⟩
    | _ => exact False.elim (by cases ds <;> exact h)
  · -- clear of a dict
    refine ⟨"dict", "dict.clear", PySem.F.plainAttrs_dict, PySem.F.slot_dict_clear, PySem.F.type_dict_clear, rfl, ?_⟩
    intro pins s σ H x xs v us Q ρ hp d ds I rx rv r q qs h
    cases q with
    | @ref i a hs =>
      cases qs with
      | cons _ _ => exact False.elim h
      | nil =>
        unfold oBM at h
        cases e1 : gtD hp i with
        | none => simp only [e1] at h; exact False.elim h
        | some ys =>
          simp only [e1] at h
          have h : KQ X.K L ρ H Q .non (hp.set i (.dic [])) := h
          obtain ⟨vs, g1, t⟩ := r.dic hs e1
          obtain ⟨r2, x2⟩ := r.put (o := .dic []) (u := .dK []) hs (.dic .nil) (by intro o k z; rw [g1] at z; cases z)
          obtain rfl := Vals.zero rv
          cases rx
          exact d_clear I g1 fun s3 I3 => ⟨.non, _, I3, rfl, h _ _ _ x2 r2 .non⟩
    | _ => exact False.elim (by cases ds <;> exact h)
  · -- extend
    refine ⟨"list", "list.extend", PySem.F.plainAttrs_list, PySem.F.slot_list_extend, PySem.F.type_list_extend, rfl, ?_⟩
    intro pins s σ H x xs v us Q ρ hp d ds I rx rv r q qs h
    cases q with
    | @ref i a hs =>
      cases qs with
      | nil => exact False.elim h
      | @cons e w _ _ qe qt =>
        cases qt with
        | cons _ _ => exact False.elim (by cases e <;> exact h)
        | nil =>
          cases qe with
          | @ref j b hs2 =>
            have h : (match gtL hp i, gtL hp j with
              | some xs, some ys => OutD.cd (xs.length + ys.length ≤ SZ) .non (hp.set i (.lst (xs ++ ys)))
              | _, _ => .no).app (KQ X.K L ρ H Q) := h
            cases e1 : gtL hp i with
            | none => simp only [e1] at h; exact False.elim h
            | some ys =>
              cases e2 : gtL hp j with
              | none => simp only [e1, e2] at h; exact False.elim h
              | some zs =>
                simp only [e1, e2] at h
                obtain ⟨vs, g1, t⟩ := r.lst hs e1
                obtain ⟨ws, g2, t2⟩ := r.lst hs2 e2
                obtain ⟨h1, h2⟩ := h
                obtain ⟨r2, x2⟩ := r.put hs (.lst (t.app t2)) (by intro o k z; rw [g1] at z; cases z)
                exact mt_extend pins s σ H _ _ v us Q I rx rv ⟨a, b, vs, ws, rfl, rfl, g1, g2, by rw [← sz_line, ← t.len, ← t2.len]; exact h1, h2 _ _ _ x2 r2 .non⟩
          | _ => exact False.elim h
    | _ => exact False.elim (by cases qs <;> exact h)
  · -- setdefault
    refine ⟨"dict", "dict.setdefault", PySem.F.plainAttrs_dict, PySem.F.slot_dict_setdefault, PySem.F.type_dict_setdefault, rfl, ?_⟩
    intro pins s σ H x xs v us Q ρ hp d ds I rx rv r q qs h
    cases q with
    | @ref i a hs =>
      cases qs with
      | nil => exact False.elim h
      | @cons e w _ _ qe qt =>
        cases qt with
        | nil => exact False.elim h
        | @cons e' w' _ _ qe' qt =>
          cases qt with
          | cons _ _ => exact False.elim h
          | nil =>
            unfold oBM at h
            cases e1 : gtD hp i with
            | none => simp only [e1] at h; exact False.elim h
            | some kvs =>
              cases e2 : kOf e with
              | none => simp only [e1, e2] at h; exact False.elim h
              | some key =>
                simp only [e1, e2] at h
                obtain ⟨vs, g1, t⟩ := r.dic hs e1
                have ew := kOf_kV qe e2
                obtain ⟨u, u', rfl, ru, ru'⟩ := Vals.two rv
                cases rx
                subst ew
                have tl : kvs.length = vs.length := t.length
                rcases t.get key with ⟨k1, k2⟩ | ⟨d', v', k1, k2, k3⟩
                · simp only [k1] at h
                  obtain ⟨h1, h2⟩ := h
                  obtain ⟨r2, x2⟩ := r.put hs (.dic (t.put key qe')) (by intro o k z; rw [g1] at z; cases z)
                  exact d_setd I g1 ru ru' (by rw [← sz_line, ← tl]; exact h1) (fun v hv => by rw [k2] at hv; cases hv) fun _ w2 s3 I3 rw' => ⟨_, _, I3, rw', h2 _ _ _ x2 r2 (qe'.mono x2)⟩
                · simp only [k1] at h
                  obtain ⟨h1, h2⟩ := h
                  exact d_setd I g1 ru ru' (by rw [← sz_line, ← tl]; exact h1) (fun v hv w2 s3 I3 rw' => by
                    rw [k2] at hv
                    cases hv
                    exact ⟨_, H, I3, rw', KQ.here h2 r k3⟩) fun hv => by rw [k2] at hv; cases hv
    | _ => exact False.elim (by cases qs <;> exact h)

/-! ### stores -/
def rSetMI (K : PySem.W.Frag) (L : Lay) : TSet := fun o i v H Q => ∃ ρ hp d e x, RelH K L ρ hp H ∧ RD K L ρ H d o ∧ RD K L ρ H e i ∧ RD K L ρ H x v ∧ (oSet d e x hp).app fun hp' => ∀ H', Ext ρ H ρ H' → RelH K L ρ hp' H' → Q H'
theorem mi_set (hu : X.A.units + 65 < cLine) : PSet X (rSetMI X.K L) := by
  intro pins s σ H o i v ov iv u Q I ro ri rv h
  obtain ⟨ρ, hp, d, e, x, r, q1, q2, q3, h⟩ := h
  cases q1 with
  | @ref j a hs =>
    obtain ⟨ob, w, g1, g2, g3⟩ := r.at2 hs
    unfold oSet at h
    simp only [g1] at h
    cases g3 with
    | @dic kvs vs t =>
      cases e2 : kOf e with
      | none => simp only [e2] at h; exact False.elim h
      | some key =>
        simp only [e2] at h
        obtain ⟨h1, h2⟩ := h
        have ew := kOf_kV q2 e2
        obtain ⟨r2, x2⟩ := r.put hs (.dic (t.put key q3)) (by intro o k z; rw [g2] at z; cases z)
        cases ro
        subst ew
        exact d_setItem (by omega) I (DPut.k g2 (by rw [← sz_line, ← t.len]; exact h1)) ri rv fun s3 I3 => ⟨_, I3, h2 _ x2 r2⟩
    | @lst ys vs t =>
      cases q2 with
      | int z =>
        simp only at h
        cases e2 : ixN ys.length z with
        | none => simp only [e2] at h; exact False.elim h
        | some j' =>
          simp only [e2] at h
          have h : ∀ H', Ext ρ H ρ H' → RelH X.K L ρ (hp.set j (.lst (ys.set j' x))) H' → Q H' := h
          obtain ⟨r2, x2⟩ := r.put hs (.lst (t.set j' q3)) (by intro o k z; rw [g2] at z; cases z)
          rw [t.len] at e2
          exact set_list pins s σ H _ _ v ov iv u Q I ro ri rv ⟨a, vs, z, j', rfl, rfl, g2, e2, h _ x2 r2⟩
      | _ => exact False.elim h
    | _ => exact False.elim h
  | _ => exact False.elim h
end
end MI
/-! MI, part 9: expressions. -/
namespace MI
open PySem PySem.Spec PyProof.Rows L2

theorem PE.imp {X : Cx} {e : Expr} {t t' : TE} (h : PE X e t) (i : ∀ σ H Q, t' σ H Q → t σ H Q) : PE X e t' := ⟨fun pins s σ H Q I q => h.run pins s σ H Q I (i σ H Q q)⟩
theorem PT.imp {X : Cx} {e : Expr} {t t' : TT} (h : PT X e t) (i : ∀ σ H Q, t' σ H Q → t σ H Q) : PT X e t' := ⟨fun pins s σ H Q I q => h.run pins s σ H Q I (i σ H Q q)⟩
theorem PW.imp {X : Cx} {e : Expr} {t t' : TT} (h : PW X e t) (i : ∀ σ H Q, t' σ H Q → t σ H Q) : PW X e t' := ⟨fun w pins s σ H Q I q => h.run w pins s σ H Q I (i σ H Q q)⟩
theorem PA.imp {X : Cx} {e : List Expr} {t t' : TA} (h : PA X e t) (i : ∀ σ H Q, t' σ H Q → t σ H Q) : PA X e t' := ⟨fun p pins s σ H Q I q => h.run p pins s σ H Q I (i σ H Q q)⟩
theorem PO.imp {X : Cx} {e : Option Expr} {t t' : TO} (h : PO X e t) (i : ∀ σ H Q, t' σ H Q → t σ H Q) : PO X e t' := ⟨fun pins s σ H Q I q => h.run pins s σ H Q I (i σ H Q q)⟩
theorem PS.imp {X : Cx} {e : Stmt} {t t' : TS} (h : PS X e t) (i : ∀ D σ H, t' D σ H → t D σ H) : PS X e t' := ⟨fun pins s σ H D I q => h.run pins s σ H D I (i D σ H q)⟩
theorem PSs.imp {X : Cx} {e : List Stmt} {t t' : TS} (h : PSs X e t) (i : ∀ D σ H, t' D σ H → t D σ H) : PSs X e t' := ⟨fun pins s σ H D I q => h.run pins s σ H D I (i D σ H q)⟩
theorem PI.imp {X : Cx} {g e : Expr} {t t' : TI} (h : PI X g e t) (i : ∀ σ H R, t' σ H R → t σ H R) : PI X g e t' := ⟨fun pins s σ H R I q => h.run pins s σ H R I (i σ H R q)⟩
theorem PG.imp {X : Cx} {e : Expr} {t t' : TG} (h : PG X e t) (i : ∀ v σ H Q, t' v σ H Q → t v σ H Q) : PG X e t' := ⟨fun pins s σ H v u Q I r q => h.run pins s σ H v u Q I r (i v σ H Q q)⟩
theorem PGs.imp {X : Cx} {e : List Expr} {t t' : TGs} (h : PGs X e t) (i : ∀ v σ H Q, t' v σ H Q → t v σ H Q) : PGs X e t' := ⟨fun pins s σ H v u Q I r q => h.run pins s σ H v u Q I r (i v σ H Q q)⟩

section
variable (K : PySem.W.Frag) (L : Lay) (g : Glob) (cl : Cl) (W : WX)
def tE (e : Ex) : TE := fun σ H Q => ∃ ρ hp env, RelH K L ρ hp H ∧ RE K L ρ H env σ ∧ wE g cl e env hp (KQ K L ρ H Q) (KX K L ρ H σ W)
def tEs (es : Exs) : TA := fun σ H Q => ∃ ρ hp env, RelH K L ρ hp H ∧ RE K L ρ H env σ ∧ wEs g cl es env hp (KQs K L ρ H Q) (KX K L ρ H σ W)
def KO (ρ : List Addr) (H : Hp) (Q : Option Int → Hp → Prop) : Option D → Hq → Prop := fun o hp' => match bnd o with
  | some oi => ∀ ρ' H', Ext ρ H ρ' H' → RelH K L ρ' hp' H' → Q oi H'
  | none => False
def tEo (eo : Exo) : TO := fun σ H Q => ∃ ρ hp env, RelH K L ρ hp H ∧ RE K L ρ H env σ ∧ wEo g cl eo env hp (KO K L ρ H Q) (KX K L ρ H σ W)
def KT (ρ : List Addr) (H : Hp) (Q : Bool → Hp → Prop) : QD := fun x hp' => (oTru x hp').app fun b => ∀ ρ' H', Ext ρ H ρ' H' → RelH K L ρ' hp' H' → Q b H'
def tT (e : Ex) : TT := fun σ H Q => ∃ ρ hp env, RelH K L ρ hp H ∧ RE K L ρ H env σ ∧ wE g cl e env hp (KT K L ρ H Q) (KX K L ρ H σ W)
end

theorem ab_ok {o : Expr} {a : Str} {ev : PySem.Env} {w : Sem Value} (h : ∀ id p pos, o = .Call (.Name id p) [] [] pos → (id != ("super" : Str)) = true) : attributeBase o a ev w = w := by
  unfold attributeBase
  split
  · rename_i id p pos
    have hid := h id p pos rfl
    rw [if_pos (by rw [hid]; simp)]
  · rfl

section
variable {X : Cx} {L : Lay} {g : Glob} {cl : Cl} {W : WX} {x y z : Expr} {a b c : Ex} {pos : Pos}

theorem s_var {i : Nat} {n : Str} {p : Pos} (hN : X.N[i]? = some n) (hv : Vis X.env.scope n) (h1 : (n == ("__debug__" : Str)) = false) (h2 : (n == ("__classdict__" : Str)) = false) : PE X (.Name n p) (tE X.K L g cl W (.var i)) :=
  PE.imp (pe_var (i := i) hN hv h1 h2) fun σ H Q ⟨ρ, hp, env, r, re, h⟩ => by
    unfold wE at h
    split at h
    · rename_i d e
      obtain ⟨v, hv, rd⟩ := re.at_ i d e
      exact ⟨v, hv, h.here r rd⟩
    · exact False.elim h
theorem s_int {i : Int} {j : Nat} : PE X (.Constant (.int i) j pos) (tE X.K L g cl W (.lit (.int i))) :=
  PE.imp pe_int fun σ H Q ⟨ρ, hp, env, r, re, h⟩ => KQ.here (show KQ X.K L ρ H Q (.int i) hp from h) r (.int i)
theorem s_bl {i : Bool} {j : Nat} : PE X (.Constant (.bool i) j pos) (tE X.K L g cl W (.lit (.bl i))) :=
  PE.imp pe_bl fun σ H Q ⟨ρ, hp, env, r, re, h⟩ => KQ.here (show KQ X.K L ρ H Q (.bl i) hp from h) r (.bl i)
theorem s_str {i : Str} {j : Nat} : PE X (.Constant (.str i) j pos) (tE X.K L g cl W (.lit (.str i))) :=
  PE.imp pe_str fun σ H Q ⟨ρ, hp, env, r, re, h⟩ => KQ.here (show KQ X.K L ρ H Q (.str i) hp from h) r (.str i)
theorem s_non {j : Nat} : PE X (.Constant .none j pos) (tE X.K L g cl W (.lit .non)) :=
  PE.imp pe_non fun σ H Q ⟨ρ, hp, env, r, re, h⟩ => KQ.here (show KQ X.K L ρ H Q .non hp from h) r .non
theorem s_glob {k : Nat} {n : Str} {p : Pos} {u : Value} {v : V} {d : D} (hg : Gl X n) (hm : X.mg n = some u) (rv : RelV v u) (hk : g.consts[k]? = some d) (rd : ∀ ρ H, RD X.K L ρ H d v) (h1 : (n == ("__debug__" : Str)) = false) :
    PE X (.Name n p) (tE X.K L g cl W (.glob k)) :=
  PE.imp (pe_glob hg hm rv h1) fun σ H Q ⟨ρ, hp, env, r, re, h⟩ => by
    unfold wE at h
    simp only [hk] at h
    exact KQ.here h r (rd ρ H)

/-- two in a row -/
theorem seq2 (hm : ClMono cl) {σ : L2.St} {H : Hp} {ρ : List Addr} {hp : Hq} {env : Env} {F : D → D → Hq → Prop} {R : V → V → Hp → Prop} (r : RelH X.K L ρ hp H) (re : RE X.K L ρ H env σ)
    (h : wE g cl a env hp (fun d1 hp1 => wE g cl b env hp1 (fun d2 hp2 => F d1 d2 hp2) (KX X.K L ρ H σ W)) (KX X.K L ρ H σ W))
    (k : ∀ ρ2 hp2 H2 d1 d2 v1 v2, Ext ρ H ρ2 H2 → RelH X.K L ρ2 hp2 H2 → RD X.K L ρ2 H2 d1 v1 → RD X.K L ρ2 H2 d2 v2 → F d1 d2 hp2 → R v1 v2 H2) :
    tE X.K L g cl W a σ H fun v1 H1 => tE X.K L g cl W b σ H1 fun v2 H2 => R v1 v2 H2 := by
  refine ⟨ρ, hp, env, r, re, wE_mono hm a env hp _ _ _ _ (fun d1 hp1 q1 => ?_) (fun _ _ _ z => z) h⟩
  intro ρ1 H1 v1 e1 r1 d1r
  refine ⟨ρ1, hp1, env, r1, re.mono e1, wE_mono hm b env hp1 _ _ _ _ (fun d2 hp2 q2 => ?_) (fun _ _ _ z => z.ext e1) q1⟩
  intro ρ2 H2 v2 e2 r2 d2r
  exact k ρ2 hp2 H2 d1 d2 v1 v2 (e1.trans e2) r2 (d1r.mono e2) d2r q2
theorem s_bin (hm : ClMono cl) {o : BOp} (ha : PE X x (tE X.K L g cl W a)) (hb : PE X y (tE X.K L g cl W b)) : PE X (.BinOp x (bopOf o) y pos) (tE X.K L g cl W (.bin o a b)) :=
  PE.imp (pe_op (mi_bin (L := L) o) ha hb) fun σ H Q ⟨ρ, hp, env, r, re, h⟩ => by
    unfold wE at h
    exact seq2 hm (F := fun d1 d2 hp2 => (oBin o d1 d2 hp2).app (KQ X.K L ρ H Q)) (R := fun v1 v2 H2 => rMI X.K L (oBin o) v1 v2 H2 Q) r re h fun ρ2 hp2 H2 d1 d2 v1 v2 e r2 q1 q2 q => ⟨ρ2, hp2, d1, d2, r2, q1, q2, OutD.mono (fun _ _ k => k.ext e) q⟩
theorem s_cmp (hm : ClMono cl) (hu : X.A.units + 65 < cLine ∧ L.pr = X.w.params) {o : COp} (ha : PE X x (tE X.K L g cl W a)) (hb : PE X y (tE X.K L g cl W b)) (hmk : behindInMarks (copOf o) y = false) : PE X (.Compare x [copOf o] [y] pos) (tE X.K L g cl W (.cmp o a b)) :=
  PE.imp (pe_cmpR (mi_cmp (L := L) hu o) ha hb hmk) fun σ H Q ⟨ρ, hp, env, r, re, h⟩ => by
    unfold wE at h
    exact seq2 hm (F := fun d1 d2 hp2 => (oCmp o d1 d2 hp2).app (KQ X.K L ρ H Q)) (R := fun v1 v2 H2 => rMI X.K L (oCmp o) v1 v2 H2 Q) r re h fun ρ2 hp2 H2 d1 d2 v1 v2 e r2 q1 q2 q => ⟨ρ2, hp2, d1, d2, r2, q1, q2, OutD.mono (fun _ _ k => k.ext e) q⟩
theorem s_ix (hm : ClMono cl) (hu : X.A.units + 65 < cLine ∧ L.pr = X.w.params) (ha : PE X x (tE X.K L g cl W a)) (hb : PE X y (tE X.K L g cl W b)) (hp : PlainIx y) : PE X (.Subscript x y pos) (tE X.K L g cl W (.ix a b)) :=
  PE.imp (pe_ix (mi_ix (L := L) hu) ha hb hp) fun σ H Q ⟨ρ, hp, env, r, re, h⟩ => by
    unfold wE at h
    exact seq2 hm (F := fun d1 d2 hp2 => (oIx d1 d2 hp2).app (KQ X.K L ρ H Q)) (R := fun v1 v2 H2 => rMI X.K L oIx v1 v2 H2 Q) r re h fun ρ2 hp2 H2 d1 d2 v1 v2 e r2 q1 q2 q => ⟨ρ2, hp2, d1, d2, r2, q1, q2, OutD.mono (fun _ _ k => k.ext e) q⟩
theorem s_neg (hm : ClMono cl) (ha : PE X x (tE X.K L g cl W a)) : PE X (.UnaryOp .USub x pos) (tE X.K L g cl W (.neg a)) :=
  PE.imp (pe_un un_neg ha) fun σ H Q ⟨ρ, hp, env, r, re, h⟩ => by
    unfold wE at h
    refine ⟨ρ, hp, env, r, re, wE_mono hm a env hp _ _ _ _ (fun d1 hp1 q1 => ?_) (fun _ _ _ z => z) h⟩
    intro ρ1 H1 v1 e1 r1 d1r
    cases d1r with
    | int i => exact ⟨i, rfl, q1 _ _ _ e1 r1 (.int _)⟩
    | _ => exact False.elim q1
theorem s_cmp2 (hm : ClMono cl) (hu : X.A.units + 65 < cLine ∧ L.pr = X.w.params) {o p : COp} (ha : PE X x (tE X.K L g cl W a)) (hb : PE X y (tE X.K L g cl W b)) (hc : PE X z (tE X.K L g cl W c)) (hmk : lastMarks [copOf o, copOf p] [y, z] = false) :
    PE X (.Compare x [copOf o, copOf p] [y, z] pos) (tE X.K L g cl W (.cmp2 o p a b c)) :=
  PE.imp (pe_chain (mi_cmp (L := L) hu o) (mi_cmp (L := L) hu p) ha hb hc hmk) fun σ H Q ⟨ρ, hp, env, r, re, h⟩ => by
    unfold wE at h
    refine seq2 (b := b) hm (R := fun v1 v2 H2 => rMI X.K L (oCmp o) v1 v2 H2 fun z H3 => ∃ k, z = .bl k ∧ if k = true then tE X.K L g cl W c σ H3 fun w' H4 => rMI X.K L (oCmp p) v2 w' H4 Q else Q (.bl false) H3) r re h fun ρ2 hp2 H2 d1 d2 v1 v2 e r2 q1 q2 q => ⟨ρ2, hp2, d1, d2, r2, q1, q2, OutD.mono (fun d3 hp3 k => ?_) q⟩
    intro ρ3 H3 v3 e3 r3 d3r
    cases d3r with
    | bl t =>
      refine ⟨t, rfl, ?_⟩
      cases t with
      | true =>
        rw [if_pos rfl]
        refine ⟨ρ3, hp3, env, r3, (re.mono e).mono e3, wE_mono hm c env hp3 _ _ _ _ (fun d4 hp4 q4 => ?_) (fun _ _ _ z => z.ext (e.trans e3)) k⟩
        intro ρ4 H4 v4 e4 r4 d4r
        exact ⟨ρ4, hp4, d2, d4, r4, (q2.mono e3).mono e4, d4r, OutD.mono (fun _ _ k => k.ext ((e.trans e3).trans e4)) q4⟩
      | false =>
        rw [if_neg Bool.false_ne_true]
        exact k _ _ _ (e.trans e3) r3 (.bl false)
    | _ => exact False.elim k
/-- as a test, where the text takes the value -/
theorem t_plain (hm : ClMono cl) (ha : PE X x (tE X.K L g cl W a)) (he : ∀ whole, isTrue x X.env whole = (do let v ← whole; standAt x.pos; holding [v] (truthy v))) : PT X x (tT X.K L g cl W a) :=
  PT.imp (pt_truth ha he) fun σ H Q ⟨ρ, hp, env, r, re, h⟩ => by
    refine ⟨ρ, hp, env, r, re, wE_mono hm a env hp _ _ _ _ (fun d1 hp1 q1 => ?_) (fun _ _ _ z => z) h⟩
    intro ρ1 H1 v1 e1 r1 d1r
    obtain ⟨k, t, q⟩ := tru_of r1 d1r q1
    exact ⟨k, t, q _ _ e1 r1⟩
theorem KT.ext {K : PySem.W.Frag} {ρ ρ' : List Addr} {H H' : Hp} {Q : Bool → Hp → Prop} {d : D} {hp : Hq} (k : KT K L ρ H Q d hp) (e : Ext ρ H ρ' H') : KT K L ρ' H' Q d hp :=
  OutB.mono (fun _ q ρ2 H2 e2 r2 => q ρ2 H2 (e.trans e2) r2) k
theorem oTru_bl {b : Bool} {hp : Hq} {k : Bool → Prop} (h : (oTru (.bl b) hp).app k) : k b := h
theorem t_cmp (hm : ClMono cl) (hu : X.A.units + 65 < cLine ∧ L.pr = X.w.params) {o : COp} (ha : PE X x (tE X.K L g cl W a)) (hb : PE X y (tE X.K L g cl W b)) (hmk : behindInMarks (copOf o) y = false) : PT X (.Compare x [copOf o] [y] pos) (tT X.K L g cl W (.cmp o a b)) :=
  PT.imp (pt_cmpR (mi_cmp (L := L) hu o) ha hb hmk) fun σ H Q ⟨ρ, hp, env, r, re, h⟩ => by
    unfold wE at h
    refine seq2 hm (F := fun d1 d2 hp2 => (oCmp o d1 d2 hp2).app (KT X.K L ρ H Q)) (R := fun v1 v2 H2 => rMI X.K L (oCmp o) v1 v2 H2 fun x H' => ∃ k, x = .bl k ∧ Q k H') r re h fun ρ2 hp2 H2 d1 d2 v1 v2 e r2 q1 q2 q => ⟨ρ2, hp2, d1, d2, r2, q1, q2, ?_⟩
    have isb : ∀ {o : COp} {d1 d2 : D} {hp : Hq} {Q' : QD}, (oCmp o d1 d2 hp).app Q' → (oCmp o d1 d2 hp).app fun d h => (∃ t, d = .bl t) ∧ Q' d h := by
      intro o d1 d2 hp Q' h
      cases e : oCmp o d1 d2 hp with
      | no => rw [e] at h; exact h
      | ok d h' =>
        rw [e] at h
        refine ⟨?_, h⟩
        have vb : ∀ {ob : OutB} {neg : Bool} {d : D} {h' : Hq}, ob.val neg hp = .ok d h' → ∃ t, d = .bl t := by
          intro ob neg d h' e
          cases ob <;> cases e
          exact ⟨_, rfl⟩
        cases o <;> first
          | exact vb e
          | (cases d1 <;> cases d2 <;> first | (cases e; exact ⟨_, rfl⟩) | cases e)
      | cd C d h' =>
        rw [e] at h
        refine ⟨h.1, ?_, h.2⟩
        have vb : ∀ {ob : OutB} {neg : Bool} {d : D} {h' : Hq} {C : Prop}, ob.val neg hp = .cd C d h' → ∃ t, d = .bl t := by
          intro ob neg d h' C e
          cases ob <;> cases e
          exact ⟨_, rfl⟩
        cases o <;> first
          | exact vb e
          | (cases d1 <;> cases d2 <;> cases e)
    refine OutD.mono (fun d3 hp3 k => ?_) (isb q)
    obtain ⟨⟨t, rfl⟩, k⟩ := k
    intro ρ3 H3 v3 e3 r3 d3r
    cases d3r
    exact ⟨t, rfl, k _ _ (e.trans e3) r3⟩
theorem s_not (hm : ClMono cl) (ha : PE X x (tE X.K L g cl W a)) : PE X (.UnaryOp .Not x pos) (tE X.K L g cl W (.not a)) :=
  PE.imp (pe_notT ha) fun σ H Q ⟨ρ, hp, env, r, re, h⟩ => by
    unfold wE at h
    refine ⟨ρ, hp, env, r, re, wE_mono hm a env hp _ _ _ _ (fun d1 hp1 q1 => ?_) (fun _ _ _ z => z) h⟩
    intro ρ1 H1 v1 e1 r1 d1r
    obtain ⟨k, t, q⟩ := tru_of r1 d1r q1
    exact ⟨k, t, q _ _ _ e1 r1 (.bl _)⟩
theorem t_not (ha : PT X x (tT X.K L g cl W a)) (hm : ClMono cl) : PT X (.UnaryOp .Not x pos) (tT X.K L g cl W (.not a)) :=
  PT.imp (pt_not ha) fun σ H Q ⟨ρ, hp, env, r, re, h⟩ => by
    unfold wE at h
    refine ⟨ρ, hp, env, r, re, wE_mono hm a env hp _ _ _ _ (fun d1 hp1 q1 => ?_) (fun _ _ _ z => z) h⟩
    exact OutB.mono (fun b q ρ' H' e r' => q _ _ e r') q1
theorem tru_agree {d : D} {hp : Hq} {k k' : Bool → Prop} (h : (oTru d hp).app k) (h' : (oTru d hp).app k') : (oTru d hp).app fun b => k b ∧ k' b := by
  cases e : oTru d hp with
  | no => rw [e] at h; exact h
  | ok b => rw [e] at h h'; exact ⟨h, h'⟩
  | cd C b => rw [e] at h h'; exact ⟨h.1, h.2, h'.2⟩
theorem tru_det {d : D} {hp : Hq} {k : Bool → Prop} {t : Bool} (h : (oTru d hp).app k) (h' : (oTru d hp).app fun b => b = t) : k t := by
  cases e : oTru d hp with
  | no => rw [e] at h; exact False.elim h
  | ok b => rw [e] at h h'; cases (show b = t from h'); exact h
  | cd C b => rw [e] at h h'; cases (show b = t from h'.2); exact h.2
theorem tru_self {d : D} {hp : Hq} {k : Bool → Prop} (h : (oTru d hp).app k) : (oTru d hp).app fun b => k b ∧ (oTru d hp).app fun b' => b' = b := by
  cases e : oTru d hp with
  | no => rw [e] at h; exact h
  | ok b => rw [e] at h; exact ⟨h, rfl⟩
  | cd C b => rw [e] at h; exact ⟨h.1, h.2, h.1, rfl⟩
theorem s_and (hm : ClMono cl) {rest : List Expr} (ha : PE X x (tE X.K L g cl W a)) (hb : PE X (.BoolOp .And (y :: rest) pos) (tE X.K L g cl W b)) : PE X (.BoolOp .And (x :: y :: rest) pos) (tE X.K L g cl W (.and a b)) :=
  PE.imp (pe_andT ha hb) fun σ H Q ⟨ρ, hp, env, r, re, h⟩ => by
    unfold wE at h
    refine ⟨ρ, hp, env, r, re, wE_mono hm a env hp _ _ _ _ (fun d1 hp1 q1 => ?_) (fun _ _ _ z => z) h⟩
    intro ρ1 H1 v1 e1 r1 d1r
    obtain ⟨k, t, q⟩ := tru_of r1 d1r q1
    refine ⟨k, t, ?_⟩
    cases k with
    | true => exact ⟨ρ1, hp1, env, r1, re.mono e1, wE_mono hm b env hp1 _ _ _ _ (fun _ _ k => k.ext e1) (fun _ _ _ z => z.ext e1) q⟩
    | false => exact q _ _ _ e1 r1 d1r
theorem s_or (hm : ClMono cl) {rest : List Expr} (ha : PE X x (tE X.K L g cl W a)) (hb : PE X (.BoolOp .Or (y :: rest) pos) (tE X.K L g cl W b)) : PE X (.BoolOp .Or (x :: y :: rest) pos) (tE X.K L g cl W (.or a b)) :=
  PE.imp (pe_orT ha hb) fun σ H Q ⟨ρ, hp, env, r, re, h⟩ => by
    unfold wE at h
    refine ⟨ρ, hp, env, r, re, wE_mono hm a env hp _ _ _ _ (fun d1 hp1 q1 => ?_) (fun _ _ _ z => z) h⟩
    intro ρ1 H1 v1 e1 r1 d1r
    obtain ⟨k, t, q⟩ := tru_of r1 d1r q1
    refine ⟨k, t, ?_⟩
    cases k with
    | false => exact ⟨ρ1, hp1, env, r1, re.mono e1, wE_mono hm b env hp1 _ _ _ _ (fun _ _ k => k.ext e1) (fun _ _ _ z => z.ext e1) q⟩
    | true => exact q _ _ _ e1 r1 d1r
theorem t_and (hm : ClMono cl) {rest : List Expr} (ha : PT X x (tT X.K L g cl W a)) (hb : PW X (.BoolOp .And (y :: rest) pos) (tT X.K L g cl W b)) : PW X (.BoolOp .And (x :: y :: rest) pos) (tT X.K L g cl W (.and a b)) :=
  PW.imp (pw_and ha hb) fun σ H Q ⟨ρ, hp, env, r, re, h⟩ => by
    unfold wE at h
    refine ⟨ρ, hp, env, r, re, wE_mono hm a env hp _ _ _ _ (fun d1 hp1 q1 => ?_) (fun _ _ _ z => z) h⟩
    refine OutB.mono (fun k q ρ1 H1 e1 r1 => ?_) (tru_self q1)
    obtain ⟨q, hk⟩ := q
    cases k with
    | true => exact ⟨ρ1, hp1, env, r1, re.mono e1, wE_mono hm b env hp1 _ _ _ _ (fun _ _ k => KT.ext k e1) (fun _ _ _ z => z.ext e1) q⟩
    | false => exact tru_det q hk ρ1 H1 e1 r1
theorem t_or (hm : ClMono cl) {rest : List Expr} (ha : PT X x (tT X.K L g cl W a)) (hb : PW X (.BoolOp .Or (y :: rest) pos) (tT X.K L g cl W b)) : PW X (.BoolOp .Or (x :: y :: rest) pos) (tT X.K L g cl W (.or a b)) :=
  PW.imp (pw_or ha hb) fun σ H Q ⟨ρ, hp, env, r, re, h⟩ => by
    unfold wE at h
    refine ⟨ρ, hp, env, r, re, wE_mono hm a env hp _ _ _ _ (fun d1 hp1 q1 => ?_) (fun _ _ _ z => z) h⟩
    refine OutB.mono (fun k q ρ1 H1 e1 r1 => ?_) (tru_self q1)
    obtain ⟨q, hk⟩ := q
    cases k with
    | false => exact ⟨ρ1, hp1, env, r1, re.mono e1, wE_mono hm b env hp1 _ _ _ _ (fun _ _ k => KT.ext k e1) (fun _ _ _ z => z.ext e1) q⟩
    | true => exact tru_det q hk ρ1 H1 e1 r1
theorem s_ite (hm : ClMono cl) (hc : PT X x (tT X.K L g cl W c)) (ha : PE X y (tE X.K L g cl W a)) (hb : PE X z (tE X.K L g cl W b)) : PE X (.IfExp x y z pos) (tE X.K L g cl W (.ite c a b)) :=
  PE.imp (pe_ifExp hc ha hb) fun σ H Q ⟨ρ, hp, env, r, re, h⟩ => by
    unfold wE at h
    refine ⟨ρ, hp, env, r, re, wE_mono hm c env hp _ _ _ _ (fun d1 hp1 q1 => ?_) (fun _ _ _ z => z) h⟩
    refine OutB.mono (fun k q ρ1 H1 e1 r1 => ?_) q1
    cases k with
    | true => exact ⟨ρ1, hp1, env, r1, re.mono e1, wE_mono hm a env hp1 _ _ _ _ (fun _ _ k => k.ext e1) (fun _ _ _ z => z.ext e1) q⟩
    | false => exact ⟨ρ1, hp1, env, r1, re.mono e1, wE_mono hm b env hp1 _ _ _ _ (fun _ _ k => k.ext e1) (fun _ _ _ z => z.ext e1) q⟩
theorem t_ite (hm : ClMono cl) (hc : PT X x (tT X.K L g cl W c)) (ha : PT X y (tT X.K L g cl W a)) (hb : PT X z (tT X.K L g cl W b)) : PT X (.IfExp x y z pos) (tT X.K L g cl W (.ite c a b)) := by
  refine ⟨fun pins s σ H Q I ⟨ρ, hp, env, r, re, h⟩ => ?_⟩
  unfold wE at h
  have e : isTrue (.IfExp x y z pos) X.env (eval (.IfExp x y z pos) X.env) = (do if ← isTrue x X.env (eval x X.env) then isTrue y X.env (eval y X.env) else isTrue z X.env (eval z X.env)) := by
    first | rfl | (unfold isTrue; rfl)
  rw [e]
  refine wpAny_bind (thn (hc.run pins s σ H (fun k H1 => if k = true then tT X.K L g cl W a σ H1 Q else tT X.K L g cl W b σ H1 Q) I
    ⟨ρ, hp, env, r, re, wE_mono hm c env hp _ _ _ _ (fun d1 hp1 q1 => OutB.mono (fun k q ρ1 H1 e1 r1 => ?_) q1) (fun _ _ _ z => z) h⟩) fun k s1 ⟨H1, I1, q1⟩ => ?_)
  · cases k with
    | true => exact ⟨ρ1, hp1, env, r1, re.mono e1, wE_mono hm a env hp1 _ _ _ _ (fun _ _ k => KT.ext k e1) (fun _ _ _ z => z.ext e1) q⟩
    | false => exact ⟨ρ1, hp1, env, r1, re.mono e1, wE_mono hm b env hp1 _ _ _ _ (fun _ _ k => KT.ext k e1) (fun _ _ _ z => z.ext e1) q⟩
  · cases k with
    | true => exact ha.run pins s1 σ H1 Q I1 q1
    | false => exact hb.run pins s1 σ H1 Q I1 q1
end
end MI
/-! MI, exceptions 0: own exception classes with one field. -/
namespace MI
open PySem PySem.Spec PyProof.Rows L2
/-- a built-in exception class under an own one: its name, its __init__, its mro; the class that makes it, by its __new__ -/
structure XB where
  B : String
  ini : String
  tl : List Value
  nB : String
  nw : String
  nini : String
  ntl : List Value
structure XBOk (b : XB) : Prop where
  base : ExcBaseFacts b.nB b.nw b.nini b.ntl
  hasN : b.tl.contains (.type b.nB) = true
  hasB : b.tl.contains (.type b.B) = true
  noA : b.tl.contains (.type "AttributeError") = false
  noN : b.tl.contains (.type "NameError") = false
  iPlain : plainId b.ini = true
  iEntry : entryFor table b.ini = some Builtin.«BaseException.__init__»
  iSplit : splitId b.ini = some (b.B, "__init__")
  iKind : builtinKind b.ini = some .slot
  iRow : Manifest.signature? b.ini = some ⟨.positional, "*", b.B, .self, [⟨"args", .varPos, false⟩]⟩
  iStar : (b.B != "*") = true
  pass : ∀ self, refuseLoop self "__setattr__" b.tl = pure ()
  obj : b.tl.contains (.type "object") = true
  boot : bootBuiltins (Str.ofString b.B) = some (.type b.B)
  typ : typeOf (.type b.B) = pure (.type "type")
  hand : PySem.W.handedIn (.builtin b.ini) = true
  stub : Manifest.isStub b.B = false
def XB.one (B nw ini : String) (tl : List Value) : XB := ⟨B, ini, tl, B, nw, ini, tl⟩
theorem XBOk.of {B nw ini : String} {tl : List Value} (F : ExcBaseFacts B nw ini tl) (p : ∀ self, refuseLoop self "__setattr__" tl = pure ()) (o : tl.contains (.type "object") = true) (b : bootBuiltins (Str.ofString B) = some (.type B)) (t : typeOf (.type B) = pure (.type "type")) (h : PySem.W.handedIn (.builtin ini) = true) (st : Manifest.isStub B = false) : XBOk (.one B nw ini tl) :=
  ⟨F, F.hasB, F.hasB, F.noAttr, F.noName, F.init.plain, F.initEntry, F.initSplit, F.initKind, F.initRow, F.noStar, p, o, b, t, h, st⟩
def xTl : List Value := [.type "Exception", .type "BaseException", .type "object"]
/-- own classes, then the built-in one's mro -/
def refsT (tl : List Value) : List Value → Bool
  | .ref _ :: r => refsT tl r
  | l => l == tl
theorem refsT_form {tl : List Value} : ∀ l : List Value, refsT tl l = true → ∃ cs : List Addr, l = cs.map Value.ref ++ tl
  | [], e => ⟨[], beq_iff_eq.mp e⟩
  | .ref c :: r, e => by
    obtain ⟨cs, q⟩ := refsT_form r e
    exact ⟨c :: cs, by rw [q]; rfl⟩
  | .none :: _, e => ⟨[], beq_iff_eq.mp e⟩
  | .ellipsis :: _, e => ⟨[], beq_iff_eq.mp e⟩
  | .notImplemented :: _, e => ⟨[], beq_iff_eq.mp e⟩
  | .bool _ :: _, e => ⟨[], beq_iff_eq.mp e⟩
  | .int _ _ :: _, e => ⟨[], beq_iff_eq.mp e⟩
  | .float _ _ :: _, e => ⟨[], beq_iff_eq.mp e⟩
  | .str _ _ :: _, e => ⟨[], beq_iff_eq.mp e⟩
  | .bytes _ _ :: _, e => ⟨[], beq_iff_eq.mp e⟩
  | .type _ :: _, e => ⟨[], beq_iff_eq.mp e⟩
  | .builtin _ :: _, e => ⟨[], beq_iff_eq.mp e⟩
theorem refsT_has {tl l : List Value} (h : refsT tl l = true) (T : String) : l.contains (.type T) = tl.contains (.type T) := by
  obtain ⟨cs, rfl⟩ := refsT_form l h
  clear h
  induction cs with
  | nil => rfl
  | cons c r ih =>
    show ((Value.ref c) :: (r.map Value.ref ++ tl)).contains (.type T) = _
    rw [List.contains_cons, ih]
    rfl
theorem refsT_pass {tl l : List Value} (h : refsT tl l = true) (self : Value) (p : refuseLoop self "__setattr__" tl = pure ()) : refuseLoop self "__setattr__" l = pure () := by
  obtain ⟨cs, rfl⟩ := refsT_form l h
  clear h
  induction cs with
  | nil => exact p
  | cons c r ih =>
    show refuseLoop self "__setattr__" (.ref c :: (r.map Value.ref ++ tl)) = _
    rw [refuseLoop_ref]
    exact ih
/-- what the text says of an own class that sets a field -/
structure OexG (K : PySem.W.Frag) (C : Addr) (b : XB) : Prop where
  cls : ∃ nm q N bs bm sn sub ab col dd k0 k1 k2 k3 k5, K.lookup C = some (excClassObj nm q C N bs bm true sn sub ab col dd k0 k1 k2 k3 k5 b.nw) ∧ refsT b.tl bm = true
  sa : PySem.W.findIn K (.ref C) "__setattr__" = some (some (.builtin "object.__setattr__"))
  exC : PySem.W.subIn K (.ref C) (.type "BaseException") = some true
  tyC : PySem.W.typeIn K (.ref C) = some (.type "type")
  kC : PySem.W.keepIn K (.ref C) = true
  ok : XBOk b
/-- .. of one that has no __init__ of its own -/
structure Oex0 (K : PySem.W.Frag) (C : Addr) (b : XB) : Prop where
  cls : PySem.W.excIn K C b.tl b.nw = true
  kC : PySem.W.keepIn K (.ref C) = true
  ok : XBOk b
def xbValue : XB := .one "ValueError" "ValueError.__new__" "ValueError.__init__" (.type "ValueError" :: xTl)
def xbIndex : XB := .one "IndexError" "IndexError.__new__" "IndexError.__init__" (.type "IndexError" :: .type "LookupError" :: xTl)
def xbLookup : XB := .one "LookupError" "LookupError.__new__" "LookupError.__init__" (.type "LookupError" :: xTl)
def xbKey : XB := ⟨"KeyError", "KeyError.__init__", .type "KeyError" :: .type "LookupError" :: xTl, "LookupError", "LookupError.__new__", "LookupError.__init__", .type "LookupError" :: xTl⟩
def xbOverflow : XB := .one "OverflowError" "OverflowError.__new__" "OverflowError.__init__" (.type "OverflowError" :: .type "ArithmeticError" :: xTl)
def xbRuntime : XB := .one "RuntimeError" "RuntimeError.__new__" "RuntimeError.__init__" (.type "RuntimeError" :: xTl)
theorem okValue : XBOk xbValue := .of F.excBase_ValueError (fun self => by kernel_rfl) (by decide +kernel) (by decide +kernel) (by kernel_rfl) (by decide +kernel) (by decide +kernel)
theorem okIndex : XBOk xbIndex := .of F.excBase_IndexError (fun self => by kernel_rfl) (by decide +kernel) (by decide +kernel) (by kernel_rfl) (by decide +kernel) (by decide +kernel)
theorem okLookup : XBOk xbLookup := .of F.excBase_LookupError (fun self => by kernel_rfl) (by decide +kernel) (by decide +kernel) (by kernel_rfl) (by decide +kernel) (by decide +kernel)
theorem okOverflow : XBOk xbOverflow := .of F.excBase_OverflowError (fun self => by kernel_rfl) (by decide +kernel) (by decide +kernel) (by kernel_rfl) (by decide +kernel) (by decide +kernel)
theorem okRuntime : XBOk xbRuntime := .of F.excBase_RuntimeError (fun self => by kernel_rfl) (by decide +kernel) (by decide +kernel) (by kernel_rfl) (by decide +kernel) (by decide +kernel)
theorem okKey : XBOk xbKey where
  base := F.excBase_LookupError
  hasN := by decide +kernel
  hasB := by decide +kernel
  noA := by decide +kernel
  noN := by decide +kernel
  iPlain := by decide +kernel
  iEntry := by
    refine entryFor_alias (id' := "BaseException.__init__") ?_ ?_ ?_ ?_
    · rw [fastTable_eq_tree]; kernel_rfl
    · first | rfl | decide +kernel
    · decide +kernel
    · rw [fastTable_eq_tree]; kernel_rfl
  iSplit := by kernel_rfl
  iKind := by kernel_rfl
  iRow := by kernel_rfl
  iStar := by decide +kernel
  pass := fun self => by kernel_rfl
  obj := by decide +kernel
  boot := by decide +kernel
  typ := by kernel_rfl
  hand := by decide +kernel
  stub := by decide +kernel
/-- self's field f is set to the one argument, behind the base's __init__ -/
def spX (K : PySem.W.Frag) (C : Addr) (f : Str) : Sp := fun vs H Q _ => ∃ a y, vs = [.ref a, y] ∧ H a = some (exo a C none) ∧ ∀ dx, H dx = none → dx ≠ a → Q .non (upd (upd H dx (exd dx [(f, y)])) a (exo a C (some dx)))
/-- a name of a class: of the text, or built in -/
structure NamesV (mg : Str → Option Value) (x : Str) (rv : V) (u : Value) : Prop where
  un : ∀ u', RelV rv u' → u' = u
  re : RelV rv u
  at_ : mg x = some u ∨ (mg x = none ∧ bootBuiltins x = some u ∧ x ≠ "__name__")
/-- what the table says of the class u -/
def ExmAt (K : PySem.W.Frag) (L : Lay) (u : Value) (bs : List Bool) : Prop := ∀ (k : Nat) (C : Addr) (b : Bool), L.exs[k]? = some C → bs[k]? = some b → PySem.W.exmOne K (.ref C) u = some b ∧ PySem.W.kitOne K (.ref C) u = some b
/-- what the text says of a class whose instances are asked and read -/
structure ExF (K : PySem.W.Frag) (attrs : List Str) (C : Addr) : Prop where
  c : ExcC K C
  f : XfC K C
  no : ∀ x ∈ attrs, PySem.W.findIn K (.ref C) x = some none
end MI
/-! MI, part 10: displays, slices, attributes, calls. -/
namespace MI
open PySem PySem.Spec PyProof.Rows L2

def KE (K : PySem.W.Frag) (L : Lay) (ρ : List Addr) (H : Hp) (E : XK) : QX := fun c i hp' => ∀ ρ' H' a C, Ext ρ H ρ' H' → RelH K L ρ' hp' H' → ρ'[i]? = some a → L.exs[c]? = some C → E (.ref C) (some a) H'
/-- the promise of the f-th def: what its run says -/
def spI (K : PySem.W.Frag) (L : Lay) (g : Glob) (n f : Nat) : Sp := fun vs H Q E => ∃ ρ hp ds, RelH K L ρ hp H ∧ RDs K L ρ H ds vs ∧ wCall g n f ds hp (KQ K L ρ H Q) (KE K L ρ H E)
/-- a def keeps a promise, where nothing is being shown -/
structure FnG (P : Program) (w : World) (K : PySem.W.Frag) (mg : Str → Option Value) (base : Heap) (k : Nat) (f : Addr) (fd : FuncData) (ps : List Str) (sp : Sp) : Prop where
  len : ∀ vs H Q E, sp vs H Q E → vs.length = ps.length
  run : ∀ (A : Around) (outer : List PySem.Env) (s : Shared) (H : Hp) (args : Args) (us : List Value) (vs : List V) (Q : VK) (E : XK), Room k A → A.guards = some [] → Env0 P w K mg base A outer s H → BindsTo s fd args (ps.zip us) → Vals vs us → sp vs H Q E →
    codeAny (model P w) A (.call (.ref f) args) (CR (L2.CX P w) outer P w H s Q E) s
theorem FnG.mono {P : Program} {w : World} {K : PySem.W.Frag} {mg : Str → Option Value} {base : Heap} {j k : Nat} {f : Addr} {fd : FuncData} {ps : List Str} {sp : Sp} (F : FnG P w K mg base j f fd ps sp) (h : j ≤ k) : FnG P w K mg base k f fd ps sp :=
  ⟨F.len, fun A outer s H args us vs Q E hr => F.run A outer s H args us vs Q E (hr.mono h)⟩

/-- a call of such a form: n values by their places, some by names; pm: which one each parameter takes -/
def ShpOk (K : PySem.W.Frag) (fd : FuncData) (ps : List Str) (n : Nat) (ks : List Str) (pm : List Nat) : Prop :=
  (∀ j ∈ pm, j < n + ks.length) ∧ ∀ (s : Shared) (us ws : List Value), K.In s.heap → us.length = n → ws.length = ks.length → BindsTo s fd ⟨us, ks.zip ws⟩ (ps.zip (pm.filterMap fun j => (us ++ ws)[j]?))
/-- what the text's own things are, seen from a def's body that may call to depth n -/
structure TF (S : Nm) (g : Glob) (P : Program) (w : World) (K : PySem.W.Frag) (mg : Str → Option Value) (base : Heap) (L : Lay) (n : Nat) : Prop where
  blt : ∀ x ∈ S.blts, mg x = none
  att : L.attrs = S.attrs ∧ S.attrs.Nodup
  fn : ∀ (f : Nat) (x : Str), S.fnN[f]? = some (some x) → ∃ a, L.fns[f]? = some a ∧ mg x = some (.ref a) ∧ PySem.W.keepIn K (.ref a) = true
  call : ∀ (f : Nat) (a : Addr), L.fns[f]? = some a → ∃ fd ps, Binds K fd ps [] ∧ (∀ sh ∈ S.shp, sh.1 = f → ShpOk K fd ps sh.2.1 sh.2.2.1 sh.2.2.2) ∧ FnG P w K mg base (2 * n + 2) a fd ps (spI K L g n f)
  mks : ∀ e ∈ S.mks, ∀ c f, g.meth c e.1 = some f → (f, e.2.1 + 1, e.2.2.1, 0 :: e.2.2.2.map (· + 1)) ∈ S.shp
  mak : ∀ (c : Nat) (x : Str) (f : Nat), S.clsN[c]? = some x → g.init c = some f → ∃ C a, L.clss[c]? = some C ∧ mg x = some (.ref C) ∧ L.fns[f]? = some a ∧ Mk K C a
  ini : ∀ (k : Nat) (x : Str), S.clsN[k]? = some x → g.init k ≠ none
  cls : ∀ (c : Nat) (C : Addr), L.clss[c]? = some C → Cls K C ∧ (∀ x ∈ S.attrs, NoAttr K C x)
  mth : ∀ (c : Nat) (C : Addr) (m : Nat) (nm : Str) (f : Nat), L.clss[c]? = some C → S.mths[m]? = some nm → g.meth c m = some f → ∃ a, L.fns[f]? = some a ∧ Meth K C nm a
  mna : ∀ (m : Nat) (nm : Str), S.mths[m]? = some nm → nm ∉ S.attrs
  exc : ∀ (k : Nat) (x : Str) (f : Nat), S.excN[k]? = some (x, f) → ∃ C nm, L.exs[k]? = some C ∧ mg x = some (.ref C) ∧ S.attrs[f]? = some nm ∧ ∃ fI fd ps, ∃ b, OexG K C b ∧ PySem.W.findIn K (.ref C) "__init__" = some (some (.ref fI)) ∧ PySem.W.typeIn K (.ref fI) = some (.type "function") ∧ Binds K fd ps [] ∧ FnOk P w K mg base (L2.CX P w) 1 fI fd ps (spX K C nm)
  ex0 : ∀ (k : Nat) (x : Str), (k, x) ∈ S.exc0 → ∃ C b, L.exs[k]? = some C ∧ mg x = some (.ref C) ∧ Oex0 K C b ∧ b.ntl = b.tl
  exf : ∀ (k : Nat) (C : Addr), L.exs[k]? = some C → ExF K S.attrs C
  exm : ∀ p ∈ S.exm, ∃ rv u, NamesV mg p.1 rv u ∧ ExmAt K L u p.2
  pr : L.pr = w.params
  kfn : ∀ (f : Nat) (a : Addr), L.fns[f]? = some a → PySem.W.keepIn K (.ref a) = true
  con : ∀ (k : Nat) (x : Str), S.constN[k]? = some x → ∃ d u v, g.consts[k]? = some d ∧ mg x = some u ∧ RelV v u ∧ ∀ ρ H, RD K L ρ H d v

section
variable {X : Cx} {L : Lay} {g : Glob} {cl : Cl} {W : WX} {x y z : Expr} {a b c : Ex} {es : Exs} {xs : List Expr} {pos : Pos}

/-! ### items -/
theorem sa_nil : PA X [] (tEs X.K L g cl W .nil) :=
  PA.imp pa_nil fun σ H Q ⟨ρ, hp, env, r, re, h⟩ => (show KQs X.K L ρ H Q [] hp from h) ρ H [] (Ext.refl _ _) r .nil
theorem sa_cons (hm : ClMono cl) (ha : PE X x (tE X.K L g cl W a)) (hb : PA X xs (tEs X.K L g cl W es)) (hs : starEach (x :: xs) X.env = (false, eval x X.env) :: starEach xs X.env) : PA X (x :: xs) (tEs X.K L g cl W (.cons a es)) :=
  PA.imp (pa_cons ha hb hs) fun σ H Q ⟨ρ, hp, env, r, re, h⟩ => by
    unfold wEs at h
    refine ⟨ρ, hp, env, r, re, wE_mono hm a env hp _ _ _ _ (fun d1 hp1 q1 => ?_) (fun _ _ _ z => z) h⟩
    intro ρ1 H1 v1 e1 r1 d1r
    refine ⟨ρ1, hp1, env, r1, re.mono e1, wEs_mono hm es env hp1 _ _ _ _ (fun ds hp2 q2 => ?_) (fun _ _ _ z => z.ext e1) q1⟩
    intro ρ2 H2 vs e2 r2 dsr
    exact q2 ρ2 H2 (v1 :: vs) (e1.trans e2) r2 (.cons (d1r.mono e2) dsr)
/-- the number of items -/
theorem wEs_len (hm : ClMono cl) : ∀ (es : Exs) (env : Env) (hp : Hq) (Q : List D → Hq → Prop) (E : QX), wEs g cl es env hp Q E → wEs g cl es env hp (fun ds h => ds.length = es.len ∧ Q ds h) E
  | .nil, env, hp, Q, E, h => ⟨rfl, h⟩
  | .cons e r, env, hp, Q, E, h => by
    unfold wEs at h ⊢
    refine wE_mono hm e env hp _ _ _ _ (fun d h1 q1 => ?_) (fun _ _ _ z => z) h
    refine wEs_mono hm r env h1 _ _ _ _ (fun ds h2 q2 => ?_) (fun _ _ _ z => z) (wEs_len hm r env h1 _ _ q1)
    exact ⟨by rw [List.length_cons, q2.1]; rfl, q2.2⟩
theorem s_tup (hm : ClMono cl) {k : Nat} (ha : PA X xs (tEs X.K L g cl W es)) (hl : es.len ≤ 1000) : PE X (.Tuple xs k pos) (tE X.K L g cl W (.tup es)) :=
  PE.imp (pe_tup ha) fun σ H Q ⟨ρ, hp, env, r, re, h⟩ => by
    unfold wE at h
    refine ⟨ρ, hp, env, r, re, wEs_mono hm es env hp _ _ _ _ (fun ds hp1 q1 => ?_) (fun _ _ _ z => z) (wEs_len hm es env hp _ _ h)⟩
    intro ρ1 H1 vs e1 r1 dsr
    obtain ⟨hd, q1⟩ := q1
    exact ⟨by rw [← dsr.len, hd, sizeLine_eq]; omega, KQ.tup (KQ.ext q1 e1) r1 dsr⟩
theorem s_lst (hm : ClMono cl) (ha : PA X xs (tEs X.K L g cl W es)) (hl : es.len ≤ 1000) : PE X (.List xs pos) (tE X.K L g cl W (.lst es)) :=
  PE.imp (pe_lst ha) fun σ H Q ⟨ρ, hp, env, r, re, h⟩ => by
    unfold wE at h
    refine ⟨ρ, hp, env, r, re, wEs_mono hm es env hp _ _ _ _ (fun ds hp1 q1 => ?_) (fun _ _ _ z => z) (wEs_len hm es env hp _ _ h)⟩
    intro ρ1 H1 vs e1 r1 dsr
    obtain ⟨hd, q1⟩ := q1
    exact ⟨by rw [← dsr.len, hd, sizeLine_eq]; omega, KQ.new (KQ.ext q1 e1) r1 (.lst dsr)⟩
/-- the pairs of a display -/
def trsOf (K : PySem.W.Frag) (L : Lay) (g : Glob) (cl : Cl) (W : WX) : Exs → List (TE × TE)
  | .nil => []
  | .cons e r => match r with
    | .nil => []
    | .cons e' r' => (tE K L g cl W e, tE K L g cl W e') :: trsOf K L g cl W r'
def evenX : Exs → Bool
  | .nil => true
  | .cons _ r => match r with
    | .nil => false
    | .cons _ r' => evenX r'
def flatP : List (V × V) → List V
  | [] => []
  | p :: r => p.1 :: p.2 :: flatP r
theorem pairs_imp (hm : ClMono cl) : ∀ (es : Exs) (σ : L2.St) (ρ : List Addr) (hp : Hq) (env : Env) (H : Hp) (Q : List (V × V) → Hp → Prop) (R : List D → Hq → Prop), evenX es = true → RelH X.K L ρ hp H → RE X.K L ρ H env σ →
    wEs g cl es env hp R (KX X.K L ρ H σ W) → (∀ ds hp' ρ' H' ps, R ds hp' → Ext ρ H ρ' H' → RelH X.K L ρ' hp' H' → RDs X.K L ρ' H' ds (flatP ps) → Q ps H') → tPairs (trsOf X.K L g cl W es) σ H Q
  | .nil, σ, ρ, hp, env, H, Q, R, ev, r, re, h, k => k [] hp ρ H [] h (Ext.refl _ _) r .nil
  | .cons e .nil, σ, ρ, hp, env, H, Q, R, ev, r, re, h, k => by cases ev
  | .cons e (.cons e' r'), σ, ρ, hp, env, H, Q, R, ev, r, re, h, k => by
    unfold wEs at h
    refine ⟨ρ, hp, env, r, re, wE_mono hm e env hp _ _ _ _ (fun d1 hp1 q1 => ?_) (fun _ _ _ z => z) h⟩
    intro ρ1 H1 v1 e1 r1 d1r
    unfold wEs at q1
    refine ⟨ρ1, hp1, env, r1, re.mono e1, wE_mono hm e' env hp1 _ _ _ _ (fun d2 hp2 q2 => ?_) (fun _ _ _ z => z.ext e1) q1⟩
    intro ρ2 H2 v2 e2 r2 d2r
    refine pairs_imp hm r' σ ρ2 hp2 env H2 _ (fun ds hp' => R (d1 :: d2 :: ds) hp') ev r2 ((re.mono e1).mono e2) (wEs_mono hm r' env hp2 _ _ _ _ (fun _ _ z => z) (fun _ _ _ z => z.ext (e1.trans e2)) q2) fun ds hp' ρ' H' ps hr e3 r3 rd => ?_
    exact k _ hp' ρ' H' ((v1, v2) :: ps) hr ((e1.trans e2).trans e3) r3 (.cons ((d1r.mono e2).mono e3) (.cons (d2r.mono e3) rd))
theorem pairs_of {K : PySem.W.Frag} {L : Lay} {ρ : List Addr} {H : Hp} : ∀ {ds : List D} {ps : List (V × V)} {kvs : List (Key × D)}, RDs K L ρ H ds (flatP ps) → pairsOf ds = some kvs → ∃ kvs' : List (Key × V), ps = kvs'.map (fun kv => (kV kv.1, kv.2)) ∧ RKs K L ρ H kvs kvs' ∧ 2 * kvs'.length = ds.length
  | [], [], kvs, _, h => by cases h; exact ⟨[], rfl, .nil, rfl⟩
  | [], _ :: _, _, r, _ => by cases r
  | [d], ps, kvs, _, h => by cases h
  | k :: v :: ds, [], _, r, _ => by cases r
  | k :: v :: ds, p :: ps, kvs, r, h => by
    unfold pairsOf at h
    cases r with
    | cons r1 r =>
      cases r with
      | cons r2 r =>
        cases e : kOf k with
        | none => simp only [e] at h; cases h
        | some key =>
          cases e2 : pairsOf ds with
          | none => simp only [e, e2] at h; cases h
          | some kvs0 =>
            simp only [e, e2] at h
            cases h
            obtain ⟨kvs', h1, h2, h3⟩ := pairs_of r e2
            refine ⟨(key, p.2) :: kvs', ?_, .cons ⟨rfl, r2⟩ h2, by simp only [List.length_cons]; omega⟩
            rw [h1, List.map_cons]
            congr 1
            exact Prod.ext (kOf_kV r1 e) rfl
theorem RelH.side0 {K : PySem.W.Frag} {L : Lay} {ρ : List Addr} {H : Hp} {hp : Hq} {p : Addr} {o u : HO} (r : RelH K L ρ hp H) (hn : p ∉ ρ) (h : H p = some o) (hs : ¬ Stb o) : RelH K L ρ hp (upd H p u) ∧ ExtW ρ H ρ (upd H p u) := by
  have w : ExtW ρ H ρ (upd H p u) := ⟨⟨[], by simp⟩, fun a o' h' s => by rw [upd_ne fun z => by subst z; rw [h] at h'; cases h'; exact hs s]; exact h'⟩
  refine ⟨⟨r.nd, r.len, fun i o' h' => ?_⟩, w⟩
  obtain ⟨a, u', h1, h2, h3⟩ := r.at_ i o' h'
  exact ⟨a, u', h1, by rw [upd_ne fun z => hn (by rw [← z]; exact List.mem_of_getElem? h1)]; exact h2, h3.monoW w⟩
theorem Ext.side0 {ρ ρ' : List Addr} {H H' : Hp} {p : Addr} {u : HO} (e : Ext ρ H ρ' H') (h : H p = none) : Ext ρ H ρ' (upd H' p u) :=
  ⟨e.pre, e.new, fun a o h1 h2 => by rw [upd_ne (ne_of_none h1 h)]; exact e.out a o h1 h2, fun a o h1 s => by rw [upd_ne (ne_of_none h1 h)]; exact e.st a o h1 s, fun a o k h1 => by rw [upd_ne (ne_of_none h1 h)]; exact e.fz a o k h1⟩
/-- what stands untold is told -/
theorem RelH.tell0 {K : PySem.W.Frag} {L : Lay} {ρ ρ0 : List Addr} {H H0 : Hp} {hp : Hq} {p : Addr} {o : O} {u : HO} (r : RelH K L ρ hp H) (hn : p ∉ ρ) (h : H p = some u) (q : RHO K L ρ H o u) (e : Ext ρ0 H0 ρ H) (h0 : H0 p = none) : RelH K L (ρ ++ [p]) (hp ++ [o]) H ∧ Ext ρ0 H0 (ρ ++ [p]) H := by
  have w : ExtW ρ H (ρ ++ [p]) H := ⟨⟨[p], rfl⟩, fun _ _ h _ => h⟩
  refine ⟨⟨?_, by simp [r.len], fun i o' h' => ?_⟩, ⟨?_, fun a ha => ?_, e.out, e.st, e.fz⟩⟩
  · rw [List.nodup_append]
    refine ⟨r.nd, by simp, fun a ha b hb => ?_⟩
    have : b = p := by simpa using hb
    subst this
    exact fun z => hn (z ▸ ha)
  · by_cases hi : i < hp.length
    · rw [List.getElem?_append_left hi] at h'
      obtain ⟨a, u', h1, h2, h3⟩ := r.at_ i o' h'
      exact ⟨a, u', w.ix h1, h2, h3.monoW w⟩
    · have hl : i < (hp ++ [o]).length := (List.getElem?_eq_some_iff.mp h').1
      have hi2 : i = hp.length := by
        rw [List.length_append, List.length_singleton] at hl
        omega
      subst hi2
      rw [List.getElem?_append_right (Nat.le_refl _)] at h'
      have : o = o' := by simpa using h'
      subst this
      refine ⟨p, u, ?_, h, q.monoW w⟩
      rw [← r.len, List.getElem?_append_right (Nat.le_refl _)]
      simp
  · obtain ⟨m, hm⟩ := e.pre
    exact ⟨m ++ [p], by rw [hm, List.append_assoc]⟩
  · rcases List.mem_append.mp ha with k | k
    · exact e.new a k
    · have : a = p := by simpa using k
      subst this
      exact .inr h0

theorem s_dic (hm : ClMono cl) {ks : List (Option Expr)} {vs : List Expr} (h : PPs X pos ks vs (trsOf X.K L g cl W es)) (ev : evenX es = true) (hl : ks.length = vs.length) (hall : ks.all (·.isSome) = true) (h15 : ks.length ≤ 15) (hes : es.len = 2 * ks.length) (h0 : ks ≠ []) : PE X (.Dict ks vs pos) (tE X.K L g cl W (.dic es)) :=
  PE.imp (pe_disp h hall hl h0 h15) fun σ H Q ⟨ρ, hp, env, r, re, h⟩ => by
    unfold wE at h
    intro p hpn
    obtain ⟨r1, e1⟩ := r.tmp (u := .dK []) hpn
    have hnp := r.notin hpn
    have h := wEs_len hm es env hp _ _ h
    refine pairs_imp hm es σ ρ hp env _ _ _ ev r1 (re.mono e1) (wEs_mono hm es env hp _ _ _ _ (fun _ _ z => z) (fun _ _ _ z => z.ext e1) h) fun ds hp' ρ' H' ps hr e2 r2 rd => ?_
    obtain ⟨hlen, hr⟩ := hr
    have hp2 : H' p = some (.dK []) := e2.out _ _ upd_same hnp
    have hn2 : p ∉ ρ' := fun z => by
      rcases e2.new p z with q | q
      · exact hnp q
      · rw [upd_same] at q; cases q
    refine ⟨hp2, ?_⟩
    cases eq : pairsOf ds with
    | none => simp only [eq] at hr
    | some kvs =>
      simp only [eq] at hr
      obtain ⟨kvs', k1, k2, k3⟩ := pairs_of rd eq
      refine ⟨kvs', k1, by omega, ?_⟩
      obtain ⟨r3, w3⟩ := r2.side0 (u := .dK (mergeK [] kvs')) hn2 hp2 (fun z => by cases z)
      have e3 : Ext ρ H ρ' (upd H' p (.dK (mergeK [] kvs'))) := (e1.trans e2).side0 hpn
      have rel : RHO X.K L ρ' (upd H' p (.dK (mergeK [] kvs'))) (.dic (kvs.foldl (fun acc kv => dput acc kv.1 kv.2) [])) (.dK (mergeK [] kvs')) := .dic ((merge_rks k2 .nil).monoW w3)
      obtain ⟨r4, e4⟩ := r3.tell0 hn2 upd_same rel e3 hpn
      refine hr _ _ _ e4 r4 (.ref ?_)
      rw [← r2.len, List.getElem?_append_right (Nat.le_refl _)]
      simp
theorem s_dic0 : PE X (.Dict [] [] pos) (tE X.K L g cl W (.dic .nil)) :=
  PE.imp pe_dnewK fun σ H Q ⟨ρ, hp, env, r, re, h⟩ => KQ.new (show KQ X.K L ρ H Q (.ref hp.length) (hp ++ [.dic []]) from h) r (.dic .nil)
theorem ty_boot : ∀ n ∈ tyAll, bootBuiltins (PySem.Str.ofString n) = some (.type n) := by decide +kernel
theorem s_bty {n : String} {p : Pos} (hn : n ∈ tyAll) (hg : Gl X (PySem.Str.ofString n)) (hmg : X.mg (PySem.Str.ofString n) = none) (h1 : PySem.Str.ofString n ≠ "__name__") (h2 : (PySem.Str.ofString n == ("__debug__" : Str)) = false) : PE X (.Name (PySem.Str.ofString n) p) (tE X.K L g cl W (.bty n)) :=
  ⟨fun pins s σ H Q I ⟨ρ, hp, env, r, re, h⟩ => ld_blt I hg hmg (ty_boot n hn) ⟨.ty n, H, I, rfl, KQ.here (show KQ X.K L ρ H Q (.ty n) hp from h) r (.ty n)⟩ h1 h2⟩
theorem s_mmd (hm : ClMono cl) (hc : X.calm = true) (hu : X.A.units + 200 < cLine) {mx : Bool} {p kp : Pos} (hg : Gl X (if mx then "max" else "min" : Str)) (hmg : X.mg (if mx then "max" else "min" : Str) = none) (ha : PE X x (tE X.K L g cl W a)) (hb : PE X y (tE X.K L g cl W b)) (hs : isSub x = false) :
    PE X (.Call (.Name (if mx then "max" else "min" : Str) p) [x] [⟨some "default", y, kp⟩] pos) (tE X.K L g cl W (.mmd mx a b)) := by
  have hst : starEach [x] X.env = (false, eval x X.env) :: starEach [] X.env := by cases x <;> first | rfl | cases hs
  have imp : ∀ σ H Q, tE X.K L g cl W (.mmd mx a b) σ H Q → tCKw (rMmd X.K L mx) (tEs X.K L g cl W (.cons a .nil)) (tCons (tE X.K L g cl W b) tNil) σ H Q := fun σ H Q ⟨ρ, hp, env, r, re, h⟩ => by
    unfold wE at h
    refine ⟨ρ, hp, env, r, re, ?_⟩
    show wE g cl a env hp _ _
    refine wE_mono hm a env hp _ _ _ _ (fun d1 hp1 q1 => ?_) (fun _ _ _ z => z) h
    intro ρ1 H1 vs e1 r1 dsr
    cases dsr with
    | cons d1r t =>
      cases t
      refine ⟨ρ1, hp1, env, r1, re.mono e1, wE_mono hm b env hp1 _ _ _ _ (fun d2 hp2 q2 => ?_) (fun _ _ _ z => z.ext e1) q1⟩
      intro ρ2 H2 v2 e2 r2 d2r
      exact ⟨ρ2, hp2, d1, d2, _, v2, rfl, rfl, r2, d1r.mono e2, d2r, OutD.mono (fun _ _ k => k.ext (e1.trans e2)) q2⟩
  have pa : PA X [x] (tEs X.K L g cl W (.cons a .nil)) := sa_cons hm ha sa_nil hst
  have e1 : backTo pos (starEach [x] X.env) = (false, eval x X.env) :: backTo pos (starEach [] X.env) := by rw [hst]; rfl
  have e2 : (backTo pos (starEach [x] X.env)).any (·.1) = false := by rw [hst]; rfl
  cases mx with
  | false => exact PE.imp (pe_callBK (id := "min") (mi_mmd (L := L) hc hu false) hg hmg (by decide +kernel) pa (pk_cons hb pk_nil) (by decide +kernel) (by decide +kernel) e1 e2) imp
  | true => exact PE.imp (pe_callBK (id := "max") (mi_mmd (L := L) hc hu true) hg hmg (by decide +kernel) pa (pk_cons hb pk_nil) (by decide +kernel) (by decide +kernel) e1 e2) imp

/-! ### slices -/
theorem so_no : PO X none (tEo X.K L g cl W .no) :=
  PO.imp po_none fun σ H Q ⟨ρ, hp, env, r, re, h⟩ => (show KO X.K L ρ H Q none hp from h) ρ H (Ext.refl _ _) r
theorem so_so (hm : ClMono cl) (ha : PE X x (tE X.K L g cl W a)) : PO X (some x) (tEo X.K L g cl W (.so a)) := by
  refine PO.imp (po_some ha) fun σ H Q ⟨ρ, hp, env, r, re, h⟩ => ?_
  unfold wEo at h
  refine ⟨ρ, hp, env, r, re, wE_mono hm a env hp _ _ _ _ (fun d1 hp1 q1 => ?_) (fun _ _ _ z => z) h⟩
  intro ρ1 H1 v1 e1 r1 d1r
  cases d1r with
  | int i => exact ⟨i, rfl, q1 _ _ e1 r1⟩
  | _ => exact False.elim q1
theorem s_sl (hm : ClMono cl) {lo hi : Exo} {l h' : Option Expr} {p2 : Pos} (ha : PE X x (tE X.K L g cl W a)) (hl : PO X l (tEo X.K L g cl W lo)) (hh : PO X h' (tEo X.K L g cl W hi)) : PE X (.Subscript x (.Slice l h' none p2) pos) (tE X.K L g cl W (.sl a lo hi)) :=
  PE.imp (pe_slice (mi_sl (L := L)) ha hl hh) fun σ H Q ⟨ρ, hp, env, r, re, h⟩ => by
    unfold wE at h
    refine ⟨ρ, hp, env, r, re, wE_mono hm a env hp _ _ _ _ (fun d1 hp1 q1 => ?_) (fun _ _ _ z => z) h⟩
    intro ρ1 H1 v1 e1 r1 d1r
    refine ⟨ρ1, hp1, env, r1, re.mono e1, wEo_mono hm lo env hp1 _ _ _ _ (fun ol hp2 q2 => ?_) (fun _ _ _ z => z.ext e1) q1⟩
    unfold KO
    cases eb : bnd ol with
    | none => simp only [eb] at q2
    | some ol' =>
      simp only [eb] at q2 ⊢
      intro ρ2 H2 e2 r2
      refine ⟨ρ2, hp2, env, r2, (re.mono e1).mono e2, wEo_mono hm hi env hp2 _ _ _ _ (fun oh hp3 q3 => ?_) (fun _ _ _ z => z.ext (e1.trans e2)) q2⟩
      unfold KO
      cases eh : bnd oh with
      | none => simp only [eh] at q3
      | some oh' =>
        simp only [eh] at q3 ⊢
        intro ρ3 H3 e3 r3
        exact ⟨ρ3, hp3, d1, r3, (d1r.mono e2).mono e3, OutD.mono (fun _ _ k => k.ext ((e1.trans e2).trans e3)) q3⟩

/-! ### attributes -/
theorem s_fld (hm : ClMono cl) {S : Nm} {n : Nat} (T : TF S g X.prog X.w X.K X.mg X.base L n) {f : Nat} {nm : Str} (hf : S.attrs[f]? = some nm) (ha : PE X x (tE X.K L g cl W a)) (hb : attributeBase x nm X.env (eval x X.env) = eval x X.env) : PE X (.Attribute x nm pos) (tE X.K L g cl W (.fld a f)) :=
  PE.imp (pe_fld ha hb) fun σ H Q ⟨ρ, hp, env, r, re, h⟩ => by
    unfold wE at h
    refine ⟨ρ, hp, env, r, re, wE_mono hm a env hp _ _ _ _ (fun d1 hp1 q1 => ?_) (fun _ _ _ z => z) h⟩
    intro ρ1 H1 v1 e1 r1 d1r
    cases d1r with
    | @ref i p hs =>
      unfold oGetF at q1
      cases e : gtI hp1 i with
      | none => simp only [e] at q1; exact False.elim q1
      | some cf =>
        obtain ⟨c, fs⟩ := cf
        simp only [e] at q1
        obtain ⟨C, dx, vs, h1, h2, h3⟩ := r1.ins hs e
        obtain ⟨hc, hn⟩ := T.cls c C h1
        have hmem : nm ∈ S.attrs := List.mem_of_getElem? hf
        have hLa : L.attrs[f]? = some nm := by rw [T.att.1]; exact hf
        have hnd : L.attrs.Nodup := by rw [T.att.1]; exact T.att.2
        rcases h3.get hnd hLa with ⟨k1, k2⟩ | ⟨d', v', k1, k2, k3⟩
        · simp only [k1] at q1; exact False.elim q1
        · simp only [k1] at q1
          exact ⟨p, C, dx, vs, v', rfl, h2, hc, hn nm hmem, k2, q1 _ _ _ e1 r1 k3⟩
    | _ => exact False.elim q1

/-! ### built-in functions -/
theorem s_blt (hm : ClMono cl) (hc : X.calm = true) (hg : X.A.guards = some []) (hu : X.A.units + 200 < cLine) {bf : BF} {p : Pos} (hgl : Gl X (bfName bf)) (hmg : X.mg (bfName bf) = none) (ha : PA X (x :: xs) (tEs X.K L g cl W es))
    (he : starEach (x :: xs) X.env = (false, eval x X.env) :: starEach xs X.env) (hpl : (backTo pos (starEach xs X.env)).any (·.1) = false) : PE X (.Call (.Name (bfName bf) p) (x :: xs) [] pos) (tE X.K L g cl W (.blt bf es)) := by
  have hd : (bfName bf == ("__debug__" : Str)) = false := by cases bf <;> decide +kernel
  have hn : bfName bf ≠ "__name__" := by cases bf <;> decide +kernel
  have imp : ∀ σ H Q, tE X.K L g cl W (.blt bf es) σ H Q → tCB (rBF X.K L bf) (tEs X.K L g cl W es) σ H Q := fun σ H Q ⟨ρ, hp, env, r, re, h⟩ => by
    unfold wE at h
    refine ⟨ρ, hp, env, r, re, wEs_mono hm es env hp _ _ _ _ (fun ds hp1 q1 => ?_) (fun _ _ _ z => z) h⟩
    intro ρ1 H1 vs e1 r1 dsr
    exact ⟨ρ1, hp1, ds, r1, dsr, OutD.mono (fun _ _ k => k.ext e1) q1⟩
  have val : bootBuiltins (bfName bf) = some (bfV bf) := by cases bf <;> decide +kernel
  have run := mi_bf (L := L) hc hg hu bf
  cases bf <;> first
    | exact PE.imp (pe_callB run hgl hmg val ha hn hd he hpl) imp
    | exact PE.imp (pe_callTy run hgl hmg val ha hn hd he hpl) imp

/-! ### methods of built-in types -/
theorem s_bm0 (hm : ClMono cl) (hc : X.calm = true) (hu : X.A.units + 65 < cLine) {m : BM} {apos : Pos} (ho : PE X x (tE X.K L g cl W a))
    (hbase : attributeBase x (bmName m) X.env (eval x X.env) = eval x X.env) (hline : (apos.endLine == pos.line) = true) :
    PE X (.Call (.Attribute x (bmName m) apos) [] [] pos) (tE X.K L g cl W (.bm m a .nil)) := by
  refine ⟨fun pins s σ H Q I ⟨ρ, hp, env, r, re, h⟩ => ?_⟩
  unfold wE at h
  refine wpAny_Call_method0_late hbase hline (thn (ho.run pins s σ H (fun v1 H1 => ∃ ρ1 hp1 d1 k, Ext ρ H ρ1 H1 ∧ RelH X.K L ρ1 hp1 H1 ∧ RD X.K L ρ1 H1 d1 v1 ∧ bmK m d1 hp1 = some k ∧ (oBM m k d1 [] hp1).app (KQ X.K L ρ H Q)) I
    ⟨ρ, hp, env, r, re, wE_mono hm a env hp _ _ _ _ (fun d1 hp1 q1 => ?_) (fun _ _ _ z => z) h⟩) fun v s1 ⟨x1, H1, I1, rx, q⟩ => ?_)
  · intro ρ1 H1 v1 e1 r1 d1r
    split at q1
    · rename_i k ek
      exact ⟨ρ1, hp1, d1, k, e1, r1, d1r, ek, q1⟩
    · exact False.elim q1
  · obtain ⟨ρ1, hp1, d1, k, e1, r1, d1r, ek, q1⟩ := q
    obtain ⟨h1, h2⟩ := bm_kind I1 r1 d1r rx ek
    obtain ⟨T, id, pa, slot, hty, hT, run⟩ := (bm_fact (L := L) hu hc m k d1 hp1 ek).ex
    subst hT
    exact ⟨bkT k, id, pa, slot, hty, h1, h2, Calls.callWith_builtin rfl (PySem.evalArgs_none (run pins s1 σ H1 x1 [] v [] Q ρ1 hp1 d1 [] I1 rx .nil r1 d1r .nil (OutD.mono (fun _ _ k => k.ext e1) q1)))⟩
theorem s_bm (hm : ClMono cl) (hc : X.calm = true) (hu : X.A.units + 65 < cLine) {m : BM} {apos : Pos} (ho : PE X x (tE X.K L g cl W a)) (ha : PA X (y :: xs) (tEs X.K L g cl W es))
    (hbase : attributeBase x (bmName m) X.env (eval x X.env) = eval x X.env)
    (hfew : ((backTo pos (starEach (y :: xs) X.env)).all (fun x => !x.1) && (backToKw pos (keywordEach [] X.env)).all (fun x => x.1.isSome)
      && decide ((y :: xs).length + ([] : List Keyword).length + (if ([] : List Keyword).isEmpty then 0 else 1) < 30)) = true)
    (hline : (apos.endLine == pos.line) = true) (hs : starEach (y :: xs) X.env = (false, eval y X.env) :: starEach xs X.env) (hplain : (backTo pos (starEach xs X.env)).any (·.1) = false) :
    PE X (.Call (.Attribute x (bmName m) apos) (y :: xs) [] pos) (tE X.K L g cl W (.bm m a es)) := by
  refine ⟨fun pins s σ H Q I ⟨ρ, hp, env, r, re, h⟩ => ?_⟩
  unfold wE at h
  refine wpAny_Call_method_late hbase hfew hline rfl (thn (ho.run pins s σ H (fun v1 H1 => ∃ ρ1 hp1 d1 k, Ext ρ H ρ1 H1 ∧ RelH X.K L ρ1 hp1 H1 ∧ RD X.K L ρ1 H1 d1 v1 ∧ bmK m d1 hp1 = some k ∧ wEs g cl es env hp1 (fun ds hp => (oBM m k d1 ds hp).app (KQ X.K L ρ H Q)) (KX X.K L ρ H σ W)) I
    ⟨ρ, hp, env, r, re, wE_mono hm a env hp _ _ _ _ (fun d1 hp1 q1 => ?_) (fun _ _ _ z => z) h⟩) fun v s1 ⟨x1, H1, I1, rx, q⟩ => ?_)
  · intro ρ1 H1 v1 e1 r1 d1r
    split at q1
    · rename_i k ek
      exact ⟨ρ1, hp1, d1, k, e1, r1, d1r, ek, q1⟩
    · exact False.elim q1
  · obtain ⟨ρ1, hp1, d1, k, e1, r1, d1r, ek, q1⟩ := q
    obtain ⟨h1, h2⟩ := bm_kind I1 r1 d1r rx ek
    obtain ⟨T, id, pa, slot, hty, hT, run⟩ := (bm_fact (L := L) hu hc m k d1 hp1 ek).ex
    subst hT
    refine ⟨bkT k, id, pa, slot, hty, h1, h2, ?_⟩
    have hA := ha.run pos pins s1 σ H1 (fun vs H2 => ∃ ρ2 hp2 ds, Ext ρ1 H1 ρ2 H2 ∧ RelH X.K L ρ2 hp2 H2 ∧ RDs X.K L ρ2 H2 ds vs ∧ (oBM m k d1 ds hp2).app (KQ X.K L ρ H Q)) I1
      ⟨ρ1, hp1, env, r1, re.mono e1, wEs_mono hm es env hp1 _ _ _ _ (fun ds hp2 q2 ρ2 H2 vs e2 r2 dsr => ⟨ρ2, hp2, ds, e2, r2, dsr, q2⟩) (fun _ _ _ z => z.ext e1) q1⟩
    rw [hs] at hA ⊢
    refine Calls.callWith_builtin (by show (false || (backTo pos (starEach xs X.env)).any (·.1)) = false; rw [hplain] <;> rfl) (Calls.evalArgs_plain ?_)
    refine thn hA fun us s2 ⟨vs, H2, I2, r2, ρ2, hp2, ds, e2, rr, dsr, q2⟩ => ?_
    exact run pins s2 σ H2 x1 vs v us Q ρ2 hp2 d1 ds I2 rx r2 rr (d1r.mono e2) dsr (OutD.mono (fun _ _ k => k.ext (e1.trans e2)) q2)

/-! ### calls of the text's own -/
theorem run_fnG {pins : List (Addr × Obj)} {σ : L2.St} {H : Hp} {s : Shared} {Q : VK} {us : List Value} {vs : List V} {k : Nat} {f : Addr} {fd : FuncData} {ps : List Str} {sp : Sp} (F : FnG X.prog X.w X.K X.mg X.base k f fd ps sp) (hr : Room k X.A) (hg : X.A.guards = some [])
    (hb : Binds X.K fd ps []) (tk : Takes X W) (I : Inv X pins σ H s) (r : Vals vs us) (h : sp vs H Q fun cls d H' => W cls d σ H') : wpAny (model X.prog X.w) X.A (call (.ref f) us) (EP X pins σ Q) X.xe s := by
  have hl : us.length = ps.length := by rw [← r.length]; exact F.len _ _ _ _ h
  have hb2 : BindsTo s fd ⟨us, []⟩ (ps.zip us) := by
    have := hb s us I.kIn (by rw [List.append_nil]; exact hl)
    rw [List.append_nil] at this
    exact this
  refine wpAny_call (codeAny_mono (F.run X.A X.stack s H ⟨us, []⟩ us vs Q _ hr hg I.env0 hb2 r h) fun r s' hq => ?_)
  cases r with
  | error e => exact tk e s' (XE.of_call I (fun cls d H' h => h) hq)
  | ok fl =>
    cases fl with
    | ret u => exact I.after hq
    | next => exact False.elim hq
    | brk => exact False.elim hq
    | cont => exact False.elim hq
theorem KX.toE {K : PySem.W.Frag} {L : Lay} {ρ ρ1 : List Addr} {H H1 : Hp} {σ : L2.St} {W : WX} {c i : Nat} {hp : Hq} (k : KX K L ρ H σ W c i hp) (e : Ext ρ H ρ1 H1) : KE K L ρ1 H1 (fun cls d H' => W cls d σ H') c i hp :=
  fun ρ' H' a C e' r q z => k ρ' H' a C (e.trans e') r q z
theorem callWith_any {pins : List (Addr × Obj)} {σ : L2.St} {H : Hp} {s : Shared} {f : Value} {first : List Value} {R : List V → Hp → Prop} {t : TA} {Q : Value → Shared → Prop} (hk : PySem.W.keepIn X.K f = true) (I : Inv X pins σ H s) (ha : PA X xs t)
    (hsh : xs = [] ∨ ∃ y ys, xs = y :: ys ∧ starEach (y :: ys) X.env = (false, eval y X.env) :: starEach ys X.env ∧ (backTo pos (starEach ys X.env)).any (·.1) = false)
    (h : t σ H R) (hnil : xs = [] → R [] H) (k : ∀ us vs H1 s1, Inv X pins σ H1 s1 → Vals vs us → R vs H1 → wpAny (model X.prog X.w) X.A (call f (first ++ us)) Q X.xe s1) :
    wpAny (model X.prog X.w) X.A (callWith pos f first (backTo pos (starEach xs X.env)) (backToKw pos (keywordEach [] X.env))) Q X.xe s := by
  rcases hsh with rfl | ⟨y, ys, rfl, he, hpl⟩
  · exact PySem.W.callWith_K0 I.kIn hk (k [] [] H s I .nil (hnil rfl))
  · exact PySem.W.callWith_K (h₀ := X.base) I.ok.mod.kin hk (thn (ha.run pos pins s σ H _ I h) fun us s1 ⟨vs, H1, I1, r, q⟩ => ⟨I1.kIn, k us vs H1 s1 I1 r q⟩) he hpl

variable {S : Nm} {n : Nat}
def Shape (X : Cx) (pos : Pos) (xs : List Expr) : Prop := xs = [] ∨ ∃ y ys, xs = y :: ys ∧ starEach (y :: ys) X.env = (false, eval y X.env) :: starEach ys X.env ∧ (backTo pos (starEach ys X.env)).any (·.1) = false
theorem s_call (T : TF S g X.prog X.w X.K X.mg X.base L n) (hr : Room (2 * n + 2) X.A) (hg : X.A.guards = some []) (tk : Takes X W) {f : Nat} {nm : Str} {p : Pos} (hf : S.fnN[f]? = some (some nm)) (hgl : Gl X nm) (hdb : (nm == ("__debug__" : Str)) = false)
    (ha : PA X xs (tEs X.K L g (wCall g n) W es)) (hsh : Shape X pos xs) (hnl : xs = [] → es = .nil) : PE X (.Call (.Name nm p) xs [] pos) (tE X.K L g (wCall g n) W (.call f es)) := by
  obtain ⟨fa, h1, h2, h3⟩ := T.fn f nm hf
  obtain ⟨fd, ps, hb, _, F⟩ := T.call f fa h1
  refine ⟨fun pins s σ H Q I ⟨ρ, hp, env, r, re, h⟩ => ?_⟩
  unfold wE at h
  refine wpAny_Call_Name_kw (ld_glob I hgl h2 ?_ hdb)
  refine callWith_any (R := fun vs H1 => ∃ ρ1 hp1 ds, Ext ρ H ρ1 H1 ∧ RelH X.K L ρ1 hp1 H1 ∧ RDs X.K L ρ1 H1 ds vs ∧ wCall g n f ds hp1 (KQ X.K L ρ H Q) (KX X.K L ρ H σ W)) h3 I ha hsh
    ⟨ρ, hp, env, r, re, wEs_mono (wCall_mono g n) es env hp _ _ _ _ (fun ds hp1 q1 ρ1 H1 vs e1 r1 dsr => ⟨ρ1, hp1, ds, e1, r1, dsr, q1⟩) (fun _ _ _ z => z) h⟩
    (fun e => by
      have := hnl e
      subst this
      exact ⟨ρ, hp, [], Ext.refl _ _, r, .nil, h⟩) fun us vs H1 s1 I1 rv ⟨ρ1, hp1, ds, e1, r1, dsr, q1⟩ => ?_
  exact run_fnG F hr hg hb tk I1 rv ⟨ρ1, hp1, ds, r1, dsr, wCall_mono g n f ds hp1 _ _ _ _ (fun _ _ k => k.ext e1) (fun _ _ _ k => k.toE e1) q1⟩

/-- a call of a local name that holds a def -/
theorem s_callL (T : TF S g X.prog X.w X.K X.mg X.base L n) (hr : Room (2 * n + 2) X.A) (hg : X.A.guards = some []) (tk : Takes X W) {i : Nat} {nm : Str} {p : Pos} (hN : X.N[i]? = some nm) (hv : Vis X.env.scope nm) (hd1 : (nm == ("__debug__" : Str)) = false) (hd2 : (nm == ("__classdict__" : Str)) = false)
    (ha : PA X xs (tEs X.K L g (wCall g n) W es)) (hsh : Shape X pos xs) (hnl : xs ≠ []) : PE X (.Call (.Name nm p) xs [] pos) (tE X.K L g (wCall g n) W (.callL i es)) := by
  refine ⟨fun pins s σ H Q I ⟨ρ, hp, env, r, re, h⟩ => ?_⟩
  unfold wE at h
  split at h
  · rename_i f e
    obtain ⟨v, hv2, rd⟩ := re.at_ i _ e
    cases rd with
    | @fn _ fa h1 =>
      obtain ⟨fd, ps, hb, _, F⟩ := T.call f fa h1
      have h3 := T.kfn f fa h1
      refine wpAny_Call_Name_kw (thn ((pe_var (pos := p) hN hv hd1 hd2).run pins s σ H (fun v H1 => v = .ref fa ∧ H1 = H) I ⟨.ref fa, hv2, rfl, rfl⟩) fun u s1 hh => ?_)
      obtain ⟨v, H1, I1, r1, ev, eH⟩ := hh
      subst ev eH
      obtain rfl : u = Value.ref fa := r1
      refine callWith_any (R := fun vs H2 => ∃ ρ1 hp1 ds, Ext ρ H1 ρ1 H2 ∧ RelH X.K L ρ1 hp1 H2 ∧ RDs X.K L ρ1 H2 ds vs ∧ wCall g n f ds hp1 (KQ X.K L ρ H1 Q) (KX X.K L ρ H1 σ W)) h3 I1 ha hsh
        ⟨ρ, hp, env, r, re, wEs_mono (wCall_mono g n) es env hp _ _ _ _ (fun ds hp1 q1 ρ1 H1 vs e1 r1 dsr => ⟨ρ1, hp1, ds, e1, r1, dsr, q1⟩) (fun _ _ _ z => z) h⟩
        (fun e => absurd e hnl) fun us vs H2 s2 I2 rv ⟨ρ1, hp1, ds, e1, r1, dsr, q1⟩ => ?_
      exact run_fnG F hr hg hb tk I2 rv ⟨ρ1, hp1, ds, r1, dsr, wCall_mono g n f ds hp1 _ _ _ _ (fun _ _ k => k.ext e1) (fun _ _ _ k => k.toE e1) q1⟩
  · exact h.elim

/-- o.m( .. ), where the method's name and the call stand in one line -/
theorem methCall_any {env : PySem.Env} {A : Around} {E : Value → Shared → Prop} {s : Shared} {o : Expr} {nm : Str} {apos pos : Pos} {args : List Expr} {prog : Program} {w : World} {Q : Value → Shared → Prop}
    (hbase : attributeBase o nm env (eval o env) = eval o env) (hline : (apos.endLine == pos.line) = true)
    (hfew : methodCallForm (args.length + ([] : List Keyword).length) (backTo pos (starEach args env)) (backToKw pos (keywordEach [] env)) = true)
    (h : wpAny (model prog w) A (eval o env) (fun ov s₁ => ∀ pl, wpAny (model prog w) A (getMethod ov nm pl) (fun fx s₂ => wpAny (model prog w) A (callWith pos fx.1 fx.2 (backTo pos (starEach args env)) (backToKw pos (keywordEach [] env))) Q E s₂) E s₁) E s) :
    wpAny (model prog w) A (eval (.Call (.Attribute o nm apos) args [] pos) env) Q E s := by
  rw [arm_eval_Call, hbase]
  refine wpAny_bind (wpAny_mono h (fun ov s₁ h₁ => ?_) fun _ _ e => e)
  refine wpAny_bind (wpAny_standAt ?_)
  have hpos : methodCallPos true o env apos pos = pure pos := by unfold methodCallPos; simp [hline]
  unfold methodCall
  rw [hfew]
  refine wpAny_bind (wpAny_holding (wpAny_mono (h₁ _) (fun fx s2 h2 => ?_) fun _ _ e => e))
  exact wpAny_bind (wpAny_of_eq hpos h2)

theorem s_meth (T : TF S g X.prog X.w X.K X.mg X.base L n) (hr : Room (2 * n + 2) X.A) (hg : X.A.guards = some []) (tk : Takes X W) {m : Nat} {nm : Str} {apos : Pos} (hf : S.mths[m]? = some nm) (ho : PE X x (tE X.K L g (wCall g n) W a))
    (ha : PA X xs (tEs X.K L g (wCall g n) W es)) (hsh : Shape X pos xs) (hnl : xs = [] → es = .nil) (hbase : attributeBase x nm X.env (eval x X.env) = eval x X.env) (hline : (apos.endLine == pos.line) = true) (hfew : methodCallForm (xs.length + ([] : List Keyword).length) (backTo pos (starEach xs X.env)) (backToKw pos (keywordEach [] X.env)) = true) : PE X (.Call (.Attribute x nm apos) xs [] pos) (tE X.K L g (wCall g n) W (.meth a m es)) := by
  refine ⟨fun pins s σ H Q I ⟨ρ, hp, env, r, re, h⟩ => ?_⟩
  unfold wE at h
  have hm := wCall_mono g n
  refine methCall_any hbase hline hfew (thn (ho.run pins s σ H (fun v1 H1 => ∃ ρ1 hp1 i c fs f, v1 = v1 ∧ Ext ρ H ρ1 H1 ∧ RelH X.K L ρ1 hp1 H1 ∧ RD X.K L ρ1 H1 (.ref i) v1 ∧ gtI hp1 i = some (c, fs) ∧ g.meth c m = some f ∧
      wEs g (wCall g n) es env hp1 (fun ds hp => wCall g n f (.ref i :: ds) hp (KQ X.K L ρ H Q) (KX X.K L ρ H σ W)) (KX X.K L ρ H σ W)) I
    ⟨ρ, hp, env, r, re, wE_mono hm a env hp _ _ _ _ (fun d1 hp1 q1 => ?_) (fun _ _ _ z => z) h⟩) fun v s1 ⟨x1, H1, I1, rx, q⟩ pl => ?_)
  · intro ρ1 H1 v1 e1 r1 d1r
    cases d1r with
    | @ref i pa hs =>
      cases e : gtI hp1 i with
      | none => simp only [e] at q1
      | some cf =>
        obtain ⟨c, fs⟩ := cf
        simp only [e] at q1
        cases e2 : g.meth c m with
        | none => simp only [e2] at q1
        | some f =>
          simp only [e2] at q1
          exact ⟨ρ1, hp1, i, c, fs, f, rfl, e1, r1, .ref hs, e, e2, q1⟩
    | _ => exact False.elim q1
  · obtain ⟨ρ1, hp1, i, c, fs, f, _, e1, r1, d1r, eg, em, q1⟩ := q
    cases d1r with
    | @ref _ pa hs =>
      cases rx
      obtain ⟨C, dx, vs, g1, g2, g3⟩ := r1.ins hs eg
      obtain ⟨hc, _⟩ := T.cls c C g1
      obtain ⟨fa, f1, hmeth⟩ := T.mth c C m nm f g1 hf em
      obtain ⟨fd, ps, hb, _, F⟩ := T.call f fa f1
      have hlook : vs.lookup nm = none := by
        have hna := T.mna m nm hf
        have hat : ∀ x v, (x, v) ∈ vs → x ∈ S.attrs := by
          intro x v hx
          unfold RFs at g3
          clear eg g2
          induction g3 with
          | nil => cases hx
          | cons rr t ih =>
            rcases List.mem_cons.mp hx with e | e
            · rw [← e] at rr
              rw [← T.att.1]
              exact List.mem_of_getElem? rr.1
            · exact ih e
        clear g3 g2 eg
        induction vs with
        | nil => rfl
        | cons p l ih =>
          obtain ⟨x, v⟩ := p
          have hx : ¬ nm = x := fun z => hna (z ▸ hat x v List.mem_cons_self)
          show (match nm == x with | true => some v | false => l.lookup nm) = none
          rw [show (nm == x) = false from beq_eq_false_iff_ne.mpr hx]
          exact ih fun y w hy => hat y w (List.mem_cons_of_mem _ hy)
      refine getmeth_ok I1 g2 hc hmeth hlook ?_
      refine callWith_any (first := [.ref pa]) (R := fun us H2 => ∃ ρ2 hp2 ds, Ext ρ1 H1 ρ2 H2 ∧ RelH X.K L ρ2 hp2 H2 ∧ RDs X.K L ρ2 H2 ds us ∧ wCall g n f (.ref i :: ds) hp2 (KQ X.K L ρ H Q) (KX X.K L ρ H σ W)) hmeth.kp I1 ha hsh
        ⟨ρ1, hp1, env, r1, re.mono e1, wEs_mono hm es env hp1 _ _ _ _ (fun ds hp2 q2 ρ2 H2 us e2 r2 dsr => ⟨ρ2, hp2, ds, e2, r2, dsr, q2⟩) (fun _ _ _ z => z.ext e1) q1⟩
        (fun e => by
          have := hnl e
          subst this
          exact ⟨ρ1, hp1, [], Ext.refl _ _, r1, .nil, q1⟩) fun us vs2 H2 s2 I2 rv ⟨ρ2, hp2, ds, e2, r2, dsr, q2⟩ => ?_
      have hsr : RD X.K L ρ2 H2 (.ref i) (.ref pa) := .ref (e2.ix hs)
      exact run_fnG (vs := .ref pa :: vs2) F hr hg hb tk I2 (.cons rfl rv) ⟨ρ2, hp2, .ref i :: ds, r2, .cons hsr dsr, wCall_mono g n f _ hp2 _ _ _ _ (fun _ _ k => k.ext (e1.trans e2)) (fun _ _ _ k => k.toE (e1.trans e2)) q2⟩

/-! ### with names -/
theorem filt_rd {K : PySem.W.Frag} {L : Lay} {ρ : List Addr} {H : Hp} {ds : List D} {vs : List V} (h : RDs K L ρ H ds vs) : ∀ (pm : List Nat) (ds' : List D), perm (pm.map .inl) ds = some ds' → RDs K L ρ H ds' (pm.filterMap fun j => vs[j]?)
  | [], ds', e => by
    cases e
    exact .nil
  | j :: pm, ds', e => by
    unfold perm at e
    rw [List.map_cons] at e
    unfold mapO at e
    cases e1 : ds[j]? with
    | none => simp only [e1] at e; cases e
    | some y =>
      cases e2 : perm (pm.map .inl) ds with
      | none =>
        unfold perm at e2
        simp only [e1, e2] at e; cases e
      | some ys =>
        have e3 := e2
        unfold perm at e3
        simp only [e1, e3] at e
        cases e
        obtain ⟨v, h1, h2⟩ := h.get e1
        rw [List.filterMap_cons, h1]
        exact .cons h2 (filt_rd h pm ys e2)
theorem filt_vals {vs : List V} {us : List Value} (h : Vals vs us) : ∀ pm : List Nat, Vals (pm.filterMap fun j => vs[j]?) (pm.filterMap fun j => us[j]?)
  | [] => .nil
  | j :: pm => by
    rw [List.filterMap_cons, List.filterMap_cons]
    cases e : vs[j]? with
    | none =>
      have e2 : us[j]? = none := by
        rw [List.getElem?_eq_none_iff] at e ⊢
        rw [← h.length]; exact e
      rw [e2]
      exact filt_vals h pm
    | some v =>
      obtain ⟨u, e2, r⟩ := h.get e
      rw [e2]
      exact .cons r (filt_vals h pm)
theorem filt_shift {α : Type} (x : α) (us : List α) : ∀ pm : List Nat, ((0 :: pm.map (· + 1)).filterMap fun j => (x :: us)[j]?) = x :: pm.filterMap fun j => us[j]? := by
  intro pm
  rw [List.filterMap_cons]
  show x :: _ = _
  congr 1
  rw [List.filterMap_map]
  rfl
theorem perm_inl {pm : List (Sum Nat D)} {pl : List Nat} (h : pm.map (fun s => match s with | .inl j => some j | .inr _ => none) = pl.map some) : pm = pl.map .inl := by
  induction pm generalizing pl with
  | nil =>
    cases pl with
    | nil => rfl
    | cons _ _ => cases h
  | cons s r ih =>
    cases pl with
    | nil => cases h
    | cons j pl =>
      rw [List.map_cons, List.map_cons] at h
      injection h with h1 h2
      cases s with
      | inl j' =>
        cases h1
        rw [ih h2]
        rfl
      | inr _ => cases h1
theorem run_fnS {pins : List (Addr × Obj)} {σ : L2.St} {H : Hp} {s : Shared} {Q : VK} {us ws : List Value} {vs : List V} {k : Nat} {f : Addr} {fd : FuncData} {ps ks : List Str} {sp : Sp} {pm : List Nat} (F : FnG X.prog X.w X.K X.mg X.base k f fd ps sp) (hr : Room k X.A) (hg : X.A.guards = some [])
    (hb : ShpOk X.K fd ps us.length ks pm) (hw : ws.length = ks.length) (tk : Takes X W) (I : Inv X pins σ H s) (r : Vals vs (us ++ ws)) (h : sp (pm.filterMap fun j => vs[j]?) H Q fun cls d H' => W cls d σ H') : wpAny (model X.prog X.w) X.A (call (.ref f) us (ks.zip ws)) (EP X pins σ Q) X.xe s := by
  refine wpAny_call (codeAny_mono (F.run X.A X.stack s H ⟨us, ks.zip ws⟩ _ _ Q _ hr hg I.env0 (hb.2 s us ws I.kIn rfl hw) (filt_vals r pm) h) fun r s' hq => ?_)
  cases r with
  | error e => exact tk e s' (XE.of_call I (fun cls d H' h => h) hq)
  | ok fl =>
    cases fl with
    | ret u => exact I.after hq
    | next => exact False.elim hq
    | brk => exact False.elim hq
    | cont => exact False.elim hq
theorem wEs_split (hm : ClMono cl) : ∀ (k : Nat) (es : Exs) (env : Env) (hp : Hq) (Q : List D → Hq → Prop) (E : QX), wEs g cl es env hp Q E → wEs g cl (takeX k es) env hp (fun ds1 hp1 => wEs g cl (dropX k es) env hp1 (fun ds2 hp2 => Q (ds1 ++ ds2) hp2) E) E
  | 0, es, env, hp, Q, E, h => by
    cases es <;> exact h
  | k + 1, .nil, env, hp, Q, E, h => h
  | k + 1, .cons e r, env, hp, Q, E, h => by
    unfold wEs at h
    show wEs g cl (.cons e (takeX k r)) env hp _ E
    unfold wEs
    exact wE_mono hm e env hp _ _ _ _ (fun d hp1 q1 => wEs_split hm k r env hp1 (fun ds hp => Q (d :: ds) hp) E q1) (fun _ _ _ z => z) h
theorem PK.imp {X : Cx} {kws : List Keyword} {t t' : TA} (h : PK X kws t) (i : ∀ σ H Q, t' σ H Q → t σ H Q) : PK X kws t' := ⟨fun pos pins s σ H Q I q => h.run pos pins s σ H Q I (i σ H Q q)⟩
theorem sk_nil : PK X [] (tEs X.K L g cl W .nil) :=
  PK.imp pk_nil fun σ H Q ⟨ρ, hp, env, r, re, h⟩ => (show KQs X.K L ρ H Q [] hp from h) ρ H [] (Ext.refl _ _) r .nil
theorem sk_cons (hm : ClMono cl) {k : Keyword} {kws : List Keyword} (ha : PE X k.value (tE X.K L g cl W a)) (hb : PK X kws (tEs X.K L g cl W es)) : PK X (k :: kws) (tEs X.K L g cl W (.cons a es)) := by
  obtain ⟨kn, kv, kp⟩ := k
  exact PK.imp (pk_cons ha hb) fun σ H Q ⟨ρ, hp, env, r, re, h⟩ => by
    unfold wEs at h
    refine ⟨ρ, hp, env, r, re, wE_mono hm a env hp _ _ _ _ (fun d1 hp1 q1 => ?_) (fun _ _ _ z => z) h⟩
    intro ρ1 H1 v1 e1 r1 d1r
    refine ⟨ρ1, hp1, env, r1, re.mono e1, wEs_mono hm es env hp1 _ _ _ _ (fun ds hp2 q2 => ?_) (fun _ _ _ z => z.ext e1) q1⟩
    intro ρ2 H2 vs e2 r2 dsr
    exact q2 ρ2 H2 (v1 :: vs) (e1.trans e2) r2 (.cons (d1r.mono e2) dsr)
theorem RDs.app2 {K : PySem.W.Frag} {L : Lay} {ρ : List Addr} {H : Hp} {ds es : List D} {vs us : List V} (a : RDs K L ρ H ds vs) (b : RDs K L ρ H es us) : RDs K L ρ H (ds ++ es) (vs ++ us) := a.app b
theorem callWith_kws {pins : List (Addr × Obj)} {σ : L2.St} {H : Hp} {s : Shared} {f : Value} {first : List Value} {k : Keyword} {kws : List Keyword} {R1 : List V → Hp → Prop} {R : List V → List V → Hp → Prop} {t tk : TA} {Q : Value → Shared → Prop} {ks : List Str} (hk : PySem.W.keepIn X.K f = true) (I : Inv X pins σ H s) (ha : PA X xs t)
    (hsh : xs = [] ∨ ∃ y ys, xs = y :: ys ∧ starEach (y :: ys) X.env = (false, eval y X.env) :: starEach ys X.env ∧ (backTo pos (starEach ys X.env)).any (·.1) = false) (hkw : PK X (k :: kws) tk)
    (hall : (backToKw pos (keywordEach (k :: kws) X.env)).all (·.1.isSome) = true) (hnone : (backToKw pos (keywordEach (k :: kws) X.env)).any (·.1.isNone) = false) (hks : (backToKw pos (keywordEach (k :: kws) X.env)).filterMap (·.1) = ks)
    (h : t σ H R1) (hnil : xs = [] → R1 [] H) (h2 : ∀ vs H1, R1 vs H1 → tk σ H1 (R vs)) (kk : ∀ us ws vs zs H1 s1, Inv X pins σ H1 s1 → Vals vs us → Vals zs ws → R vs zs H1 → wpAny (model X.prog X.w) X.A (call f (first ++ us) (ks.zip ws)) Q X.xe s1) :
    wpAny (model X.prog X.w) X.A (callWith pos f first (backTo pos (starEach xs X.env)) (backToKw pos (keywordEach (k :: kws) X.env))) Q X.xe s := by
  rcases hsh with rfl | ⟨y, ys, rfl, he, hpl⟩
  · refine PySem.W.callWith_KW0 (h₀ := X.base) I.ok.mod.kin hk hall (thn (hkw.run pos pins s σ H _ I (h2 [] H (hnil rfl))) fun ws s2 ⟨zs, H2, I2, rz, q2⟩ => ⟨I2.kIn, ?_⟩) (by rw [hnone]; rfl)
    rw [hks]
    exact kk [] ws [] zs H2 s2 I2 .nil rz q2
  · refine PySem.W.callWith_KW (h₀ := X.base) I.ok.mod.kin hk hall (thn (ha.run pos pins s σ H _ I h) fun us s1 ⟨vs, H1, I1, r, q⟩ => ?_) (by rw [hnone, he]; show ((false || (backTo pos (starEach ys X.env)).any (·.1)) || false) = false; rw [hpl]; rfl) he
    refine thn (hkw.run pos pins s1 σ H1 _ I1 (h2 vs H1 q)) fun ws s2 ⟨zs, H2, I2, rz, q2⟩ => ⟨I2.kIn, ?_⟩
    rw [hks]
    exact kk us ws vs zs H2 s2 I2 r rz q2
theorem methCall_anyK {env : PySem.Env} {A : Around} {E : Value → Shared → Prop} {s : Shared} {o : Expr} {nm : Str} {apos pos : Pos} {args : List Expr} {kws : List Keyword} {prog : Program} {w : World} {Q : Value → Shared → Prop}
    (hbase : attributeBase o nm env (eval o env) = eval o env) (hline : (apos.endLine == pos.line) = true)
    (hfew : methodCallForm (args.length + kws.length) (backTo pos (starEach args env)) (backToKw pos (keywordEach kws env)) = true)
    (h : wpAny (model prog w) A (eval o env) (fun ov s₁ => ∀ pl, wpAny (model prog w) A (getMethod ov nm pl) (fun fx s₂ => wpAny (model prog w) A (callWith pos fx.1 fx.2 (backTo pos (starEach args env)) (backToKw pos (keywordEach kws env))) Q E s₂) E s₁) E s) :
    wpAny (model prog w) A (eval (.Call (.Attribute o nm apos) args kws pos) env) Q E s := by
  rw [arm_eval_Call, hbase]
  refine wpAny_bind (wpAny_mono h (fun ov s₁ h₁ => ?_) fun _ _ e => e)
  refine wpAny_bind (wpAny_standAt ?_)
  have hpos : methodCallPos true o env apos pos = pure pos := by unfold methodCallPos; simp [hline]
  unfold methodCall
  rw [hfew]
  refine wpAny_bind (wpAny_holding (wpAny_mono (h₁ _) (fun fx s2 h2 => ?_) fun _ _ e => e))
  exact wpAny_bind (wpAny_of_eq hpos h2)
/-- an instance's own things hold no method's name -/
theorem no_own {K : PySem.W.Frag} {P : Program} {w : World} {mg : Str → Option Value} {base : Heap} {ρ : List Addr} {H : Hp} {fs : List (Nat × D)} {vs : List (Str × V)} {m : Nat} {nm : Str} (T : TF S g P w K mg base L n) (hf : S.mths[m]? = some nm) (g3 : RFs K L ρ H fs vs) : vs.lookup nm = none := by
  have hna := T.mna m nm hf
  have hat : ∀ x v, (x, v) ∈ vs → x ∈ S.attrs := by
    intro x v hx
    unfold RFs at g3
    induction g3 with
    | nil => cases hx
    | cons rr t ih =>
      rcases List.mem_cons.mp hx with e | e
      · rw [← e] at rr
        rw [← T.att.1]
        exact List.mem_of_getElem? rr.1
      · exact ih e
  clear g3
  induction vs with
  | nil => rfl
  | cons p l ih =>
    obtain ⟨x, v⟩ := p
    have hx : ¬ nm = x := fun z => hna (z ▸ hat x v List.mem_cons_self)
    show (match nm == x with | true => some v | false => l.lookup nm) = none
    rw [show (nm == x) = false from beq_eq_false_iff_ne.mpr hx]
    exact ih fun y w hy => hat y w (List.mem_cons_of_mem _ hy)
theorem s_methK (T : TF S g X.prog X.w X.K X.mg X.base L n) (hr : Room (2 * n + 2) X.A) (hg : X.A.guards = some []) (tk : Takes X W) {m : Nat} {nm : Str} {apos : Pos} {k : Keyword} {kws : List Keyword} {pm : List (Sum Nat D)} {pl : List Nat} {ks : List Str} (hf : S.mths[m]? = some nm) (ho : PE X x (tE X.K L g (wCall g n) W a))
    (ha : PA X xs (tEs X.K L g (wCall g n) W (takeX xs.length es))) (hkw : PK X (k :: kws) (tEs X.K L g (wCall g n) W (dropX xs.length es))) (hsh : Shape X pos xs) (hbase : attributeBase x nm X.env (eval x X.env) = eval x X.env) (hline : (apos.endLine == pos.line) = true)
    (hfew : methodCallForm (xs.length + (k :: kws).length) (backTo pos (starEach xs X.env)) (backToKw pos (keywordEach (k :: kws) X.env)) = true) (hlen : es.len = xs.length + (k :: kws).length)
    (hall : (backToKw pos (keywordEach (k :: kws) X.env)).all (·.1.isSome) = true) (hnone : (backToKw pos (keywordEach (k :: kws) X.env)).any (·.1.isNone) = false) (hks : (backToKw pos (keywordEach (k :: kws) X.env)).filterMap (·.1) = ks) (hksl : ks.length = (k :: kws).length)
    (hin : (m, xs.length, ks, pl) ∈ S.mks) (hpm : pm = pl.map .inl) : PE X (.Call (.Attribute x nm apos) xs (k :: kws) pos) (tE X.K L g (wCall g n) W (.methK a m es pm)) := by
  refine ⟨fun pins s σ H Q I ⟨ρ, hp, env, r, re, h⟩ => ?_⟩
  unfold wE at h
  have hm := wCall_mono g n
  refine methCall_anyK hbase hline hfew (thn (ho.run pins s σ H (fun v1 H1 => ∃ ρ1 hp1 i c fs f, v1 = v1 ∧ Ext ρ H ρ1 H1 ∧ RelH X.K L ρ1 hp1 H1 ∧ RD X.K L ρ1 H1 (.ref i) v1 ∧ gtI hp1 i = some (c, fs) ∧ g.meth c m = some f ∧
      wEs g (wCall g n) es env hp1 (fun ds hp => match perm pm ds with
          | some vs => wCall g n f (.ref i :: vs) hp (KQ X.K L ρ H Q) (KX X.K L ρ H σ W)
          | none => False) (KX X.K L ρ H σ W)) I
    ⟨ρ, hp, env, r, re, wE_mono hm a env hp _ _ _ _ (fun d1 hp1 q1 => ?_) (fun _ _ _ z => z) h⟩) fun v s1 ⟨x1, H1, I1, rx, q⟩ plc => ?_)
  · intro ρ1 H1 v1 e1 r1 d1r
    cases d1r with
    | @ref i pa hs =>
      cases e : gtI hp1 i with
      | none => simp only [e] at q1
      | some cf =>
        obtain ⟨c, fs⟩ := cf
        simp only [e] at q1
        cases e2 : g.meth c m with
        | none => simp only [e2] at q1
        | some f =>
          simp only [e2] at q1
          exact ⟨ρ1, hp1, i, c, fs, f, rfl, e1, r1, .ref hs, e, e2, q1⟩
    | _ => exact False.elim q1
  · obtain ⟨ρ1, hp1, i, c, fs, f, _, e1, r1, d1r, eg, em, q1⟩ := q
    cases d1r with
    | @ref _ pa hs =>
      cases rx
      obtain ⟨C, dx, vs, g1, g2, g3⟩ := r1.ins hs eg
      obtain ⟨hc, _⟩ := T.cls c C g1
      obtain ⟨fa, f1, hmeth⟩ := T.mth c C m nm f g1 hf em
      obtain ⟨fd, ps, hb, hshp, F⟩ := T.call f fa f1
      have hsp := hshp _ (T.mks _ hin c f em) rfl
      have hlook : vs.lookup nm = none := no_own T hf g3
      refine getmeth_ok I1 g2 hc hmeth hlook ?_
      have q1 := wEs_len hm _ _ _ _ _ (wEs_split hm xs.length es env hp1 _ _ (wEs_len hm es env hp1 _ _ q1))
      refine callWith_kws (first := [.ref pa]) (ks := ks) (R1 := fun us H2 => ∃ ρ2 hp2 ds, Ext ρ1 H1 ρ2 H2 ∧ RelH X.K L ρ2 hp2 H2 ∧ RDs X.K L ρ2 H2 ds us ∧ ds.length = (takeX xs.length es).len ∧ wEs g (wCall g n) (dropX xs.length es) env hp2 (fun ds2 hp => (ds ++ ds2).length = es.len ∧ match perm pm (ds ++ ds2) with
          | some vs => wCall g n f (.ref i :: vs) hp (KQ X.K L ρ H Q) (KX X.K L ρ H σ W)
          | none => False) (KX X.K L ρ H σ W))
        (R := fun us zs H2 => ∃ ρ2 hp2 ds vs', Ext ρ1 H1 ρ2 H2 ∧ RelH X.K L ρ2 hp2 H2 ∧ RDs X.K L ρ2 H2 ds (us ++ zs) ∧ ds.length = es.len ∧ us.length = (takeX xs.length es).len ∧ perm pm ds = some vs' ∧ wCall g n f (.ref i :: vs') hp2 (KQ X.K L ρ H Q) (KX X.K L ρ H σ W))
        hmeth.kp I1 ha hsh hkw hall hnone hks
        ⟨ρ1, hp1, env, r1, re.mono e1, wEs_mono hm _ env hp1 _ _ _ _ (fun ds hp2 q2 ρ2 H2 us e2 r2 dsr => ⟨ρ2, hp2, ds, e2, r2, dsr, q2.1, q2.2⟩) (fun _ _ _ z => z.ext e1) q1⟩
        (fun e => ?_) (fun us H2 ⟨ρ2, hp2, ds, e2, r2, dsr, hl, q2⟩ => ?_) fun us ws vs2 zs H2 s2 I2 rv rz ⟨ρ2, hp2, ds, vs', e2, r2, dsr, hl, hl2, ep, q2⟩ => ?_
      · subst e
        refine ⟨ρ1, hp1, [], Ext.refl _ _, r1, .nil, ?_, ?_⟩
        · cases es <;> rfl
        · cases es <;> exact q1.2
      · refine ⟨ρ2, hp2, env, r2, (re.mono e1).mono e2, wEs_mono hm _ env hp2 _ _ _ _ (fun ds2 hp3 q3 => ?_) (fun _ _ _ z => (z.ext e1).ext e2) q2⟩
        intro ρ3 H3 zs e3 r3 zsr
        obtain ⟨hl3, q3⟩ := q3
        cases ep : perm pm (ds ++ ds2) with
        | none => simp only [ep] at q3
        | some vs' =>
          simp only [ep] at q3
          exact ⟨ρ3, hp3, ds ++ ds2, vs', e2.trans e3, r3, (dsr.mono e3).app zsr, hl3, by rw [← dsr.len]; exact hl, ep, q3⟩
      · have hsr : RD X.K L ρ2 H2 (.ref i) (.ref pa) := .ref (e2.ix hs)
        have hul : us.length = xs.length := by
          rw [← rv.length, hl2]
          have : ∀ (k : Nat) (es : Exs), k ≤ es.len → (takeX k es).len = k := by
            intro k
            induction k with
            | zero => intro es _; cases es <;> rfl
            | succ k ih =>
              intro es h
              cases es with
              | nil => cases h
              | cons e r =>
                show (takeX k r).len + 1 = k + 1
                rw [ih r (Nat.le_of_succ_le_succ h)]
          exact this _ _ (by omega)
        have hwl : ws.length = ks.length := by
          have := dsr.len
          rw [List.length_append, hl, rv.length, rz.length, hul, hlen] at this
          omega
        have hrd : RDs X.K L ρ2 H2 (.ref i :: vs') (.ref pa :: pl.filterMap fun j => (vs2 ++ zs)[j]?) := .cons hsr (filt_rd dsr pl vs' (by rw [← hpm]; exact ep))
        refine run_fnS (us := .ref pa :: us) (vs := .ref pa :: (vs2 ++ zs)) (pm := 0 :: pl.map (· + 1)) F hr hg (by rw [List.length_cons, hul]; exact hsp) hwl tk I2 (.cons rfl (rv.append rz)) ?_
        rw [filt_shift]
        exact ⟨ρ2, hp2, .ref i :: vs', r2, hrd, wCall_mono g n f _ hp2 _ _ _ _ (fun _ _ k => k.ext (e1.trans e2)) (fun _ _ _ k => k.toE (e1.trans e2)) q2⟩

/-- a call of a def of the text, some by names -/
theorem s_callK (T : TF S g X.prog X.w X.K X.mg X.base L n) (hr : Room (2 * n + 2) X.A) (hg : X.A.guards = some []) (tk : Takes X W) {f : Nat} {nm : Str} {p : Pos} {k : Keyword} {kws : List Keyword} {pm : List (Sum Nat D)} {pl : List Nat} {ks : List Str} (hf : S.fnN[f]? = some (some nm)) (hgl : Gl X nm) (hdb : (nm == ("__debug__" : Str)) = false)
    (ha : PA X xs (tEs X.K L g (wCall g n) W (takeX xs.length es))) (hkw : PK X (k :: kws) (tEs X.K L g (wCall g n) W (dropX xs.length es))) (hsh : Shape X pos xs) (hlen : es.len = xs.length + (k :: kws).length)
    (hall : (backToKw pos (keywordEach (k :: kws) X.env)).all (·.1.isSome) = true) (hnone : (backToKw pos (keywordEach (k :: kws) X.env)).any (·.1.isNone) = false) (hks : (backToKw pos (keywordEach (k :: kws) X.env)).filterMap (·.1) = ks) (hksl : ks.length = (k :: kws).length)
    (hin : (f, xs.length, ks, pl) ∈ S.shp) (hpm : pm = pl.map .inl) : PE X (.Call (.Name nm p) xs (k :: kws) pos) (tE X.K L g (wCall g n) W (.callK f es pm)) := by
  obtain ⟨fa, h1, h2, h3⟩ := T.fn f nm hf
  obtain ⟨fd, ps, hb, hshp, F⟩ := T.call f fa h1
  have hsp := hshp _ hin rfl
  refine ⟨fun pins s σ H Q I ⟨ρ, hp, env, r, re, h⟩ => ?_⟩
  unfold wE at h
  have hm := wCall_mono g n
  refine wpAny_Call_Name_kw (ld_glob I hgl h2 ?_ hdb)
  have q1 := wEs_len hm _ _ _ _ _ (wEs_split hm xs.length es env hp _ _ (wEs_len hm es env hp _ _ h))
  refine callWith_kws (first := []) (ks := ks) (R1 := fun us H2 => ∃ ρ2 hp2 ds, Ext ρ H ρ2 H2 ∧ RelH X.K L ρ2 hp2 H2 ∧ RDs X.K L ρ2 H2 ds us ∧ ds.length = (takeX xs.length es).len ∧ wEs g (wCall g n) (dropX xs.length es) env hp2 (fun ds2 hp => (ds ++ ds2).length = es.len ∧ match perm pm (ds ++ ds2) with
          | some vs => wCall g n f vs hp (KQ X.K L ρ H Q) (KX X.K L ρ H σ W)
          | none => False) (KX X.K L ρ H σ W))
        (R := fun us zs H2 => ∃ ρ2 hp2 ds vs', Ext ρ H ρ2 H2 ∧ RelH X.K L ρ2 hp2 H2 ∧ RDs X.K L ρ2 H2 ds (us ++ zs) ∧ ds.length = es.len ∧ us.length = (takeX xs.length es).len ∧ perm pm ds = some vs' ∧ wCall g n f vs' hp2 (KQ X.K L ρ H Q) (KX X.K L ρ H σ W))
        h3 I ha hsh hkw hall hnone hks
        ⟨ρ, hp, env, r, re, wEs_mono hm _ env hp _ _ _ _ (fun ds hp2 q2 ρ2 H2 us e2 r2 dsr => ⟨ρ2, hp2, ds, e2, r2, dsr, q2.1, q2.2⟩) (fun _ _ _ z => z) q1⟩
        (fun e => ?_) (fun us H2 ⟨ρ2, hp2, ds, e2, r2, dsr, hl, q2⟩ => ?_) fun us ws vs2 zs H2 s2 I2 rv rz ⟨ρ2, hp2, ds, vs', e2, r2, dsr, hl, hl2, ep, q2⟩ => ?_
  · subst e
    refine ⟨ρ, hp, [], Ext.refl _ _, r, .nil, ?_, ?_⟩
    · cases es <;> rfl
    · cases es <;> exact q1.2
  · refine ⟨ρ2, hp2, env, r2, re.mono e2, wEs_mono hm _ env hp2 _ _ _ _ (fun ds2 hp3 q3 => ?_) (fun _ _ _ z => z.ext e2) q2⟩
    intro ρ3 H3 zs e3 r3 zsr
    obtain ⟨hl3, q3⟩ := q3
    cases ep : perm pm (ds ++ ds2) with
    | none => simp only [ep] at q3
    | some vs' =>
      simp only [ep] at q3
      exact ⟨ρ3, hp3, ds ++ ds2, vs', e2.trans e3, r3, (dsr.mono e3).app zsr, hl3, by rw [← dsr.len]; exact hl, ep, q3⟩
  · have hul : us.length = xs.length := by
      rw [← rv.length, hl2]
      have : ∀ (k : Nat) (es : Exs), k ≤ es.len → (takeX k es).len = k := by
        intro k
        induction k with
        | zero => intro es _; cases es <;> rfl
        | succ k ih =>
          intro es h
          cases es with
          | nil => cases h
          | cons e r =>
            show (takeX k r).len + 1 = k + 1
            rw [ih r (Nat.le_of_succ_le_succ h)]
      exact this _ _ (by omega)
    have hwl : ws.length = ks.length := by
      have := dsr.len
      rw [List.length_append, hl, rv.length, rz.length, hul, hlen] at this
      omega
    refine run_fnS (us := us) (vs := vs2 ++ zs) (pm := pl) F hr hg (by rw [hul]; exact hsp) hwl tk I2 (rv.append rz) ?_
    exact ⟨ρ2, hp2, vs', r2, filt_rd dsr pl vs' (by rw [← hpm]; exact ep), wCall_mono g n f _ hp2 _ _ _ _ (fun _ _ k => k.ext e2) (fun _ _ _ k => k.toE e2) q2⟩

theorem s_make (T : TF S g X.prog X.w X.K X.mg X.base L n) (hr : Room (2 * n + 3) X.A) (hg : X.A.guards = some []) (tk : Takes X W) {k : Nat} {nm : Str} {p : Pos} (hf : S.clsN[k]? = some nm) (hgl : Gl X nm) (hdb : (nm == ("__debug__" : Str)) = false)
    (hin : g.init k ≠ none) (ha : PA X xs (tEs X.K L g (wCall g n) W es)) (hsh : Shape X pos xs) (hnl : xs = [] → es = .nil) : PE X (.Call (.Name nm p) xs [] pos) (tE X.K L g (wCall g n) W (.make k es)) := by
  obtain ⟨f, ef⟩ := Option.ne_none_iff_exists'.mp hin
  obtain ⟨C, fa, h1, h2, h3, M⟩ := T.mak k nm f hf ef
  obtain ⟨fd, ps, hb, _, F⟩ := T.call f fa h3
  refine ⟨fun pins s σ H Q I ⟨ρ, hp, env, r, re, h⟩ => ?_⟩
  unfold wE at h
  simp only [ef] at h
  refine wpAny_Call_Name_kw (ld_glob I hgl h2 ?_ hdb)
  refine callWith_any (R := fun vs H1 => ∃ ρ1 hp1 ds, Ext ρ H ρ1 H1 ∧ RelH X.K L ρ1 hp1 H1 ∧ RDs X.K L ρ1 H1 ds vs ∧ wCall g n f (.ref hp1.length :: ds) (hp1 ++ [.ins k []]) (fun v hp' => match v with
      | .non => KQ X.K L ρ H Q (.ref hp1.length) hp'
      | _ => False) (KX X.K L ρ H σ W)) M.kp I ha hsh
    ⟨ρ, hp, env, r, re, wEs_mono (wCall_mono g n) es env hp _ _ _ _ (fun ds hp1 q1 ρ1 H1 vs e1 r1 dsr => ⟨ρ1, hp1, ds, e1, r1, dsr, q1⟩) (fun _ _ _ z => z) h⟩
    (fun e => by
      have := hnl e
      subst this
      exact ⟨ρ, hp, [], Ext.refl _ _, r, .nil, h⟩) fun us vs H1 s1 I1 rv ⟨ρ1, hp1, ds, e1, r1, dsr, q1⟩ => ?_
  -- the instance's dict, then the instance
  have hdx : H1 s1.heap.objs.size = none := I1.hok.fresh (Nat.le_refl _)
  have hx : H1 (s1.heap.objs.size + 1) = none := I1.hok.fresh (Nat.le_succ _)
  have hne : s1.heap.objs.size ≠ s1.heap.objs.size + 1 := Nat.ne_of_lt (Nat.lt_succ_self _)
  obtain ⟨r2, e2⟩ := r1.tmp (u := .own (s1.heap.objs.size + 1)) hdx
  have hx2 : upd H1 s1.heap.objs.size (.own (s1.heap.objs.size + 1)) (s1.heap.objs.size + 1) = none := by rw [upd_ne (Ne.symm hne)]; exact hx
  obtain ⟨r3, e3⟩ := r2.push (o := .ins k []) (u := .ins C s1.heap.objs.size []) hx2 (.ins h1 .nil)
  have e23 := e2.trans e3
  have I2 := Inv.made (C := C) I1
  have hself : (ρ1 ++ [s1.heap.objs.size + 1])[hp1.length]? = some (s1.heap.objs.size + 1) := by
    rw [← r1.len, List.getElem?_append_right (Nat.le_refl _)]
    simp
  have hsp : spI X.K L g n f (V.ref (s1.heap.objs.size + 1) :: vs) (upd (upd H1 s1.heap.objs.size (.own (s1.heap.objs.size + 1))) (s1.heap.objs.size + 1) (.ins C s1.heap.objs.size []))
      (fun v H' => v = .non ∧ Q (.ref (s1.heap.objs.size + 1)) H') fun cls d H' => W cls d σ H' := by
    refine ⟨_, _, _, r3, .cons (.ref hself) (dsr.mono e23), wCall_mono g n f _ _ _ _ _ _ (fun d hp' k ρ' H' v e' r' q => ?_) (fun _ _ _ k => k.toE (e1.trans e23)) q1⟩
    cases q with
    | non => exact ⟨rfl, k _ _ _ ((e1.trans e23).trans e') r' (.ref (e'.ix hself))⟩
    | _ => exact False.elim k
  have r2v : Vals (V.ref (s1.heap.objs.size + 1) :: vs) (Value.ref (s1.heap.objs.size + 1) :: us) := .cons rfl rv
  have hl : (Value.ref (s1.heap.objs.size + 1) :: us).length = ps.length := by rw [← r2v.length]; exact F.len _ _ _ _ hsp
  have hb2 : ∀ s', X.K.In s'.heap → BindsTo s' fd ⟨Value.ref (s1.heap.objs.size + 1) :: us, []⟩ (ps.zip (Value.ref (s1.heap.objs.size + 1) :: us)) := fun s' k => by
    have := hb s' (Value.ref (s1.heap.objs.size + 1) :: us) k (by rw [List.append_nil]; exact hl)
    rw [List.append_nil] at this
    exact this
  refine wpAny_call (make_map (f := fa) I1.kIn M.makes M.init (beq_iff_eq.mp M.fn) (codeAny_mono (F.run _ X.stack _ _ ⟨Value.ref (s1.heap.objs.size + 1) :: us, []⟩ (Value.ref (s1.heap.objs.size + 1) :: us) _ _ _ (hr.make C us [])
    (by first | exact hg | (simpa [Around.under, Code.guards, Code.isGuard, guardIds, pushGuards] using hg)) (I2.env0.make C us []) (hb2 _ I2.kIn) r2v hsp) fun r s' hq' => ?_))
  cases r with
  | error e => exact tk e s' (XE.of_call I2 (fun cls d H' h => h) hq')
  | ok fl =>
    cases fl with
    | ret u =>
      obtain ⟨v, H', I3, rv', ev, q3⟩ := I2.after hq'
      subst ev
      exact ⟨rv', ⟨V.ref (s1.heap.objs.size + 1), H', I3, rfl, q3⟩⟩
    | next => exact False.elim hq'
    | brk => exact False.elim hq'
    | cont => exact False.elim hq'
end
end MI
set_option maxHeartbeats 2000000
/-! MI: zip of two tuples of one length, strict=True. -/
namespace MI
open PySem PySem.Spec L2
open PySem.Sem (wp)
/-- the zip object, strict -/
abbrev IsZS (h : Heap) (z TI TO : Addr) (f0 : Value) : Prop := h.get? z = some { cls := .type "zip", dict := none, data := .fields #[f0, .bool false, .bool true, .ref TI, .ref TO], slots := #[] }
section
variable {prog : Program} {w : World} {A : Around} {E : Value → Shared → Prop} {s : Shared}
theorem noe_item {it l : Addr} {i : Nat} {items} {x : Value} {Q : Option Value → Shared → Prop} (hit : s.heap.IsTupleIter it l i) (hl : s.heap.IsTuple l items) (hx : items[i]? = some x)
    (hQ : ∀ h', h'.IsTupleIter it l (i + 1) → Heap.SameBut it s.heap h' → Q (some x) { s with heap := h' }) : wpAny (model prog w) A (Builtin.SmallTypes.nextOrEnd (.ref it)) Q E s := by
  unfold Builtin.SmallTypes.nextOrEnd
  refine wpAny_bind (wpAny_attempt (RZ.nextOf_tuple_item hit hl hx fun h' a b => ?_))
  exact wpAny_pure (hQ h' a b)
theorem noe_end {it l : Addr} {i : Nat} {items} {Q : Option Value → Shared → Prop} (hh : A.handled = none) (hit : s.heap.IsTupleIter it l i) (hl : s.heap.IsTuple l items) (hx : items[i]? = none)
    (hQ : ∀ h', Heap.ExtBut it s.heap h' → Q none { s with heap := h' }) : wpAny (model prog w) A (Builtin.SmallTypes.nextOrEnd (.ref it)) Q E s := by
  unfold Builtin.SmallTypes.nextOrEnd
  refine wpAny_bind (wpAny_attempt (RZ.nextOf_tuple_end hh hit hl hx fun h' e hk he => ?_))
  obtain ⟨o, ho, hc⟩ := he
  refine wpAny_bind (wpAny_isInstance (T := "StopIteration") (b := true) ⟨o, ho, hc⟩ isSubtype_stop ?_)
  exact wpAny_pure (hQ _ hk)
theorem zs_item {z TI TO i1 i2 l1 l2 : Addr} {k1 k2 : Nat} {xs ys : Array Value} {x y a b : Value} {Q : Value → Shared → Prop} (D : ZipApart z TI TO i1 i2 l1 l2)
    (hz : IsZS s.heap z TI TO .none) (hTI : IsPair s.heap TI (.ref i1) (.ref i2)) (hTO : IsPair s.heap TO a b)
    (h1 : s.heap.IsTupleIter i1 l1 k1) (h2 : s.heap.IsTupleIter i2 l2 k2) (hl1 : s.heap.IsTuple l1 xs) (hl2 : s.heap.IsTuple l2 ys) (hx : xs[k1]? = some x) (hy : ys[k2]? = some y)
    (hQ : ∀ h', IsZS h' z TI TO (rawInt s.heap.objs.size) → IsPair h' TO x y → h'.IsTupleIter i1 l1 (k1 + 1) → h'.IsTupleIter i2 l2 (k2 + 1) → IsPair h' s.heap.objs.size x y → h'.objs.size = s.heap.objs.size + 1 →
      (∀ c o, c ≠ z → c ≠ TO → c ≠ i1 → c ≠ i2 → s.heap.get? c = some o → h'.get? c = some o) → Q (.ref s.heap.objs.size) { s with heap := h' }) :
    wpAny (model prog w) A (Builtin.«zip.__next__» ⟨[.ref z], []⟩) (fun fin s' => ∃ v, fin = .done (.ret v) ∧ Q v s') E s := by
  show wpAny _ _ (field (.ref z) 2 >>= _) _ _ _
  refine wpAny_bind (wpAny_field hz rfl (x := .bool true) rfl ?_)
  show wpAny _ _ (field (.ref z) 3 >>= _) _ _ _
  refine wpAny_bind (wpAny_field hz rfl (x := .ref TI) rfl ?_)
  refine wpAny_bind (wpAny_seqItems hTI rfl ?_)
  show wpAny _ _ (Builtin.SmallTypes.ownedTupleIsFree (.ref z) >>= _) _ _ _
  refine wpAny_bind ?_
  unfold Builtin.SmallTypes.ownedTupleIsFree
  refine wpAny_bind (wpAny_field hz rfl (x := .none) rfl (wpAny_pure ?_))
  simp only [if_true]
  refine wpAny_bind (wpAny_rule ?_)
  refine wpAny_bind (wpAny_field hz rfl (x := .ref TO) rfl ?_)
  refine wpAny_bind (wpAny_setField_rec hz (by simp) fun j1 z1 u1 => ?_)
  replace z1 : IsZS j1 z TI TO .ellipsis := z1
  refine wpAny_bind ?_
  simp only [List.zipIdx_cons, List.zipIdx_nil, List.forIn_cons, List.forIn_nil]
  refine wpAny_bind (wpAny_bind (wpAny_onRaise ?_))
  show wpAny _ _ (Builtin.SmallTypes.nextOrEnd (.ref i1)) _ _ _
  refine noe_item (h1.extBut u1.extBut D.i1z) (hl1.extBut u1.extBut D.l1z) hx fun j2 a2 u2 => ?_
  have t2 : IsPair j2 TO a b := u2.extBut _ _ D.TOi1 (u1.extBut _ _ D.TOz hTO)
  refine wpAny_bind (wpAny_seqItems t2 rfl ?_)
  refine wpAny_bind (wpAny_updateSeq_pair t2 fun j3 t3 u3 => ?_)
  replace t3 : IsPair j3 TO x b := t3
  refine wpAny_bind (wpAny_letGo (wpAny_pure ?_))
  refine wpAny_bind (wpAny_bind (wpAny_onRaise ?_))
  show wpAny _ _ (Builtin.SmallTypes.nextOrEnd (.ref i2)) _ _ _
  refine noe_item (((h2.extBut u1.extBut D.i2z).extBut u2.extBut D.i12.symm).extBut u3.extBut D.TOi2.symm) (((hl2.extBut u1.extBut D.l2z).extBut u2.extBut D.l2i1).extBut u3.extBut D.l2TO) hy fun j4 b4 u4 => ?_
  have t4 : IsPair j4 TO x b := u4.extBut _ _ D.TOi2 t3
  refine wpAny_bind (wpAny_seqItems t4 rfl ?_)
  refine wpAny_bind (wpAny_updateSeq_pair t4 fun j5 t5 u5 => ?_)
  replace t5 : IsPair j5 TO x y := t5
  refine wpAny_bind (wpAny_letGo (wpAny_pure (wpAny_pure ?_)))
  refine wpAny_bind (wpAny_seqItems t5 rfl ?_)
  refine wpAny_bind (wpAny_newTuple ?_)
  have hsz : j5.objs.size = s.heap.objs.size := by rw [u5.1, u4.1, u3.1, u2.1, u1.1]
  have z5 : IsZS j5 z TI TO .ellipsis := u5.extBut _ _ D.TOz.symm (u4.extBut _ _ D.i2z.symm (u3.extBut _ _ D.TOz.symm (u2.extBut _ _ D.i1z.symm z1)))
  have k5 : ∀ c o, c ≠ z → c ≠ TO → c ≠ i1 → c ≠ i2 → s.heap.get? c = some o → j5.get? c = some o := fun c o c1 c2 c3 c4 e =>
    u5.extBut _ _ c2 (u4.extBut _ _ c4 (u3.extBut _ _ c2 (u2.extBut _ _ c3 (u1.extBut _ _ c1 e))))
  have a5 : j5.IsTupleIter i1 l1 (k1 + 1) := ((a2.extBut u3.extBut D.TOi1.symm).extBut u4.extBut D.i12).extBut u5.extBut D.TOi1.symm
  have b5 : j5.IsTupleIter i2 l2 (k2 + 1) := b4.extBut u5.extBut D.TOi2.symm
  have zl : z < j5.objs.size := Heap.lt_size z5
  show wpAny _ _ (Builtin.SmallTypes.ownedTupleHandOut (.ref z) (.ref j5.objs.size) >>= _) _ _ _
  refine wpAny_bind ?_
  unfold Builtin.SmallTypes.ownedTupleHandOut
  have z6 : IsZS (j5.push { cls := .type "tuple", data := .seq #[x, y] }) z TI TO .ellipsis := Heap.get?_push_of_some _ z5
  refine wpAny_bind (wpAny_setField_rec z6 (by simp) fun j7 z7 u7 => ?_)
  replace z7 : IsZS j7 z TI TO (rawInt j5.objs.size) := z7
  refine wpAny_setField_rec z7 (by simp) fun j8 z8 u8 => ?_
  replace z8 : IsZS j8 z TI TO (rawInt j5.objs.size) := z8
  have up : ∀ c o, c ≠ z → j5.get? c = some o → j8.get? c = some o := fun c o c1 e => u8.extBut _ _ c1 (u7.extBut _ _ c1 (Heap.get?_push_of_some _ e))
  have t8 : IsPair j8 j5.objs.size x y := u8.extBut _ _ (Nat.ne_of_gt zl) (u7.extBut _ _ (Nat.ne_of_gt zl) (Heap.get?_push_size _ rfl))
  have s8 : j8.objs.size = j5.objs.size + 1 := by rw [u8.1, u7.1, Heap.size_push]
  rw [hsz] at z8 t8 s8
  refine wpAny_pure ⟨_, rfl, ?_⟩
  show Q (.ref j5.objs.size) _
  rw [hsz]
  exact hQ j8 z8 (up _ _ D.TOz t5) (a5.at fun o e => up _ o D.i1z e) (b5.at fun o e => up _ o D.i2z e) t8 s8 fun c o c1 c2 c3 c4 e => up c o c1 (k5 c o c1 c2 c3 c4 e)
theorem zs_end {z TI TO i1 i2 l1 l2 : Addr} {k1 k2 : Nat} {xs ys : Array Value} {a b : Value} {Q : Fin → Shared → Prop} (hh : A.handled = none) (D : ZipApart z TI TO i1 i2 l1 l2)
    (hz : IsZS s.heap z TI TO .none) (hTI : IsPair s.heap TI (.ref i1) (.ref i2)) (hTO : IsPair s.heap TO a b)
    (h1 : s.heap.IsTupleIter i1 l1 k1) (h2 : s.heap.IsTupleIter i2 l2 k2) (hl1 : s.heap.IsTuple l1 xs) (hl2 : s.heap.IsTuple l2 ys) (hx : xs[k1]? = none) (hy : ys[k2]? = none)
    (hE : ∀ h' e, (∀ c o, c ≠ z → c ≠ TO → c ≠ i1 → c ≠ i2 → s.heap.get? c = some o → h'.get? c = some o) → (∃ o, h'.get? e = some o ∧ o.cls = .type "StopIteration") → E (.ref e) { s with heap := h' }) :
    wpAny (model prog w) A (Builtin.«zip.__next__» ⟨[.ref z], []⟩) Q E s := by
  show wpAny _ _ (field (.ref z) 2 >>= _) _ _ _
  refine wpAny_bind (wpAny_field hz rfl (x := .bool true) rfl ?_)
  show wpAny _ _ (field (.ref z) 3 >>= _) _ _ _
  refine wpAny_bind (wpAny_field hz rfl (x := .ref TI) rfl ?_)
  refine wpAny_bind (wpAny_seqItems hTI rfl ?_)
  show wpAny _ _ (Builtin.SmallTypes.ownedTupleIsFree (.ref z) >>= _) _ _ _
  refine wpAny_bind ?_
  unfold Builtin.SmallTypes.ownedTupleIsFree
  refine wpAny_bind (wpAny_field hz rfl (x := .none) rfl (wpAny_pure ?_))
  simp only [if_true]
  refine wpAny_bind (wpAny_rule ?_)
  refine wpAny_bind (wpAny_field hz rfl (x := .ref TO) rfl ?_)
  refine wpAny_bind (wpAny_setField_rec hz (by simp) fun j1 z1 u1 => ?_)
  replace z1 : IsZS j1 z TI TO .ellipsis := z1
  refine wpAny_bind ?_
  simp only [List.zipIdx_cons, List.zipIdx_nil, List.forIn_cons, List.forIn_nil]
  refine wpAny_bind (wpAny_bind (wpAny_onRaise ?_))
  show wpAny _ _ (Builtin.SmallTypes.nextOrEnd (.ref i1)) _ _ _
  refine noe_end hh (h1.extBut u1.extBut D.i1z) (hl1.extBut u1.extBut D.l1z) hx fun j2 u2 => ?_
  have z2 : IsZS j2 z TI TO .ellipsis := u2 _ _ D.i1z.symm z1
  refine wpAny_bind (wpAny_setField_rec z2 (by simp) fun j3 z3 u3 => ?_)
  have b3 : j3.IsTupleIter i2 l2 k2 := ((h2.extBut u1.extBut D.i2z).extBut u2 D.i12.symm).extBut u3.extBut D.i2z
  have m3 : j3.IsTuple l2 ys := ((hl2.extBut u1.extBut D.l2z).extBut u2 D.l2i1).extBut u3.extBut D.l2z
  have e0 : ([Value.ref i1, Value.ref i2].drop 1).zipIdx 1 = [(.ref i2, 1)] := rfl
  refine wpAny_bind ?_
  show wpAny _ _ (forIn (List.zipIdx (List.drop 1 [Value.ref i1, Value.ref i2]) 1) _ _ >>= _) _ _ _
  simp only [List.drop_succ_cons, List.drop_zero, List.zipIdx_cons, List.zipIdx_nil, List.forIn_cons, List.forIn_nil]
  refine wpAny_bind (wpAny_bind (wpAny_bind (noe_end hh b3 m3 hy fun j4 u4 => ?_)))
  simp only [Option.isSome_none, Bool.false_eq_true, if_false]
  refine wpAny_pure (wpAny_pure ?_)
  refine wpAny_bind (wpAny_rule ?_)
  have kept : ∀ c o, c ≠ z → c ≠ TO → c ≠ i1 → c ≠ i2 → s.heap.get? c = some o → j4.get? c = some o := fun c o c1 c2 c3 c4 x => u4 _ _ c4 (u3.extBut _ _ c1 (u2 _ _ c3 (u1.extBut _ _ c1 x)))
  unfold Builtin.SmallTypes.stopIteration
  refine wpAny_bind ?_
  simp only [newExc, newTuple]
  refine wpAny_bind (wpAny_newObj_type ?_ (by size_fits))
  refine wpAny_bind (m := firstArgMember _ _) (wpAny_of_eq (a := Value.none) (by first | rfl | (simp only [firstArgMember]; rfl)) ?_)
  refine wpAny_newObj_type ?_ (by size_fits)
  simp only [raiseNew]
  refine wpAny_bind (wpAny_handled ?_)
  first | rw [show A.in1.handled = none from hh] | rw [hh]
  refine wpAny_bind (wpAny_pure (wpAny_throw ?_))
  exact hE _ _ (fun c o c1 c2 c3 c4 x => Heap.get?_push_of_some _ (Heap.get?_push_of_some _ (kept c o c1 c2 c3 c4 x))) ⟨_, Heap.get?_push_size _ rfl, rfl⟩
theorem pyNext_zs_item {z TI TO i1 i2 l1 l2 : Addr} {k1 k2 : Nat} {xs ys : Array Value} {x y a b : Value} {Q : Option Value → Shared → Prop} (D : ZipApart z TI TO i1 i2 l1 l2)
    (hz : IsZS s.heap z TI TO .none) (hTI : IsPair s.heap TI (.ref i1) (.ref i2)) (hTO : IsPair s.heap TO a b)
    (h1 : s.heap.IsTupleIter i1 l1 k1) (h2 : s.heap.IsTupleIter i2 l2 k2) (hl1 : s.heap.IsTuple l1 xs) (hl2 : s.heap.IsTuple l2 ys) (hx : xs[k1]? = some x) (hy : ys[k2]? = some y)
    (hQ : ∀ h', IsZS h' z TI TO (rawInt s.heap.objs.size) → IsPair h' TO x y → h'.IsTupleIter i1 l1 (k1 + 1) → h'.IsTupleIter i2 l2 (k2 + 1) → IsPair h' s.heap.objs.size x y → h'.objs.size = s.heap.objs.size + 1 →
      (∀ c o, c ≠ z → c ≠ TO → c ≠ i1 → c ≠ i2 → s.heap.get? c = some o → h'.get? c = some o) → Q (some (.ref s.heap.objs.size)) { s with heap := h' }) :
    wpAny (model prog w) A (pyNext (.ref z)) Q E s := by
  have isZ : s.TypeIs (.ref z) "zip" := ⟨_, hz, rfl⟩
  unfold pyNext
  refine wpAny_bind (wpAny_attempt (wpAny_callSpecial?_slot (name := Str.ofString "__next__") isZ F.slot_zip_next ?_))
  refine wpAny_call_entry F.slot_zip_next isZ F.entry_zip_next ?_ (F.args_zip_next_1 _)
  exact zs_item D hz hTI hTO h1 h2 hl1 hl2 hx hy fun h' a1 a2 a3 a4 a5 a6 a7 => wpAny_pure (hQ h' a1 a2 a3 a4 a5 a6 a7)
theorem pyNext_zs_end {z TI TO i1 i2 l1 l2 : Addr} {k1 k2 : Nat} {xs ys : Array Value} {a b : Value} {Q : Option Value → Shared → Prop} (hh : A.handled = none) (D : ZipApart z TI TO i1 i2 l1 l2)
    (hz : IsZS s.heap z TI TO .none) (hTI : IsPair s.heap TI (.ref i1) (.ref i2)) (hTO : IsPair s.heap TO a b)
    (h1 : s.heap.IsTupleIter i1 l1 k1) (h2 : s.heap.IsTupleIter i2 l2 k2) (hl1 : s.heap.IsTuple l1 xs) (hl2 : s.heap.IsTuple l2 ys) (hx : xs[k1]? = none) (hy : ys[k2]? = none)
    (hQ : ∀ h', (∀ c o, c ≠ z → c ≠ TO → c ≠ i1 → c ≠ i2 → s.heap.get? c = some o → h'.get? c = some o) → Q none { s with heap := h' }) : wpAny (model prog w) A (pyNext (.ref z)) Q E s := by
  have isZ : s.TypeIs (.ref z) "zip" := ⟨_, hz, rfl⟩
  unfold pyNext
  refine wpAny_bind (wpAny_attempt (wpAny_callSpecial?_slot (name := Str.ofString "__next__") isZ F.slot_zip_next ?_))
  refine wpAny_call_entry F.slot_zip_next isZ F.entry_zip_next (zs_end hh D hz hTI hTO h1 h2 hl1 hl2 hx hy fun h' e hk he => ?_) (F.args_zip_next_1 _)
  obtain ⟨o, ho, hc⟩ := he
  refine wpAny_bind (wpAny_isInstance (T := "StopIteration") (b := true) ⟨o, ho, hc⟩ isSubtype_stop ?_)
  exact wpAny_pure (hQ _ hk)
theorem iter_zs {z TI TO : Addr} {f0 : Value} {Q : Value → Shared → Prop} (hz : IsZS s.heap z TI TO f0) (h : Q (.ref z) s) : wpAny (model prog w) A (pyIter (.ref z)) Q E s := by
  have isZ : s.TypeIs (.ref z) "zip" := ⟨_, hz, rfl⟩
  refine wpAny_pyIter_slot isZ F.slot_zip_iter ?_
  refine wpAny_call_entry F.slot_zip_iter isZ F.entry_zip_iter ?_ (F.args_zip_iter_1 _)
  show wpAny _ _ (ret (.ref z)) _ _ s
  exact wpAny_pure ⟨_, rfl, "zip", _, isZ, F.slot_zip_next.lookup, h⟩
end
abbrev zsH (h : Heap) (l1 l2 : Addr) : Heap := (RZ.zipTH4 h l1 l2).push { cls := .type "zip", data := .fields #[.none, .bool false, .bool true, .ref (RZ.zipTH2 h l1 l2).objs.size, .ref (RZ.zipTH3 h l1 l2).objs.size] }
theorem tc_zs (a b c : Value) : checkTypeCall "zip" ⟨[a, b], [(Str.ofString "strict", c)]⟩ = pure () := by kernel_rfl
theorem nc_zs (a b c : Value) : checkBuiltinCall "zip.__new__" ⟨[.type "zip", a, b], [(Str.ofString "strict", c)]⟩ = pure () := by kernel_rfl
theorem oi_zs (o a b c : Value) : argsOk "object.__init__" ⟨[o, a, b], [(Str.ofString "strict", c)]⟩ := by unfold argsOk; kernel_rfl
theorem meets_zs (l1 l2 : Addr) (xs ys : Array Value) :
    Meets (Builtin.«zip.__new__» ⟨[.type "zip", .ref l1, .ref l2], [(Str.ofString "strict", .bool true)]⟩) (fun _ R s => s.heap.IsTuple l1 xs ∧ s.heap.IsTuple l2 ys ∧ R (.ok (.ret (.ref (RZ.zipTH4 s.heap l1 l2).objs.size))) { s with heap := zsH s.heap l1 l2 }) :=
  .of_wp fun prog w A R s h => by
    obtain ⟨hp, g, d, tk, os⟩ := s
    obtain ⟨hl1, hl2, h⟩ := h
    have hsub := sub_zip
    have m1 : Heap.IsTuple (Shared.heap ⟨hp, g, d, tk, os⟩) l1 xs := hl1
    have m2 : Heap.IsTuple (Shared.heap ⟨hp.push { cls := .type "tuple_iterator", data := .fields #[.ref l1, .int 0 0] }, g, d, tk, os⟩) l2 ys := Heap.IsTuple.push hl2 _
    have e1 : (Str.ofString "strict" != ("strict" : Str)) = false := by decide +kernel
    wp_walk using wpAny_pyIter_tuple m1, wpAny_pyIter_tuple m2
    exact ⟨_, rfl, h⟩
theorem callWith_tkw {M : Model} {A : Around} {E : Value → Shared → Prop} {s : Shared} {env : PySem.Env} {pos : Pos} {T : String} {e : Expr} {rest : List Expr} {kws : List Keyword} {Q : Value → Shared → Prop}
    (h : wpAny M A (spliced (backTo pos (starEach (e :: rest) env))) (fun vs s₁ => wpAny M A (evalAll ((backToKw pos (keywordEach kws env)).map (·.2))) (fun ks s₂ => wpAny M A (call (.type T) vs (((backToKw pos (keywordEach kws env)).filterMap (·.1)).zip ks)) Q E s₂) E s₁) E s)
    (he : backTo pos (starEach (e :: rest) env) = (false, eval e env) :: backTo pos (starEach rest env)) (hpl : (backTo pos (starEach (e :: rest) env)).any (·.1) = false)
    (hall : (backToKw pos (keywordEach kws env)).all (·.1.isSome) = true) (hkw : (backToKw pos (keywordEach kws env)).any (·.1.isNone) = false) :
    wpAny M A (callWith pos (.type T) [] (backTo pos (starEach (e :: rest) env)) (backToKw pos (keywordEach kws env))) Q E s := by
  have ev : wpAny M A (evalArgs (.type T) true (backTo pos (starEach (e :: rest) env)) (backToKw pos (keywordEach kws env))) (fun a s₁ => wpAny M A (call (.type T) ([] ++ a.pos) a.kw) Q E s₁) E s := by
    rw [he] at h ⊢
    exact PyProof.Rows.evalArgs_kwB hall h
  unfold callWith
  refine wpAny_bind (wpAny_holding (wpAny_mono ev (fun a s₁ h₁ => wpAny_bind (wpAny_standAt ?_)) fun _ _ x => x))
  simp only [hpl, hkw, Bool.or_false]
  refine wpAny_bind (wpAny_pure ?_)
  exact wpAny_bind (wpAny_mono h₁ (fun r s₂ hr => wpAny_bind (wpAny_holding (wpAny_point (wpAny_pure hr)))) fun _ _ x => x)
section
variable {prog : Program} {w : World} {A : Around} {E : Value → Shared → Prop} {s : Shared}
theorem call_zs {l1 l2 : Addr} {xs ys : Array Value} {Q : Value → Shared → Prop} (hl1 : s.heap.IsTuple l1 xs) (hl2 : s.heap.IsTuple l2 ys)
    (h : ∀ h', IsZS h' (s.heap.objs.size + 4) (s.heap.objs.size + 2) (s.heap.objs.size + 3) .none → IsPair h' (s.heap.objs.size + 2) (.ref s.heap.objs.size) (.ref (s.heap.objs.size + 1)) →
      IsPair h' (s.heap.objs.size + 3) .none .none → h'.IsTupleIter s.heap.objs.size l1 0 → h'.IsTupleIter (s.heap.objs.size + 1) l2 0 → h'.objs.size = s.heap.objs.size + 5 →
      (∀ c o, s.heap.get? c = some o → h'.get? c = some o) → Q (.ref (s.heap.objs.size + 4)) { s with heap := h' }) :
    wpAny (model prog w) A (call (.type "zip") [.ref l1, .ref l2] [(Str.ofString "strict", .bool true)]) Q E s := by
  refine callType_newKw F.called_zip (by decide) (tc_zs _ _ _) (nc_zs _ _ _) (fun obj => oi_zs obj _ _ _) F.entry_zip_new (meets_zs l1 l2 xs ys) ⟨hl1, hl2, ?_⟩
  have y1 : (RZ.zipTH1 s.heap l1).objs.size = s.heap.objs.size + 1 := Heap.size_push ..
  have y2 : (RZ.zipTH2 s.heap l1 l2).objs.size = s.heap.objs.size + 2 := by rw [Heap.size_push, y1]
  have y3 : (RZ.zipTH3 s.heap l1 l2).objs.size = s.heap.objs.size + 3 := by rw [Heap.size_push, y2]
  have y4 : (RZ.zipTH4 s.heap l1 l2).objs.size = s.heap.objs.size + 4 := by rw [Heap.size_push, y3]
  have y5 : (zsH s.heap l1 l2).objs.size = s.heap.objs.size + 5 := by rw [Heap.size_push, y4]
  have g5 : (zsH s.heap l1 l2).get? (RZ.zipTH4 s.heap l1 l2).objs.size = some _ := Heap.get?_push_size _ rfl
  have g4 : (zsH s.heap l1 l2).get? (RZ.zipTH3 s.heap l1 l2).objs.size = some _ := Heap.get?_push_of_some _ (Heap.get?_push_size _ rfl)
  have g3 : (zsH s.heap l1 l2).get? (RZ.zipTH2 s.heap l1 l2).objs.size = some _ := Heap.get?_push_of_some _ (Heap.get?_push_of_some _ (Heap.get?_push_size _ rfl))
  have g2 : (zsH s.heap l1 l2).get? (RZ.zipTH1 s.heap l1).objs.size = some _ := Heap.get?_push_of_some _ (Heap.get?_push_of_some _ (Heap.get?_push_of_some _ (Heap.get?_push_size _ rfl)))
  have g1 : (zsH s.heap l1 l2).get? s.heap.objs.size = some _ := Heap.get?_push_of_some _ (Heap.get?_push_of_some _ (Heap.get?_push_of_some _ (Heap.get?_push_of_some _ (Heap.get?_push_size _ rfl))))
  show _ ∧ _
  rw [y2, y3, y4] at g5
  rw [y1, y2] at g3
  rw [y3] at g4
  rw [y1] at g2
  rw [y4]
  refine ⟨⟨_, g5, rfl⟩, h _ g5 g3 g4 ⟨_, g1, rfl, rfl⟩ ⟨_, g2, rfl, rfl⟩ y5 fun c o x => ?_⟩
  exact Heap.get?_push_of_some _ (Heap.get?_push_of_some _ (Heap.get?_push_of_some _ (Heap.get?_push_of_some _ (Heap.get?_push_of_some _ x))))
end
/-- two tuples of one length -/
def ItS (K : PySem.W.Frag) (a b : Addr) : It :=
  ⟨fun i H => ∃ (xs ys : List V) (x y : V), SqT K H a xs ∧ SqT K H b ys ∧ xs[i]? = some x ∧ ys[i]? = some y,
    fun i H v H' => ∃ T x y, v = .ref T ∧ H T = none ∧ H' = upd H T (.tup [x, y]) ∧ (∀ xs, SqT K H a xs → xs[i]? = some x) ∧ ∀ ys, SqT K H b ys → ys[i]? = some y,
    fun i H => ∃ xs ys : List V, SqT K H a xs ∧ SqT K H b ys ∧ xs.length ≤ i ∧ ys.length ≤ i⟩
theorem letgo_zs {prog : Program} {w : World} {A : Around} {E : Value → Shared → Prop} {s : Shared} {elts : List Expr} {x1} {pos : Pos} {z TI TO T : Addr} {Q : Unit → Shared → Prop} (hz : IsZS s.heap z TI TO (rawInt T))
    (hQ : ∀ h', IsZS h' z TI TO .none → Heap.SameBut z s.heap h' → Q () { s with heap := h' }) : wpAny (model prog w) A (letOwnedTupleGo (.Tuple elts x1 pos) (.ref z) (.ref T)) Q E s := by
  unfold letOwnedTupleGo
  refine wpAny_bind (wpAny_load hz ?_)
  show wpAny _ _ (if (["enumerate", "zip", "dict_itemiterator", "dict_reverseitemiterator", "odict_iterator", "itertools.zip_longest", "itertools.pairwise"].contains "zip" && (#[rawInt T, .bool false, .bool true, .ref TI, .ref TO] : Array Value)[0]? == some (rawInt T)) = true then _ else _) Q E s
  rw [if_pos (by simp)]
  refine wpAny_bind (wpAny_rule ?_)
  show wpAny _ _ (setField (.ref z) 0 .none) Q E s
  exact wpAny_setField_rec hz (by simp) fun h' z' u' => hQ h' z' u'
theorem mem5 {c z TI TO i1 i2 : Addr} (h : c ∈ [z, TI, TO, i1, i2]) : c = z ∨ c = TI ∨ c = TO ∨ c = i1 ∨ c = i2 := by simpa using h
theorem turn_zs {P : Program} {w : World} {K : PySem.W.Frag} {elts : List Expr} {kk : Nat} {tpos : Pos} {a b z TI TO i1 i2 : Addr} (D : ZipApart z TI TO i1 i2 a b) :
    Turn P w K (.Tuple elts kk tpos) (ItS K a b) [z, TI, TO, i1, i2] z (fun i h => IsZS h z TI TO .none ∧ IsPair h TI (.ref i1) (.ref i2) ∧ (∃ x y, IsPair h TO x y) ∧ h.IsTupleIter i1 a i ∧ h.IsTupleIter i2 b i) where
  mem := by simp
  obj := fun i h st c hc => by
    obtain ⟨hz, hTI, ⟨x, y, hTO⟩, ⟨o1, e1, _, d1⟩, ⟨o2, e2, _, d2⟩⟩ := st
    rcases mem5 hc with q | q | q | q | q <;> rw [q]
    · exact ⟨_, hz, fun v q => nomatch q⟩
    · exact ⟨_, hTI, fun v q => nomatch q⟩
    · exact ⟨_, hTO, fun v q => nomatch q⟩
    · exact ⟨o1, e1, fun v q => by rw [d1] at q; cases q⟩
    · exact ⟨o2, e2, fun v q => by rw [d2] at q; cases q⟩
  keep := fun i h h' st k => by
    obtain ⟨hz, hTI, ⟨x, y, hTO⟩, h1, h2⟩ := st
    refine ⟨k z (by simp) _ hz, k TI (by simp) _ hTI, ⟨x, y, k TO (by simp) _ hTO⟩, ?_, ?_⟩
    · exact h1.at fun o q => k i1 (by simp) o q
    · exact h2.at fun o q => k i2 (by simp) o q
  item := by
    intro X hP hw hK hc i pins s σ H E I hf st hg
    subst hP hw hK
    obtain ⟨hz, hTI, ⟨x0, y0, hTO⟩, h1, h2⟩ := st
    obtain ⟨xs, ys, x, y, sx, sy, hx, hy⟩ := hg
    obtain ⟨its, rv, p, _⟩ := I.tuple sx
    obtain ⟨its2, rv2, p2, _⟩ := I.tuple sy
    obtain ⟨u, hu, ru⟩ := rv.get hx
    obtain ⟨u2, hu2, ru2⟩ := rv2.get hy
    have zl : z < s.heap.objs.size := Heap.lt_size hz
    refine pyNext_zs_item D hz hTI hTO h1 h2 p p2 (x := u) (y := u2) (by simpa using hu) (by simpa using hu2) fun h' z' TO' h1' h2' hT hsz hk => ?_
    refine ⟨_, rfl, letgo_zs (s := { s with heap := h' }) z' fun h'' z'' sb => ?_⟩
    have t2 : h''.get? s.heap.objs.size = some { cls := .type "tuple", data := .seq #[u, u2] } := (sb.2 _ (Nat.ne_of_gt zl)).trans hT
    have new : ObjOk X.prog X.w (upd H s.heap.objs.size (.tup [x, y])) h'' s.heap.objs.size (.tup [x, y]) := ⟨by show 2 ≤ sizeLine; decide, [u, u2], .cons ru (.cons ru2 .nil), ⟨_, t2, rfl, _, rfl⟩⟩
    have I1 : Inv X pins σ (upd H s.heap.objs.size (.tup [x, y])) { s with heap := h'' } := by
      refine I.turnedNew (t' := s.toks) (ch := [z, TI, TO, i1, i2]) (fun c o hb q => ?_) hf (Nat.le_refl _) new
      exact (sb.2 c (fun q' => hb (by simp [q']))).trans (hk c o (fun q' => hb (by simp [q'])) (fun q' => hb (by simp [q'])) (fun q' => hb (by simp [q'])) (fun q' => hb (by simp [q'])) q)
    refine ⟨.ref s.heap.objs.size, _, I1, rfl, ⟨_, x, y, rfl, I.hok.fresh (Nat.le_refl _), rfl, fun l hl => ?_, fun l hl => ?_⟩, ⟨z'', ?_, ⟨u, u2, ?_⟩, ?_, ?_⟩, fun c hcm => ?_⟩
    · rw [I.tuple_inj hl sx]; exact hx
    · rw [I.tuple_inj hl sy]; exact hy
    · exact (sb.2 _ D.TIz).trans (hk _ _ D.TIz D.TITO D.TIi1 D.TIi2 hTI)
    · exact (sb.2 _ D.TOz).trans TO'
    · exact h1'.at fun o q => (sb.2 _ D.i1z).trans q
    · exact h2'.at fun o q => (sb.2 _ D.i2z).trans q
    · have lt : c < s.heap.objs.size := by
        rcases mem5 hcm with q | q | q | q | q <;> rw [q]
        · exact zl
        · exact Heap.lt_size hTI
        · exact Heap.lt_size hTO
        · obtain ⟨_, e1, _⟩ := h1; exact Heap.lt_size e1
        · obtain ⟨_, e1, _⟩ := h2; exact Heap.lt_size e1
      rw [upd_ne (Nat.ne_of_lt lt)]
      exact (hf c hcm).1
  done := by
    intro X hP hw hK hc i pins s σ H E I hf st hg
    subst hP hw hK
    obtain ⟨hz, hTI, ⟨x0, y0, hTO⟩, h1, h2⟩ := st
    obtain ⟨xs, ys, sx, sy, n1, n2⟩ := hg
    obtain ⟨its, rv, p, _⟩ := I.tuple sx
    obtain ⟨its2, rv2, p2, _⟩ := I.tuple sy
    have l1 := rv.length
    have l2 := rv2.length
    refine pyNext_zs_end (I.ok.hd hc) D hz hTI hTO h1 h2 p p2 (by simp; omega) (by simp; omega) fun h' hk => ⟨rfl, I.turnedL (t' := s.toks) (ch := [z, TI, TO, i1, i2]) (fun c o hb q => ?_) hf⟩
    exact hk c o (fun q' => hb (by simp [q'])) (fun q' => hb (by simp [q'])) (fun q' => hb (by simp [q'])) (fun q' => hb (by simp [q'])) q
  self := fun A i s Q E st h => iter_zs st.1 h
def iZipS (K : PySem.W.Frag) (ta : TA) : TI := fun σ H R => ta σ H fun vs H1 => ∃ a b xs ys, vs = [.ref a, .ref b] ∧ SqT K H1 a xs ∧ SqT K H1 b ys ∧ R (ItS K a b) H1
theorem mem5s {n c : Nat} (h : c ∈ [n + 4, n + 2, n + 3, n, n + 1]) : n ≤ c := by
  rcases mem5 h with q | q | q | q | q <;> rw [q] <;> first | exact Nat.le_add_right _ _ | exact Nat.le_refl _
theorem pi_zipS {X : Cx} {e e2 : Expr} {ta : TA} {p pos tpos kp cp : Pos} {elts : List Expr} {kk j : Nat} (hg : Gl X "zip") (hm : X.mg "zip" = none) (ha : PA X [e, e2] ta)
    (hs : backTo pos (starEach [e, e2] X.env) = (false, eval e X.env) :: backTo pos (starEach [e2] X.env)) (hpl : (backTo pos (starEach [e, e2] X.env)).any (·.1) = false) :
    PI X (.Tuple elts kk tpos) (.Call (.Name "zip" p) [e, e2] [⟨some "strict", .Constant (.bool true) j cp, kp⟩] pos) (iZipS X.K ta) := by
  refine ⟨fun pins s σ H R I h => ?_⟩
  refine wpAny_Call_Name_kw (ld_blt I hg hm PyProof.Rows.boot_zip ?_)
  refine callWith_tkw (thn (ha.run pos pins s σ H _ I h) fun us s1 hh => ?_) hs hpl rfl rfl
  obtain ⟨vs, H1, I1, r1, a, b, xs, ys, ex, sx, sy, q⟩ := hh
  subst ex
  cases r1 with
  | cons r rr =>
    cases rr with
    | cons r' rr =>
      cases rr
      cases r
      cases r'
      refine PyProof.Rows.kws_cons (thn (pe_bl.run pins s1 σ H1 (fun v H2 => v = .bl true ∧ H2 = H1) I1 ⟨rfl, rfl⟩) fun u s2 h2 => PyProof.Rows.kws_nil ?_)
      obtain ⟨v2, H2, I2, rb, ev, eH⟩ := h2
      subst ev eH
      obtain rfl : u = Value.bool true := rb
      obtain ⟨its, rv, p1, _⟩ := I2.tuple sx
      obtain ⟨its2, rv2, p2, _⟩ := I2.tuple sy
      obtain ⟨o1, ho1, _⟩ := id p1
      obtain ⟨o2, ho2, _⟩ := id p2
      have fresh5 : ∀ c, c ∈ [s2.heap.objs.size + 4, s2.heap.objs.size + 2, s2.heap.objs.size + 3, s2.heap.objs.size, s2.heap.objs.size + 1] → FpOk X pins H2 c := fun c hcm => I2.fpOk (mem5s hcm) (I2.hok.fresh (mem5s hcm))
      show wpAny _ _ (call (.type "zip") [.ref a, .ref b] [(Str.ofString "strict", .bool true)]) _ _ _
      refine call_zs (show s2.heap.IsTuple a its.toArray from p1) (show s2.heap.IsTuple b its2.toArray from p2) fun h' hz hTI hTO h1 h2 hsz hk => ?_
      refine iter_zs hz ?_
      have I3 : Inv X pins σ H2 { s2 with heap := h' } := I2.kept (t' := s2.toks) hk
      exact ⟨s2.heap.objs.size + 4, _, _, _, H2, rfl, I3, turn_zs (PySem.W.ktu_apart s2.heap.objs.size a b (Heap.lt_size ho1) (Heap.lt_size ho2)), ⟨hz, hTI, ⟨_, _, hTO⟩, h1, h2⟩, fresh5, q⟩
end MI
/-! MI, part 11: what is walked. -/
namespace MI
open PySem PySem.Spec PyProof.Rows L2

/-! ### unlocking -/
def unP (H0 : Hp) (P : Hp → Prop) (H' : Hp) : Prop := P H' ∨ ∃ d od u, H' d = some (.frz od u) ∧ (∀ o' u', H0 d ≠ some (.frz o' u')) ∧ P (upd H' d u)
theorem ps_un {X : Cx} {st : Stmt} {t : TS} (h : PS X st t) : PS X st (fun D σ H => t ⟨fun σ' => unP X.H_0 (D.nx σ'), fun v => unP X.H_0 (D.rt v), fun σ' => unP X.H_0 (D.bk σ'), fun σ' => unP X.H_0 (D.ct σ')⟩ σ H) := by
  refine ⟨fun pins s σ H D I hw => ?_⟩
  refine thn (h.run pins s σ H _ I hw) fun f s1 q => ?_
  cases f with
  | next =>
    obtain ⟨σ', H', I2, q⟩ := q
    rcases q with q | ⟨d, od, u, e, hn, q⟩
    · exact ⟨σ', H', I2, q⟩
    · exact ⟨σ', _, I2.unlock e hn, q⟩
  | brk =>
    obtain ⟨σ', H', I2, q⟩ := q
    rcases q with q | ⟨d, od, u, e, hn, q⟩
    · exact ⟨σ', H', I2, q⟩
    · exact ⟨σ', _, I2.unlock e hn, q⟩
  | cont =>
    obtain ⟨σ', H', I2, q⟩ := q
    rcases q with q | ⟨d, od, u, e, hn, q⟩
    · exact ⟨σ', H', I2, q⟩
    · exact ⟨σ', _, I2.unlock e hn, q⟩
  | ret v =>
    obtain ⟨x, σ', H', I2, r, q⟩ := q
    rcases q with q | ⟨d, od, u, e, hn, q⟩
    · exact ⟨x, σ', H', I2, r, q⟩
    · exact ⟨x, σ', _, I2.unlock e hn, r, q⟩
theorem pe_un {X : Cx} {e : Expr} {t : TE} (h : PE X e t) : PE X e (fun σ H Q => t σ H fun v => unP X.H_0 (Q v)) := by
  refine ⟨fun pins s σ H Q I hw => ?_⟩
  refine thn (h.run pins s σ H _ I hw) fun v s1 ⟨x, H', I2, r, q⟩ => ?_
  rcases q with q | ⟨d, od, u, e, hn, q⟩
  · exact ⟨x, H', I2, r, q⟩
  · exact ⟨x, _, I2.unlock e hn, r, q⟩

/-! ### iterators related -/
structure RIt (K : PySem.W.Frag) (L : Lay) (ρ1 : List Addr) (H1 : Hp) (J : It) (it : Itr) : Prop where
  stop : ∀ (j : Nat) ρ H hp, Ext ρ1 H1 ρ H → RelH K L ρ hp H → it.nx j hp = some none → J.stop j H
  go : ∀ (j : Nat) ρ H hp d, Ext ρ1 H1 ρ H → RelH K L ρ hp H → it.nx j hp = some (some d) → J.go j H ∧ ∀ x H', J.yld j H x H' → Ext ρ H ρ H' ∧ RelH K L ρ hp H' ∧ RD K L ρ H' d x
def UnI (K : PySem.W.Frag) (L : Lay) (H0 : Hp) (ρ1 : List Addr) (Hu H1 : Hp) (it : Itr) : Prop :=
  (Hu = H1 ∧ it.un = id) ∨ ∃ (d : Addr) (i : Nat) (od : Obj) (vs : List (Key × V)) (kvs : List (Key × D)), (∀ o' u', H0 d ≠ some (.frz o' u')) ∧ Hu d = some (.dK vs) ∧ H1 = upd Hu d (.frz od (.dK vs)) ∧ ρ1[i]? = some d ∧ RKs K L ρ1 Hu kvs vs ∧ it.un = fun h => h.set i (.dic kvs)
def KI (K : PySem.W.Frag) (L : Lay) (H0 : Hp) (ρ : List Addr) (H : Hp) (R : It → Hp → Prop) : Itr → Hq → Prop := fun itr hp' => ∀ ρ1 Hu H1 J, Ext ρ H ρ1 Hu → RelH K L ρ1 hp' H1 → RIt K L ρ1 H1 J itr → UnI K L H0 ρ1 Hu H1 itr → R J H1
section
variable {K : PySem.W.Frag} {L : Lay} {ρ ρ1 ρ' : List Addr} {H H' Hu H1 H0 : Hp} {hp hp' : Hq} {it : Itr}
theorem UnI.ext (h : UnI K L H0 ρ1 Hu H1 it) : Ext ρ1 Hu ρ1 H1 := by
  rcases h with ⟨rfl, _⟩ | ⟨d, i, od, vs, kvs, hn, hd, e, hi, rk, hu⟩
  · exact Ext.refl _ _
  · subst e
    refine ⟨⟨[], by simp⟩, fun _ h => .inl h, fun a o h n => ?_, fun a o h s => ?_, fun a o k h => ?_⟩
    · rw [upd_ne fun z => n (by rw [z]; exact List.mem_of_getElem? hi)]; exact h
    · rw [upd_ne fun z => by subst z; rw [hd] at h; cases h; cases s]; exact h
    · rw [upd_ne fun z => by subst z; rw [hd] at h; cases h]; exact h
theorem UnI.fin {P : Hp → Prop} (h : UnI K L H0 ρ1 Hu H1 it) (e : Ext ρ1 H1 ρ' H') (r : RelH K L ρ' hp' H') (k : ∀ H'', Ext ρ1 Hu ρ' H'' → ExtW ρ' H' ρ' H'' → (∀ a u, H' a = some u → (∀ o' u', u ≠ .frz o' u') → H'' a = some u) → RelH K L ρ' (it.un hp') H'' → P H'') : unP H0 P H' := by
  rcases h with ⟨rfl, hu⟩ | ⟨d, i, od, vs, kvs, hn, hd, e1, hi, rk, hu⟩
  · left
    rw [hu] at k
    exact k H' e ⟨⟨[], by simp⟩, fun _ _ h _ => h⟩ (fun _ _ h _ => h) r
  · right
    subst e1
    have hd' : H' d = some (.frz od (.dK vs)) := e.fz d od vs upd_same
    have nd : ∀ {a o}, Hu a = some o → Stb o → a ≠ d := fun {a o} h s z => by subst z; rw [hd] at h; cases h; cases s
    have w : ExtW ρ' H' ρ' (upd H' d (.dK vs)) := ⟨⟨[], by simp⟩, fun a o h s => by rw [upd_ne fun z => by subst z; rw [hd'] at h; cases h; cases s]; exact h⟩
    have wu : ExtW ρ1 Hu ρ' H' := ⟨e.pre, fun a o h s => e.st a o (by rw [upd_ne (nd h s)]; exact h) s⟩
    have rk' : RKs K L ρ' H' kvs vs := rk.monoW wu
    have hi' : ρ'[i]? = some d := e.ix hi
    refine ⟨d, od, .dK vs, hd', hn, k _ ⟨e.pre, fun a ha => ?_, fun a o h n => ?_, fun a o h s => ?_, fun a o q h => ?_⟩ w (fun a u h hu => by rw [upd_ne fun z => by subst z; rw [hd'] at h; cases h; exact hu _ _ rfl]; exact h) ?_⟩
    · rcases e.new a ha with q | q
      · exact .inl q
      · by_cases z : a = d
        · subst z; exact .inl (List.mem_of_getElem? hi)
        · rw [upd_ne z] at q; exact .inr q
    · have z : a ≠ d := fun z => n (by rw [z]; exact List.mem_of_getElem? hi)
      rw [upd_ne z]
      exact e.out a o (by rw [upd_ne z]; exact h) n
    · rw [upd_ne (nd h s)]
      exact e.st a o (by rw [upd_ne (nd h s)]; exact h) s
    · have z : a ≠ d := fun z => by subst z; rw [hd] at h; cases h
      rw [upd_ne z]
      exact e.fz a o q (by rw [upd_ne z]; exact h)
    · rw [hu]
      have hl : i < hp'.length := by rw [← r.len]; exact (List.getElem?_eq_some_iff.mp hi').1
      refine ⟨r.nd, by simp [r.len], fun j o' h => ?_⟩
      by_cases hj : i = j
      · subst hj
        have h : (hp'.set i (.dic kvs))[i]? = some o' := h
        rw [List.getElem?_set_self hl] at h
        cases h
        exact ⟨d, _, hi', upd_same, .dic (rk'.monoW w)⟩
      · have h : (hp'.set i (.dic kvs))[j]? = some o' := h
        rw [List.getElem?_set_ne hj] at h
        obtain ⟨b, u', h1, h2, h3⟩ := r.at_ j o' h
        refine ⟨b, u', h1, ?_, h3.monoW w⟩
        rw [upd_ne fun z => hj (nodup_at r.nd hi' (by rw [← z]; exact h1))]
        exact h2

theorem rks_at : ∀ {kvs : List (Key × D)} {vs : List (Key × V)} {j : Nat} {k : Key} {v : V}, RKs K L ρ H kvs vs → vs[j]? = some (k, v) → ∃ d, kvs[j]? = some (k, d) ∧ RD K L ρ H d v
  | _, _, _, _, _, .nil, h => by simp at h
  | (k', d) :: _, _, 0, k, v, .cons (b := (k2, v')) r _, h => by
    obtain ⟨e, r⟩ := r
    have e : k' = k2 := e
    subst e
    have h : (k', v') = (k, v) := by simpa using h
    cases h
    exact ⟨d, rfl, r⟩
  | _ :: _, _, j + 1, k, v, .cons _ t, h => by
    obtain ⟨d, h1, h2⟩ := rks_at (j := j) t (by simpa using h)
    exact ⟨d, by simpa using h1, h2⟩

/-! ### the kinds -/
theorem rit_list {i : Nat} {a : Addr} (ha : ρ1[i]? = some a) : RIt K L ρ1 H1 (Itl K a) (itLst i) where
  stop := fun j ρ H hp e r h => by
    cases g : gtL hp i with
    | none => simp [itLst, g] at h
    | some xs =>
      simp [itLst, g] at h
      obtain ⟨vs, h1, h2⟩ := r.lst (e.ix ha) g
      exact ⟨vs, .of h1, by rw [← h2.len]; exact h⟩
  go := fun j ρ H hp d e r h => by
    cases g : gtL hp i with
    | none => simp [itLst, g] at h
    | some xs =>
      have h : xs[j]? = some d := by simpa [itLst, g] using h
      obtain ⟨vs, h1, h2⟩ := r.lst (e.ix ha) g
      obtain ⟨v, h3, h4⟩ := h2.get h
      refine ⟨⟨vs, v, .of h1, h3⟩, fun x H' y => ?_⟩
      obtain ⟨rfl, y⟩ := y
      have := y vs (.of h1)
      rw [h3] at this
      cases this
      exact ⟨Ext.refl _ _, r, h4⟩
theorem rit_fixL {ds : List D} {vs : List V} {a : Addr} (hs : KlL K H1 a vs) (t : RDs K L ρ1 H1 ds vs) : RIt K L ρ1 H1 (Itl K a) (itFix ds) where
  stop := fun j ρ H hp e r h => by
    have h : ds[j]? = none := by simpa [itFix] using h
    exact ⟨vs, (KlL.mono e hs).sq, by rw [← t.len]; exact List.getElem?_eq_none_iff.mp h⟩
  go := fun j ρ H hp d e r h => by
    have h : ds[j]? = some d := by simpa [itFix] using h
    obtain ⟨v, h3, h4⟩ := t.get h
    refine ⟨⟨vs, v, (KlL.mono e hs).sq, h3⟩, fun x H' y => ?_⟩
    obtain ⟨rfl, y⟩ := y
    have := y vs (KlL.mono e hs).sq
    rw [h3] at this
    cases this
    exact ⟨Ext.refl _ _, r, h4.mono e⟩
theorem rit_fixT {ds : List D} {vs : List V} {a : Addr} (hs : SqT K H1 a vs) (t : RDs K L ρ1 H1 ds vs) : RIt K L ρ1 H1 (Itt K a) (itFix ds) where
  stop := fun j ρ H hp e r h => by
    have h : ds[j]? = none := by simpa [itFix] using h
    exact ⟨vs, SqT.mono e hs, by rw [← t.len]; exact List.getElem?_eq_none_iff.mp h⟩
  go := fun j ρ H hp d e r h => by
    have h : ds[j]? = some d := by simpa [itFix] using h
    obtain ⟨v, h3, h4⟩ := t.get h
    refine ⟨⟨vs, v, SqT.mono e hs, h3⟩, fun x H' y => ?_⟩
    obtain ⟨rfl, y⟩ := y
    have := y vs (SqT.mono e hs)
    rw [h3] at this
    cases this
    exact ⟨Ext.refl _ _, r, h4.mono e⟩
theorem rit_str {x : Str} {un : Hq → Hq} : RIt K L ρ1 H1 (Its x) ⟨fun j _ => some ((x.cps[j]?).map fun c => .str ⟨#[c]⟩), un⟩ where
  stop := fun j ρ H hp e r h => by
    have h : x.cps[j]? = none := by simpa using h
    exact Array.getElem?_eq_none_iff.mp h
  go := fun j ρ H hp d e r h => by
    have h : ∃ c, x.cps[j]? = some c ∧ D.str ⟨#[c]⟩ = d := by simpa using h
    obtain ⟨c, hx, rfl⟩ := h
    refine ⟨(Array.getElem?_eq_some_iff.mp hx).1, fun v H' y => ?_⟩
    obtain ⟨rfl, c', h', rfl⟩ := y
    rw [hx] at h'
    cases h'
    exact ⟨Ext.refl _ _, r, .str _⟩
theorem rit_rng {lo hi : Int} : RIt K L ρ1 H1 (L2.Itr lo (hi - lo).toNat) (itRng lo hi) where
  stop := fun j ρ H hp e r h => by
    have h : (if (j : Int) < hi - lo then some (D.int (lo + j)) else none) = none := by simpa [itRng] using h
    split at h
    · cases h
    · show (hi - lo).toNat ≤ j
      omega
  go := fun j ρ H hp d e r h => by
    have h : (if (j : Int) < hi - lo then some (D.int (lo + j)) else none) = some d := Option.some.inj h
    split at h
    · cases h
      refine ⟨by show j < (hi - lo).toNat; omega, fun v H' y => ?_⟩
      obtain ⟨rfl, rfl⟩ := y
      exact ⟨Ext.refl _ _, r, .int _⟩
    · cases h
/-- a dict that stands still -/
theorem rit_keys {d : Addr} {o : Obj} {kvs : List (Key × D)} {vs : List (Key × V)} {un : Hq → Hq} (hd : H1 d = some (.frz o (.dK vs))) (t : RKs K L ρ1 H1 kvs vs) : RIt K L ρ1 H1 (Itk d o vs) ⟨fun j _ => some ((kvs.map fun kv => keyD kv.1)[j]?), un⟩ where
  stop := fun j ρ H hp e r h => by
    have h : kvs.length ≤ j := by simpa using h
    exact ⟨e.fz _ _ _ hd, by rw [← t.len]; exact h⟩
  go := fun j ρ H hp x e r h => by
    have h : ∃ k y, kvs[j]? = some (k, y) ∧ keyD k = x := by simpa using h
    obtain ⟨k, y, hx, rfl⟩ := h
    have hl := (List.getElem?_eq_some_iff.mp hx).1
    refine ⟨⟨e.fz _ _ _ hd, by rw [← t.len]; exact hl⟩, fun v H' z => ?_⟩
    obtain ⟨rfl, k', w, h', rfl⟩ := z
    obtain ⟨d', h2, _⟩ := rks_at t h'
    rw [hx] at h2
    cases h2
    exact ⟨Ext.refl _ _, r, keyD_kV k⟩
theorem rit_vals {d : Addr} {o : Obj} {kvs : List (Key × D)} {vs : List (Key × V)} {un : Hq → Hq} (hd : H1 d = some (.frz o (.dK vs))) (t : RKs K L ρ1 H1 kvs vs) : RIt K L ρ1 H1 (Itd d o vs) ⟨fun j _ => some ((kvs.map fun kv => kv.2)[j]?), un⟩ where
  stop := fun j ρ H hp e r h => by
    have h : kvs.length ≤ j := by simpa using h
    exact ⟨e.fz _ _ _ hd, by rw [← t.len]; exact h⟩
  go := fun j ρ H hp x e r h => by
    have h : ∃ k, kvs[j]? = some (k, x) := by simpa using h
    obtain ⟨k, hx⟩ := h
    have hl := (List.getElem?_eq_some_iff.mp hx).1
    refine ⟨⟨e.fz _ _ _ hd, by rw [← t.len]; exact hl⟩, fun v H' z => ?_⟩
    obtain ⟨rfl, k', h'⟩ := z
    obtain ⟨d', h2, h3⟩ := rks_at t h'
    rw [hx] at h2
    cases h2
    exact ⟨Ext.refl _ _, r, h3.mono e⟩
theorem rit_items {d : Addr} {o : Obj} {kvs : List (Key × D)} {vs : List (Key × V)} {un : Hq → Hq} (hd : H1 d = some (.frz o (.dK vs))) (t : RKs K L ρ1 H1 kvs vs) : RIt K L ρ1 H1 (Iti d o vs) ⟨fun j _ => some ((kvs.map fun kv => D.tup [keyD kv.1, kv.2])[j]?), un⟩ where
  stop := fun j ρ H hp e r h => by
    have h : kvs.length ≤ j := by simpa using h
    exact ⟨e.fz _ _ _ hd, by rw [← t.len]; exact h⟩
  go := fun j ρ H hp x e r h => by
    have h : ∃ k y, kvs[j]? = some (k, y) ∧ D.tup [keyD k, y] = x := by simpa using h
    obtain ⟨k, y, hx, rfl⟩ := h
    have hl := (List.getElem?_eq_some_iff.mp hx).1
    refine ⟨⟨e.fz _ _ _ hd, by rw [← t.len]; exact hl⟩, fun v H' z => ?_⟩
    obtain ⟨T, k', w, h', rfl, hT, rfl⟩ := z
    obtain ⟨d', h2, h3⟩ := rks_at t h'
    rw [hx] at h2
    cases h2
    obtain ⟨r2, e2⟩ := r.tmp (u := .tup [kV k, w]) hT
    exact ⟨e2, r2, .tup (.of upd_same) (.cons (keyD_kV k) (.cons ((h3.mono e).mono e2) .nil))⟩
theorem rit_enum {i : Nat} {a : Addr} (ha : ρ1[i]? = some a) : RIt K L ρ1 H1 (Ite K a) (itEnum i) where
  stop := fun j ρ H hp e r h => by
    cases g : gtL hp i with
    | none => simp [itEnum, g] at h
    | some xs =>
      simp [itEnum, g] at h
      obtain ⟨vs, h1, h2⟩ := r.lst (e.ix ha) g
      exact ⟨vs, .of h1, by rw [← h2.len]; exact h⟩
  go := fun j ρ H hp d e r h => by
    cases g : gtL hp i with
    | none => simp [itEnum, g] at h
    | some xs =>
      have h : ∃ y, xs[j]? = some y ∧ D.tup [.int j, y] = d := by simpa [itEnum, g] using h
      obtain ⟨y, hx, rfl⟩ := h
      obtain ⟨vs, h1, h2⟩ := r.lst (e.ix ha) g
      obtain ⟨v, h3, h4⟩ := h2.get hx
      refine ⟨⟨vs, v, .of h1, h3⟩, fun x H' z => ?_⟩
      obtain ⟨T, w, rfl, hT, rfl, z⟩ := z
      have := z vs (.of h1)
      rw [h3] at this
      cases this
      obtain ⟨r2, e2⟩ := r.tmp (u := .tup [.int (j : Nat), v]) hT
      exact ⟨e2, r2, .tup (.of upd_same) (.cons (.int _) (.cons (h4.mono e2) .nil))⟩
theorem rit_zip {i k : Nat} {a b : Addr} (ha : ρ1[i]? = some a) (hb : ρ1[k]? = some b) : RIt K L ρ1 H1 (Itz K a b) (itZip i k) where
  stop := fun j ρ H hp e r h => by
    cases g : gtL hp i with
    | none => simp [itZip, g] at h
    | some xs =>
      cases g2 : gtL hp k with
      | none => simp [itZip, g, g2] at h
      | some ys =>
        obtain ⟨vs, h1, h2⟩ := r.lst (e.ix ha) g
        obtain ⟨us, h3, h4⟩ := r.lst (e.ix hb) g2
        refine ⟨vs, us, .of h1, .of h3, ?_⟩
        rw [← h2.len, ← h4.len]
        cases e1 : xs[j]? with
        | none => exact .inl (List.getElem?_eq_none_iff.mp e1)
        | some x =>
          cases e2 : ys[j]? with
          | none => exact .inr (List.getElem?_eq_none_iff.mp e2)
          | some y => simp [itZip, g, g2, e1, e2] at h
  go := fun j ρ H hp d e r h => by
    cases g : gtL hp i with
    | none => simp [itZip, g] at h
    | some xs =>
      cases g2 : gtL hp k with
      | none => simp [itZip, g, g2] at h
      | some ys =>
        obtain ⟨vs, h1, h2⟩ := r.lst (e.ix ha) g
        obtain ⟨us, h3, h4⟩ := r.lst (e.ix hb) g2
        cases e1 : xs[j]? with
        | none => simp [itZip, g, g2, e1] at h
        | some x =>
          cases e2 : ys[j]? with
          | none => simp [itZip, g, g2, e1, e2] at h
          | some y =>
            have h : D.tup [x, y] = d := by simpa [itZip, g, g2, e1, e2] using h
            subst h
            obtain ⟨v, k1, k2⟩ := h2.get e1
            obtain ⟨u, k3, k4⟩ := h4.get e2
            refine ⟨⟨vs, us, v, u, .of h1, .of h3, k1, k3⟩, fun w H' z => ?_⟩
            obtain ⟨T, v', u', rfl, hT, rfl, z1, z2⟩ := z
            have q1 := z1 vs (.of h1)
            have q2 := z2 us (.of h3)
            rw [k1] at q1
            rw [k3] at q2
            cases q1
            cases q2
            obtain ⟨r2, x2⟩ := r.tmp (u := .tup [v, u]) hT
            exact ⟨x2, r2, .tup (.of upd_same) (.cons (k2.mono x2) (.cons (k4.mono x2) .nil))⟩
theorem rit_zipT {xs ys : List D} {vs us : List V} {a b : Addr} (ha : SqT K H1 a vs) (hb : SqT K H1 b us) (ta : RDs K L ρ1 H1 xs vs) (tb : RDs K L ρ1 H1 ys us) : RIt K L ρ1 H1 (RZ.ItzT K a b) (itZipT xs ys) where
  stop := fun j ρ H hp e r h => by
    refine ⟨vs, us, SqT.mono e ha, SqT.mono e hb, ?_⟩
    rw [← ta.len, ← tb.len]
    cases e1 : xs[j]? with
    | none => exact .inl (List.getElem?_eq_none_iff.mp e1)
    | some x =>
      cases e2 : ys[j]? with
      | none => exact .inr (List.getElem?_eq_none_iff.mp e2)
      | some y => simp [itZipT, e1, e2] at h
  go := fun j ρ H hp d e r h => by
    cases e1 : xs[j]? with
    | none => simp [itZipT, e1] at h
    | some x =>
      cases e2 : ys[j]? with
      | none => simp [itZipT, e1, e2] at h
      | some y =>
        have h : D.tup [x, y] = d := by simpa [itZipT, e1, e2] using h
        subst h
        obtain ⟨v, k1, k2⟩ := ta.get e1
        obtain ⟨u, k3, k4⟩ := tb.get e2
        refine ⟨⟨vs, us, v, u, SqT.mono e ha, SqT.mono e hb, k1, k3⟩, fun w H' z => ?_⟩
        obtain ⟨T, v', u', rfl, hT, rfl, z1, z2⟩ := z
        have q1 := z1 vs (SqT.mono e ha)
        have q2 := z2 us (SqT.mono e hb)
        rw [k1] at q1
        rw [k3] at q2
        cases q1
        cases q2
        obtain ⟨r2, x2⟩ := r.tmp (u := .tup [v, u]) hT
        exact ⟨x2, r2, .tup (.of upd_same) (.cons ((k2.mono e).mono x2) (.cons ((k4.mono e).mono x2) .nil))⟩
theorem rit_zipS {xs ys : List D} {vs us : List V} {a b : Addr} (hl : xs.length = ys.length) (ha : SqT K H1 a vs) (hb : SqT K H1 b us) (ta : RDs K L ρ1 H1 xs vs) (tb : RDs K L ρ1 H1 ys us) : RIt K L ρ1 H1 (ItS K a b) (itZipT xs ys) where
  stop := fun j ρ H hp e r h => by
    refine ⟨vs, us, SqT.mono e ha, SqT.mono e hb, ?_⟩
    rw [← ta.len, ← tb.len]
    cases e1 : xs[j]? with
    | none =>
      have := List.getElem?_eq_none_iff.mp e1
      exact ⟨this, by omega⟩
    | some x =>
      cases e2 : ys[j]? with
      | none =>
        have := List.getElem?_eq_none_iff.mp e2
        exact ⟨by omega, this⟩
      | some y => simp [itZipT, e1, e2] at h
  go := (rit_zipT ha hb ta tb).go
end
end MI
/-! MI, part 12: what is walked, as it stands in the text. -/
namespace MI
open PySem PySem.Spec PyProof.Rows L2

def tI (K : PySem.W.Frag) (L : Lay) (g : Glob) (cl : Cl) (W : WX) (H0 : Hp) (it : Ix) : TI := fun σ H R => ∃ ρ hp env, RelH K L ρ hp H ∧ RE K L ρ H env σ ∧ wIt g cl it env hp (KI K L H0 ρ H R) (KX K L ρ H σ W)
section
variable {X : Cx} {L : Lay} {g : Glob} {cl : Cl} {W : WX} {x y tg : Expr} {a b : Ex} {pos : Pos}
theorem dic_in {pins : List (Addr × Obj)} {σ : L2.St} {H1 : Hp} {s1 : Shared} {ρ1 : List Addr} {hp1 hp2 : Hq} {i : Nat} {d : Addr} {f : Key × D → D} {itr : MI.Itr} (I : Inv X pins σ H1 s1) (r : RelH X.K L ρ1 hp1 H1) (hs : ρ1[i]? = some d) (h : itDic f hp1 (.ref i) = some (itr, hp2)) :
    ∃ od vs kvs HL un, Inv X pins σ HL s1 ∧ HL d = some (.frz od (.dK vs)) ∧ RelH X.K L ρ1 hp2 HL ∧ RKs X.K L ρ1 HL kvs vs ∧ itr = ⟨fun j _ => some ((kvs.map f)[j]?), un⟩ ∧ UnI X.K L X.H_0 ρ1 H1 HL itr := by
  obtain ⟨o, u, g1, g2, g3⟩ := r.at2 hs
  unfold itDic at h
  simp only [g1] at h
  cases g3 with
  | @dic kvs vs t =>
    cases h
    obtain ⟨od, I2⟩ := I.lock g2 trivial
    obtain ⟨r2, e2⟩ := r.put (o := .fdic kvs) (u := .frz od (.dK vs)) hs (.fdic t) (by intro o k z; rw [g2] at z; cases z)
    exact ⟨od, vs, kvs, _, _, I2, upd_same, r2, t.mono e2, rfl, .inr ⟨d, i, od, vs, kvs, I.nofrz g2 trivial, g2, rfl, hs, t, rfl⟩⟩
  | @fdic kvs vs ob t =>
    cases h
    exact ⟨ob, vs, kvs, H1, _, I, g2, r, t, rfl, .inl ⟨rfl, rfl⟩⟩
  | _ => cases h
theorem seq_dic {hp : Hq} {i : Nat} {o : O} (h : hp[i]? = some o) (hl : ∀ xs, o ≠ .lst xs) : itSeq hp (.ref i) = itDic (fun kv => keyD kv.1) hp (.ref i) := by
  unfold itSeq itDic
  simp only [h]
  cases o with
  | lst xs => exact absurd rfl (hl xs)
  | _ => rfl

theorem i_vl (hm : ClMono cl) (ha : PE X x (tE X.K L g cl W a)) : PI X tg x (tI X.K L g cl W X.H_0 (.vl a)) := by
  refine ⟨fun pins s σ H R I ⟨ρ, hp, env, r, re, h⟩ => ?_⟩
  unfold wIt at h
  refine thn (ha.run pins s σ H (fun v1 H1 => ∃ ρ1 hp1 d1, Ext ρ H ρ1 H1 ∧ RelH X.K L ρ1 hp1 H1 ∧ RD X.K L ρ1 H1 d1 v1 ∧ ∃ itr hp2, itSeq hp1 d1 = some (itr, hp2) ∧ KI X.K L X.H_0 ρ H R itr hp2) I
    ⟨ρ, hp, env, r, re, wE_mono hm a env hp _ _ _ _ (fun d1 hp1 q1 => ?_) (fun _ _ _ z => z) h⟩) fun v s1 ⟨x1, H1, I1, rx, q⟩ => ?_
  · intro ρ1 H1 v1 e1 r1 d1r
    cases eq : itSeq hp1 d1 with
    | none => simp only [eq] at q1
    | some p =>
      obtain ⟨itr, hp2⟩ := p
      simp only [eq] at q1
      exact ⟨ρ1, hp1, d1, e1, r1, d1r, itr, hp2, eq, q1⟩
  · obtain ⟨ρ1, hp1, d1, e1, r1, d1r, itr, hp2, eq, q1⟩ := q
    cases d1r with
    | @tup p xs ds hs t =>
      cases eq
      obtain rfl : v = Value.ref p := rx
      obtain ⟨its, rv, ht, hz⟩ := I1.tuple hs
      exact wpAny_pyIter_tuple (show s1.heap.IsTuple p its.toArray from ht) (pi_one (tk := s1.toks) I1 _ (turn_tuple p _) ⟨_, Heap.get?_push_size _ rfl, rfl, rfl⟩ (q1 ρ1 H1 H1 _ e1 r1 (rit_fixT hs t) (.inl ⟨rfl, rfl⟩)))
    | @kl p xs ds hs t =>
      cases eq
      obtain rfl : v = Value.ref p := rx
      obtain ⟨its, rv, ht, hz⟩ := I1.list hs.sq
      exact wpAny_pyIter_list ht.isList (pi_one (tk := s1.toks) I1 _ (turn_list p _) ⟨_, Heap.get?_push_size _ rfl, rfl, rfl⟩ (q1 ρ1 H1 H1 _ e1 r1 (rit_fixL hs t) (.inl ⟨rfl, rfl⟩)))
    | str z =>
      cases eq
      obtain ⟨t, rfl⟩ := rx
      have q := q1 ρ1 H1 H1 _ e1 r1 rit_str (.inl ⟨rfl, rfl⟩)
      cases hz : z.cps.all (· < 128)
      · exact wpAny_pyIter_wide hz (pi_one (tk := s1.toks) I1 _ (turn_str _ z t "str_iterator" (.inr rfl)) ⟨_, Heap.get?_push_size _ rfl, rfl, rfl⟩ q)
      · exact wpAny_pyIter_ascii hz (pi_one (tk := s1.toks) I1 _ (turn_str _ z t "str_ascii_iterator" (.inl rfl)) ⟨_, Heap.get?_push_size _ rfl, rfl, rfl⟩ q)
    | @ref i p hs =>
      obtain rfl : v = Value.ref p := rx
      obtain ⟨o, u, g1, g2, g3⟩ := r1.at2 hs
      by_cases hl : ∃ xs, o = .lst xs
      · obtain ⟨xs, rfl⟩ := hl
        unfold itSeq at eq
        simp only [g1] at eq
        cases eq
        cases g3 with
        | @lst _ vs t =>
          obtain ⟨its, rv, ht, hz⟩ := I1.list (SqL.of g2)
          exact wpAny_pyIter_list ht.isList (pi_one (tk := s1.toks) I1 _ (turn_list p _) ⟨_, Heap.get?_push_size _ rfl, rfl, rfl⟩ (q1 ρ1 H1 H1 _ e1 r1 (rit_list hs) (.inl ⟨rfl, rfl⟩)))
      · rw [seq_dic g1 (fun xs z => hl ⟨xs, z⟩)] at eq
        obtain ⟨od, vs, kvs, HL, un, I2, hd, r2, t, ei, ui⟩ := dic_in I1 r1 hs eq
        have q := q1 ρ1 H1 HL _ e1 r2 (by rw [ei]; exact rit_keys hd t) ui
        obtain ⟨hss, hgd, hx, es, ep, us, hdt, hsz, kv, hmm⟩ := I2.frzK hd
        refine iter_keys hss hgd hx hdt (pi_one (tk := s1.toks) I2 _ (turn_keys _ hdt) ⟨_, Heap.get?_push_size _ rfl, rfl, ?_⟩ q)
        rw [hsz] <;> rfl
    | _ => cases eq
theorem i_rng1 (hm : ClMono cl) {p : Pos} (hg : Gl X "range") (hmg : X.mg "range" = none) (ha : PE X x (tE X.K L g cl W a)) (hs : starEach [x] X.env = [(false, eval x X.env)]) (hs0 : starEach [] X.env = []) : PI X tg (.Call (.Name "range" p) [x] [] pos) (tI X.K L g cl W X.H_0 (.rng1 a)) :=
  PI.imp (pi_range1 hg hmg (sa_cons hm ha sa_nil (by rw [hs, hs0])) hs) fun σ H R ⟨ρ, hp, env, r, re, h⟩ => by
    unfold wIt at h
    refine ⟨ρ, hp, env, r, re, ?_⟩
    show wE g cl a env hp _ _
    refine wE_mono hm a env hp _ _ _ _ (fun d1 hp1 q1 => ?_) (fun _ _ _ z => z) h
    intro ρ1 H1 vs e1 r1 dsr
    cases dsr with
    | cons d1r t =>
      cases t
      cases d1r with
      | int j =>
        obtain ⟨⟨q2, q3⟩, q4⟩ := q1
        exact ⟨j, rfl, q2, q3, by simpa using q4 ρ1 H1 H1 _ e1 r1 rit_rng (.inl ⟨rfl, rfl⟩)⟩
      | _ => exact False.elim q1
theorem i_rng2 (hm : ClMono cl) {p : Pos} (hg : Gl X "range") (hmg : X.mg "range" = none) (ha : PE X x (tE X.K L g cl W a)) (hb : PE X y (tE X.K L g cl W b)) (hs : starEach [x, y] X.env = [(false, eval x X.env), (false, eval y X.env)]) (hs2 : starEach [y] X.env = [(false, eval y X.env)]) (hs0 : starEach [] X.env = []) :
    PI X tg (.Call (.Name "range" p) [x, y] [] pos) (tI X.K L g cl W X.H_0 (.rng2 a b)) :=
  PI.imp (pi_range2 hg hmg (sa_cons hm ha (sa_cons hm hb sa_nil (by rw [hs2, hs0])) (by rw [hs, hs2])) hs hs2) fun σ H R ⟨ρ, hp, env, r, re, h⟩ => by
    unfold wIt at h
    refine ⟨ρ, hp, env, r, re, ?_⟩
    show wE g cl a env hp (fun d1 hp1 => wE g cl b env hp1 _ _) _
    refine wE_mono hm a env hp _ _ _ _ (fun d1 hp1 q1 => ?_) (fun _ _ _ z => z) h
    refine wE_mono hm b env hp1 _ _ _ _ (fun d2 hp2 q2 => ?_) (fun _ _ _ z => z) q1
    intro ρ1 H1 vs e1 r1 dsr
    cases dsr with
    | cons d1r t =>
      cases t with
      | cons d2r t =>
        cases t
        cases d1r <;> cases d2r <;> first | exact False.elim q2 | skip
        rename_i i j
        obtain ⟨⟨⟨c1, c2⟩, c3, c4⟩, q4⟩ := q2
        exact ⟨i, j, rfl, ⟨c1, c2, c3, c4⟩, q4 ρ1 H1 H1 _ e1 r1 rit_rng (.inl ⟨rfl, rfl⟩)⟩
theorem i_enum (hm : ClMono cl) {p tpos : Pos} {elts : List Expr} {kk : Nat} (hg : Gl X "enumerate") (hmg : X.mg "enumerate" = none) (ha : PE X x (tE X.K L g cl W a)) (hs : starEach [x] X.env = [(false, eval x X.env)]) (hs0 : starEach [] X.env = []) :
    PI X (.Tuple elts kk tpos) (.Call (.Name "enumerate" p) [x] [] pos) (tI X.K L g cl W X.H_0 (.enum a)) :=
  PI.imp (pi_enum hg hmg (sa_cons hm ha sa_nil (by rw [hs, hs0])) hs) fun σ H R ⟨ρ, hp, env, r, re, h⟩ => by
    unfold wIt at h
    refine ⟨ρ, hp, env, r, re, ?_⟩
    show wE g cl a env hp _ _
    refine wE_mono hm a env hp _ _ _ _ (fun d1 hp1 q1 => ?_) (fun _ _ _ z => z) h
    intro ρ1 H1 vs e1 r1 dsr
    cases dsr with
    | cons d1r t =>
      cases t
      cases d1r with
      | @ref i p hs =>
        cases e : gtL hp1 i with
        | none => simp only [e] at q1
        | some xs =>
          simp only [e] at q1
          obtain ⟨vs, h1, h2⟩ := r1.lst hs e
          exact ⟨p, vs, rfl, .of h1, q1 ρ1 H1 H1 _ e1 r1 (rit_enum hs) (.inl ⟨rfl, rfl⟩)⟩
      | _ => exact False.elim q1
theorem i_zip (hm : ClMono cl) {p tpos : Pos} {elts : List Expr} {kk : Nat} (hg : Gl X "zip") (hmg : X.mg "zip" = none) (ha : PE X x (tE X.K L g cl W a)) (hb : PE X y (tE X.K L g cl W b)) (hs : starEach [x, y] X.env = (false, eval x X.env) :: starEach [y] X.env) (hs2 : starEach [y] X.env = [(false, eval y X.env)]) (hs0 : starEach [] X.env = [])
    (hpl : (backTo pos (starEach [y] X.env)).any (·.1) = false) :
    PI X (.Tuple elts kk tpos) (.Call (.Name "zip" p) [x, y] [] pos) (tI X.K L g cl W X.H_0 (.zip2 a b)) :=
  PI.imp (RZ.pi_zipA hg hmg (sa_cons hm ha (sa_cons hm hb sa_nil (by rw [hs2, hs0])) hs) hs hpl) fun σ H R ⟨ρ, hp, env, r, re, h⟩ => by
    unfold wIt at h
    refine ⟨ρ, hp, env, r, re, ?_⟩
    show wE g cl a env hp (fun d1 hp1 => wE g cl b env hp1 _ _) _
    refine wE_mono hm a env hp _ _ _ _ (fun d1 hp1 q1 => ?_) (fun _ _ _ z => z) h
    refine wE_mono hm b env hp1 _ _ _ _ (fun d2 hp2 q2 => ?_) (fun _ _ _ z => z) q1
    intro ρ1 H1 vs e1 r1 dsr
    cases dsr with
    | cons d1r t =>
      cases t with
      | cons d2r t =>
        cases t
        cases d1r <;> cases d2r <;> first | exact False.elim q2 | skip
        · rename_i a1 vs xs hs1 t1 b1 us ys hs2 t2
          exact ⟨_, _, vs, us, rfl, .inr ⟨hs1, hs2, q2 ρ1 H1 H1 _ e1 r1 (rit_zipT hs1 hs2 t1 t2) (.inl ⟨rfl, rfl⟩)⟩⟩
        rename_i i a1 hs1 j b1 hs2
        cases e : gtL hp2 i with
        | none => simp only [e] at q2
        | some xs =>
          cases e' : gtL hp2 j with
          | none => simp only [e, e'] at q2
          | some ys =>
            simp only [e, e'] at q2
            obtain ⟨vs, h1, h2⟩ := r1.lst hs1 e
            obtain ⟨us, h3, h4⟩ := r1.lst hs2 e'
            exact ⟨_, _, vs, us, rfl, .inl ⟨.of h1, .of h3, q2 ρ1 H1 H1 _ e1 r1 (rit_zip hs1 hs2) (.inl ⟨rfl, rfl⟩)⟩⟩
theorem i_zipS (hm : ClMono cl) {p tpos kp cp : Pos} {elts : List Expr} {kk j : Nat} (hg : Gl X "zip") (hmg : X.mg "zip" = none) (ha : PE X x (tE X.K L g cl W a)) (hb : PE X y (tE X.K L g cl W b)) (hs : starEach [x, y] X.env = (false, eval x X.env) :: starEach [y] X.env) (hs2 : starEach [y] X.env = [(false, eval y X.env)])
    (hs0 : starEach [] X.env = []) : PI X (.Tuple elts kk tpos) (.Call (.Name "zip" p) [x, y] [⟨some "strict", .Constant (.bool true) j cp, kp⟩] pos) (tI X.K L g cl W X.H_0 (.zipS a b)) := by
  have e1 : backTo pos (starEach [x, y] X.env) = (false, eval x X.env) :: backTo pos (starEach [y] X.env) := by
    rw [hs]
    rfl
  have e2 : (backTo pos (starEach [x, y] X.env)).any (·.1) = false := by
    rw [hs, hs2]
    rfl
  refine PI.imp (pi_zipS hg hmg (sa_cons hm ha (sa_cons hm hb sa_nil (by rw [hs2, hs0])) hs) e1 e2) fun σ H R ⟨ρ, hp, env, r, re, h⟩ => ?_
  unfold wIt at h
  refine ⟨ρ, hp, env, r, re, ?_⟩
  show wE g cl a env hp (fun d1 hp1 => wE g cl b env hp1 _ _) _
  refine wE_mono hm a env hp _ _ _ _ (fun d1 hp1 q1 => ?_) (fun _ _ _ z => z) h
  refine wE_mono hm b env hp1 _ _ _ _ (fun d2 hp2 q2 => ?_) (fun _ _ _ z => z) q1
  intro ρ1 H1 vs x1 r1 dsr
  cases dsr with
  | cons d1r t =>
    cases t with
    | cons d2r t =>
      cases t
      cases d1r <;> cases d2r <;> first | exact False.elim q2 | skip
      rename_i a1 vs xs hs1 t1 b1 us ys hs2 t2
      exact ⟨_, _, vs, us, rfl, hs1, hs2, q2.2 ρ1 H1 H1 _ x1 r1 (rit_zipS q2.1 hs1 hs2 t1 t2) (.inl ⟨rfl, rfl⟩)⟩
theorem i_items (hm : ClMono cl) {apos tpos : Pos} {elts : List Expr} {kk : Nat} (ha : PE X x (tE X.K L g cl W a)) (hbase : attributeBase x "items" X.env (eval x X.env) = eval x X.env) (hline : (apos.endLine == pos.line) = true) :
    PI X (.Tuple elts kk tpos) (.Call (.Attribute x "items" apos) [] [] pos) (tI X.K L g cl W X.H_0 (.items a)) := by
  refine ⟨fun pins s σ H R I ⟨ρ, hp, env, r, re, h⟩ => ?_⟩
  unfold wIt at h
  refine wpAny_Call_method (T := "dict") (id := "dict.items") hbase rfl hline F.plainAttrs_dict F.slot_dict_items F.type_dict_items (thn (ha.run pins s σ H (fun v1 H1 => ∃ ρ1 hp1 d1, Ext ρ H ρ1 H1 ∧ RelH X.K L ρ1 hp1 H1 ∧ RD X.K L ρ1 H1 d1 v1 ∧ ∃ itr hp2, itDic (fun kv => .tup [keyD kv.1, kv.2]) hp1 d1 = some (itr, hp2) ∧ KI X.K L X.H_0 ρ H R itr hp2) I
    ⟨ρ, hp, env, r, re, wE_mono hm a env hp _ _ _ _ (fun d1 hp1 q1 => ?_) (fun _ _ _ z => z) h⟩) fun v s1 ⟨x1, H1, I1, rx, q⟩ => ?_)
  · intro ρ1 H1 v1 e1 r1 d1r
    cases eq : itDic (fun kv => .tup [keyD kv.1, kv.2]) hp1 d1 with
    | none => simp only [eq] at q1
    | some p =>
      obtain ⟨itr, hp2⟩ := p
      simp only [eq] at q1
      exact ⟨ρ1, hp1, d1, e1, r1, d1r, itr, hp2, eq, q1⟩
  · obtain ⟨ρ1, hp1, d1, e1, r1, d1r, itr, hp2, eq, q1⟩ := q
    cases d1r with
    | @ref i d hs =>
      obtain rfl : v = Value.ref d := rx
      obtain ⟨od, vs, kvs, HL, un, I2, hd, r2, t, ei, ui⟩ := dic_in I1 r1 hs eq
      have q := q1 ρ1 H1 HL _ e1 r2 (by rw [ei]; exact rit_items hd t) ui
      obtain ⟨hss, hgd, hx, es, ep, us, hdt, hsz, kv, hmm⟩ := I2.frzK hd
      have hl : vs.length = us.length := Paired.length kv
      refine ⟨hmm.dictOf.typeIs, hmm.dictOf.mapOf.noDict, ?_⟩
      have I3 : Inv X pins σ HL { s1 with heap := s1.heap.push { cls := .type "dict_items", data := .fields #[.ref d] } } := I2.kept (t' := s1.toks) fun b ob q => Heap.get?_push_of_some _ q
      have fin : wpAny (model X.prog X.w) X.A (pyIter (.ref s1.heap.objs.size)) (PIE X pins σ (.Tuple elts kk tpos) R) X.xe { s1 with heap := s1.heap.push { cls := .type "dict_items", data := .fields #[.ref d] } } := by
        refine wpAny_pyIter_items (d := d) (knd := mixKind X.prog X.w) ⟨_, Heap.get?_push_size _ rfl, rfl, rfl⟩ (hmm.push _) (pi_one (tk := s1.toks) I3 _ (turn_items _ hdt) ⟨.none, .none, ?_⟩ q)
        rw [hl]
        exact Heap.get?_push_size _ rfl
      show wpAny _ _ (callWith pos (.builtin "dict.items") [.ref d] [] []) _ X.xe s1
      exact method_meetsIn F.slot_dict_items F.entry_dict_items rfl (PySem.evalArgs_none ⟨rfl, hmm.dictOf.typeIs, F.args_dict_items_1 _, _, meets_dict_items (mixKind X.prog X.w) d hss, ⟨us, hmm.dictOf⟩, fin⟩)
    | _ => cases eq
theorem i_vals (hm : ClMono cl) {apos : Pos} (ha : PE X x (tE X.K L g cl W a)) (hbase : attributeBase x "values" X.env (eval x X.env) = eval x X.env) (hline : (apos.endLine == pos.line) = true) :
    PI X tg (.Call (.Attribute x "values" apos) [] [] pos) (tI X.K L g cl W X.H_0 (.vals a)) := by
  refine ⟨fun pins s σ H R I ⟨ρ, hp, env, r, re, h⟩ => ?_⟩
  unfold wIt at h
  refine wpAny_Call_method (T := "dict") (id := "dict.values") hbase rfl hline F.plainAttrs_dict F.slot_dict_values F.type_dict_values (thn (ha.run pins s σ H (fun v1 H1 => ∃ ρ1 hp1 d1, Ext ρ H ρ1 H1 ∧ RelH X.K L ρ1 hp1 H1 ∧ RD X.K L ρ1 H1 d1 v1 ∧ ∃ itr hp2, itDic (fun kv => kv.2) hp1 d1 = some (itr, hp2) ∧ KI X.K L X.H_0 ρ H R itr hp2) I
    ⟨ρ, hp, env, r, re, wE_mono hm a env hp _ _ _ _ (fun d1 hp1 q1 => ?_) (fun _ _ _ z => z) h⟩) fun v s1 ⟨x1, H1, I1, rx, q⟩ => ?_)
  · intro ρ1 H1 v1 e1 r1 d1r
    cases eq : itDic (fun kv => kv.2) hp1 d1 with
    | none => simp only [eq] at q1
    | some p =>
      obtain ⟨itr, hp2⟩ := p
      simp only [eq] at q1
      exact ⟨ρ1, hp1, d1, e1, r1, d1r, itr, hp2, eq, q1⟩
  · obtain ⟨ρ1, hp1, d1, e1, r1, d1r, itr, hp2, eq, q1⟩ := q
    cases d1r with
    | @ref i d hs =>
      obtain rfl : v = Value.ref d := rx
      obtain ⟨od, vs, kvs, HL, un, I2, hd, r2, t, ei, ui⟩ := dic_in I1 r1 hs eq
      have q := q1 ρ1 H1 HL _ e1 r2 (by rw [ei]; exact rit_vals hd t) ui
      obtain ⟨hss, hgd, hx, es, ep, us, hdt, hsz, kv, hmm⟩ := I2.frzK hd
      have hl : vs.length = us.length := Paired.length kv
      refine ⟨hmm.dictOf.typeIs, hmm.dictOf.mapOf.noDict, ?_⟩
      have I3 : Inv X pins σ HL { s1 with heap := s1.heap.push { cls := .type "dict_values", data := .fields #[.ref d] } } := I2.kept (t' := s1.toks) fun b ob q => Heap.get?_push_of_some _ q
      have fin : wpAny (model X.prog X.w) X.A (pyIter (.ref s1.heap.objs.size)) (PIE X pins σ tg R) X.xe { s1 with heap := s1.heap.push { cls := .type "dict_values", data := .fields #[.ref d] } } := by
        refine wpAny_pyIter_values (d := d) (knd := mixKind X.prog X.w) ⟨_, Heap.get?_push_size _ rfl, rfl, rfl⟩ (hmm.push _) (pi_one (tk := s1.toks) I3 _ (turn_vals _ hdt) ⟨_, Heap.get?_push_size _ rfl, rfl, ?_⟩ q)
        rw [hl] <;> rfl
      show wpAny _ _ (callWith pos (.builtin "dict.values") [.ref d] [] []) _ X.xe s1
      exact method_meetsIn F.slot_dict_values F.entry_dict_values rfl (PySem.evalArgs_none ⟨rfl, hmm.dictOf.typeIs, F.args_dict_values_1 _, _, meets_dict_values (mixKind X.prog X.w) d hss, ⟨us, hmm.dictOf⟩, fin⟩)
    | _ => cases eq
end
end MI
/-! MI, part 13: targets. -/
namespace MI
open PySem PySem.Spec PyProof.Rows L2

theorem wipe_get (σ : L2.St) (k : Nat) : ∀ own : List Nat, (L2.wipe σ own)[k]? = if k ∈ own then (σ[k]?).map (fun _ => none) else σ[k]?
  | [] => by simp [L2.wipe]
  | j :: r => by
    unfold L2.wipe
    by_cases h : j = k
    · subst h
      rw [List.getElem?_set]
      simp only [if_true, List.mem_cons, true_or, wipe_length]
      split
      · rename_i hl
        rw [List.getElem?_eq_getElem hl]; rfl
      · rename_i hl
        rw [List.getElem?_eq_none (Nat.le_of_not_lt hl)]; rfl
    · rw [List.getElem?_set_ne h, wipe_get σ k r]
      have : (k ∈ j :: r) ↔ k ∈ r := by
        constructor
        · intro m
          rcases List.mem_cons.mp m with e | e
          · exact absurd e.symm h
          · exact e
        · exact List.mem_cons_of_mem _
      simp only [this]
theorem wipe_set {σ : L2.St} {i : Nat} {x : Option V} {own : List Nat} (h : i ∈ own) : L2.wipe (σ.set i x) own = L2.wipe σ own := by
  apply List.ext_getElem?
  intro k
  rw [wipe_get, wipe_get]
  by_cases hk : k ∈ own
  · rw [if_pos hk, if_pos hk, List.getElem?_set]
    split
    · subst_vars
      split
      · rename_i hl
        rw [List.getElem?_eq_getElem hl]; rfl
      · rename_i hl
        rw [List.getElem?_eq_none (Nat.le_of_not_lt hl)]
    · rfl
  · rw [if_neg hk, if_neg hk, List.getElem?_set_ne (fun z : i = k => hk (by rw [← z]; exact h))]

def KG (K : PySem.W.Frag) (L : Lay) (ρ : List Addr) (H : Hp) (P : List Nat → Bool) (σ : L2.St) (Q : L2.St → Hp → Prop) : Env → Hq → Prop := fun env' hp' => ∀ ρ' H' σ', Ext ρ H ρ' H' → RelH K L ρ' hp' H' → RE K L ρ' H' env' σ' → (∀ own, P own = true → L2.wipe σ' own = L2.wipe σ own) → Q σ' H'
def tG (K : PySem.W.Frag) (L : Lay) (g : Glob) (cl : Cl) (t : Tg) : TG := fun v σ H Q => ∃ ρ hp env d, RelH K L ρ hp H ∧ RE K L ρ H env σ ∧ RD K L ρ H d v ∧ wTg g cl t d env hp (KG K L ρ H (fun own => tgIn own t) σ Q)
def tGs (K : PySem.W.Frag) (L : Lay) (g : Glob) (cl : Cl) (ts : Tgs) : TGs := fun vs σ H Q => ∃ ρ hp env ds, RelH K L ρ hp H ∧ RE K L ρ H env σ ∧ RDs K L ρ H ds vs ∧ wTgs g cl ts ds env hp (KG K L ρ H (fun own => tgsIn own ts) σ Q)
section
variable {X : Cx} {L : Lay} {g : Glob} {cl : Cl} {W : WX} {x y tg : Expr} {a b : Ex} {pos : Pos} {t : Tg} {ts : Tgs} {xs : List Expr}
theorem g_nm {i : Nat} {n : Str} (hN : X.N.Nodup) (hi : X.N[i]? = some n) (hx : Loc X.env.scope n) (hf : X.fn n = true ∨ X.env.scope.names.lookup n = some .local) : PG X (.Name n pos) (tG X.K L g cl (.nm i)) :=
  PG.imp (pg_name hN hi hx hf) fun v σ H Q ⟨ρ, hp, env, d, r, re, rd, h⟩ => by
    unfold wTg at h
    refine h ρ H _ (Ext.refl _ _) r (re.set i rd) fun own ho => ?_
    exact wipe_set (by unfold tgIn at ho; simpa using ho)
theorem gs_nil : PGs X [] (tGs X.K L g cl .nil) :=
  PGs.imp pgs_nil fun v σ H Q ⟨ρ, hp, env, ds, r, re, rd, h⟩ => by
    unfold wTgs at h
    cases rd with
    | nil => exact ⟨rfl, h ρ H σ (Ext.refl _ _) r re fun _ _ => rfl⟩
    | cons _ _ => exact False.elim h
theorem gs_cons (hm : ClMono cl) (h1 : PG X x (tG X.K L g cl t)) (h2 : PGs X xs (tGs X.K L g cl ts)) (hs : (assignEach (x :: xs) X.env).map (·.2) = assign x X.env :: (assignEach xs X.env).map (·.2)) : PGs X (x :: xs) (tGs X.K L g cl (.cons t ts)) :=
  PGs.imp (pgs_cons h1 h2 hs) fun v σ H Q ⟨ρ, hp, env, ds, r, re, rd, h⟩ => by
    unfold wTgs at h
    cases rd with
    | nil => exact False.elim h
    | @cons d v ds vs r1 r2 =>
      refine ⟨_, _, rfl, ρ, hp, env, d, r, re, r1, wTg_mono hm t d env hp _ _ (fun env1 hp1 q => ?_) h⟩
      intro ρ1 H1 σ1 e1 rr re1 w1
      refine ⟨ρ1, hp1, env1, ds, rr, re1, r2.mono e1, wTgs_mono hm ts ds env1 hp1 _ _ (fun env2 hp2 q2 => ?_) q⟩
      intro ρ2 H2 σ2 e2 rr2 re2 w2
      refine q2 ρ2 H2 σ2 (e1.trans e2) rr2 re2 fun own ho => ?_
      have ho : (tgIn own t && tgsIn own ts) = true := by unfold tgsIn at ho; exact ho
      rw [Bool.and_eq_true] at ho
      rw [w2 own ho.2, w1 own ho.1]
theorem g_tp (hc : X.calm = true) (h : PGs X xs (tGs X.K L g cl ts)) {k : Nat} (hn : (assignEach xs X.env).length = ts.len) (hst : (assignEach xs X.env).findIdx? (·.1) = none) : PG X (.Tuple xs k pos) (tG X.K L g cl (.tp ts)) :=
  PG.imp (pg_tup hc h hn hst) fun v σ H Q ⟨ρ, hp, env, d, r, re, rd, h⟩ => by
    unfold wTg at h
    cases rd with
    | @tup p vs ds hs t =>
      obtain ⟨hl, h⟩ := h
      exact ⟨p, vs, rfl, hs, by rw [← t.len, hl], ρ, hp, env, ds, r, re, t, h⟩
    | _ => exact False.elim h
theorem g_at (hm : ClMono cl) {S : Nm} {n : Nat} (T : TF S g X.prog X.w X.K X.mg X.base L n) {f : Nat} {nm : Str} (hf : S.attrs[f]? = some nm) (ha : PE X x (tE X.K L g cl W a)) : PG X (.Attribute x nm pos) (tG X.K L g cl (.at a f)) := by
  refine ⟨fun pins s σ H v u Q I rv ⟨ρ, hp, env, d, r, re, rd, h⟩ => ?_⟩
  unfold wTg at h
  rw [assign_Attribute]
  refine wpAny_bind (wpAny_holding (thn (ha.run pins s σ H (fun v1 H1 => ∃ ρ1 hp1 d1, Ext ρ H ρ1 H1 ∧ RelH X.K L ρ1 hp1 H1 ∧ RD X.K L ρ1 H1 d1 v1 ∧ (oSetF d1 f d hp1).app (KG X.K L ρ H (fun own => tgIn own (.at a f)) σ Q env)) I
    ⟨ρ, hp, env, r, re, wE_mono hm a env hp _ _ _ _ (fun d1 hp1 q1 => ?_) (fun _ _ _ z => False.elim z) h⟩) fun ov s1 ⟨x1, H1, I1, rx, q⟩ => ?_))
  · intro ρ1 H1 v1 e1 r1 d1r
    exact ⟨ρ1, hp1, d1, e1, r1, d1r, q1⟩
  · obtain ⟨ρ1, hp1, d1, e1, r1, d1r, q1⟩ := q
    cases d1r with
    | @ref i p hs =>
      unfold oSetF at q1
      cases e : gtI hp1 i with
      | none => simp only [e] at q1; exact False.elim q1
      | some cf =>
        obtain ⟨c, fs⟩ := cf
        simp only [e] at q1
        obtain ⟨hl, q1⟩ := q1
        obtain ⟨C, dx, vs, h1, h2, h3⟩ := r1.ins hs e
        obtain ⟨hc, hn⟩ := T.cls c C h1
        have hmem : nm ∈ S.attrs := List.mem_of_getElem? hf
        have hLa : L.attrs[f]? = some nm := by rw [T.att.1]; exact hf
        have hnd : L.attrs.Nodup := by rw [T.att.1]; exact T.att.2
        obtain rfl : ov = Value.ref p := rx
        obtain ⟨r2, e2⟩ := r1.put hs (.ins h1 (h3.put hnd hLa (rd.mono e1))) (by intro o k z; rw [h2] at z; cases z)
        refine wpAny_bind (wpAny_standAt (wpAny_bind (wpAny_holding (setattr_ok I1 h2 hc (hn nm hmem) (by rw [← h3.len]; omega) rv fun s3 I3 => ?_))))
        exact wpAny_release ⟨σ, _, I3, q1 ρ1 _ σ (e1.trans e2) r2 ((re.mono e1).mono e2) fun own ho => rfl⟩
    | _ => exact False.elim q1
theorem g_sb (hm : ClMono cl) (hu : X.A.units + 65 < cLine) (ha : PE X x (tE X.K L g cl W a)) (hb : PE X y (tE X.K L g cl W b)) (hns : isSub y = false) : PG X (.Subscript x y pos) (tG X.K L g cl (.sb a b)) :=
  PG.imp (pg_sub ha hb (mi_set (L := L) hu) (by intro v; cases y <;> first | rfl | cases hns)) fun v σ H Q ⟨ρ, hp, env, d, r, re, rd, h⟩ => by
    unfold wTg at h
    refine ⟨ρ, hp, env, r, re, wE_mono hm a env hp _ _ _ _ (fun d1 hp1 q1 => ?_) (fun _ _ _ z => False.elim z) h⟩
    intro ρ1 H1 v1 e1 r1 d1r
    refine ⟨ρ1, hp1, env, r1, re.mono e1, wE_mono hm b env hp1 _ _ _ _ (fun d2 hp2 q2 => ?_) (fun _ _ _ z => False.elim z) q1⟩
    intro ρ2 H2 v2 e2 r2 d2r
    refine ⟨ρ2, hp2, d1, d2, d, r2, d1r.mono e2, d2r, (rd.mono e1).mono e2, OutH.mono (fun hp3 k H3 e3 r3 => ?_) q2⟩
    exact k ρ2 H3 σ ((e1.trans e2).trans e3) r3 (((re.mono e1).mono e2).mono e3) fun own ho => rfl
end
end MI
/-! MI, part 14: statements. -/
namespace MI
open PySem PySem.Spec PyProof.Rows L2

def KSt (K : PySem.W.Frag) (L : Lay) (ρ : List Addr) (H : Hp) (D : Ends) (W : WX) : KS where
  nx := fun env' hp' => ∀ ρ' H' σ', Ext ρ H ρ' H' → RelH K L ρ' hp' H' → RE K L ρ' H' env' σ' → D.nx σ' H'
  bk := fun env' hp' => ∀ ρ' H' σ', Ext ρ H ρ' H' → RelH K L ρ' hp' H' → RE K L ρ' H' env' σ' → D.bk σ' H'
  ct := fun env' hp' => ∀ ρ' H' σ', Ext ρ H ρ' H' → RelH K L ρ' hp' H' → RE K L ρ' H' env' σ' → D.ct σ' H'
  rt := KQ K L ρ H D.rt
  ex := fun c i env' hp' => ∀ ρ' H' σ' a C, Ext ρ H ρ' H' → RelH K L ρ' hp' H' → RE K L ρ' H' env' σ' → ρ'[i]? = some a → L.exs[c]? = some C → W (.ref C) (some a) σ' H'
theorem KSt.ext {K : PySem.W.Frag} {L : Lay} {ρ ρ1 : List Addr} {H H1 : Hp} {D : Ends} {W : WX} (e : Ext ρ H ρ1 H1) : KS.le (KSt K L ρ H D W) (KSt K L ρ1 H1 D W) :=
  ⟨fun _ _ q ρ' H' σ' e' => q ρ' H' σ' (e.trans e'), fun _ _ q ρ' H' σ' e' => q ρ' H' σ' (e.trans e'), fun _ _ q ρ' H' σ' e' => q ρ' H' σ' (e.trans e'), fun _ _ q => KQ.ext q e, fun _ _ _ _ q ρ' H' σ' a C e' => q ρ' H' σ' a C (e.trans e')⟩
theorem KSt.kx {K : PySem.W.Frag} {L : Lay} {ρ ρ1 : List Addr} {H H1 : Hp} {D : Ends} {W : WX} {env : Env} {σ : L2.St} {c i : Nat} {hp : Hq} (re : RE K L ρ1 H1 env σ) (e : Ext ρ H ρ1 H1) (q : (KSt K L ρ H D W).ex c i env hp) : KX K L ρ1 H1 σ W c i hp :=
  fun ρ' H' a C e' r h1 h2 => q ρ' H' σ a C (e.trans e') r (re.mono e') h1 h2
section
variable (K : PySem.W.Frag) (L : Lay) (g : Glob) (cl : Cl) (W : WX)
def tS (s : MI.St) : TS := fun D σ H => ∃ ρ hp env, RelH K L ρ hp H ∧ RE K L ρ H env σ ∧ wS g cl s env hp (KSt K L ρ H D W)
def tSs (s : Sts) : TS := fun D σ H => ∃ ρ hp env, RelH K L ρ hp H ∧ RE K L ρ H env σ ∧ wSs g cl s env hp (KSt K L ρ H D W)
end
section
variable {X : Cx} {L : Lay} {g : Glob} {cl : Cl} {W : WX} {x y tg : Expr} {a b : Ex} {pos : Pos} {t : Tg} {s r : MI.St} {sb rs : Sts} {st : Stmt} {rest : List Stmt}
theorem ss_nil : PSs X [] (tSs X.K L g cl W .nil) :=
  PSs.imp pss_nil fun D σ H ⟨ρ, hp, env, r, re, h⟩ => by
    unfold wSs at h
    exact h ρ H σ (Ext.refl _ _) r re
theorem ss_cons (hm : ClMono cl) (h1 : PS X st (tS X.K L g cl W s)) (h2 : PSs X rest (tSs X.K L g cl W rs)) : PSs X (st :: rest) (tSs X.K L g cl W (.cons s rs)) :=
  PSs.imp (pss_cons h1 h2) fun D σ H ⟨ρ, hp, env, r, re, h⟩ => by
    unfold wSs at h
    refine ⟨ρ, hp, env, r, re, wS_mono hm s env hp { KSt X.K L ρ H D W with nx := fun env hp => wSs g cl rs env hp (KSt X.K L ρ H D W) } _ ⟨fun env' hp' q => ?_, fun _ _ q => q, fun _ _ q => q, fun _ _ q => q, fun _ _ _ _ q => q⟩ h⟩
    intro ρ' H' σ' e' r' re'
    exact ⟨ρ', hp', env', r', re', wSs_mono hm rs env' hp' _ _ (KSt.ext e') q⟩
theorem ss_never (h : PS X st tNever) : PSs X (st :: rest) (tSs X.K L g cl W (.cons .never rs)) := ⟨fun pins s σ H D I ⟨ρ, hp, env, r, re, h⟩ => by unfold wSs at h; exact False.elim h⟩
theorem s_never : PS X st (tS X.K L g cl W .never) := ⟨fun pins s σ H D I ⟨ρ, hp, env, r, re, h⟩ => False.elim h⟩
theorem s_pass : PS X (.Pass pos) (tS X.K L g cl W .pass) := PS.imp ps_pass fun D σ H ⟨ρ, hp, env, r, re, h⟩ => h ρ H σ (Ext.refl _ _) r re
theorem s_doc {z : Str} {j : Nat} {p : Pos} : PS X (.Expr (.Constant (.str z) j p) pos) (tS X.K L g cl W .pass) := PS.imp ps_doc fun D σ H ⟨ρ, hp, env, r, re, h⟩ => h ρ H σ (Ext.refl _ _) r re
theorem s_brk : PS X (.Break pos) (tS X.K L g cl W .brk) := PS.imp ps_break fun D σ H ⟨ρ, hp, env, r, re, h⟩ => h ρ H σ (Ext.refl _ _) r re
theorem s_cont : PS X (.Continue pos) (tS X.K L g cl W .cont) := PS.imp ps_continue fun D σ H ⟨ρ, hp, env, r, re, h⟩ => h ρ H σ (Ext.refl _ _) r re
theorem s_expr (hm : ClMono cl) (ha : PE X x (tE X.K L g cl W a)) (hs : swapsWith x none pos.line X.env = pure false) : PS X (.Expr x pos) (tS X.K L g cl W (.expr a)) :=
  PS.imp (ps_expr ha hs) fun D σ H ⟨ρ, hp, env, r, re, h⟩ => by
    unfold wS at h
    refine ⟨ρ, hp, env, r, re, wE_mono hm a env hp _ _ _ _ (fun d1 hp1 q1 => ?_) (fun c i hp1 z => KSt.kx re (Ext.refl _ _) z) h⟩
    intro ρ1 H1 v1 e1 r1 d1r
    exact q1 ρ1 H1 σ e1 r1 (re.mono e1)
theorem s_ret (hm : ClMono cl) (ha : PE X x (tE X.K L g cl W a)) : PS X (.Return (some x) pos) (tS X.K L g cl W (.ret (.so a))) :=
  PS.imp (ps_ret ha) fun D σ H ⟨ρ, hp, env, r, re, h⟩ => by
    unfold wS wEo at h
    exact ⟨ρ, hp, env, r, re, wE_mono hm a env hp _ _ _ _ (fun d1 hp1 q1 => q1) (fun c i hp1 z => KSt.kx re (Ext.refl _ _) z) h⟩
theorem s_retN : PS X (.Return none pos) (tS X.K L g cl W (.ret .no)) :=
  PS.imp ps_retN fun D σ H ⟨ρ, hp, env, r, re, h⟩ => by
    unfold wS wEo at h
    exact KQ.here h r .non
theorem s_asg (hm : ClMono cl) (ha : PE X x (tE X.K L g cl W a)) (hg : PG X tg (tG X.K L g cl t)) (hs : swapsWithSole [tg] x pos.line X.env = pure false) (hw : swappedStores [tg] x X.env = pure none) (h1 : (assignEach [tg] X.env).map (·.2) = [assign tg X.env]) : PS X (.Assign [tg] x pos) (tS X.K L g cl W (.asg t a)) :=
  PS.imp (ps_asg ha hg hs hw h1) fun D σ H ⟨ρ, hp, env, r, re, h⟩ => by
    unfold wS at h
    refine ⟨ρ, hp, env, r, re, wE_mono hm a env hp _ _ _ _ (fun d1 hp1 q1 => ?_) (fun c i hp1 z => KSt.kx re (Ext.refl _ _) z) h⟩
    intro ρ1 H1 v1 e1 r1 d1r
    refine ⟨ρ1, hp1, env, d1, r1, re.mono e1, d1r, wTg_mono hm t d1 env hp1 _ _ (fun env2 hp2 q2 => ?_) q1⟩
    intro ρ2 H2 σ2 e2 r2 re2 _
    exact q2 ρ2 H2 σ2 (e1.trans e2) r2 re2
theorem s_asgN (hm : ClMono cl) (ha : PE X x (tE X.K L g cl W a)) {i : Nat} {n : Str} {p : Pos} (hN : X.N.Nodup) (hi : X.N[i]? = some n) (hx : Loc X.env.scope n) (hs : swapsWith x (some (.Name n p)) pos.line X.env = pure false) (hf : X.fn n = true ∨ X.env.scope.names.lookup n = some .local) :
    PS X (.Assign [.Name n p] x pos) (tS X.K L g cl W (.asg (.nm i) a)) :=
  PS.imp (ps_set hN hi hx ha hs hf) fun D σ H ⟨ρ, hp, env, r, re, h⟩ => by
    unfold wS at h
    refine ⟨ρ, hp, env, r, re, wE_mono hm a env hp _ _ _ _ (fun d1 hp1 q1 => ?_) (fun c i hp1 z => KSt.kx re (Ext.refl _ _) z) h⟩
    intro ρ1 H1 v1 e1 r1 d1r
    unfold wTg at q1
    exact q1 ρ1 H1 _ e1 r1 ((re.mono e1).set i d1r)
theorem s_par (hm : ClMono cl) {i j : Nat} {u v : Str} {p q pt pt2 : Pos} {kt k2 : Nat} {xa xb : Expr} (hc : X.calm = true) (hN : X.N.Nodup) (hi : X.N[i]? = some u) (hj : X.N[j]? = some v) (hij : i ≠ j) (hx : X.env.scope.names.lookup u = some .local) (hy : X.env.scope.names.lookup v = some .local)
    (ha : PA X [xa, xb] (tEs X.K L g cl W (.cons a (.cons b .nil)))) (hw : swappedStores [.Tuple [.Name u p, .Name v q] kt pt] (.Tuple [xa, xb] k2 pt2) X.env = pure (some [u, v]))
    (hs : swapsWithSole [.Tuple [.Name u p, .Name v q] kt pt] (.Tuple [xa, xb] k2 pt2) pos.line X.env = pure false) :
    PS X (.Assign [.Tuple [.Name u p, .Name v q] kt pt] (.Tuple [xa, xb] k2 pt2) pos) (tS X.K L g cl W (.asg (.tp (.cons (.nm i) (.cons (.nm j) .nil))) (.tup (.cons a (.cons b .nil))))) :=
  PS.imp (ps_par hc hN hi hj hij hx hy ha hw hs) fun D σ H ⟨ρ, hp, env, r, re, h⟩ => by
    unfold wS wE at h
    refine ⟨ρ, hp, env, r, re, wEs_mono hm _ env hp _ _ _ _ (fun ds hp1 q1 => ?_) (fun c i hp1 z => KSt.kx re (Ext.refl _ _) z) h⟩
    intro ρ1 H1 vs e1 r1 dsr
    unfold wTg at q1
    obtain ⟨hl, q1⟩ := q1
    cases dsr with
    | nil => cases hl
    | cons d1r t =>
      cases t with
      | nil => cases hl
      | cons d2r t =>
        cases t with
        | cons _ _ => cases hl
        | nil =>
          have q1 := q1
          unfold wTgs wTg at q1
          unfold wTgs wTg at q1
          unfold wTgs at q1
          exact ⟨_, _, rfl, q1 ρ1 H1 _ e1 r1 (((re.mono e1).set i d1r).set j d2r)⟩
theorem mi_aug {o : BOp} {d e : D} {pins : List (Addr × Obj)} {s : Shared} {σ : L2.St} {H : Hp} {v w : V} {u u' : Value} {Q : VK} {ρ : List Addr} {hp : Hq} (I : Inv X pins σ H s) (rv : RelV v u) (rw' : RelV w u') (r : RelH X.K L ρ hp H) (q1 : RD X.K L ρ H d v) (q2 : RD X.K L ρ H e w) (h : (oAug o d e hp).app (KQ X.K L ρ H Q)) :
    wpAny (model X.prog X.w) X.A (inplaceOp (bopOf o) u u') (EP X pins σ Q) X.xe s := by
  cases o <;> cases d <;> cases e <;> first | exact False.elim h | skip
  · cases q1; cases q2
    exact ip_add pins s σ H _ _ u u' Q I rv rw' ⟨_, _, rfl, rfl, h.here r (.int _)⟩
  · cases q1; cases q2
    exact ip_sub pins s σ H _ _ u u' Q I rv rw' ⟨_, _, rfl, rfl, h.here r (.int _)⟩
def rAugMI (K : PySem.W.Frag) (L : Lay) (o : BOp) : TIp := fun x y H Q => ∃ ρ hp d e, RelH K L ρ hp H ∧ RD K L ρ H d x ∧ RD K L ρ H e y ∧ (oAug o d e hp).app (KQ K L ρ H Q)
theorem s_augn (hm : ClMono cl) {i : Nat} {n : Str} {p : Pos} {o : BOp} (hN : X.N.Nodup) (hi : X.N[i]? = some n) (hx : Loc X.env.scope n) (ha : PE X x (tE X.K L g cl W a)) (hf : X.fn n = true ∨ X.env.scope.names.lookup n = some .local) :
    PS X (.AugAssign (.Name n p) (bopOf o) x pos) (tS X.K L g cl W (.augn i o a)) :=
  PS.imp (ps_aug (ti := rAugMI X.K L o) hN hi hx ha (fun pins s σ H v w u u' Q I rv rw' ⟨ρ, hp, d, e, r, q1, q2, h⟩ => mi_aug I rv rw' r q1 q2 h) hf) fun D σ H ⟨ρ, hp, env, r, re, h⟩ => by
    unfold wS at h
    split at h
    · rename_i d eq
      obtain ⟨v, hv, rd⟩ := re.at_ i d eq
      refine ⟨v, hv, ρ, hp, env, r, re, wE_mono hm a env hp _ _ _ _ (fun d1 hp1 q1 => ?_) (fun c i hp1 z => KSt.kx re (Ext.refl _ _) z) h⟩
      intro ρ1 H1 v1 e1 r1 d1r
      refine ⟨ρ1, hp1, d, d1, r1, rd.mono e1, d1r, OutD.mono (fun d2 hp2 q2 => ?_) q1⟩
      intro ρ2 H2 v2 e2 r2 d2r
      exact q2 ρ2 H2 _ (e1.trans e2) r2 (((re.mono e1).mono e2).set i d2r)
    · exact False.elim h
theorem s_augf (hm : ClMono cl) {S : Nm} {n : Nat} (T : TF S g X.prog X.w X.K X.mg X.base L n) {f : Nat} {nm : Str} {tpos : Pos} {o : BOp} (hf : S.attrs[f]? = some nm) (ha : PE X x (tE X.K L g cl W a)) (hb : PE X y (tE X.K L g cl W b)) :
    PS X (.AugAssign (.Attribute x nm tpos) (bopOf o) y pos) (tS X.K L g cl W (.augf a f o b)) := by
  refine ⟨fun pins s σ H D I ⟨ρ, hp, env, r, re, h⟩ => ?_⟩
  unfold wS at h
  have hmem : nm ∈ S.attrs := List.mem_of_getElem? hf
  have hLa : L.attrs[f]? = some nm := by rw [T.att.1]; exact hf
  have hnd : L.attrs.Nodup := by rw [T.att.1]; exact T.att.2
  refine wpAny_AugAssign_AttributeAny (thn (ha.run pins s σ H (fun v1 H1 => ∃ ρ1 hp1 d1, Ext ρ H ρ1 H1 ∧ RelH X.K L ρ1 hp1 H1 ∧ RD X.K L ρ1 H1 d1 v1 ∧ (oGetF d1 f hp1).app fun x hp => wE g cl b env hp (fun y hp => (oAug o x y hp).app fun z hp => (oSetF d1 f z hp).app ((KSt X.K L ρ H D W).nx env)) fun c i hp => (KSt X.K L ρ H D W).ex c i env hp) I
    ⟨ρ, hp, env, r, re, wE_mono hm a env hp _ _ _ _ (fun d1 hp1 q1 => ?_) (fun c i hp1 z => KSt.kx re (Ext.refl _ _) z) h⟩) fun ov s1 ⟨x1, H1, I1, rx, q⟩ => ?_)
  · intro ρ1 H1 v1 e1 r1 d1r
    exact ⟨ρ1, hp1, d1, e1, r1, d1r, q1⟩
  · obtain ⟨ρ1, hp1, d1, e1, r1, d1r, q1⟩ := q
    cases d1r with
    | @ref i p hs =>
      unfold oGetF at q1
      cases e : gtI hp1 i with
      | none => simp only [e] at q1; exact False.elim q1
      | some cf =>
        obtain ⟨c, fs⟩ := cf
        simp only [e] at q1
        obtain ⟨C, dx, vs, h1, h2, h3⟩ := r1.ins hs e
        obtain ⟨hc, hn⟩ := T.cls c C h1
        obtain rfl : ov = Value.ref p := rx
        rcases h3.get hnd hLa with ⟨k1, k2⟩ | ⟨d', v', k1, k2, k3⟩
        · simp only [k1] at q1; exact False.elim q1
        · simp only [k1] at q1
          refine getattr_ok I1 h2 hc (hn nm hmem) k2 fun u s2 I2 ru => ?_
          refine thn (hb.run pins s2 σ H1 (fun v2 H2 => ∃ ρ2 hp2 d2, Ext ρ1 H1 ρ2 H2 ∧ RelH X.K L ρ2 hp2 H2 ∧ RD X.K L ρ2 H2 d2 v2 ∧ (oAug o d' d2 hp2).app fun z hp => (oSetF (.ref i) f z hp).app ((KSt X.K L ρ H D W).nx env)) I2
            ⟨ρ1, hp1, env, r1, re.mono e1, wE_mono hm b env hp1 _ _ _ _ (fun d2 hp2 q2 => ?_) (fun c i hp1 z => KSt.kx (re.mono e1) e1 z) q1⟩) fun w s3 ⟨x2, H2, I3, rx2, q2⟩ => ?_
          · intro ρ2 H2 v2 e2 r2 d2r
            exact ⟨ρ2, hp2, d2, e2, r2, d2r, q2⟩
          · obtain ⟨ρ2, hp2, d2, e2, r2, d2r, q2⟩ := q2
            refine thn (mi_aug (Q := fun v3 H3 => ∃ ρ3 hp3 d3, Ext ρ2 H2 ρ3 H3 ∧ RelH X.K L ρ3 hp3 H3 ∧ RD X.K L ρ3 H3 d3 v3 ∧ (oSetF (.ref i) f d3 hp3).app ((KSt X.K L ρ H D W).nx env)) I3 ru rx2 r2 (k3.mono e2) d2r (OutD.mono (fun d3 hp3 q3 => ?_) q2)) fun w4 s4 ⟨z, H3, I4, rz, q4⟩ => ?_
            · intro ρ3 H3 v3 e3 r3 d3r
              exact ⟨ρ3, hp3, d3, e3, r3, d3r, q3⟩
            · obtain ⟨ρ3, hp3, d3, e3, r3, d3r, q3⟩ := q4
              unfold oSetF at q3
              cases e5 : gtI hp3 i with
              | none => simp only [e5] at q3; exact False.elim q3
              | some cf =>
                obtain ⟨c', fs'⟩ := cf
                simp only [e5] at q3
                obtain ⟨hl, q3⟩ := q3
                have hs3 := e3.ix (e2.ix hs)
                obtain ⟨C', dx', vs', g1, g2, g3⟩ := r3.ins hs3 e5
                obtain ⟨hc', hn'⟩ := T.cls c' C' g1
                obtain ⟨r4, e4⟩ := r3.put hs3 (.ins g1 (g3.put hnd hLa d3r)) (by intro o k z; rw [g2] at z; cases z)
                have e14 := ((e1.trans e2).trans e3).trans e4
                exact setattr_ok I4 g2 hc' (hn' nm hmem) (by rw [← g3.len]; omega) rz fun s5 I5 => ⟨σ, _, I5, q3 ρ3 _ σ e14 r4 (re.mono e14)⟩
    | _ => exact False.elim q1
theorem s_if (hm : ClMono cl) {ca : Ex} {sa sb : Sts} {p q : List Stmt} (hc : PT X x (tT X.K L g cl W ca)) (ha : PSs X p (tSs X.K L g cl W sa)) (hb : PSs X q (tSs X.K L g cl W sb)) : PS X (.If x p q pos) (tS X.K L g cl W (.ifs ca sa sb)) :=
  PS.imp (ps_if hc ha hb) fun D σ H ⟨ρ, hp, env, r, re, h⟩ => by
    unfold wS at h
    refine ⟨ρ, hp, env, r, re, wE_mono hm ca env hp _ _ _ _ (fun d1 hp1 q1 => OutB.mono (fun k q2 ρ1 H1 e1 r1 => ?_) q1) (fun c i hp1 z => KSt.kx re (Ext.refl _ _) z) h⟩
    cases k with
    | true => exact ⟨ρ1, hp1, env, r1, re.mono e1, wSs_mono hm sa env hp1 _ _ (KSt.ext e1) q2⟩
    | false => exact ⟨ρ1, hp1, env, r1, re.mono e1, wSs_mono hm sb env hp1 _ _ (KSt.ext e1) q2⟩
theorem s_while (hm : ClMono cl) {ca : Ex} {sb : Sts} {body : List Stmt} (hp : PassesOwn (model X.prog X.w) X.A X.env X.xe) (hc : PT X x (tT X.K L g cl W ca)) (hb : PSs X body (tSs X.K L g cl W sb)) : PS X (.While x body [] pos) (tS X.K L g cl W (.whl ca sb)) :=
  PS.imp (ps_while hp hc hb) fun D σ H ⟨ρ, hp, env, r, re, h⟩ => by
    unfold wS at h
    obtain ⟨N, h⟩ := h
    refine ⟨fun m σ' H' => ∃ ρ' hp' env', Ext ρ H ρ' H' ∧ RelH X.K L ρ' hp' H' ∧ RE X.K L ρ' H' env' σ' ∧ whLoop (fun env hp kn ke => wE g cl ca env hp (fun x hp => (oTru x hp).app fun t => if t = true then wSs g cl sb env hp { KSt X.K L ρ H D W with nx := kn, ct := kn, bk := (KSt X.K L ρ H D W).nx } else ke env hp) fun c i hp => (KSt X.K L ρ H D W).ex c i env hp) m env' hp' (KSt X.K L ρ H D W).nx, ⟨N, ρ, hp, env, Ext.refl _ _, r, re, h⟩, fun m σ1 H1 hw => ?_⟩
    obtain ⟨ρ1, hp1, env1, e1, r1, re1, hw⟩ := hw
    cases m with
    | zero => exact False.elim hw
    | succ m =>
      unfold whLoop at hw
      refine ⟨ρ1, hp1, env1, r1, re1, wE_mono hm ca env1 hp1 _ _ _ _ (fun d2 hp2 q2 => OutB.mono (fun k q ρ2 H2 e2 r2 => ?_) q2) (fun c i hp1 z => KSt.kx re1 e1 z) hw⟩
      cases k with
      | true =>
        refine ⟨_, fun σ' H' w => ⟨m, Nat.lt_succ_self m, w⟩, ρ2, hp2, env1, r2, re1.mono e2, wSs_mono hm sb env1 hp2 _ _ ⟨fun env3 hp3 q3 => ?_, fun env3 hp3 q3 => ?_, fun env3 hp3 q3 => ?_, fun d3 hp3 q3 => ?_, fun c i env3 hp3 q3 => ?_⟩ q⟩
        · intro ρ3 H3 σ3 e3 r3 re3
          exact ⟨ρ3, hp3, env3, (e1.trans e2).trans e3, r3, re3, q3⟩
        · intro ρ3 H3 σ3 e3 r3 re3
          exact q3 ρ3 H3 σ3 ((e1.trans e2).trans e3) r3 re3
        · intro ρ3 H3 σ3 e3 r3 re3
          exact ⟨ρ3, hp3, env3, (e1.trans e2).trans e3, r3, re3, q3⟩
        · exact KQ.ext q3 (e1.trans e2)
        · intro ρ3 H3 σ3 a3 C3 e3 r3 re3
          exact q3 ρ3 H3 σ3 a3 C3 ((e1.trans e2).trans e3) r3 re3
      | false => exact q ρ2 H2 σ1 (e1.trans e2) r2 (re1.mono e2)
theorem s_for (hm : ClMono cl) {it : Ix} {sb : Sts} {body : List Stmt} (hp : PassesOwn (model X.prog X.w) X.A X.env X.xe) (hc : X.calm = true) (hi : PI X tg x (tI X.K L g cl W X.H_0 it)) (hg : PG X tg (tG X.K L g cl t)) (hb : PSs X body (tSs X.K L g cl W sb))
    (hs : ∀ z, foldedSetIterable x X.env z = pure z) : PS X (.For tg x body [] pos) (tS X.K L g cl W (.for_ t it sb)) := by
  refine PS.imp (ps_un (ps_for hp hc hi hg hb hs)) fun D σ H ⟨ρ, hp, env, r, re, h⟩ => ?_
  unfold wS at h
  refine ⟨ρ, hp, env, r, re, wIt_mono hm it env hp _ _ _ _ (fun itr hp1 q1 => ?_) (fun c i hp1 z => KSt.kx re (Ext.refl _ _) z) h⟩
  intro ρ1 Hu H1 J eu r1 ri ui
  obtain ⟨N, q1⟩ := q1
  have e1 : Ext ρ H ρ1 H1 := eu.trans ui.ext
  refine ⟨fun j m σ' H' => ∃ ρ' hp' env', Ext ρ1 H1 ρ' H' ∧ RelH X.K L ρ' hp' H' ∧ RE X.K L ρ' H' env' σ' ∧ forLoop itr.nx (fun d env hp kn => wTg g cl t d env hp fun env hp =>
      wSs g cl sb env hp { nx := kn, ct := kn, bk := fun env hp => (KSt X.K L ρ H D W).nx env (itr.un hp), rt := fun d hp => (KSt X.K L ρ H D W).rt d (itr.un hp), ex := (KSt X.K L ρ H D W).ex }) m j env' hp' (fun env hp => (KSt X.K L ρ H D W).nx env (itr.un hp)), ⟨N, ρ1, hp1, env, Ext.refl _ _, r1, re.mono e1, q1⟩, fun j m σ2 H2 hw => ?_⟩
  obtain ⟨ρ2, hp2, env2, e2, r2, re2, hw⟩ := hw
  -- the end
  have fin : ∀ {ρ3 : List Addr} {H3 : Hp} {σ3 : L2.St} {env3 : Env} {hp3 : Hq} {P : L2.St → Hp → Prop}, Ext ρ1 H1 ρ3 H3 → RelH X.K L ρ3 hp3 H3 → RE X.K L ρ3 H3 env3 σ3 → (∀ ρ' H' σ', Ext ρ H ρ' H' → RelH X.K L ρ' (itr.un hp3) H' → RE X.K L ρ' H' env3 σ' → P σ' H') → unP X.H_0 (P σ3) H3 := by
    intro ρ3 H3 σ3 env3 hp3 P e3 r3 re3 k
    exact ui.fin e3 r3 fun H4 e4 w4 _ r4 => k ρ3 H4 σ3 (eu.trans e4) r4 (re3.monoW w4)
  cases m with
  | zero => exact False.elim hw
  | succ m =>
    unfold forLoop at hw
    cases en : itr.nx j hp2 with
    | none => rw [en] at hw; exact False.elim hw
    | some o =>
      rw [en] at hw
      cases o with
      | none => exact .inl ⟨ri.stop j ρ2 H2 hp2 e2 r2 en, fin e2 r2 re2 hw⟩
      | some d =>
        obtain ⟨hgo, hy⟩ := ri.go j ρ2 H2 hp2 d e2 r2 en
        refine .inr ⟨hgo, _, fun σ' H' w => ⟨m, Nat.lt_succ_self m, w⟩, fun v H3 y3 => ?_⟩
        obtain ⟨e3, r3, rd⟩ := hy v H3 y3
        refine ⟨ρ2, hp2, env2, d, r3, re2.mono e3, rd, wTg_mono hm t d env2 hp2 _ _ (fun env4 hp4 q4 => ?_) hw⟩
        intro ρ4 H4 σ4 e4 r4 re4 _
        have e24 := (e2.trans e3).trans e4
        refine ⟨ρ4, hp4, env4, r4, re4, wSs_mono hm sb env4 hp4 _ _ ⟨fun env5 hp5 q5 => ?_, fun env5 hp5 q5 => ?_, fun env5 hp5 q5 => ?_, fun d5 hp5 q5 => ?_, fun c i env5 hp5 q5 => ?_⟩ q4⟩
        · intro ρ5 H5 σ5 e5 r5 re5
          exact ⟨ρ5, hp5, env5, e24.trans e5, r5, re5, q5⟩
        · intro ρ5 H5 σ5 e5 r5 re5
          exact fin (e24.trans e5) r5 re5 q5
        · intro ρ5 H5 σ5 e5 r5 re5
          exact ⟨ρ5, hp5, env5, e24.trans e5, r5, re5, q5⟩
        · intro ρ5 H5 v5 e5 r5 rd5
          exact ui.fin (e24.trans e5) r5 fun H6 e6 w6 _ r6 => q5 ρ5 H6 v5 (eu.trans e6) r6 (rd5.monoW w6)
        · intro ρ5 H5 σ5 a5 C5 e5 r5 re5
          exact q5 ρ5 H5 σ5 a5 C5 ((e1.trans e24).trans e5) r5 re5
end
end MI
/-! MI, part 15: list comprehensions. -/
namespace MI
open PySem PySem.Spec PyProof.Rows L2

theorem wipe_idem (σ : L2.St) (own : List Nat) : L2.wipe (L2.wipe σ own) own = L2.wipe σ own := by
  apply List.ext_getElem?
  intro k
  rw [wipe_get, wipe_get]
  by_cases hk : k ∈ own
  · rw [if_pos hk, if_pos hk]
    cases σ[k]? <;> rfl
  · rw [if_neg hk, if_neg hk]
theorem Ext.notin {ρ ρ' : List Addr} {H H' : Hp} {p : Addr} {u : HO} (e : Ext ρ H ρ' H') (hn : p ∉ ρ) (h : H p = some u) : p ∉ ρ' := fun z => by
  rcases e.new p z with q | q
  · exact hn q
  · rw [q] at h; cases h
def ttOf (K : PySem.W.Frag) (L : Lay) (g : Glob) (cl : Cl) : Exo → TT
  | .no => tYes
  | .so e => tT K L g cl (fun _ _ _ _ => False) e
section
variable {X : Cx} {L : Lay} {g : Glob} {cl : Cl} {W : WX}
theorem lc_imp (hm : ClMono cl) {own : List Nat} {t : Tg} {it : Ix} {c : Exo} {e : Ex} (ht : tgIn own t = true) {σ : L2.St} {H : Hp} {Q : VK} (h : tE X.K L g cl W (.lc own t it c e) σ H Q) :
    tLc (tI X.K L g cl W X.H_0 it) (tG X.K L g cl t) (ttOf X.K L g cl c) (tE X.K L g cl (fun _ _ _ _ => False) e) own σ H (fun v => unP X.H_0 (Q v)) := by
  obtain ⟨ρ, hp, env, r, re, h⟩ := h
  unfold wE at h
  refine ⟨ρ, hp, env, r, re, wIt_mono hm it env hp _ _ _ _ (fun itr hp1 q1 => ?_) (fun _ _ _ z => z) h⟩
  intro ρ1 Hu H1 J eu r1 ri ui Dd hD
  obtain ⟨N, q1⟩ := q1
  have e1 : Ext ρ H ρ1 H1 := eu.trans ui.ext
  have hDu : Hu Dd = none := by
    rcases ui with ⟨rfl, _⟩ | ⟨d, i, od, vs, kvs, hn, hd, ee, hi, rk, hu⟩
    · exact hD
    · subst ee
      have z : Dd ≠ d := fun z => by subst z; rw [upd_same] at hD; cases hD
      rw [upd_ne z] at hD
      exact hD
  obtain ⟨r1', e1'⟩ := r1.tmp (u := .lst []) hD
  let body : D → Hq → (Option D → Hq → Prop) → Prop := fun d hp k => wTg g cl t d (wipeE env own) hp fun env2 hp =>
      wEo g cl c env2 hp (fun r hp => match r with
        | none => wE g cl e env2 hp (fun y hp => k (some y) hp) fun _ _ _ => False
        | some x => (oTru x hp).app fun b => if b = true then wE g cl e env2 hp (fun y hp => k (some y) hp) fun _ _ _ => False else k none hp) fun _ _ _ => False
  let fk : List D → Hq → Prop := fun ds hp => KQ X.K L ρ H Q (.ref (itr.un hp).length) (itr.un hp ++ [.lst ds])
  have q1 : lcLoop itr.nx body N 0 [] hp1 fk := q1
  refine ⟨fun j m H' => ∃ ρ' hp' ds vs, Ext ρ1 H1 ρ' H' ∧ RelH X.K L ρ' hp' H' ∧ Dd ∉ ρ' ∧ H' Dd = some (.lst vs) ∧ RDs X.K L ρ' H' ds vs ∧ lcLoop itr.nx body m j ds hp' fk,
    ⟨N, ρ1, hp1, [], [], (Ext.refl ρ1 H1).side0 hD, r1', r1.notin hD, upd_same, .nil, q1⟩, fun j m H2 hw => ?_⟩
  obtain ⟨ρ2, hp2, ds, vs, e2, r2, hn2, hd2, rd2, hw⟩ := hw
  cases m with
  | zero => exact False.elim hw
  | succ m =>
    unfold lcLoop at hw
    cases en : itr.nx j hp2 with
    | none => rw [en] at hw; exact False.elim hw
    | some o =>
      rw [en] at hw
      cases o with
      | none =>
        refine .inl ⟨ri.stop j ρ2 H2 hp2 e2 r2 en, ui.fin e2 r2 fun H4 e4 w4 oth r4 => ?_⟩
        have hd4 : H4 Dd = some (.lst vs) := oth _ _ hd2 (fun _ _ z => by cases z)
        obtain ⟨r5, e5⟩ := r4.tell0 (o := .lst ds) (u := .lst vs) hn2 hd4 (.lst (rd2.monoW w4)) (eu.trans e4) (by
          cases hH : H Dd with
          | none => rfl
          | some z =>
            by_cases hm : Dd ∈ ρ
            · exact absurd (by obtain ⟨mo, hmo⟩ := (eu.trans e4).pre; rw [hmo]; exact List.mem_append_left _ hm) hn2
            · have := eu.out Dd z hH hm
              rw [hDu] at this; cases this)
        have hw : KQ X.K L ρ H Q (.ref (itr.un hp2).length) (itr.un hp2 ++ [.lst ds]) := hw
        refine hw _ H4 _ e5 r5 (.ref ?_)
        rw [← r4.len, List.getElem?_append_right (Nat.le_refl _)]
        simp
      | some d =>
        obtain ⟨hgo, hy⟩ := ri.go j ρ2 H2 hp2 d e2 r2 en
        refine .inr ⟨hgo, _, fun H' w => ⟨m, Nat.lt_succ_self m, w⟩, fun v H3 y3 => ?_⟩
        obtain ⟨e3, r3, rdv⟩ := hy v H3 y3
        have re3 : RE X.K L ρ2 H3 (wipeE env own) (L2.wipe σ own) := ((re.wipe own).mono e1).mono (e2.trans e3)
        have hd3 : H3 Dd = some (.lst vs) := e3.out _ _ hd2 hn2
        refine ⟨ρ2, hp2, _, d, r3, re3, rdv, wTg_mono hm t d _ hp2 _ _ (fun env4 hp4 q4 => ?_) hw⟩
        intro ρ4 H4 σ4 e4 r4 re4 w4
        refine ⟨by rw [w4 own ht, wipe_idem], ?_⟩
        -- the item
        have item : ∀ {ρ5 : List Addr} {H5 : Hp} {hp5 : Hq}, Ext ρ4 H4 ρ5 H5 → RelH X.K L ρ5 hp5 H5 → wE g cl e env4 hp5 (fun y hp => ds.length < SZ ∧ lcLoop itr.nx body m (j + 1) (ds ++ [y]) hp fk) (fun _ _ _ => False) →
            tE X.K L g cl (fun _ _ _ _ => False) e σ4 H5 fun y H6 => ∃ acc, H6 Dd = some (.lst acc) ∧ acc.length < sizeLine ∧ ∃ ρ' hp' ds vs, Ext ρ1 H1 ρ' (upd H6 Dd (.lst (acc ++ [y]))) ∧ RelH X.K L ρ' hp' (upd H6 Dd (.lst (acc ++ [y]))) ∧ Dd ∉ ρ' ∧ (upd H6 Dd (.lst (acc ++ [y]))) Dd = some (.lst vs) ∧ RDs X.K L ρ' (upd H6 Dd (.lst (acc ++ [y]))) ds vs ∧ lcLoop itr.nx body m (j + 1) ds hp' fk := by
          intro ρ5 H5 hp5 e5 r5 q5
          refine ⟨ρ5, hp5, env4, r5, re4.mono e5, wE_mono hm e env4 hp5 _ _ _ _ (fun y hp6 q6 => ?_) (fun _ _ _ z => False.elim z) q5⟩
          intro ρ6 H6 v6 e6 r6 rd6
          obtain ⟨hl, q6⟩ := q6
          have e36 := (e4.trans e5).trans e6
          have hd6 : H6 Dd = some (.lst vs) := e36.out _ _ hd3 hn2
          have hn6 := e36.notin hn2 hd3
          obtain ⟨r7, w7⟩ := r6.side0 (u := .lst (vs ++ [v6])) hn6 hd6 (fun z => by cases z)
          exact ⟨vs, hd6, by rw [← sz_line, ← rd2.len]; exact hl, ρ6, hp6, ds ++ [y], vs ++ [v6], ((e2.trans e3).trans e36).side0 hD, r7, hn6, upd_same, ((rd2.mono (e3.trans e36)).app (.one rd6)).monoW w7, q6⟩
        cases c with
        | no =>
          unfold wEo at q4
          dsimp only [ttOf, tYes]
          rw [if_pos rfl]
          exact item (Ext.refl _ _) r4 q4
        | so ce =>
          unfold wEo at q4
          refine ⟨ρ4, hp4, env4, r4, re4, wE_mono hm ce env4 hp4 _ _ _ _ (fun d5 hp5 q5 => OutB.mono (fun b q ρ5 H5 e5 r5 => ?_) q5) (fun _ _ _ z => False.elim z) q4⟩
          cases b with
          | true => exact item e5 r5 q
          | false =>
            have e35 := e4.trans e5
            exact ⟨ρ5, hp5, ds, vs, (e2.trans e3).trans e35, r5, e35.notin hn2 hd3, e35.out _ _ hd3 hn2, rd2.mono (e3.trans e35), q⟩
variable {x tg elt : Expr} {ifs : List Expr} {scope : Scope} {pos : Pos}
theorem s_lc (hm : ClMono cl) {own : List Nat} {ow : List (Str × Nat)} {t : Tg} {it : Ix} {c : Exo} {e : Ex} (how : ow.map (·.2) = own) (ht : tgIn own t = true) (hc : X.calm = true) (hN : X.N.Nodup) (hi : PI X tg x (tI X.K L g cl W X.H_0 it)) (ok : BlkOk X.N X.env.scope scope ow)
    (hg : ∀ (s : Shared) (H : Hp) (C : Addr) (ce : List (Str × Addr)) (fp : List Addr), PG (X.blk s H scope (compEnvC scope ce C X.env) fp) tg (tG X.K L g cl t)) (hif : ∀ (s : Shared) (H : Hp) (C : Addr) (ce : List (Str × Addr)) (fp : List Addr), PTs (X.blk s H scope (compEnvC scope ce C X.env) fp) ifs (ttOf X.K L g cl c))
    (he : ∀ (s : Shared) (H : Hp) (C : Addr) (ce : List (Str × Addr)) (fp : List Addr), PE (X.blk s H scope (compEnvC scope ce C X.env) fp) elt (tE X.K L g cl (fun _ _ _ _ => False) e)) (hs : ∀ z, foldedSetIterable x X.env z = pure z) :
    PE X (.ListComp elt [⟨tg, x, ifs, 0⟩] scope pos) (tE X.K L g cl W (.lc own t it c e)) :=
  PE.imp (pe_un (pe_lc hc hN hi ok hg hif he hs)) fun σ H Q h => by
    rw [how]
    exact lc_imp hm ht h
theorem s_setLc (hm : ClMono cl) {own : List Nat} {ow : List (Str × Nat)} {t : Tg} {it : Ix} {c : Exo} {e : Ex} {i : Nat} {n : Str} {py spos : Pos} (how : ow.map (·.2) = own) (ht : tgIn own t = true) (hc : X.calm = true) (hN : X.N.Nodup) (hy : X.N[i]? = some n) (hyl : X.env.scope.names.lookup n = some .local)
    (hsw : swapsWith (.ListComp elt [⟨tg, x, ifs, 0⟩] scope pos) (some (.Name n py)) spos.line X.env = pure true) (hi : PI X tg x (tI X.K L g cl W X.H_0 it)) (ok : BlkOk X.N X.env.scope scope ow)
    (hg : ∀ (s : Shared) (H : Hp) (C : Addr) (ce : List (Str × Addr)) (fp : List Addr), PG (X.blk s H scope (compEnvC scope ce C X.env) fp) tg (tG X.K L g cl t)) (hif : ∀ (s : Shared) (H : Hp) (C : Addr) (ce : List (Str × Addr)) (fp : List Addr), PTs (X.blk s H scope (compEnvC scope ce C X.env) fp) ifs (ttOf X.K L g cl c))
    (he : ∀ (s : Shared) (H : Hp) (C : Addr) (ce : List (Str × Addr)) (fp : List Addr), PE (X.blk s H scope (compEnvC scope ce C X.env) fp) elt (tE X.K L g cl (fun _ _ _ _ => False) e)) (hs : ∀ z, foldedSetIterable x X.env z = pure z) :
    PS X (.Assign [.Name n py] (.ListComp elt [⟨tg, x, ifs, 0⟩] scope pos) spos) (tS X.K L g cl W (.asg (.nm i) (.lc own t it c e))) :=
  PS.imp (ps_un (ps_setLc hc hN hy hyl hsw hi ok hg hif he hs)) fun D σ H ⟨ρ, hp, env, r, re, h⟩ => by
    unfold wS at h
    have h2 : tE X.K L g cl W (.lc own t it c e) σ H fun v H' => D.nx (σ.set i (some v)) H' := by
      refine ⟨ρ, hp, env, r, re, wE_mono hm _ env hp _ _ _ _ (fun d1 hp1 q1 => ?_) (fun c i hp1 z => KSt.kx re (Ext.refl _ _) z) h⟩
      intro ρ1 H1 v1 e1 r1 d1r
      unfold wTg at q1
      exact q1 ρ1 H1 _ e1 r1 ((re.mono e1).set i d1r)
    show tLc _ _ _ _ _ σ H _
    rw [how]
    exact lc_imp hm ht h2
end
end MI
/-! MI, part 15a: dict comprehensions, comprehensions of two clauses, len by an own __len__. -/
namespace MI
open PySem PySem.Spec PyProof.Rows L2
section
variable {X : Cx} {L : Lay} {g : Glob} {cl : Cl} {W : WX}
theorem dc_imp (hm : ClMono cl) {own : List Nat} {t : Tg} {it : Ix} {c : Exo} {kx e : Ex} (ht : tgIn own t = true) {σ : L2.St} {H : Hp} {Q : VK} (h : tE X.K L g cl W (.dc own t it c kx e) σ H Q) :
    tDc (tI X.K L g cl W X.H_0 it) (tG X.K L g cl t) (ttOf X.K L g cl c) (tE X.K L g cl (fun _ _ _ _ => False) kx) (tE X.K L g cl (fun _ _ _ _ => False) e) own σ H (fun v => unP X.H_0 (Q v)) := by
  obtain ⟨ρ, hp, env, r, re, h⟩ := h
  unfold wE at h
  refine ⟨ρ, hp, env, r, re, wIt_mono hm it env hp _ _ _ _ (fun itr hp1 q1 => ?_) (fun _ _ _ z => z) h⟩
  intro ρ1 Hu H1 J eu r1 ri ui Dd hD
  obtain ⟨N, q1⟩ := q1
  have e1 : Ext ρ H ρ1 H1 := eu.trans ui.ext
  have hDu : Hu Dd = none := by
    rcases ui with ⟨rfl, _⟩ | ⟨d, i, od, vs, kvs, hn, hd, ee, hi, rk, hu⟩
    · exact hD
    · subst ee
      have z : Dd ≠ d := fun z => by subst z; rw [upd_same] at hD; cases hD
      rw [upd_ne z] at hD
      exact hD
  obtain ⟨r1', e1'⟩ := r1.tmp (u := .dK []) hD
  let body : D → Hq → (Option (D × D) → Hq → Prop) → Prop := fun d hp kk => wTg g cl t d (wipeE env own) hp fun env2 hp =>
      wEo g cl c env2 hp (fun r hp => match r with
        | none => wE g cl kx env2 hp (fun y hp => wE g cl e env2 hp (fun z hp => kk (some (y, z)) hp) fun _ _ _ => False) fun _ _ _ => False
        | some x => (oTru x hp).app fun b => if b = true then wE g cl kx env2 hp (fun y hp => wE g cl e env2 hp (fun z hp => kk (some (y, z)) hp) fun _ _ _ => False) fun _ _ _ => False else kk none hp) fun _ _ _ => False
  let fk : List (Key × D) → Hq → Prop := fun ds hp => KQ X.K L ρ H Q (.ref (itr.un hp).length) (itr.un hp ++ [.dic ds])
  have q1 : dcLoop itr.nx body N 0 [] hp1 fk := q1
  refine ⟨fun j m H' => ∃ ρ' hp' ds vs, Ext ρ1 H1 ρ' H' ∧ RelH X.K L ρ' hp' H' ∧ Dd ∉ ρ' ∧ H' Dd = some (.dK vs) ∧ RKs X.K L ρ' H' ds vs ∧ dcLoop itr.nx body m j ds hp' fk,
    ⟨N, ρ1, hp1, [], [], (Ext.refl ρ1 H1).side0 hD, r1', r1.notin hD, upd_same, .nil, q1⟩, fun j m H2 hw => ?_⟩
  obtain ⟨ρ2, hp2, ds, vs, e2, r2, hn2, hd2, rd2, hw⟩ := hw
  cases m with
  | zero => exact False.elim hw
  | succ m =>
    unfold dcLoop at hw
    cases en : itr.nx j hp2 with
    | none => rw [en] at hw; exact False.elim hw
    | some o =>
      rw [en] at hw
      cases o with
      | none =>
        refine .inl ⟨ri.stop j ρ2 H2 hp2 e2 r2 en, ui.fin e2 r2 fun H4 e4 w4 oth r4 => ?_⟩
        have hd4 : H4 Dd = some (.dK vs) := oth _ _ hd2 (fun _ _ z => by cases z)
        obtain ⟨r5, e5⟩ := r4.tell0 (o := .dic ds) (u := .dK vs) hn2 hd4 (.dic (rd2.monoW w4)) (eu.trans e4) (by
          cases hH : H Dd with
          | none => rfl
          | some z =>
            by_cases hm : Dd ∈ ρ
            · exact absurd (by obtain ⟨mo, hmo⟩ := (eu.trans e4).pre; rw [hmo]; exact List.mem_append_left _ hm) hn2
            · have := eu.out Dd z hH hm
              rw [hDu] at this; cases this)
        have hw : KQ X.K L ρ H Q (.ref (itr.un hp2).length) (itr.un hp2 ++ [.dic ds]) := hw
        refine hw _ H4 _ e5 r5 (.ref ?_)
        rw [← r4.len, List.getElem?_append_right (Nat.le_refl _)]
        simp
      | some d =>
        obtain ⟨hgo, hy⟩ := ri.go j ρ2 H2 hp2 d e2 r2 en
        refine .inr ⟨hgo, _, fun H' w => ⟨m, Nat.lt_succ_self m, w⟩, fun v H3 y3 => ?_⟩
        obtain ⟨e3, r3, rdv⟩ := hy v H3 y3
        have re3 : RE X.K L ρ2 H3 (wipeE env own) (L2.wipe σ own) := ((re.wipe own).mono e1).mono (e2.trans e3)
        have hd3 : H3 Dd = some (.dK vs) := e3.out _ _ hd2 hn2
        refine ⟨ρ2, hp2, _, d, r3, re3, rdv, wTg_mono hm t d _ hp2 _ _ (fun env4 hp4 q4 => ?_) hw⟩
        intro ρ4 H4 σ4 e4 r4 re4 w4
        refine ⟨by rw [w4 own ht, wipe_idem], ?_⟩
        -- the pair
        have item : ∀ {ρ5 : List Addr} {H5 : Hp} {hp5 : Hq}, Ext ρ4 H4 ρ5 H5 → RelH X.K L ρ5 hp5 H5 →
            wE g cl kx env4 hp5 (fun y hp => wE g cl e env4 hp (fun z hp => match kOf y with | some key => ds.length < SZ ∧ dcLoop itr.nx body m (j + 1) (dput ds key z) hp fk | none => False) (fun _ _ _ => False)) (fun _ _ _ => False) →
            tE X.K L g cl (fun _ _ _ _ => False) kx σ4 H5 fun y H6 => tE X.K L g cl (fun _ _ _ _ => False) e σ4 H6 fun z H7 => ∃ kvs k, y = kV k ∧ H7 Dd = some (.dK kvs) ∧ kvs.length < sizeLine ∧
              ∃ ρ' hp' ds vs, Ext ρ1 H1 ρ' (upd H7 Dd (.dK (putK kvs k z))) ∧ RelH X.K L ρ' hp' (upd H7 Dd (.dK (putK kvs k z))) ∧ Dd ∉ ρ' ∧ (upd H7 Dd (.dK (putK kvs k z))) Dd = some (.dK vs) ∧ RKs X.K L ρ' (upd H7 Dd (.dK (putK kvs k z))) ds vs ∧ dcLoop itr.nx body m (j + 1) ds hp' fk := by
          intro ρ5 H5 hp5 e5 r5 q5
          refine ⟨ρ5, hp5, env4, r5, re4.mono e5, wE_mono hm kx env4 hp5 _ _ _ _ (fun y hp6 q6 => ?_) (fun _ _ _ z => False.elim z) q5⟩
          intro ρ6 H6 v6 e6 r6 rd6
          refine ⟨ρ6, hp6, env4, r6, (re4.mono e5).mono e6, wE_mono hm e env4 hp6 _ _ _ _ (fun z hp7 q7 => ?_) (fun _ _ _ z => False.elim z) q6⟩
          intro ρ7 H7 v7 e7 r7 rd7
          cases ek : kOf y with
          | none => simp only [ek] at q7
          | some key =>
            simp only [ek] at q7
            obtain ⟨hl, q7⟩ := q7
            have e37 := ((e4.trans e5).trans e6).trans e7
            have hd7 : H7 Dd = some (.dK vs) := e37.out _ _ hd3 hn2
            have hn7 := e37.notin hn2 hd3
            obtain ⟨r8, w8⟩ := r7.side0 (u := .dK (putK vs key v7)) hn7 hd7 (fun z => by cases z)
            exact ⟨vs, key, kOf_kV rd6 ek, hd7, by rw [← sz_line, ← rd2.len]; exact hl, ρ7, hp7, dput ds key z, putK vs key v7, ((e2.trans e3).trans e37).side0 hD, r8, hn7, upd_same, ((rd2.mono (e3.trans e37)).put key rd7).monoW w8, q7⟩
        cases c with
        | no =>
          unfold wEo at q4
          dsimp only [ttOf, tYes]
          rw [if_pos rfl]
          exact item (Ext.refl _ _) r4 q4
        | so ce =>
          unfold wEo at q4
          refine ⟨ρ4, hp4, env4, r4, re4, wE_mono hm ce env4 hp4 _ _ _ _ (fun d5 hp5 q5 => OutB.mono (fun b q ρ5 H5 e5 r5 => ?_) q5) (fun _ _ _ z => False.elim z) q4⟩
          cases b with
          | true => exact item e5 r5 q
          | false =>
            have e35 := e4.trans e5
            exact ⟨ρ5, hp5, ds, vs, (e2.trans e3).trans e35, r5, e35.notin hn2 hd3, e35.out _ _ hd3 hn2, rd2.mono (e3.trans e35), q⟩
variable {x tg kx' elt : Expr} {ifs : List Expr} {scope : Scope} {pos : Pos}
theorem s_dc (hm : ClMono cl) {own : List Nat} {ow : List (Str × Nat)} {t : Tg} {it : Ix} {c : Exo} {kx e : Ex} (how : ow.map (·.2) = own) (ht : tgIn own t = true) (hc : X.calm = true) (hN : X.N.Nodup) (hi : PI X tg x (tI X.K L g cl W X.H_0 it)) (ok : BlkOk X.N X.env.scope scope ow)
    (hg : ∀ (s : Shared) (H : Hp) (C : Addr) (ce : List (Str × Addr)) (fp : List Addr), PG (X.blk s H scope (compEnvC scope ce C X.env) fp) tg (tG X.K L g cl t)) (hif : ∀ (s : Shared) (H : Hp) (C : Addr) (ce : List (Str × Addr)) (fp : List Addr), PTs (X.blk s H scope (compEnvC scope ce C X.env) fp) ifs (ttOf X.K L g cl c))
    (hk : ∀ (s : Shared) (H : Hp) (C : Addr) (ce : List (Str × Addr)) (fp : List Addr), PE (X.blk s H scope (compEnvC scope ce C X.env) fp) kx' (tE X.K L g cl (fun _ _ _ _ => False) kx))
    (he : ∀ (s : Shared) (H : Hp) (C : Addr) (ce : List (Str × Addr)) (fp : List Addr), PE (X.blk s H scope (compEnvC scope ce C X.env) fp) elt (tE X.K L g cl (fun _ _ _ _ => False) e)) (hs : ∀ z, foldedSetIterable x X.env z = pure z) :
    PE X (.DictComp kx' elt [⟨tg, x, ifs, 0⟩] scope pos) (tE X.K L g cl W (.dc own t it c kx e)) :=
  PE.imp (pe_un (pe_dc hc hN hi ok hg hif hk he hs)) fun σ H Q h => by
    rw [how]
    exact dc_imp hm ht h
/-! ### two clauses -/
/-- how a list or tuple is walked, whatever comes in between -/
structure RItW (K : PySem.W.Frag) (L : Lay) (ρ1 : List Addr) (H1 : Hp) (J : It) (it : MI.Itr) : Prop where
  stop : ∀ (j : Nat) ρ H hp, ExtW ρ1 H1 ρ H → RelH K L ρ hp H → it.nx j hp = some none → J.stop j H
  go : ∀ (j : Nat) ρ H hp d, ExtW ρ1 H1 ρ H → RelH K L ρ hp H → it.nx j hp = some (some d) → J.go j H ∧ ∀ x H', J.yld j H x H' → H' = H ∧ RD K L ρ H d x
theorem ritw_list {K : PySem.W.Frag} {ρ1 : List Addr} {H1 : Hp} {i : Nat} {a : Addr} (ha : ρ1[i]? = some a) : RItW K L ρ1 H1 (Itl K a) (itLst i) where
  stop := fun j ρ H hp e r h => by
    cases g : gtL hp i with
    | none => simp [itLst, g] at h
    | some xs =>
      simp [itLst, g] at h
      obtain ⟨vs, h1, h2⟩ := r.lst (e.ix ha) g
      exact ⟨vs, .of h1, by rw [← h2.len]; exact h⟩
  go := fun j ρ H hp d e r h => by
    cases g : gtL hp i with
    | none => simp [itLst, g] at h
    | some xs =>
      have h : xs[j]? = some d := by simpa [itLst, g] using h
      obtain ⟨vs, h1, h2⟩ := r.lst (e.ix ha) g
      obtain ⟨v, h3, h4⟩ := h2.get h
      refine ⟨⟨vs, v, .of h1, h3⟩, fun x H' y => ?_⟩
      obtain ⟨rfl, y⟩ := y
      have := y vs (.of h1)
      rw [h3] at this
      cases this
      exact ⟨rfl, h4⟩
theorem ritw_fixL {K : PySem.W.Frag} {ρ1 : List Addr} {H1 : Hp} {ds : List D} {vs : List V} {a : Addr} (hs : KlL K H1 a vs) (t : RDs K L ρ1 H1 ds vs) : RItW K L ρ1 H1 (Itl K a) (itFix ds) where
  stop := fun j ρ H hp e r h => by
    have h : ds[j]? = none := by simpa [itFix] using h
    exact ⟨vs, (KlL.monoW e hs).sq, by rw [← t.len]; exact List.getElem?_eq_none_iff.mp h⟩
  go := fun j ρ H hp d e r h => by
    have h : ds[j]? = some d := by simpa [itFix] using h
    obtain ⟨v, h3, h4⟩ := t.get h
    refine ⟨⟨vs, v, (KlL.monoW e hs).sq, h3⟩, fun x H' y => ?_⟩
    obtain ⟨rfl, y⟩ := y
    have := y vs (KlL.monoW e hs).sq
    rw [h3] at this
    cases this
    exact ⟨rfl, h4.monoW e⟩
theorem ritw_fixT {K : PySem.W.Frag} {ρ1 : List Addr} {H1 : Hp} {ds : List D} {vs : List V} {a : Addr} (hs : SqT K H1 a vs) (t : RDs K L ρ1 H1 ds vs) : RItW K L ρ1 H1 (Itt K a) (itFix ds) where
  stop := fun j ρ H hp e r h => by
    have h : ds[j]? = none := by simpa [itFix] using h
    exact ⟨vs, SqT.monoW e hs, by rw [← t.len]; exact List.getElem?_eq_none_iff.mp h⟩
  go := fun j ρ H hp d e r h => by
    have h : ds[j]? = some d := by simpa [itFix] using h
    obtain ⟨v, h3, h4⟩ := t.get h
    refine ⟨⟨vs, v, SqT.monoW e hs, h3⟩, fun x H' y => ?_⟩
    obtain ⟨rfl, y⟩ := y
    have := y vs (SqT.monoW e hs)
    rw [h3] at this
    cases this
    exact ⟨rfl, h4.monoW e⟩
def KIs (K : PySem.W.Frag) (L : Lay) (ρ : List Addr) (H : Hp) (R : It → Hp → Prop) : MI.Itr → Hq → Prop := fun itr hp' => ∀ ρ1 H1 J, Ext ρ H ρ1 H1 → RelH K L ρ1 hp' H1 → RItW K L ρ1 H1 J itr → R J H1
def tIs (K : PySem.W.Frag) (L : Lay) (g : Glob) (cl : Cl) (W : WX) (a : Ex) : TI := fun σ H R => ∃ ρ hp env, RelH K L ρ hp H ∧ RE K L ρ H env σ ∧ wE g cl a env hp (fun x hp => match itSq hp x with | some it => KIs K L ρ H R it hp | none => False) (KX K L ρ H σ W)
theorem i_sq {a : Ex} {x tg : Expr} (hm : ClMono cl) (ha : PE X x (tE X.K L g cl W a)) : PI X tg x (tIs X.K L g cl W a) := by
  refine ⟨fun pins s σ H R I ⟨ρ, hp, env, r, re, h⟩ => ?_⟩
  refine thn (ha.run pins s σ H (fun v1 H1 => ∃ ρ1 hp1 d1, Ext ρ H ρ1 H1 ∧ RelH X.K L ρ1 hp1 H1 ∧ RD X.K L ρ1 H1 d1 v1 ∧ ∃ itr, itSq hp1 d1 = some itr ∧ KIs X.K L ρ H R itr hp1) I
    ⟨ρ, hp, env, r, re, wE_mono hm a env hp _ _ _ _ (fun d1 hp1 q1 => ?_) (fun _ _ _ z => z) h⟩) fun v s1 ⟨x1, H1, I1, rx, q⟩ => ?_
  · intro ρ1 H1 v1 e1 r1 d1r
    cases eq : itSq hp1 d1 with
    | none => simp only [eq] at q1
    | some itr =>
      simp only [eq] at q1
      exact ⟨ρ1, hp1, d1, e1, r1, d1r, itr, eq, q1⟩
  · obtain ⟨ρ1, hp1, d1, e1, r1, d1r, itr, eq, q1⟩ := q
    cases d1r with
    | @tup p xs ds hs t =>
      cases eq
      obtain rfl : v = Value.ref p := rx
      obtain ⟨its, rv, ht, hz⟩ := I1.tuple hs
      exact wpAny_pyIter_tuple (show s1.heap.IsTuple p its.toArray from ht) (pi_one (tk := s1.toks) I1 _ (turn_tuple p _) ⟨_, Heap.get?_push_size _ rfl, rfl, rfl⟩ (q1 ρ1 H1 _ e1 r1 (ritw_fixT hs t)))
    | @kl p xs ds hs t =>
      cases eq
      obtain rfl : v = Value.ref p := rx
      obtain ⟨its, rv, ht, hz⟩ := I1.list hs.sq
      exact wpAny_pyIter_list ht.isList (pi_one (tk := s1.toks) I1 _ (turn_list p _) ⟨_, Heap.get?_push_size _ rfl, rfl, rfl⟩ (q1 ρ1 H1 _ e1 r1 (ritw_fixL hs t)))
    | @ref i p hs =>
      obtain rfl : v = Value.ref p := rx
      obtain ⟨o, u, g1, g2, g3⟩ := r1.at2 hs
      unfold itSq at eq
      simp only [g1] at eq
      cases g3 with
      | @lst _ vs t =>
        cases eq
        obtain ⟨its, rv, ht, hz⟩ := I1.list (SqL.of g2)
        exact wpAny_pyIter_list ht.isList (pi_one (tk := s1.toks) I1 _ (turn_list p _) ⟨_, Heap.get?_push_size _ rfl, rfl, rfl⟩ (q1 ρ1 H1 _ e1 r1 (ritw_list hs)))
      | _ => cases eq
    | _ => cases eq
theorem ExtW.trans {ρ ρ1 ρ2 : List Addr} {H H1 H2 : Hp} (a : ExtW ρ H ρ1 H1) (b : ExtW ρ1 H1 ρ2 H2) : ExtW ρ H ρ2 H2 := by
  obtain ⟨m1, e1⟩ := a.pre
  obtain ⟨m2, e2⟩ := b.pre
  exact ⟨⟨m1 ++ m2, by rw [e2, e1, List.append_assoc]⟩, fun x o h s => b.st x o (a.st x o h s) s⟩
theorem wipe_in {σ2 σ3 : L2.St} {own own1 : List Nat} (hi : ∀ i ∈ own1, i ∈ own) (h : L2.wipe σ3 own1 = L2.wipe σ2 own1) : L2.wipe σ3 own = L2.wipe σ2 own := by
  apply List.ext_getElem?
  intro k
  have hk := congrArg (fun l : L2.St => l[k]?) h
  simp only [wipe_get] at hk ⊢
  by_cases h1 : k ∈ own1
  · rw [if_pos (hi k h1), if_pos (hi k h1)]
    rw [if_pos h1, if_pos h1] at hk
    exact hk
  · rw [if_neg h1, if_neg h1] at hk
    rw [hk]
theorem lc2_imp (hm : ClMono cl) {own own1 : List Nat} {t t1 : Tg} {it : Ix} {a e : Ex} (ht : tgIn own t = true) (ht1 : tgIn own1 t1 = true) {σ : L2.St} {H : Hp} {Q : VK} (h : tE X.K L g cl W (.lc2 own own1 t it t1 a e) σ H Q) :
    tLc2 (tI X.K L g cl W X.H_0 it) (tG X.K L g cl t) tYes (tIs X.K L g cl (fun _ _ _ _ => False) a) (tG X.K L g cl t1) tYes (tE X.K L g cl (fun _ _ _ _ => False) e) own own1 σ H (fun v => unP X.H_0 (Q v)) := by
  obtain ⟨ρ, hp, env, r, re, h⟩ := h
  unfold wE at h
  refine ⟨ρ, hp, env, r, re, wIt_mono hm it env hp _ _ _ _ (fun itr hp1 q1 => ?_) (fun _ _ _ z => z) h⟩
  intro ρ1 Hu H1 J eu r1 ri ui Dd hD
  obtain ⟨N, q1⟩ := q1
  have e1 : Ext ρ H ρ1 H1 := eu.trans ui.ext
  have hDu : Hu Dd = none := by
    rcases ui with ⟨rfl, _⟩ | ⟨d, i, od, vs, kvs, hn, hd, ee, hi, rk, hu⟩
    · exact hD
    · subst ee
      have z : Dd ≠ d := fun z => by subst z; rw [upd_same] at hD; cases hD
      rw [upd_ne z] at hD
      exact hD
  obtain ⟨r1', e1'⟩ := r1.tmp (u := .lst []) hD
  let body1 : Env → D → Hq → (Option D → Hq → Prop) → Prop := fun env2 d hp k1 => wTg g cl t1 d (wipeE env2 own1) hp fun env3 hp => wE g cl e env3 hp (fun y hp => k1 (some y) hp) fun _ _ _ => False
  let body : D → List D → Hq → (List D → Hq → Prop) → Prop := fun d acc hp k => wTg g cl t d (wipeE env own) hp fun env2 hp =>
      wE g cl a env2 hp (fun x hp => match itSq hp x with
        | some it1 => ∃ M, lcLoop it1.nx (body1 env2) M 0 acc hp k
        | none => False) fun _ _ _ => False
  let fk : List D → Hq → Prop := fun ds hp => KQ X.K L ρ H Q (.ref (itr.un hp).length) (itr.un hp ++ [.lst ds])
  have q1 : acLoop itr.nx body N 0 [] hp1 fk := q1
  refine ⟨fun j m H' => ∃ ρ' hp' ds vs, Ext ρ1 H1 ρ' H' ∧ RelH X.K L ρ' hp' H' ∧ Dd ∉ ρ' ∧ H' Dd = some (.lst vs) ∧ RDs X.K L ρ' H' ds vs ∧ acLoop itr.nx body m j ds hp' fk,
    ⟨N, ρ1, hp1, [], [], (Ext.refl ρ1 H1).side0 hD, r1', r1.notin hD, upd_same, .nil, q1⟩, fun j m H2 hw => ?_⟩
  obtain ⟨ρ2, hp2, ds, vs, e2, r2, hn2, hd2, rd2, hw⟩ := hw
  cases m with
  | zero => exact False.elim hw
  | succ m =>
    unfold acLoop at hw
    cases en : itr.nx j hp2 with
    | none => rw [en] at hw; exact False.elim hw
    | some o =>
      rw [en] at hw
      cases o with
      | none =>
        refine .inl ⟨ri.stop j ρ2 H2 hp2 e2 r2 en, ui.fin e2 r2 fun H4 e4 w4 oth r4 => ?_⟩
        have hd4 : H4 Dd = some (.lst vs) := oth _ _ hd2 (fun _ _ z => by cases z)
        obtain ⟨r5, e5⟩ := r4.tell0 (o := .lst ds) (u := .lst vs) hn2 hd4 (.lst (rd2.monoW w4)) (eu.trans e4) (by
          cases hH : H Dd with
          | none => rfl
          | some z =>
            by_cases hm : Dd ∈ ρ
            · exact absurd (by obtain ⟨mo, hmo⟩ := (eu.trans e4).pre; rw [hmo]; exact List.mem_append_left _ hm) hn2
            · have := eu.out Dd z hH hm
              rw [hDu] at this; cases this)
        have hw : KQ X.K L ρ H Q (.ref (itr.un hp2).length) (itr.un hp2 ++ [.lst ds]) := hw
        refine hw _ H4 _ e5 r5 (.ref ?_)
        rw [← r4.len, List.getElem?_append_right (Nat.le_refl _)]
        simp
      | some d =>
        obtain ⟨hgo, hy⟩ := ri.go j ρ2 H2 hp2 d e2 r2 en
        refine .inr ⟨hgo, _, fun H' w => ⟨m, Nat.lt_succ_self m, w⟩, fun v H3 y3 => ?_⟩
        obtain ⟨e3, r3, rdv⟩ := hy v H3 y3
        have re3 : RE X.K L ρ2 H3 (wipeE env own) (L2.wipe σ own) := ((re.wipe own).mono e1).mono (e2.trans e3)
        have hd3 : H3 Dd = some (.lst vs) := e3.out _ _ hd2 hn2
        refine ⟨ρ2, hp2, _, d, r3, re3, rdv, wTg_mono hm t d _ hp2 _ _ (fun env4 hp4 q4 => ?_) hw⟩
        intro ρ4 H4 σ4 e4 r4 re4 w4
        refine ⟨by rw [w4 own ht, wipe_idem], ?_⟩
        dsimp only [tYes]
        rw [if_pos rfl]
        refine ⟨ρ4, hp4, env4, r4, re4, wE_mono hm a env4 hp4 _ _ _ _ (fun x5 hp5 q5 => ?_) (fun _ _ _ z => False.elim z) q4⟩
        cases ei : itSq hp5 x5 with
        | none => simp only [ei] at q5
        | some it1 =>
          simp only [ei] at q5 ⊢
          obtain ⟨M, q5⟩ := q5
          intro ρ5 H5 J1 e5 r5 ri1
          have e35 := e4.trans e5
          have hd5 : H5 Dd = some (.lst vs) := e35.out _ _ hd3 hn2
          have hn5 := e35.notin hn2 hd3
          have re5 : RE X.K L ρ5 H5 env4 σ4 := re4.mono e5
          refine ⟨fun j1 m1 H' => ∃ ρ' hp' ds vs, Ext ρ1 H1 ρ' H' ∧ ExtW ρ5 H5 ρ' H' ∧ RelH X.K L ρ' hp' H' ∧ Dd ∉ ρ' ∧ H' Dd = some (.lst vs) ∧ RDs X.K L ρ' H' ds vs ∧ lcLoop it1.nx (body1 env4) m1 j1 ds hp' (fun acc' hp' => acLoop itr.nx body m (j + 1) acc' hp' fk),
            ⟨M, ρ5, hp5, ds, vs, (e2.trans e3).trans e35, ⟨⟨[], by simp⟩, fun _ _ h _ => h⟩, r5, hn5, hd5, rd2.mono (e3.trans e35), q5⟩, fun j1 m1 H6 hw6 => ?_⟩
          obtain ⟨ρ6, hp6, ds6, vs6, e6, w6, r6, hn6, hd6, rd6, hw6⟩ := hw6
          cases m1 with
          | zero => exact False.elim hw6
          | succ m1 =>
            unfold lcLoop at hw6
            cases en1 : it1.nx j1 hp6 with
            | none => rw [en1] at hw6; exact False.elim hw6
            | some o1 =>
              rw [en1] at hw6
              cases o1 with
              | none => exact .inl ⟨ri1.stop j1 ρ6 H6 hp6 w6 r6 en1, ρ6, hp6, ds6, vs6, e6, r6, hn6, hd6, rd6, hw6⟩
              | some d1 =>
                obtain ⟨hgo1, hy1⟩ := ri1.go j1 ρ6 H6 hp6 d1 w6 r6 en1
                refine .inr ⟨hgo1, _, fun H' w => ⟨m1, Nat.lt_succ_self m1, w⟩, fun v7 H7 y7 => ?_⟩
                obtain ⟨rfl, rdv7⟩ := hy1 v7 H7 y7
                have re7 : RE X.K L ρ6 H7 (wipeE env4 own1) (L2.wipe σ4 own1) := (re5.wipe own1).monoW w6
                refine ⟨ρ6, hp6, _, d1, r6, re7, rdv7, wTg_mono hm t1 d1 _ hp6 _ _ (fun env8 hp8 q8 => ?_) hw6⟩
                intro ρ8 H8 σ8 e8 r8 re8 w8
                refine ⟨by rw [w8 own1 ht1, wipe_idem], ?_⟩
                dsimp only [tYes]
                rw [if_pos trivial]
                refine ⟨ρ8, hp8, env8, r8, re8, wE_mono hm e env8 hp8 _ _ _ _ (fun y hp9 q9 => ?_) (fun _ _ _ z => False.elim z) q8⟩
                intro ρ9 H9 v9 e9 r9 rd9
                obtain ⟨hl, q9⟩ := q9
                have e69 := e8.trans e9
                have hd9 : H9 Dd = some (.lst vs6) := e69.out _ _ hd6 hn6
                have hn9 := e69.notin hn6 hd6
                obtain ⟨rA, wA⟩ := r9.side0 (u := .lst (vs6 ++ [v9])) hn9 hd9 (fun z => by cases z)
                exact ⟨vs6, hd9, by rw [← sz_line, ← rd6.len]; exact hl, ρ9, hp9, ds6 ++ [y], vs6 ++ [v9], (e6.trans e69).side0 hD, ((w6.trans e69.w).trans wA), rA, hn9, upd_same, ((rd6.mono e69).app (.one rd9)).monoW wA, q9⟩
variable {x tg elt tg1 iter1 : Expr} {scope : Scope} {pos : Pos}
theorem s_lc2 (hm : ClMono cl) {own own1 : List Nat} {ow : List (Str × Nat)} {t t1 : Tg} {it : Ix} {a e : Ex} (how : ow.map (·.2) = own) (hin : ∀ i ∈ own1, i ∈ own) (ht : tgIn own t = true) (ht1 : tgIn own1 t1 = true) (hc : X.calm = true) (hN : X.N.Nodup) (hi : PI X tg x (tI X.K L g cl W X.H_0 it)) (ok : BlkOk X.N X.env.scope scope ow)
    (hg : ∀ (s : Shared) (H : Hp) (C : Addr) (ce : List (Str × Addr)) (fp : List Addr), PG (X.blk s H scope (compEnvC scope ce C X.env) fp) tg (tG X.K L g cl t))
    (hg1 : ∀ (s : Shared) (H : Hp) (C : Addr) (ce : List (Str × Addr)) (fp : List Addr), PG (X.blk s H scope (compEnvC scope ce C X.env) fp) tg1 (tG X.K L g cl t1))
    (ha : ∀ (s : Shared) (H : Hp) (C : Addr) (ce : List (Str × Addr)) (fp : List Addr), PE (X.blk s H scope (compEnvC scope ce C X.env) fp) iter1 (tE X.K L g cl (fun _ _ _ _ => False) a))
    (he : ∀ (s : Shared) (H : Hp) (C : Addr) (ce : List (Str × Addr)) (fp : List Addr), PE (X.blk s H scope (compEnvC scope ce C X.env) fp) elt (tE X.K L g cl (fun _ _ _ _ => False) e)) (hs : ∀ z, foldedSetIterable x X.env z = pure z) (hs1 : ∀ env z, foldedSetIterable iter1 env z = pure z) :
    PE X (.ListComp elt [⟨tg, x, [], 0⟩, ⟨tg1, iter1, [], 0⟩] scope pos) (tE X.K L g cl W (.lc2 own own1 t it t1 a e)) :=
  PE.imp (pe_un (pe_lc2 (own := ow) (vs1 := own1) hc hN hi ok (by rw [how]; exact hin) hg (fun _ _ _ _ _ => pts_nil) (fun s H C ce fp => i_sq hm (ha s H C ce fp)) hg1 (fun _ _ _ _ _ => pts_nil) he hs hs1)) fun σ H Q h => by
    rw [how]
    exact lc2_imp hm ht ht1 h
/-! ### len by an own __len__ -/
def rLenD (K : PySem.W.Frag) (L : Lay) (g : Glob) (n m : Nat) : List V → Hp → VK → Prop := fun vs H Q => ∃ ρ hp d v, vs = [v] ∧ RelH K L ρ hp H ∧ RD K L ρ H d v ∧ match d with
    | .ref i => match gtI hp i with
      | some (c, _) => match g.meth c m with
        | some f => wCall g n f [.ref i] hp (fun v hp => match v with
          | .int n => (0 ≤ n ∧ n < 2 ^ 62) ∧ KQ K L ρ H Q (.int n) hp
          | _ => False) fun _ _ _ => False
        | none => False
      | none => (oBF .len [d] hp).app (KQ K L ρ H Q)
    | _ => (oBF .len [d] hp).app (KQ K L ρ H Q)
theorem takes_false : Takes X (fun _ _ _ _ => False) := fun u s' ⟨_, _, _, _, _, _, _, _, _, _, _, _, _, _, _, _, w⟩ => w.elim
theorem mi_lenD {S : Nm} {n m : Nat} (T : TF S g X.prog X.w X.K X.mg X.base L n) (hr : Room (2 * n + 3) X.A) (hc : X.calm = true) (hg : X.A.guards = some []) (hg1 : X.A.in1.guards = some []) (hu : X.A.units + 200 < cLine) (hf : S.mths[m]? = some "__len__") : CallR X (.builtin "len") (rLenD X.K L g n m) := by
  intro pins s σ H vs us Q I rv h
  obtain ⟨ρ, hp, d, v, rfl, r, q, h⟩ := h
  have plain : (oBF .len [d] hp).app (KQ X.K L ρ H Q) → wpAny (model X.prog X.w) X.A (call (.builtin "len") us) (EP X pins σ Q) X.xe s := fun h =>
    mi_bf (L := L) hc hg hu .len pins s σ H _ us Q I rv ⟨ρ, hp, [d], r, .cons q .nil, h⟩
  cases d with
  | ref i =>
    simp only at h
    cases e : gtI hp i with
    | none => simp only [e] at h; exact plain h
    | some cf =>
      obtain ⟨c, fs⟩ := cf
      simp only [e] at h
      cases e2 : g.meth c m with
      | none => simp only [e2] at h
      | some f =>
        simp only [e2] at h
        cases q with
        | @ref _ pa hs =>
          obtain ⟨u, rfl, ru⟩ := vals1 rv
          obtain rfl : u = Value.ref pa := ru
          obtain ⟨C, dx, vs, g1, g2, g3⟩ := r.ins hs e
          obtain ⟨fa, f1, hmeth⟩ := T.mth c C m "__len__" f g1 hf e2
          obtain ⟨fd, ps, hb, _, F⟩ := T.call f fa f1
          obtain ⟨mA, J, _⟩ := ins_get I.hok g2
          obtain ⟨od, J, _⟩ := J.look
          obtain ⟨mm, hF⟩ := I.fr
          refine PySem.W.len_K hF I.ok.mod.kin J hmeth.at_ hmeth.fn ?_
          have hsp : spI X.K L g n f [.ref pa] H (fun v H' => ∃ k : Int, v = .int k ∧ (0 ≤ k ∧ k < 2 ^ 62) ∧ Q (.int k) H') (fun _ _ _ => False) := by
            refine ⟨ρ, hp, [.ref i], r, .cons (.ref hs) .nil, wCall_mono g n f _ hp _ _ _ _ (fun d hp' z => ?_) (fun _ _ _ z => False.elim z) h⟩
            intro ρ' H' v' e' r' rd'
            cases rd' with
            | int k =>
              obtain ⟨z1, z2⟩ := z
              exact ⟨k, rfl, z1, z2 ρ' H' _ e' r' (.int k)⟩
            | _ => exact False.elim z
          have e0 : Env0 X.prog X.w X.K X.mg X.base X.A.in1 X.stack s H := by
            have e := I.env0
            exact ⟨e.frames, e.mod, e.bs, e.bsz, e.funs, e.frf, e.hok, e.bare⟩
          have hl := F.len _ _ _ _ hsp
          have r2 : Vals [V.ref pa] [Value.ref pa] := .cons rfl .nil
          have hb2 : BindsTo s fd ⟨[Value.ref pa], []⟩ (ps.zip [Value.ref pa]) := by
            have := hb s [Value.ref pa] I.kIn (by simpa using hl)
            simpa using this
          refine wpAny_call (codeAny_mono (F.run X.A.in1 X.stack s H ⟨[.ref pa], []⟩ [.ref pa] [.ref pa] _ _ hr.in1 hg1 e0 hb2 r2 hsp) fun rr s' hq => ?_)
          cases rr with
          | error e => exact takes_false e s' (XE.of_call I (fun cls d H' h => h) hq)
          | ok fl =>
            cases fl with
            | ret u =>
              obtain ⟨v', H', I', rv', k, rfl, ⟨k1, k2⟩, qq⟩ := I.after hq
              obtain ⟨t, rfl⟩ := rv'
              exact ⟨⟨k1, by omega⟩, .int k, H', I'.tok _, ⟨_, rfl⟩, qq⟩
            | next => exact False.elim hq
            | brk => exact False.elim hq
            | cont => exact False.elim hq
  | _ => exact plain h
theorem s_lenD {S : Nm} {n m : Nat} {a : Ex} {x : Expr} {p pos : Pos} (T : TF S g X.prog X.w X.K X.mg X.base L n) (hr : Room (2 * n + 3) X.A) (hc : X.calm = true) (hg : X.A.guards = some []) (hg1 : X.A.in1.guards = some []) (hu : X.A.units + 200 < cLine) (hf : S.mths[m]? = some "__len__") (hgl : Gl X "len") (hmg : X.mg "len" = none)
    (ha : PE X x (tE X.K L g (wCall g n) W a)) (hst : isSub x = false) : PE X (.Call (.Name "len" p) [x] [] pos) (tE X.K L g (wCall g n) W (.lenD a m)) := by
  have he : starEach [x] X.env = (false, eval x X.env) :: starEach [] X.env := by cases x <;> first | rfl | cases hst
  have hm := wCall_mono g n
  have imp : ∀ σ H Q, tE X.K L g (wCall g n) W (.lenD a m) σ H Q → tCB (rLenD X.K L g n m) (tEs X.K L g (wCall g n) W (.cons a .nil)) σ H Q := fun σ H Q ⟨ρ, hp, env, r, re, h⟩ => by
    unfold wE at h
    refine ⟨ρ, hp, env, r, re, ?_⟩
    show wE g (wCall g n) a env hp _ _
    refine wE_mono hm a env hp _ _ _ _ (fun d1 hp1 q1 => ?_) (fun _ _ _ z => z) h
    intro ρ1 H1 vs e1 r1 dsr
    cases dsr with
    | @cons _ v1 _ _ d1r t =>
      cases t
      refine ⟨ρ1, hp1, d1, v1, rfl, r1, d1r, ?_⟩
      have pl : (oBF .len [d1] hp1).app (KQ X.K L ρ H Q) → (oBF .len [d1] hp1).app (KQ X.K L ρ1 H1 Q) := OutD.mono fun _ _ k => k.ext e1
      cases d1 with
      | ref i =>
        simp only at q1 ⊢
        cases e : gtI hp1 i with
        | none => simp only [e] at q1; exact pl q1
        | some cf =>
          obtain ⟨c, fs⟩ := cf
          simp only [e] at q1
          cases e2 : g.meth c m with
          | none => simp only [e2] at q1
          | some f =>
            simp only [e2] at q1 ⊢
            refine hm _ _ _ _ _ _ _ (fun v h2 q2 => ?_) (fun _ _ _ z => z) q1
            split at q2
            · exact ⟨q2.1, q2.2.ext e1⟩
            · exact False.elim q2
      | _ => exact pl q1
  exact PE.imp (pe_callB (mi_lenD T hr hc hg hg1 hu hf) hgl hmg PySem.boot_len (sa_cons hm ha sa_nil he) (by decide) (by decide) he rfl) imp
end
end MI
set_option maxHeartbeats 1000000
/-! MI, part 16: what the check says of a tree. -/
namespace MI
open PySem PySem.Spec PyProof.Rows L2

/-! ### forms -/
theorem chk_sub {c : Ck} {e : Ex} {x : Expr} (h : chkE c e x = true) : isSub x = false := by
  cases x <;> first | rfl | skip
  all_goals
    cases e <;> first
      | cases h
      | (unfold chkE at h
         split at h <;> first | rfl | contradiction | (cases h; done))
theorem chk_tst {c : Ck} {e : Ex} {x : Expr} (h : chkE c e x = true) (k : tstK e = false) : tstX x = false := by
  cases e <;> first | cases k | skip
  all_goals
    first
      | cases h
      | (unfold chkE at h
         split at h <;> first | rfl | cases h)
theorem isTrue_of {x : Expr} {env : PySem.Env} (h : tstX x = false) : ∀ whole, isTrue x env whole = (do let v ← whole; standAt x.pos; holding [v] (truthy v)) := by
  intro whole
  cases x <;> first | rfl | cases h | skip
  rename_i op y p
  cases op <;> first | rfl | cases h
theorem star_of {x : Expr} {xs : List Expr} {env : PySem.Env} (h : isSub x = false) : starEach (x :: xs) env = (false, eval x env) :: starEach xs env := by
  cases x <;> first | rfl | cases h
theorem marks_of {op : CmpOp} {x : Expr} (h : isSub x = false) : behindInMarks op x = false := by
  cases x <;> first | rfl | cases h
theorem plain_of {x : Expr} (h : isSub x = false) : PlainIx x := by
  intro o i
  cases x <;> first | rfl | cases h
theorem fold_of {x : Expr} {env : PySem.Env} (h : isSub x = false) : ∀ z, foldedSetIterable x env z = pure z := by
  intro z
  cases x <;> first | rfl | cases h
theorem swap_of {x : Expr} {tg : Option Expr} {l : Nat} {env : PySem.Env} (h : noComp x = true) : swapsWith x tg l env = pure false := by
  cases x <;> first | rfl | cases h
theorem chks_sub {c : Ck} : ∀ {es : Exs} {xs : List Expr}, chkEs c es xs = true → ∀ x ∈ xs, isSub x = false
  | .nil, [], _, x, hx => by cases hx
  | .nil, _ :: _, h, _, _ => by cases h
  | .cons e r, [], h, _, _ => by cases h
  | .cons e r, y :: ys, h, x, hx => by
    have h : (chkE c e y && chkEs c r ys) = true := h
    rw [Bool.and_eq_true] at h
    rcases List.mem_cons.mp hx with q | q
    · subst q; exact chk_sub h.1
    · exact chks_sub h.2 x q
theorem chks_len {c : Ck} : ∀ {es : Exs} {xs : List Expr}, chkEs c es xs = true → es.len = xs.length
  | .nil, [], _ => rfl
  | .nil, _ :: _, h => by cases h
  | .cons e r, [], h => by cases h
  | .cons e r, y :: ys, h => by
    have h : (chkE c e y && chkEs c r ys) = true := h
    rw [Bool.and_eq_true] at h
    show r.len + 1 = ys.length + 1
    rw [chks_len h.2]
theorem any_of {pos : Pos} {env : PySem.Env} : ∀ {xs : List Expr}, (∀ x ∈ xs, isSub x = false) → (backTo pos (starEach xs env)).any (·.1) = false
  | [], _ => rfl
  | x :: xs, h => by
    rw [star_of (h x List.mem_cons_self)]
    show (false || (backTo pos (starEach xs env)).any (·.1)) = false
    rw [any_of fun y hy => h y (List.mem_cons_of_mem _ hy)]
    rfl
theorem all_of {pos : Pos} {env : PySem.Env} : ∀ {xs : List Expr}, (∀ x ∈ xs, isSub x = false) → (backTo pos (starEach xs env)).all (fun x => !x.1) = true
  | [], _ => rfl
  | x :: xs, h => by
    rw [star_of (h x List.mem_cons_self)]
    show (true && (backTo pos (starEach xs env)).all (fun x => !x.1)) = true
    rw [all_of fun y hy => h y (List.mem_cons_of_mem _ hy)]
    rfl
theorem few_of {pos : Pos} {env : PySem.Env} {xs : List Expr} (h : ∀ x ∈ xs, isSub x = false) (hl : xs.length ≤ 20) : ((backTo pos (starEach xs env)).all (fun x => !x.1) && (backToKw pos (keywordEach [] env)).all (fun x => x.1.isSome)
      && decide (xs.length + ([] : List Keyword).length + (if ([] : List Keyword).isEmpty then 0 else 1) < 30)) = true := by
  rw [all_of h]
  show (true && true && decide (xs.length + 0 + (if true = true then 0 else 1) < 30)) = true
  rw [if_pos rfl]
  simp
  omega
theorem form_of {pos : Pos} {env : PySem.Env} {xs : List Expr} (h : ∀ x ∈ xs, isSub x = false) (hl : xs.length ≤ 20) : methodCallForm (xs.length + ([] : List Keyword).length) (backTo pos (starEach xs env)) (backToKw pos (keywordEach [] env)) = true := few_of h hl
theorem shape_of {X : Cx} {pos : Pos} {xs : List Expr} (h : ∀ x ∈ xs, isSub x = false) : Shape X pos xs := by
  cases xs with
  | nil => exact .inl rfl
  | cons y ys => exact .inr ⟨y, ys, rfl, star_of (h y List.mem_cons_self), any_of fun x hx => h x (List.mem_cons_of_mem _ hx)⟩
theorem dis_form {c : Ck} : ∀ {es : Exs} {ks : List (Option Expr)} {vs : List Expr}, chkDi c es ks vs = true → evenX es = true ∧ ks.length = vs.length ∧ ks.all (·.isSome) = true ∧ es.len = 2 * ks.length
  | .nil, ks, vs, h => by
    unfold chkDi at h
    split at h
    · exact ⟨rfl, rfl, rfl, rfl⟩
    · cases h
  | .cons e .nil, ks, vs, h => by cases h
  | .cons e (.cons e' r), ks, vs, h => by
    unfold chkDi at h
    simp only at h
    split at h
    · simp only [Bool.and_eq_true] at h
      obtain ⟨f1, f2, f3, f4⟩ := dis_form h.2
      refine ⟨f1, by simp [f2], by simpa using f3, ?_⟩
      show r.len + 1 + 1 = 2 * (_ + 1)
      rw [f4]
      omega
    · cases h
theorem chkk_sub {c : Ck} : ∀ {es : Exs} {xs : List Expr} {ks : List Keyword}, chkEk c es xs ks = true → (∀ x ∈ xs, isSub x = false) ∧ es.len = xs.length + ks.length
  | .nil, xs, ks, h => by
    unfold chkEk at h
    split at h
    · exact ⟨fun x hx => (nomatch hx), rfl⟩
    · cases h
  | .cons e r, [], [], h => by cases h
  | .cons e r, [], k :: ks, h => by
    have h : (chkE c e k.value && chkEk c r [] ks) = true := h
    rw [Bool.and_eq_true] at h
    obtain ⟨_, h2⟩ := chkk_sub h.2
    refine ⟨fun x hx => (nomatch hx), ?_⟩
    show r.len + 1 = _
    rw [h2, List.length_cons]
    simp
  | .cons e r, y :: ys, ks, h => by
    have h : (chkE c e y && chkEk c r ys ks) = true := h
    rw [Bool.and_eq_true] at h
    obtain ⟨h1, h2⟩ := chkk_sub h.2
    refine ⟨fun x hx => ?_, ?_⟩
    · rcases List.mem_cons.mp hx with q | q
      · subst q; exact chk_sub h.1
      · exact h1 x q
    · show r.len + 1 = _
      rw [h2, List.length_cons]
      omega
theorem kws_form {pos : Pos} {env : PySem.Env} : ∀ {ks : List Keyword}, ks.all (fun z => z.arg.isSome) = true → (backToKw pos (keywordEach ks env)).all (·.1.isSome) = true ∧ (backToKw pos (keywordEach ks env)).any (·.1.isNone) = false ∧ (backToKw pos (keywordEach ks env)).filterMap (·.1) = kwNames ks ∧ (kwNames ks).length = ks.length
  | [], _ => ⟨rfl, rfl, rfl, rfl⟩
  | k :: ks, h => by
    rw [List.all_cons, Bool.and_eq_true] at h
    obtain ⟨h1, h2, h3, h4⟩ := kws_form (pos := pos) (env := env) h.2
    obtain ⟨kn, kv, kp⟩ := k
    cases kn with
    | none => cases h.1
    | some nm =>
      refine ⟨?_, ?_, ?_, ?_⟩
      · show (true && (backToKw pos (keywordEach ks env)).all (·.1.isSome)) = true
        rw [h1]; rfl
      · show (false || (backToKw pos (keywordEach ks env)).any (·.1.isNone)) = false
        rw [h2]; rfl
      · show nm :: (backToKw pos (keywordEach ks env)).filterMap (·.1) = nm :: kwNames ks
        rw [h3]
      · show (kwNames ks).length + 1 = ks.length + 1
        rw [h4]
theorem kform_of {pos : Pos} {env : PySem.Env} {xs : List Expr} {k : Keyword} {ks : List Keyword} (h : ∀ x ∈ xs, isSub x = false) (h2 : (backToKw pos (keywordEach (k :: ks) env)).all (·.1.isSome) = true) (hl : xs.length + (k :: ks).length ≤ 20) :
    methodCallForm (xs.length + (k :: ks).length) (backTo pos (starEach xs env)) (backToKw pos (keywordEach (k :: ks) env)) = true := by
  have e : ∀ a b, methodCallForm (xs.length + (k :: ks).length) a b = (a.all (fun x => !x.1) && b.all (fun x => x.1.isSome) && decide (xs.length + (k :: ks).length + (if b.isEmpty then 0 else 1) < 30)) := fun a b => rfl
  rw [e, all_of h, h2]
  have q : (if (backToKw pos (keywordEach (k :: ks) env)).isEmpty = true then 0 else 1) ≤ 1 := by split <;> decide
  generalize (if (backToKw pos (keywordEach (k :: ks) env)).isEmpty = true then 0 else 1) = z at q ⊢
  rw [decide_eq_true (show xs.length + (k :: ks).length + z < 30 by omega)]
  rfl
/-! ### targets' forms -/
theorem tgs_form {c : Ck} {env : PySem.Env} : ∀ {ts : Tgs} {xs : List Expr}, chkTgs c ts xs = true → (assignEach xs env).length = ts.len ∧ (assignEach xs env).findIdx? (·.1) = none
  | .nil, [], _ => ⟨rfl, rfl⟩
  | .nil, _ :: _, h => by cases h
  | .cons t r, [], h => by cases h
  | .cons t r, y :: ys, h => by
    have h : (chkTg c t y && chkTgs c r ys) = true := h
    rw [Bool.and_eq_true] at h
    have e : assignEach (y :: ys) env = (false, assign y env) :: assignEach ys env := by
      have h1 := h.1
      cases y <;> first
        | rfl
        | (cases t <;> cases h1)
    obtain ⟨a, b⟩ := tgs_form (env := env) h.2
    rw [e]
    refine ⟨?_, ?_⟩
    · show (assignEach ys env).length + 1 = r.len + 1
      rw [a]
    · rw [List.findIdx?_cons, b]
      rfl
theorem tg_ae {c : Ck} {t : Tg} {y : Expr} {ys : List Expr} {env : PySem.Env} (h : chkTg c t y = true) : (assignEach (y :: ys) env).map (·.2) = assign y env :: (assignEach ys env).map (·.2) := by
  cases y <;> first
    | rfl
    | (cases t <;> cases h)
/-! ### chains as tests -/
theorem cmp_isb {o : COp} {d1 d2 : D} {hp : Hq} {Q' : QD} (h : (oCmp o d1 d2 hp).app Q') : (oCmp o d1 d2 hp).app fun d h => (∃ t, d = .bl t) ∧ Q' d h := by
  have vb : ∀ {ob : OutB} {neg : Bool} {d : D} {h' : Hq}, ob.val neg hp = .ok d h' → ∃ t, d = .bl t := by
    intro ob neg d h' e
    cases ob <;> cases e
    exact ⟨_, rfl⟩
  have vc : ∀ {ob : OutB} {neg : Bool} {d : D} {h' : Hq} {C : Prop}, ob.val neg hp = .cd C d h' → ∃ t, d = .bl t := by
    intro ob neg d h' C e
    cases ob <;> cases e
    exact ⟨_, rfl⟩
  cases e : oCmp o d1 d2 hp with
  | no => rw [e] at h; exact h
  | ok d h' =>
    rw [e] at h
    refine ⟨?_, h⟩
    cases o <;> first
      | exact vb e
      | (cases d1 <;> cases d2 <;> first | (cases e; exact ⟨_, rfl⟩) | cases e)
  | cd C d h' =>
    rw [e] at h
    refine ⟨h.1, ?_, h.2⟩
    cases o <;> first
      | exact vc e
      | (cases d1 <;> cases d2 <;> cases e)
section
variable {X : Cx} {L : Lay} {g : Glob} {cl : Cl} {W : WX} {x y z : Expr} {a b c : Ex} {pos : Pos}
theorem t_cmp2 (hm : ClMono cl) (hu : X.A.units + 65 < cLine ∧ L.pr = X.w.params) {o p : COp} (ha : PE X x (tE X.K L g cl W a)) (hb : PE X y (tE X.K L g cl W b)) (hc : PE X z (tE X.K L g cl W c)) (hmk : lastMarks [copOf o, copOf p] [y, z] = false) :
    PT X (.Compare x [copOf o, copOf p] [y, z] pos) (tT X.K L g cl W (.cmp2 o p a b c)) :=
  PT.imp (pt_chain (mi_cmp (L := L) hu o) (mi_cmp (L := L) hu p) ha hb hc hmk) fun σ H Q ⟨ρ, hp, env, r, re, h⟩ => by
    unfold wE at h
    refine seq2 (b := b) hm (R := fun v1 v2 H2 => rMI X.K L (oCmp o) v1 v2 H2 fun z H3 => ∃ k, z = .bl k ∧ if k = true then tE X.K L g cl W c σ H3 fun w' H4 => rMI X.K L (oCmp p) v2 w' H4 fun x H' => ∃ k, x = .bl k ∧ Q k H' else (∃ k, V.bl false = .bl k ∧ Q k H3)) r re h fun ρ2 hp2 H2 d1 d2 v1 v2 e r2 q1 q2 q => ⟨ρ2, hp2, d1, d2, r2, q1, q2, OutD.mono (fun d3 hp3 k => ?_) q⟩
    intro ρ3 H3 v3 e3 r3 d3r
    cases d3r with
    | bl t =>
      refine ⟨t, rfl, ?_⟩
      cases t with
      | true =>
        rw [if_pos rfl]
        refine ⟨ρ3, hp3, env, r3, (re.mono e).mono e3, wE_mono hm c env hp3 _ _ _ _ (fun d4 hp4 q4 => ?_) (fun _ _ _ z => z.ext (e.trans e3)) k⟩
        intro ρ4 H4 v4 e4 r4 d4r
        refine ⟨ρ4, hp4, d2, d4, r4, (q2.mono e3).mono e4, d4r, OutD.mono (fun d5 hp5 k5 => ?_) (cmp_isb q4)⟩
        obtain ⟨⟨t, rfl⟩, k5⟩ := k5
        intro ρ5 H5 v5 e5 r5 d5r
        cases d5r
        exact ⟨t, rfl, k5 _ _ (((e.trans e3).trans e4).trans e5) r5⟩
      | false =>
        rw [if_neg Bool.false_ne_true]
        exact ⟨false, rfl, k _ _ (e.trans e3) r3⟩
    | _ => exact False.elim k
theorem e_bool1 {op : BoolOp} {t : TE} (h : PE X x t) : PE X (.BoolOp op [x] pos) t := ⟨fun pins s σ H Q I q => by
  have e : eval (.BoolOp op [x] pos) X.env = eval x X.env := by cases op <;> rfl
  rw [e]
  exact h.run pins s σ H Q I q⟩
end
end MI
set_option maxHeartbeats 3200000
/-! MI: set(xs), by what holds of the set behind each item. -/
namespace MI
open PySem PySem.Spec L2
abbrev Led (w : World) : Bool := !w.params.followText "set-order"
abbrev SetO0 (w : World) : Obj := { cls := .type "set", dict := none, data := .set #[] 0 (.fresh 0 0 (Led w)) }
/-- the invariant of a set at S, item by item -/
structure SetIv (prog : Program) (w : World) (S n : Nat) (P : Nat → Value → Prop) (Iv : Nat → Heap → Prop) : Prop where
  stay : ∀ i h h', Iv i h → (∀ o, h.get? S = some o → h'.get? S = some o) → Iv i h'
  add : ∀ (A : Around) i v (s : Shared) (Q : Bool → Shared → Prop) (E : Value → Shared → Prop), i < n → P i v → Iv i s.heap → (∀ b h' tk, s.toks ≤ tk → Heap.SameBut S s.heap h' → Iv (i + 1) h' → Q b { s with heap := h', toks := tk }) →
    wpAny (model prog w) A (setAdd S v) Q E s
section
variable {prog : Program} {w : World} {A : Around} {R : Result → Shared → Prop} {I : Addr} {fp wr : List Addr} {G : Array GenState → Array GenState → Prop} {n : Nat} {P : Nat → Value → Prop} {St : Nat → Shared → Prop} {Iv : Nat → Heap → Prop}
theorem set_loop (W : WalksS prog w A.in1 I fp wr G n P St) (S : Addr) (hSf : S ∉ fp) (V : SetIv prog w S n P Iv) : ∀ (k i : Nat) (s : Shared), n - i = k → i ≤ n → St i s → Iv i s.heap →
      (∀ s', Moved (S :: wr) G s s' → Iv n s'.heap → R (.ok (.ret .none)) s') → codeAny (model prog w) A (.builtin "set.update.loop" ⟨[.ref S, .ref I], []⟩) R s := by
  have nw : S ∉ wr := fun h => hSf (W.sub _ h)
  have more : ∀ b ∈ wr, b ∈ S :: wr := fun b hb => List.mem_cons_of_mem _ hb
  intro k
  induction k with
  | zero =>
    intro i s hk hi hst hS hR
    have hin : i = n := by omega
    subst hin
    refine codeAny_builtin PyProof.Rows.F.entry_set_update_loop ?_
    rw [Around.under_plainId PyProof.Rows.F.plain_set_update_loop _]
    show wpAny _ A.in1 (pyNext (.ref I) >>= _) _ _ s
    refine wpAny_bind (W.done s _ _ hst fun s' hm => ?_)
    show wpAny _ A.in1 (ret Value.none) _ _ s'
    exact wpAny_pure (hR s' (hm.mono more) (V.stay _ _ _ hS fun o e => hm.heap S _ nw e))
  | succ k ih =>
    intro i s hk hi hst hS hR
    have hlt : i < n := by omega
    refine codeAny_builtin PyProof.Rows.F.entry_set_update_loop ?_
    rw [Around.under_plainId PyProof.Rows.F.plain_set_update_loop _]
    show wpAny _ A.in1 (pyNext (.ref I) >>= _) _ _ s
    refine wpAny_bind (W.item i s _ _ hlt hst fun v s' hP hst' hm => ?_)
    show wpAny _ A.in1 (holding [v] (setAdd S v) >>= _) _ _ s'
    refine wpAny_bind (wpAny_holding (V.add _ i v s' _ _ hlt hP (V.stay _ _ _ hS fun o e => hm.heap S _ nw e) fun b h' tk ht sb hI => ?_))
    refine wpAny_pure ⟨plainId_quiet PyProof.Rows.F.plain_set_update_loop _, ih (i + 1) _ (by omega) hlt (W.frame _ s' _ _ hst' ht fun c hc o e => ?_) hI fun s'' hm'' hI'' => ?_⟩
    · rw [sb.2 c (fun h : c = S => hSf (by rw [← h]; exact hc))]
      exact e
    · refine hR s'' (Moved.trans W.gtrans ((hm.mono more).then_heap ht fun c o hc e => ?_) hm'') hI''
      rw [sb.2 c (fun h : c = S => hc (by rw [h]; exact List.mem_cons_self))]
      exact e
end
section
variable {prog : Program} {w : World} {A : Around} {E : Value → Shared → Prop} {s : Shared} {n : Nat} {P : Nat → Value → Prop} {Iv : Nat → Heap → Prop}
theorem new_set1 (a : Value) {Q₁ : Value → Shared → Prop} (h : Q₁ (.ref s.heap.objs.size) { s with heap := s.heap.push (SetO0 w) }) : codeAny (model prog w) A (.call (.builtin "set.__new__") ⟨[.type "set", a], []⟩) (wants Q₁ E) s := by
  refine codeAny_of_tree ?_
  show wpAny _ A.in1 (do checkBuiltinCall "set.__new__" ⟨[.type "set", a], []⟩; again (.builtin "set.__new__" ⟨[.type "set", a], []⟩)) _ _ s
  have chk := PySem.F.newCall_set_1 a
  refine wpAny_bind (wpAny_of_eq chk (wpAny_pure ⟨plainId_quiet F.plain_set_new _, codeAny_builtin F.entry_set_new ?_⟩))
  rw [Around.under_plainId F.plain_set_new _]
  unfold Builtin.«set.__new__» Builtin.Frozenset.newClass
  have hsub := sub_set_self
  obtain ⟨z, g, d, tk, os⟩ := s
  dsimp only
  wp_walk
  refine wpAny_askSetting (wpAny_pure ?_)
  dsimp only
  simp only [newObj]
  refine wpAny_bind (wpAny_alloc (wpAny_pure ?_))
  exact wpAny_pure h
theorem set_of_tuple {l : Addr} {items : Array Value} {Q : Value → Shared → Prop} (hh : A.handled = none) (hl : s.heap.IsTuple l items) (hn : items.size = n) (hP : ∀ i v, items[i]? = some v → P i v)
    (V : SetIv prog w s.heap.objs.size n P Iv) (h0 : ∀ h, h.get? s.heap.objs.size = some (SetO0 w) → Iv 0 h)
    (h : ∀ (h' : Heap) (tk : Nat), Iv n h' → (∀ b o, b < s.heap.objs.size → s.heap.get? b = some o → h'.get? b = some o) → Q (.ref s.heap.objs.size) { s with heap := h', toks := tk }) :
    wpAny (model prog w) A (call (.type "set") [.ref l]) Q E s := by
  obtain ⟨c, tl, hmro⟩ := PySem.F.called_set.mro
  have hmade := PySem.F.called_set.made
  have hsub := PySem.F.called_set.sub
  refine wpAny_call (codeAny_of_tree ?_)
  show wpAny _ _ (callAny (.type "set") _) _ _ _
  refine wpAny_pure ⟨Code.quiet_builtin _ (by decide +kernel), codeAny_builtin PySem.F.entry_type_call ?_⟩
  rw [Around.under_plain (weight_type_call_type "set" [.ref l] []) rfl]
  have w1 := PySem.F.called_set.notType
  have w2 := PySem.F.called_set.canCreate
  have w3 := PySem.F.typeCall_set_1 (.ref l)
  repeat (any_goals (first | assumption | wp_step))
  have mk : codeAny (model prog w) A.in1 (.call (.builtin "set.__new__") ⟨[.type "set", .ref l], []⟩) (wants (fun obj s₁ => obj = .ref s.heap.objs.size ∧ s₁ = { s with heap := s.heap.push (SetO0 w) }) E) s := new_set1 (.ref l) ⟨rfl, rfl⟩
  refine codeAny_mono mk fun r s₁ hr => ?_
  cases r with
  | error e => exact hr
  | ok fl =>
    cases fl with
    | ret obj =>
      obtain ⟨rfl, rfl⟩ := hr
      have hS : (s.heap.push (SetO0 w)).get? s.heap.objs.size = some (SetO0 w) := Heap.get?_push_size _ rfl
      have isS : Shared.TypeIs { s with heap := s.heap.push (SetO0 w) } (.ref s.heap.objs.size) "set" := ⟨_, hS, rfl⟩
      have v1 := PySem.F.called_set.init.lookup
      have v2 := PySem.F.called_set.init.bind (.ref s.heap.objs.size)
      repeat (any_goals (first | assumption | wp_step))
      refine codeAny_mono (codeAny_call_builtin (R := wants (fun r s₂ => r = .none ∧ ∃ h' tk, s₂ = { s with heap := h', toks := tk } ∧ Iv n h' ∧ (∀ b o, b < s.heap.objs.size → s.heap.get? b = some o → h'.get? b = some o)) E)
        PySem.F.called_set.init.plain PySem.F.entry_set_init (check_set_init_1 isS ?_)) fun r₂ s₂ hr₂ => ?_
      · obtain ⟨ol, hol, hcl, nl, hdl⟩ := hl
        obtain ⟨ocls, odict, odata, oslots⟩ := ol
        simp only at hcl hdl
        subst hcl; subst hdl
        have hol2 : (s.heap.push (SetO0 w)).get? l = some { cls := .type "tuple", dict := odict, data := .seq items nl, slots := oslots } := Heap.get?_push_of_some _ hol
        have s1 := PySem.F.sub_tuple_set
        have s2 := PySem.F.sub_tuple_frozenset
        have s3 : (Value.type "tuple" == Value.type "dict") = false := by decide
        have hl1 : (s.heap.push (SetO0 w)).IsTuple l items := ⟨_, hol2, rfl, nl, rfl⟩
        unfold Builtin.«set.__init__» noKeywords Builtin.Frozenset.updateFrom
        generalize hIt : pyIter = It
        wp_walk
        subst hIt
        refine wpAny_pyIter_tuple hl1 ?_
        refine wpAny_bind (wpAny_runValue ?_)
        have ll : l < s.heap.objs.size := Heap.lt_size hol
        have hh3 : A.in1.in1.in1.handled = none := by simp [hh]
        have neI : l ≠ (s.heap.push (SetO0 w)).objs.size := by
          rw [Heap.size_push]
          exact Nat.ne_of_lt (Nat.lt_succ_of_lt ll)
        have nf : s.heap.objs.size ∉ [(s.heap.push (SetO0 w)).objs.size, l] := by
          rw [Heap.size_push]
          simp only [List.mem_cons, List.mem_singleton, List.not_mem_nil, or_false, not_or]
          exact ⟨Nat.ne_of_lt (Nat.lt_succ_self _), Nat.ne_of_gt ll⟩
        subst hn
        have V2 : SetIv prog w s.heap.objs.size items.size (fun i v => items[i]? = some v) Iv := ⟨V.stay, fun A i v s' Q E hi hp => V.add A i v s' Q E hi (hP i v hp)⟩
        refine set_loop ((Walks.tuple hh3 _ l neI items).toS) s.heap.objs.size nf V2 (items.size - 0) 0 _ (by omega) (Nat.zero_le _) ⟨⟨_, Heap.get?_push_size _ rfl, rfl, rfl⟩, (hl1.push _)⟩ (h0 _ (Heap.get?_push_of_some _ hS)) fun s' hm hI => ?_
        obtain ⟨h', g', d', tk', os'⟩ := s'
        have eg : g' = s.gens := hm.gens
        have ed : d' = s.drawn := hm.drawn
        have eo : os' = s.os := hm.os
        subst eg; subst ed; subst eo
        show wpAny _ _ _ _ _ _
        refine wpAny_pure ?_
        show wpAny _ _ (ret Value.none) _ _ _
        refine wpAny_pure ⟨rfl, h', tk', rfl, hI, fun b o hb e => ?_⟩
        have b1 : b ≠ s.heap.objs.size := Nat.ne_of_lt hb
        have b2 : b ≠ (s.heap.push (SetO0 w)).objs.size := by
          rw [Heap.size_push]
          exact Nat.ne_of_lt (Nat.lt_succ_of_lt hb)
        refine hm.heap b o ?_ (Heap.get?_push_of_some _ (Heap.get?_push_of_some _ e))
        simp only [List.mem_cons, List.mem_singleton, List.not_mem_nil, or_false, not_or]
        exact ⟨b1, b2⟩
      · cases r₂ with
        | error e => exact hr₂
        | ok fl₂ =>
          cases fl₂ with
          | ret r =>
            obtain ⟨rfl, h', tk, rfl, hI, hk⟩ := hr₂
            repeat (any_goals (first | assumption | wp_step))
            exact h _ _ hI hk
          | _ => exact hr₂.elim
    | _ => exact hr.elim
theorem set_of_list {l : Addr} {items : Array Value} {Q : Value → Shared → Prop} (hh : A.handled = none) (hl : s.heap.IsList l items) (hn : items.size = n) (hP : ∀ i v, items[i]? = some v → P i v)
    (V : SetIv prog w s.heap.objs.size n P Iv) (h0 : ∀ h, h.get? s.heap.objs.size = some (SetO0 w) → Iv 0 h)
    (h : ∀ (h' : Heap) (tk : Nat), Iv n h' → (∀ b o, b < s.heap.objs.size → s.heap.get? b = some o → h'.get? b = some o) → Q (.ref s.heap.objs.size) { s with heap := h', toks := tk }) :
    wpAny (model prog w) A (call (.type "set") [.ref l]) Q E s := by
  obtain ⟨c, tl, hmro⟩ := PySem.F.called_set.mro
  have hmade := PySem.F.called_set.made
  have hsub := PySem.F.called_set.sub
  refine wpAny_call (codeAny_of_tree ?_)
  show wpAny _ _ (callAny (.type "set") _) _ _ _
  refine wpAny_pure ⟨Code.quiet_builtin _ (by decide +kernel), codeAny_builtin PySem.F.entry_type_call ?_⟩
  rw [Around.under_plain (weight_type_call_type "set" [.ref l] []) rfl]
  have w1 := PySem.F.called_set.notType
  have w2 := PySem.F.called_set.canCreate
  have w3 := PySem.F.typeCall_set_1 (.ref l)
  repeat (any_goals (first | assumption | wp_step))
  have mk : codeAny (model prog w) A.in1 (.call (.builtin "set.__new__") ⟨[.type "set", .ref l], []⟩) (wants (fun obj s₁ => obj = .ref s.heap.objs.size ∧ s₁ = { s with heap := s.heap.push (SetO0 w) }) E) s := new_set1 (.ref l) ⟨rfl, rfl⟩
  refine codeAny_mono mk fun r s₁ hr => ?_
  cases r with
  | error e => exact hr
  | ok fl =>
    cases fl with
    | ret obj =>
      obtain ⟨rfl, rfl⟩ := hr
      have hS : (s.heap.push (SetO0 w)).get? s.heap.objs.size = some (SetO0 w) := Heap.get?_push_size _ rfl
      have isS : Shared.TypeIs { s with heap := s.heap.push (SetO0 w) } (.ref s.heap.objs.size) "set" := ⟨_, hS, rfl⟩
      have v1 := PySem.F.called_set.init.lookup
      have v2 := PySem.F.called_set.init.bind (.ref s.heap.objs.size)
      repeat (any_goals (first | assumption | wp_step))
      refine codeAny_mono (codeAny_call_builtin (R := wants (fun r s₂ => r = .none ∧ ∃ h' tk, s₂ = { s with heap := h', toks := tk } ∧ Iv n h' ∧ (∀ b o, b < s.heap.objs.size → s.heap.get? b = some o → h'.get? b = some o)) E)
        PySem.F.called_set.init.plain PySem.F.entry_set_init (check_set_init_1 isS ?_)) fun r₂ s₂ hr₂ => ?_
      · obtain ⟨ol, hol, hcl, nl, hdl⟩ := hl
        obtain ⟨ocls, odict, odata, oslots⟩ := ol
        simp only at hcl hdl
        subst hcl; subst hdl
        have hol2 : (s.heap.push (SetO0 w)).get? l = some { cls := .type "list", dict := odict, data := .seq items nl, slots := oslots } := Heap.get?_push_of_some _ hol
        have s1 := PySem.F.sub_list_set
        have s2 := PySem.F.sub_list_frozenset
        have s3 : (Value.type "list" == Value.type "dict") = false := by decide
        have hl1 : (s.heap.push (SetO0 w)).IsList l items := ⟨_, hol2, rfl, nl, rfl⟩
        unfold Builtin.«set.__init__» noKeywords Builtin.Frozenset.updateFrom
        generalize hIt : pyIter = It
        wp_walk
        subst hIt
        refine wpAny_pyIter_list hl1 ?_
        refine wpAny_bind (wpAny_runValue ?_)
        have ll : l < s.heap.objs.size := Heap.lt_size hol
        have hh3 : A.in1.in1.in1.handled = none := by simp [hh]
        have neI : l ≠ (s.heap.push (SetO0 w)).objs.size := by
          rw [Heap.size_push]
          exact Nat.ne_of_lt (Nat.lt_succ_of_lt ll)
        have nf : s.heap.objs.size ∉ [(s.heap.push (SetO0 w)).objs.size, l] := by
          rw [Heap.size_push]
          simp only [List.mem_cons, List.mem_singleton, List.not_mem_nil, or_false, not_or]
          exact ⟨Nat.ne_of_lt (Nat.lt_succ_self _), Nat.ne_of_gt ll⟩
        subst hn
        have V2 : SetIv prog w s.heap.objs.size items.size (fun i v => items[i]? = some v) Iv := ⟨V.stay, fun A i v s' Q E hi hp => V.add A i v s' Q E hi (hP i v hp)⟩
        refine set_loop ((Walks.list hh3 _ l neI items).toS) s.heap.objs.size nf V2 (items.size - 0) 0 _ (by omega) (Nat.zero_le _) ⟨⟨_, Heap.get?_push_size _ rfl, rfl, rfl⟩, (hl1.push _)⟩ (h0 _ (Heap.get?_push_of_some _ hS)) fun s' hm hI => ?_
        obtain ⟨h', g', d', tk', os'⟩ := s'
        have eg : g' = s.gens := hm.gens
        have ed : d' = s.drawn := hm.drawn
        have eo : os' = s.os := hm.os
        subst eg; subst ed; subst eo
        show wpAny _ _ _ _ _ _
        refine wpAny_pure ?_
        show wpAny _ _ (ret Value.none) _ _ _
        refine wpAny_pure ⟨rfl, h', tk', rfl, hI, fun b o hb e => ?_⟩
        have b1 : b ≠ s.heap.objs.size := Nat.ne_of_lt hb
        have b2 : b ≠ (s.heap.push (SetO0 w)).objs.size := by
          rw [Heap.size_push]
          exact Nat.ne_of_lt (Nat.lt_succ_of_lt hb)
        refine hm.heap b o ?_ (Heap.get?_push_of_some _ (Heap.get?_push_of_some _ e))
        simp only [List.mem_cons, List.mem_singleton, List.not_mem_nil, or_false, not_or]
        exact ⟨b1, b2⟩
      · cases r₂ with
        | error e => exact hr₂
        | ok fl₂ =>
          cases fl₂ with
          | ret r =>
            obtain ⟨rfl, h', tk, rfl, hI, hk⟩ := hr₂
            repeat (any_goals (first | assumption | wp_step))
            exact h _ _ hI hk
          | _ => exact hr₂.elim
    | _ => exact hr.elim
end
end MI
set_option maxHeartbeats 3200000
/-! MI: len(set(..)) of texts, sorted(set(..)) of ints, tuple(text). -/
namespace MI
open PySem PySem.Spec PyProof.Rows L2
section
variable {α : Type} [DecidableEq α]
def uqS (acc : List α) (x : α) : List α := if x ∈ acc then acc else acc ++ [x]
theorem uq_snoc (xs : List α) (x : α) : uq (xs ++ [x]) = uqS (uq xs) x := by
  unfold uq uqS
  rw [List.foldl_append]
  rfl
theorem uq_take {xs : List α} {i : Nat} {x : α} (h : xs[i]? = some x) : uq (xs.take (i + 1)) = uqS (uq (xs.take i)) x := by
  rw [List.take_add_one, h, ← uq_snoc]
  rfl
theorem uqS_mem {acc : List α} {x k : α} : k ∈ uqS acc x ↔ k ∈ acc ∨ k = x := by
  unfold uqS
  split
  · rename_i h
    constructor
    · exact .inl
    · rintro (q | q)
      · exact q
      · rw [q]; exact h
  · simp
theorem uqS_len {acc : List α} {x : α} : (uqS acc x).length = if x ∈ acc then acc.length else acc.length + 1 := by
  unfold uqS
  split <;> simp
theorem uq_nodup (xs : List α) : (uq xs).Nodup := by
  have key : ∀ (l acc : List α), acc.Nodup → (l.foldl (fun acc x => if x ∈ acc then acc else acc ++ [x]) acc).Nodup := by
    intro l
    induction l with
    | nil => intro acc h; exact h
    | cons a r ih =>
      intro acc h
      rw [List.foldl_cons]
      apply ih
      split
      · exact h
      · rename_i hn
        rw [List.nodup_append]
        refine ⟨h, by simp, fun b hb c hc => ?_⟩
        have : c = a := by simpa using hc
        subst this
        exact fun z => hn (z ▸ hb)
  exact key xs [] (by simp)
theorem uq_le (xs : List α) : (uq xs).length ≤ xs.length := by
  have key : ∀ (l acc : List α), (l.foldl (fun acc x => if x ∈ acc then acc else acc ++ [x]) acc).length ≤ acc.length + l.length := by
    intro l
    induction l with
    | nil => intro acc; simp
    | cons a r ih =>
      intro acc
      rw [List.foldl_cons]
      have := ih (if a ∈ acc then acc else acc ++ [a])
      have h2 : (if a ∈ acc then acc else acc ++ [a]).length ≤ acc.length + 1 := by split <;> simp
      simp only [List.length_cons]
      omega
  simpa [uq] using key xs []
end
/-- the texts' set -/
def ivS (prog : Program) (w : World) (S : Addr) (xs : List Str) : Nat → Heap → Prop := fun i h => h.SetOf (PySem.strKind prog w) S (fun k => decide (k ∈ uq (xs.take i))) (uq (xs.take i)).length
theorem iv_strs {prog : Program} {w : World} {S : Addr} {xs : List Str} (hl : xs.length < 1000) : SetIv prog w S xs.length (fun i v => ∃ t, ∃ x, xs[i]? = some x ∧ v = .str x t) (ivS prog w S xs) where
  stay := fun i h h' hS k => by
    obtain ⟨o, es, ep, t, ho, rest⟩ := hS
    exact ⟨o, es, ep, t, k _ ho, rest⟩
  add := fun A i v s Q E hi hp hS hQ => by
    obtain ⟨t, x, hx, rfl⟩ := hp
    unfold setAdd
    refine wpAny_holding ?_
    refine wpAny_bind ((PySem.strKind prog w).pyHash (k := x) (strKind_is _ _ _ _) ?_)
    have room : (uq (xs.take i)).length + 1 < scanBound := by
      have := uq_le (xs.take i)
      have h2 : (xs.take i).length ≤ xs.length := by simp [List.length_take]; omega
      unfold scanBound
      omega
    refine wpAny_setAddHashed_of (knd := PySem.strKind prog w) (s := { s with toks := s.toks + 1 }) (strKind_is _ _ _ _) rfl hS room fun h' sb h2 => ?_
    refine hQ _ h' (s.toks + 1) (Nat.le_succ _) sb ?_
    unfold ivS
    rw [uq_take hx]
    refine PyProof.Rows.SetOf_congr h2 (fun k => ?_) ?_
    · rw [← Bool.decide_or]
      exact decide_eq_decide.mpr uqS_mem.symm
    · rw [uqS_len]
      by_cases q : x ∈ uq (xs.take i) <;> simp [q]
/-- the ints' set -/
def ivI (w : World) (S : Addr) (ns : List Int) : Nat → Heap → Prop := fun i h => SetR w h S (fun k => decide (k ∈ uq (ns.take i))) (uq (ns.take i)).length
theorem iv_ints {prog : Program} {w : World} {S : Addr} {ns : List Int} (hl : ns.length < 1000) : SetIv prog w S ns.length (fun i v => ∃ t, ∃ x, ns[i]? = some x ∧ v = .int x t) (ivI w S ns) where
  stay := fun i h h' hS k => SetR.at hS k
  add := fun A i v s Q E hi hp hS hQ => by
    obtain ⟨t, x, hx, rfl⟩ := hp
    unfold setAdd
    refine wpAny_holding ?_
    refine wpAny_bind ((intKind prog w).pyHash (intKind_is prog w x t) ?_)
    have room : (uq (ns.take i)).length + 1 < scanBound := by
      have := uq_le (ns.take i)
      have h2 : (ns.take i).length ≤ ns.length := by simp [List.length_take]; omega
      unfold scanBound
      omega
    refine setR_add_hashed (s := { s with toks := s.toks + 1 }) hS room fun h' sb h2 => ?_
    refine hQ _ h' (s.toks + 1) (Nat.le_succ _) sb ?_
    unfold ivI
    rw [uq_take hx]
    have e1 : (fun j => decide (j ∈ uq (ns.take i)) || decide (j = x)) = fun j => decide (j ∈ uqS (uq (ns.take i)) x) := by
      funext j
      rw [← Bool.decide_or]
      exact decide_eq_decide.mpr uqS_mem.symm
    have e2 : (if decide (x ∈ uq (ns.take i)) = true then (uq (ns.take i)).length else (uq (ns.take i)).length + 1) = (uqS (uq (ns.take i)) x).length := by
      rw [uqS_len]
      by_cases q : x ∈ uq (ns.take i) <;> simp [q]
    rw [← e1, ← e2]
    exact h2
theorem iv0_ints {w : World} {S : Addr} {ns : List Int} {h : Heap} (e : h.get? S = some (SetO0 w)) : ivI w S ns 0 h := by
  refine ⟨_, #[], 0, _, e, ⟨rfl, rfl, rfl⟩, rfl, (fun e he => by simp at he), (by simp), (fun k => by simp [uq]), (by decide), (by rfl), rfl, List.Pairwise.nil, ?_⟩
  show _ ∨ (!w.params.followText "set-order") = true
  cases w.params.followText "set-order"
  · exact .inr rfl
  · exact .inl rfl
theorem iv0_strs {prog : Program} {w : World} {S : Addr} {xs : List Str} {h : Heap} (e : h.get? S = some (SetO0 w)) : ivS prog w S xs 0 h :=
  ⟨_, #[], 0, _, e, ⟨rfl, rfl, rfl⟩, rfl, (fun e he => by simp at he), (fun k => by simp [uq]), (by decide), (by rfl), rfl⟩
theorem strsOf_vals {K : PySem.W.Frag} {L : Lay} {ρ : List Addr} {H : Hp} : ∀ {xs : List D} {vs : List V} {ys : List Str}, RDs K L ρ H xs vs → strsOf xs = some ys → vs = ys.map V.str
  | [], _, ys, .nil, h => by cases h; rfl
  | d :: ds, _, ys, .cons r t, h => by
    cases d with
    | str x =>
      cases r
      unfold strsOf at h
      cases e : strsOf ds with
      | none => rw [e] at h; cases h
      | some zs =>
        rw [e] at h
        cases h
        rw [strsOf_vals t e]
        rfl
    | _ => cases h
theorem strs_at : ∀ {ys : List Str} {us : List Value}, Vals (ys.map V.str) us → ∀ (i : Nat) (v : Value), us[i]? = some v → ∃ t, ∃ x, ys[i]? = some x ∧ v = .str x t
  | [], _, .nil, i, v, h => by simp at h
  | y :: ys, _, .cons r t, i, v, h => by
    cases i with
    | zero =>
      obtain ⟨k, rfl⟩ := r
      simp at h
      exact ⟨k, y, rfl, h.symm⟩
    | succ i => exact strs_at t i v (by simpa using h)
theorem ints_at : ∀ {ys : List Int} {us : List Value}, Vals (ys.map V.int) us → ∀ (i : Nat) (v : Value), us[i]? = some v → ∃ t, ∃ x, ys[i]? = some x ∧ v = .int x t
  | [], _, .nil, i, v, h => by simp at h
  | y :: ys, _, .cons r t, i, v, h => by
    cases i with
    | zero =>
      obtain ⟨k, rfl⟩ := r
      simp at h
      exact ⟨k, y, rfl, h.symm⟩
    | succ i => exact ints_at t i v (by simpa using h)
theorem isort_setw {ns ms : List Int} (h : ms.Pairwise (· < ·)) (hm : ∀ k, k ∈ ms ↔ k ∈ uq ns) : ms = isort (uq ns) := by
  refine isort_uniq ?_ (h.imp fun q => Int.le_of_lt q)
  exact (List.perm_ext_iff_of_nodup (h.imp fun q => Int.ne_of_lt q) (uq_nodup ns)).mpr hm
section
variable {X : Cx} {L : Lay} {g : Glob} {cl : Cl} {W : WX} {x : Expr} {a : Ex}
/-- len(set(xs)) -/
def tLenS (L : Lay) (K : PySem.W.Frag) (ta : TE) : TE := fun σ H Q => ta σ H fun v H1 => ∃ (p : Addr) (ys : List Str), v = .ref p ∧ SqT K H1 p (ys.map V.str) ∧ ys.length < 1000 ∧ Q (.int (uq ys).length) H1
theorem pe_lenS {ta : TE} {p p2 q pos : Pos} (hg : Gl X "len") (hm : X.mg "len" = none) (hg2 : Gl X "set") (hm2 : X.mg "set" = none) (ha : PE X x ta) (hc : X.calm = true)
    (na : starEach [x] X.env = (false, eval x X.env) :: starEach [] X.env) : PE X (.Call (.Name "len" p) [.Call (.Name "set" p2) [x] [] q] [] pos) (tLenS L X.K ta) := by
  refine ⟨fun pins s σ H Q I h => ?_⟩
  refine Call_ (ld_blt I hg hm boot_len ?_)
  refine PyProof.Rows.callWith_builtin1 (PyProof.Rows.args_cons ?_ rfl) rfl rfl
  refine Call_ (ld_blt I hg2 hm2 boot_set ?_)
  refine PyProof.Rows.callWith_type1 (PyProof.Rows.args_cons (thn (ha.run pins s σ H _ I h) fun v s1 ⟨y, H1, I1, r1, q1⟩ => PyProof.Rows.args_nil ?_) na) na rfl
  obtain ⟨l, ys, rfl, hq, hl, q1⟩ := q1
  cases r1
  obtain ⟨its, r, pl, hz⟩ := I1.tuple hq
  have hlen : its.toArray.size = ys.length := by rw [List.size_toArray, ← r.length, List.length_map]
  refine set_of_tuple (I1.ok.hd hc) pl hlen (fun i v e => strs_at r i v (by simpa using e)) (iv_strs hl) (fun h e => ?_) fun h' tk hS hk => ?_
  · exact iv0_strs e
  refine PyProof.Rows.args_nil ?_
  obtain ⟨o, es, ep, t, ho, hex, hd, _, _, _, hf, hn⟩ := hS
  rw [List.take_length] at hn
  have hle := uq_le ys
  have I2 : Inv X pins σ H1 { s1 with heap := h', toks := tk } := I1.kept fun b o e => hk b o (Heap.lt_size e) e
  exact call_len_set ho hex hd hf (by rw [hn]; omega) ⟨.int (uq ys).length, H1, I2.tok _, ⟨_, by rw [hn]⟩, q1⟩
/-- sorted(set(xs)) -/
def tSrtS (L : Lay) (K : PySem.W.Frag) (ta : TE) : TE := fun σ H Q => ta σ H fun v H1 => ∃ (p : Addr) (ns : List Int), v = .ref p ∧ (SqL K H1 p (ns.map V.int) ∨ SqT K H1 p (ns.map V.int)) ∧ ns.length < 60 ∧ ∀ q, H1 q = none → Q (.ref q) (upd H1 q (.lst ((isort (uq ns)).map V.int)))
theorem pe_srtS {ta : TE} {p p2 q pos : Pos} (hg : Gl X "sorted") (hm : X.mg "sorted" = none) (hg2 : Gl X "set") (hm2 : X.mg "set" = none) (ha : PE X x ta) (hc : X.calm = true)
    (na : starEach [x] X.env = (false, eval x X.env) :: starEach [] X.env) : PE X (.Call (.Name "sorted" p) [.Call (.Name "set" p2) [x] [] q] [] pos) (tSrtS L X.K ta) := by
  refine ⟨fun pins s σ H Q I h => ?_⟩
  refine Call_ (ld_blt (u := .builtin "sorted") I hg hm (by decide +kernel) ?_)
  refine PyProof.Rows.callWith_builtin1 (PyProof.Rows.args_cons ?_ rfl) rfl rfl
  refine Call_ (ld_blt I hg2 hm2 boot_set ?_)
  refine PyProof.Rows.callWith_type1 (PyProof.Rows.args_cons (thn (ha.run pins s σ H _ I h) fun v s1 ⟨y, H1, I1, r1, q1⟩ => PyProof.Rows.args_nil ?_) na) na rfl
  obtain ⟨l, ns, rfl, hq, hl, q1⟩ := q1
  cases r1
  have hle := uq_le ns
  have fin : ∀ (h' : Heap) (tk : Nat), ivI X.w s1.heap.objs.size ns ns.length h' → (∀ b o, b < s1.heap.objs.size → s1.heap.get? b = some o → h'.get? b = some o) → wpAny (model X.prog X.w) X.A (call (.builtin "sorted") [.ref s1.heap.objs.size]) (EP X pins σ Q) X.xe { s1 with heap := h', toks := tk } := fun h' tk hS hk => by
    have I2 : Inv X pins σ H1 { s1 with heap := h', toks := tk } := I1.kept fun b o e => hk b o (Heap.lt_size e) e
    unfold ivI at hS
    rw [List.take_length] at hS
    refine sorted_set hS (I2.ok.hd hc) (by omega) fun s' p out c ms k g o hp hg hi hs hm hl => ?_
    have hlen : (ms.map V.int).length ≤ sizeLine := by rw [List.length_map, hl, sizeLine_eq]; omega
    have hn : H1 p = none := I2.hok.fresh hp
    have J : Inv X pins σ (upd H1 p (.lst (ms.map V.int))) { s1 with heap := s'.heap, gens := s'.gens, drawn := s'.drawn, toks := s'.toks } :=
      Inv.call (s := { s1 with heap := h', toks := tk }) I2 (ch := []) (Un.laid (h := h') k hp hn) (I2.hok.laid k hp ⟨hlen, out.toList, c, vals_of_ints hi, hg⟩) (by rw [g]; exact I2.bare) (fun _ z => nomatch z)
    have e : s' = { s1 with heap := s'.heap, gens := s'.gens, drawn := s'.drawn, toks := s'.toks } := by
      cases s'
      cases s1
      cases o
      rfl
    rw [e]
    have hms : ms = isort (uq ns) := isort_setw hs fun k => by rw [hm k]; simp
    refine ⟨.ref p, _, J, rfl, ?_⟩
    rw [hms] at J ⊢
    exact q1 p hn
  rcases hq with hq | hq
  · obtain ⟨its, r, pl, hz⟩ := I1.list hq
    have hlen : its.toArray.size = ns.length := by rw [List.size_toArray, ← r.length, List.length_map]
    exact set_of_list (I1.ok.hd hc) pl.isList hlen (fun i v e => ints_at r i v (by simpa using e)) (iv_ints (by omega)) (fun h e => iv0_ints e) fun h' tk hS hk => PyProof.Rows.args_nil (fin h' tk hS hk)
  · obtain ⟨its, r, pl, hz⟩ := I1.tuple hq
    have hlen : its.toArray.size = ns.length := by rw [List.size_toArray, ← r.length, List.length_map]
    exact set_of_tuple (I1.ok.hd hc) pl hlen (fun i v e => ints_at r i v (by simpa using e)) (iv_ints (by omega)) (fun h e => iv0_ints e) fun h' tk hS hk => PyProof.Rows.args_nil (fin h' tk hS hk)
theorem s_lenS (hm : ClMono cl) {p p2 q pos : Pos} (hg : Gl X "len") (hmg : X.mg "len" = none) (hg2 : Gl X "set") (hm2 : X.mg "set" = none) (hc : X.calm = true) (ha : PE X x (tE X.K L g cl W a))
    (na : starEach [x] X.env = (false, eval x X.env) :: starEach [] X.env) : PE X (.Call (.Name "len" p) [.Call (.Name "set" p2) [x] [] q] [] pos) (tE X.K L g cl W (.lenS a)) :=
  PE.imp (pe_lenS (L := L) hg hmg hg2 hm2 ha hc na) fun σ H Q ⟨ρ, hp, env, r, re, h⟩ => by
    unfold wE at h
    refine ⟨ρ, hp, env, r, re, wE_mono hm a env hp _ _ _ _ (fun d1 hp1 q1 => ?_) (fun _ _ _ z => z) h⟩
    intro ρ1 H1 v1 e1 r1 d1r
    cases d1r with
    | @tup p xs ys hs t =>
      have q1 : (match strsOf ys with
        | some zs => OutD.cd (zs.length < 1000) (.int (uq zs).length) hp1
        | none => .no).app (KQ X.K L ρ H Q) := q1
      cases e2 : strsOf ys with
      | none => rw [e2] at q1; exact False.elim q1
      | some zs =>
        rw [e2] at q1
        obtain ⟨h1, h2⟩ := q1
        have ev := strsOf_vals t e2
        subst ev
        exact ⟨p, zs, rfl, hs, h1, h2 _ _ _ e1 r1 (.int _)⟩
    | _ => exact False.elim q1
theorem s_srtS (hm : ClMono cl) {p p2 q pos : Pos} (hg : Gl X "sorted") (hmg : X.mg "sorted" = none) (hg2 : Gl X "set") (hm2 : X.mg "set" = none) (hc : X.calm = true) (ha : PE X x (tE X.K L g cl W a))
    (na : starEach [x] X.env = (false, eval x X.env) :: starEach [] X.env) : PE X (.Call (.Name "sorted" p) [.Call (.Name "set" p2) [x] [] q] [] pos) (tE X.K L g cl W (.srtS a)) :=
  PE.imp (pe_srtS (L := L) hg hmg hg2 hm2 ha hc na) fun σ H Q ⟨ρ, hp, env, r, re, h⟩ => by
    unfold wE at h
    refine ⟨ρ, hp, env, r, re, wE_mono hm a env hp _ _ _ _ (fun d1 hp1 q1 => ?_) (fun _ _ _ z => z) h⟩
    intro ρ1 H1 v1 e1 r1 d1r
    unfold oSrtS at q1
    cases e : sqOf hp1 d1 with
    | none => simp only [e] at q1; exact False.elim q1
    | some xs =>
      cases e2 : intsOf xs with
      | none => simp only [e, e2] at q1; exact False.elim q1
      | some ns =>
        simp only [e, e2] at q1
        obtain ⟨h1, h2⟩ := q1
        obtain ⟨b, vs, rfl, hs, t⟩ := d1r.sq r1 e
        have ev := intsOf_map t e2
        subst ev
        exact ⟨b, ns, rfl, hs, h1, KQ.new (KQ.ext h2 e1) r1 (.lst (RDs.ints _))⟩
end
end MI
set_option maxHeartbeats 2000000
/-! MI, exceptions 1: a caught exception kept behind its suite. -/
namespace MI
open PySem PySem.Spec PyProof.Rows L2

section
variable {X : Cx} {pins : List (Addr × Obj)} {σ : L2.St} {H : Hp} {s : Shared} {a : Addr} {o : HO}
/-- an object that stands in the heap, untracked, new since the frame began, is tracked from here on -/
theorem track (I : Inv X pins σ H s) (h0 : X.s_0.heap.get? a = none) (hn : H a = none) (hl : X.env.locals ≠ a) (hc : ∀ x c, X.env.cells.lookup x = some c → c ≠ a) (hp : ∀ p ∈ X.pn ++ pins, p.1 ≠ a)
    (new : ObjOk X.prog X.w (upd H a o) s.heap a o) : Inv X pins σ (upd H a o) s := by
  have away : ∀ {b : Addr} {u : HO}, H b = some u → b ≠ a := fun q => ne_of_none q hn
  refine { ok := I.ok, os := I.os, bare := I.bare, base := ?_, loc := I.loc, cell := I.cell, free := ?_, freeC := ?_, pin := ?_, hok := ?_, len := I.len }
  · have B := I.base
    refine { keep := B.keep, slot := B.slot, free := ?_, there := B.there, tups := ?_, frzs := ?_, tbls := ?_ }
    · intro b u q n x
      have nb : b ≠ a := fun z => by subst z; rw [h0] at q; cases q
      rw [upd_ne nb]; exact B.free b u q n x
    · intro b xs q
      have q' := B.tups b xs q
      rw [upd_ne (away q')]; exact q'
    · intro b u v q
      have q' := B.frzs b u v q
      rw [upd_ne (away q')]; exact q'
    · intro b ps q
      obtain ⟨more, q'⟩ := B.tbls b ps q
      refine ⟨more, ?_⟩
      rw [upd_ne (away q')]; exact q'
  · rw [upd_ne hl]; exact I.free
  · intro x c e
    rw [upd_ne (hc x c e)]; exact I.freeC x c e
  · intro p hm
    obtain ⟨e1, e2, e3⟩ := I.pin p hm
    refine ⟨e1, ?_, e3⟩
    rw [upd_ne (hp p hm)]; exact e2
  · intro b u q
    by_cases hb : b = a
    · subst hb
      rw [upd_same] at q
      cases q
      exact new
    · rw [upd_ne hb] at q
      refine (I.hok b u q).stay (fun _ _ _ z => z) (fun c z => ?_) fun c xs z => ?_
      · rw [upd_ne (away z)]; exact z
      · rw [upd_ne (away z)]; exact z
end
end MI
set_option maxHeartbeats 2000000
/-! MI, exceptions 2: try: body / except x as n: k = n. -/
namespace MI
open PySem PySem.Spec PyProof.Rows L2

/-- what that clause wants of an exception of the body: slot j is k's, slot i is n's -/
def wKeep (K : PySem.W.Frag) (c : Value) (i j : Nat) (Wo : WX) (D : Ends) : WX := fun cls d σ H =>
  ∃ b, PySem.W.exmOne K cls c = some b ∧ (b = true → ∃ C dd, cls = .ref C ∧ d = some dd ∧ ∀ a, H a = none → D.nx ((σ.set j (some (.ref a))).set i none) (upd H a (kx a C dd))) ∧ (b = false → Wo cls d σ H)
theorem ps_try_keep {X : Cx} {x n kn : Str} {c : Value} {i j : Nat} {body : List Stmt} {np pos pos' p1 p2 p3 : Pos} {tb : WX → TS} {Wo : WX}
    (hs : X.stack = X.env :: X.outer) (hf : X.env.frame = some X.env.locals) (hN : X.N.Nodup) (hi : X.N[i]? = some n) (hln : X.env.kindOf n = some .local) (hj : X.N[j]? = some kn) (hlj : X.env.kindOf kn = some .local) (hij : i ≠ j) (hex : X.ex = []) (hc : Names X x c) (tk : Takes X Wo)
    (hsu : ∀ (a : Addr) (ob : Obj) (pn : List (Addr × Obj)), PSs (X.suite a ((a, ob) :: pn)) [.Assign [.Name kn p1] (.Name n p2) p3] (fun D σ H => match σ[i]? with | some (some v) => D.nx (σ.set j (some v)) H | _ => False))
    (hb : ∀ (W : WX) (pn : List (Addr × Obj)) (xe : Value → Shared → Prop), Takes (X.tr pn xe) W → PassesOwn (model X.prog X.w) X.A X.env xe → PSs (X.tr pn xe) body (tb W)) :
    PS X (.Try body [.ExceptHandler (some (.Name x np)) (some n) [.Assign [.Name kn p1] (.Name n p2) p3] pos'] [] [] pos) (fun D σ H => tb (wKeep X.K c i j Wo D) D σ H) := by
  refine ⟨fun pins s σ H D I h => ?_⟩
  have good := I.ok
  have frames : X.A.frames = some (X.env :: X.outer) := by rw [good.frames, hs]
  refine wpAny_Try_except ?_
  have B0 := (hb (wKeep X.K c i j Wo D) (X.pn ++ pins) (fun e t1 => wpAny (model X.prog X.w) X.A (noteFrame e X.env) (fun _ t2 => wpAny (model X.prog X.w) X.A (setFlight e none) (fun _ t3 =>
    wpAny (model X.prog X.w) X.A (handleBy e X.env [.ExceptHandler (some (.Name x np)) (some n) [.Assign [.Name kn p1] (.Name n p2) p3] pos']) (SP X pins D) X.xe t3) X.xe t2) X.xe t1) ?_ PassesOwn.looking).run [] s σ H D (I.toTry _) h
  · refine wpAny_mono B0 (fun fl t hsp => ?_) fun _ _ z => z
    cases fl with
    | ret u =>
      obtain ⟨v, σ1, H1, J, r, q⟩ := hsp
      exact ⟨v, σ1, H1, J.ofTry good, r, q⟩
    | next =>
      obtain ⟨σ1, H1, J, q⟩ := hsp
      exact wpAny_execs_nil ⟨σ1, H1, J.ofTry good, q⟩
    | brk =>
      obtain ⟨σ1, H1, J, q⟩ := hsp
      exact ⟨σ1, H1, J.ofTry good, q⟩
    | cont =>
      obtain ⟨σ1, H1, J, q⟩ := hsp
      exact ⟨σ1, H1, J.ofTry good, q⟩
  · -- caught
    intro u t caught
    obtain ⟨a, G, sI, pinsT, σ1, H1, cls, d, rfl, JT, ground, slots, sky, untr, hos, bare, b, hb1, yes, no⟩ := caught
    have J : Inv X pins σ1 H1 sI := JT.ofTry good
    have sky1 : Sky G (X.env :: X.outer) a (Zc cls d) X.env.locals t.heap := by rw [← hs]; exact sky
    show wpAny (model X.prog X.w) X.A (noteFrame (.ref a) X.env) _ _ _
    refine Sky.land Zc.steady frames hf sky1 fun h3 fl3 up3 => ?_
    have up03 := slots.trans up3
    have J3 : Inv X pins σ1 H1 { t with heap := h3 } := J.landed ground fl3.1 up03 hos bare
    obtain ⟨ob3, ws3, at3, z3, d3⟩ := fl3.there
    have outside : a ∉ frs (X.env :: X.outer) := fun hm => by
      obtain ⟨_, o', e', nf⟩ := fl3.2.2.1.mem hm
      rw [at3] at e'
      cases e'
      exact nf _ d3
    have notL : a ≠ X.env.locals := fun z => outside (List.mem_filterMap.mpr ⟨X.env, List.mem_cons_self, by rw [hf, z]⟩)
    have notF : a ∉ X.fs := fun hm => by
      obtain ⟨e, he, q⟩ := List.mem_filterMap.mp hm
      exact outside (List.mem_filterMap.mpr ⟨e, List.mem_cons_of_mem _ he, q⟩)
    have noG : G.get? a = none := fl3.2.1
    have noI : sI.heap.get? a = none := by
      cases q : sI.heap.get? a with
      | none => rfl
      | some o' =>
        have := ground a o' q (by rw [hs]; exact outside)
        rw [noG] at this
        cases this
    have no0 : X.s_0.heap.get? a = none := by
      cases q : X.s_0.heap.get? a with
      | none => rfl
      | some o' =>
        obtain ⟨o2, q2⟩ := J.base.there a o' q (by rw [hex]; exact nofun)
        rw [noI] at q2
        cases q2
    have noC : ∀ y cc, X.env.cells.lookup y = some cc → cc ≠ a := fun y cc e z => by
      obtain ⟨v, o', e1, e2⟩ := J.cell y cc e
      rw [z, noI] at e1
      cases e1
    have noP : ∀ p ∈ X.pn ++ pins, p.1 ≠ a := fun p hm z => by
      have q := (J.pin p hm).1
      rw [z, noI] at q
      cases q
    have S3 := J3.suite at3 d3 untr notL notF
    refine wpAny_handleBy_cons (codeAny_handlers_test ?_) (by intro q; cases q)
    have TY : PySem.W.Looks (model X.prog X.w) h3 (typeOf (.ref a)) cls := fun A' Q' E' s' k' q => wpAny_typeOf_ref (k' _ _ at3) (by rw [z3.1]; exact q)
    have MT := PySem.W.exm_one (M := model X.prog X.w) (J3.kIn) TY hb1
    have nameIt : ∀ {Q E : Value → Shared → Prop}, Q c { t with heap := h3 } → wpAny (model X.prog X.w) (X.A.mark (some (.ref a))) (eval (.Name x np) X.env) Q E { t with heap := h3 } := fun {Q E} q => by
      obtain ⟨n1, n2, m1 | ⟨m2, m3, m4⟩⟩ := hc
      · exact ld_glob (X := X.suite a ((a, ob3) :: (X.pn ++ pins))) S3 n1 m1 q n2
      · exact ld_blt (X := X.suite a ((a, ob3) :: (X.pn ++ pins))) S3 n1 m2 m3 q m4 n2
    refine nameIt (MT.here ?_)
    cases b with
    | true =>
      obtain ⟨C, dd, rfl, rfl, fin⟩ := yes rfl
      refine codeAny_handlers_suite_as ?_
      refine HandSPX.lands_againZ fl3 fun h4 fl4 up4 => ?_
      have J4 : Inv X pins σ1 H1 { t with heap := h4 } := J.landed ground fl4.1 (up03.trans up4) hos bare
      obtain ⟨ob4, ws4, at4, z4, d4⟩ := fl4.there
      have S4 := J4.suite at4 d4 untr notL notF
      refine store_ok (X := X.suite a ((a, ob4) :: (X.pn ++ pins))) (v := .ref a) S4 hN hi (.inl hln) rfl (fun s5 S5 => ?_) (.inr hln)
      have len1 : i < σ1.length := by
        rw [J.len]
        exact (List.getElem?_eq_some_iff.mp hi).1
      refine wpAny_mono ((hsu a ob4 (X.pn ++ pins)).run [] s5 _ H1 { nx := fun σ6 H6 => σ6 = (σ1.set i (some (.ref a))).set j (some (.ref a)) ∧ H6 = H1, rt := fun _ _ => False } S5 ?_) (fun fl s6 hsp => ?_) fun _ _ z => False.elim z
      · show (match (σ1.set i (some (.ref a)))[i]? with | some (some v) => _ | _ => False)
        rw [List.getElem?_set_self len1]
        exact ⟨rfl, rfl⟩
      · cases fl with
        | ret u =>
          obtain ⟨_, _, _, _, _, q⟩ := hsp
          exact q.elim
        | brk =>
          obtain ⟨_, _, _, q⟩ := hsp
          exact q.elim
        | cont =>
          obtain ⟨_, _, _, q⟩ := hsp
          exact q.elim
        | next =>
          obtain ⟨σ6, H6, S6, rfl, rfl⟩ := hsp
          refine gone_ok (X := X.suite a ((a, ob4) :: (X.pn ++ pins))) S6 hN hi hln fun s7 S7 => ?_
          have at7 := (S7.pin (a, ob4) (List.mem_append_left _ List.mem_cons_self)).1
          have J7 : Inv X pins _ H6 s7 := S7.unsuite good
          have e7 : ((σ1.set i (some (V.ref a))).set j (some (V.ref a))).set i none = (σ1.set j (some (V.ref a))).set i none := by
            rw [List.set_comm _ _ hij, List.set_set]
          rw [e7] at J7
          exact ⟨_, _, track J7 no0 untr (Ne.symm notL) noC noP (kx_ok at7 z4 d4), fin a untr⟩
    | false =>
      show wpAny _ X.A (handleBy (.ref a) X.env []) _ _ _
      refine wpAny_handleBy_nil ?_
      obtain ⟨k1, k2, k3, oe, vs, Tb, oT, ts', he, hz, hd, h1, hr⟩ := id fl3
      unfold PySem.passOn
      refine wpAny_bind (wpAny_field he hd h1 ?_)
      rw [if_neg (show ¬ ((Value.ref Tb == Value.none) = true) by simp)]
      have up : wpAny (model X.prog X.w) X.A (setFlight (.ref a) X.env.frame) (fun _ s4 => wpAny (model X.prog X.w) X.A (throw (.ref a) : Sem Flow) (SP X pins D) X.xe s4) X.xe { t with heap := h3 } := by
        rw [hf]
        refine HandSPX.setFlight_upZ fl3 fun h4 held up4 => wpAny_throw (tk _ _ ?_)
        refine ⟨a, G, sI, pins, σ1, H1, cls, d, rfl, J, ground, up03.trans up4, .inr (.inr ?_), untr, hos, bare, no rfl⟩
        rw [hs]
        exact held
      first
        | exact wpAny_bind (wpAny_pure (wpAny_bind up))
        | exact wpAny_bind up
end MI
set_option maxHeartbeats 4000000
/-! MI, exceptions 5: isinstance of a kept exception, its field. -/
namespace MI
open PySem PySem.Spec PySem.Calls PyProof.Rows L2
section
variable {prog : Program} {w : World} {A : Around} {E : Value → Shared → Prop} {s : Shared} {K : PySem.W.Frag} {a D : Addr} {ob dob : Obj}
/-- the class of an exception that has a dict, asked by name -/
theorem ask_class {Q : Option Value → Shared → Prop} (c : ExcC K D) (KI : K.In s.heap) (J : PySem.W.InstAt s.heap a ob D (some dob)) (h : Q (some (.ref D)) { s with toks := s.toks + 1 }) : wpAny (model prog w) A (getAttr? (.ref a) "__class__") Q E s := by
  have isC : (PySem.W.clsIn K D).isSome = true := by
    obtain ⟨cd, hcd, _⟩ := PySem.W.any_some c.hd
    rw [hcd]
    rfl
  have found := PySem.W.findObj_data (od := dob) isC c.ha c.hn c.ht
  obtain ⟨heap, gens, drawn, tok, os⟩ := s
  have T0 := J.type (M := model prog w)
  have T1 := PySem.W.looks_findIn (M := model prog w) KI c.hg
  have T2 := PySem.W.looks_findIn (M := model prog w) KI c.hk
  have T3 := PySem.W.looks_find (M := model prog w) KI J found
  have T4 : PySem.W.Looks (model prog w) heap (isInstance (.ref a) (.type "BaseException")) true := T0.andThen (PySem.W.looks_subIn KI c.hs)
  have z0 : (false && onTheHeap (Value.builtin "BaseException.__getattribute__")) = false := rfl
  have z1 : (onTheHeap (Value.ref D) && Value.builtin "BaseException.__getattribute__" == Value.builtin "object.__getattribute__") = false := by
    have : (Value.builtin "BaseException.__getattribute__" == Value.builtin "object.__getattribute__") = false := by decide +kernel
    rw [this]
    rfl
  unfold getAttr? getAttrBy? getAttrBy
  refine wpAny_bind (wpAny_mkText ?_)
  refine wpAny_bind (wpAny_attempt (wpAny_holding (wpAny_bind (T0.at (wpAny_bind (T1.at ?_))))))
  show wpAny _ _ (if (onTheHeap (Value.ref D) && (Value.builtin "BaseException.__getattribute__") == Value.builtin "object.__getattribute__") = true then _ else _) _ _ _
  rw [z1]
  rw [if_neg Bool.false_ne_true]
  unfold getAttrByItsOwn hookBefore
  refine wpAny_bind ?_
  have onH : onTheHeap (Value.ref D) = true := rfl
  rw [if_pos onH]
  refine T2.at ?_
  refine wpAny_bind (wpAny_attempt (wpAny_holding ?_))
  unfold callGetattribute
  rw [z0]
  rw [if_neg Bool.false_ne_true]
  unfold boundAndCalled
  have gb := PySem.F.excAttr_ValueError.ga.bind (.ref a)
  rw [gb]
  refine wpAny_bind (wpAny_pure ?_)
  show wpAny _ _ (call (.builtin "BaseException.__getattribute__") [.ref a, .str "__class__" tok]) _ _ _
  refine wpAny_call (codeAny_call_builtin PySem.F.excAttr_ValueError.ga.plain PySem.F.entry_bexc_ga ?_)
  refine @PySem.W.check_slot (model prog w) _ _ ⟨heap, gens, drawn, tok + 1, os⟩ "BaseException.__getattribute__" "BaseException" "__getattribute__" (.ref a) [.str "__class__" tok] [] _ (by decide +kernel) (by decide +kernel) T4 (PySem.F.args_bexc_ga (.ref a) (.str "__class__" tok)) ?_
  unfold Builtin.«object.__getattribute__»
  refine wpAny_bind (wpAny_of_eq (a := ((Value.ref a : Value), [Value.str "__class__" tok])) (by first | rfl | (simp only [slotArgs]; rfl)) ?_)
  refine wpAny_bind (wpAny_pure (wpAny_bind (T0.at (wpAny_bind (T3.at ?_)))))
  show wpAny _ _ (holding [Value.builtin "object.__class__"] (call (.builtin "getset_descriptor.__get__") [Value.builtin "object.__class__", Value.ref a, Value.ref D]) >>= ret) _ _ _
  refine wpAny_bind (wpAny_holding (wpAny_call (PySem.W.class_get (s := ⟨heap, gens, drawn, tok + 1, os⟩) (ox := ob) (od := some dob) KI J c.hm ?_)))
  refine wpAny_pure ?_
  show wpAny _ _ (handedOut (.ref D)) _ _ _
  have ho : handedOut (Value.ref D) = pure (Value.ref D) := PySem.W.handedOut_of (v := .ref D) rfl
  rw [ho]
  first
    | exact wpAny_pure (wpAny_pure h)
    | exact wpAny_pure h
    | exact wpAny_pure (wpAny_bind (wpAny_pure (wpAny_pure h)))
theorem kit_kept (c : ExcC K D) : PySem.W.KitX K (.ref a) (.ref D) (fun h => ∃ ob dob, PySem.W.InstAt h a ob D (some dob)) where
  ty := fun M h KI ⟨_, _, J⟩ => J.type
  it := fun M h KI _ => by
    obtain ⟨cd, hcd, _⟩ := PySem.W.any_some c.hd
    unfold PySem.W.clsIn at hcd
    split at hcd
    · rename_i q1 q2 q3 q4 ho
      intro A2 Q2 E2 s2 k2 q
      unfold isType loadHead
      exact wpAny_bind (wpAny_loadPart (k2 _ _ (KI _ _ ho)) (wpAny_pure q))
    · cases hcd
  ne := fun h tp dd its n sl KI htp => by
    obtain ⟨cd, hcd, _⟩ := PySem.W.any_some c.hd
    unfold PySem.W.clsIn at hcd
    refine Bool.eq_false_iff.mpr fun q => ?_
    have e : D = tp := Value.ref.inj (beq_iff_eq.mp q)
    subst e
    split at hcd
    · rename_i q1 q2 q3 q4 ho
      have z := (KI _ _ ho).symm.trans htp
      cases z
    · cases hcd
  ca := fun KI ⟨_, _, J⟩ k => ask_class c KI J k
end
end MI
set_option maxHeartbeats 4000000
/-! MI, exceptions: own classes over any built-in one: made by type's call, the base's __init__, the first field. -/
namespace MI
open PySem PySem.Spec L2 PySem.HandSPX
open Builtin Builtin.ObjectAttr
section
variable {M : Model} {A : Around} {E : Value → Shared → Prop} {z : Heap} {g : Array GenState} {d : Drawn} {t : Nat} {os : OsState}
variable {nm q : Str} {C N : Addr} {bs bm : List Value} {hdct : Bool} {sn : List Str} {sub : List Value} {ab : Bool} {col : Option Bool} {dd : Option Addr} {k0 k1 k2 k3 k5 : Option Value} {b : XB}
theorem chk_new (F : XBOk b) (hT : refsT b.tl bm = true) {us : List Value} {Q : Unit → Shared → Prop} (hC : z.get? C = some (excClassObj nm q C N bs bm hdct sn sub ab col dd k0 k1 k2 k3 k5 b.nw)) (hq : Q () ⟨z, g, d, t, os⟩) :
    wpAny M A (checkBuiltinCall b.nw ⟨.ref C :: us, []⟩) Q E ⟨z, g, d, t, os⟩ := by
  have hhas : (Value.ref C :: bm).contains (.type b.nB) = true := by rw [List.contains_cons, refsT_has hT, F.hasN, Bool.or_true]
  have hst := F.base.noStar
  simp only [checkBuiltinCall, F.base.newKind, F.base.newSplit, F.base.newRow]
  repeat (first
    | refine wpAny_loadPart_at hC ?_
    | (refine wpAny_isSubtype_exc hC ?_; rw [hhas])
    | refine wpAny_staticBase_exc hC ?_
    | refine wpAny_madeBy_exc hC ?_
    | simp only [bne_self_eq_false, Bool.false_eq_true, if_false]
    | wp_step)
  exact hq
theorem chk_ini (F : XBOk b) (hT : refsT b.tl bm = true) {e : Addr} {oe : Obj} {us : List Value} {Q : Unit → Shared → Prop} (hC : z.get? C = some (excClassObj nm q C N bs bm hdct sn sub ab col dd k0 k1 k2 k3 k5 b.nw))
    (he : z.get? e = some oe) (hcls : oe.cls = .ref C) (hq : Q () ⟨z, g, d, t, os⟩) : wpAny M A (checkBuiltinCall b.ini ⟨.ref e :: us, []⟩) Q E ⟨z, g, d, t, os⟩ := by
  have hhas : (Value.ref C :: bm).contains (.type b.B) = true := by rw [List.contains_cons, refsT_has hT, F.hasB, Bool.or_true]
  have hst := F.iStar
  simp only [checkBuiltinCall, F.iKind, F.iSplit, F.iRow]
  repeat (first
    | (with_reducible refine wpAny_loadPart_at he ?_; rw [hcls])
    | with_reducible refine wpAny_loadPart_at hC ?_
    | (with_reducible refine wpAny_isSubtype_exc hC ?_; rw [hhas])
    | wp_step)
  refine wpAny_onRaise ?_
  have star : ∀ (x y : String) (n : Nat), Bind.check ⟨.positional, "*", b.B, .self, [⟨"args", .varPos, false⟩]⟩ x y n (List.map (fun x => x.fst) ({ pos := Value.ref e :: us } : Args).kw) = pure () := fun _ _ _ => check_star_args _ _ _ _ _ _
  rw [star]
  exact wpAny_pure hq
end
section
variable {prog : Program} {w : World} {A : Around} {E : Value → Shared → Prop} {R : Result → Shared → Prop} {z : Heap} {g : Array GenState} {d : Drawn} {t : Nat} {os : OsState}
variable {nm q : Str} {C N : Addr} {bs bm : List Value} {hdct : Bool} {sn : List Str} {sub : List Value} {ab : Bool} {col : Option Bool} {dd : Option Addr} {k0 k1 k2 k3 k5 : Option Value} {b : XB}
theorem new_x (F : XBOk b) (hT : refsT b.tl bm = true) {us : List Value} (hC : z.get? C = some (excClassObj nm q C N bs bm hdct sn sub ab col dd k0 k1 k2 k3 k5 b.nw))
    (hq : R (.ok (.ret (.ref (z.objs.size + 1)))) ⟨(z.push { cls := .type "tuple", data := .seq us.toArray }).push { cls := .ref C, data := .fields #[.ref z.objs.size, .none, .none, .none, .bool false, .none] }, g, d, t, os⟩) (hus : us.length ≤ sizeLine) :
    codeAny (model prog w) A (.builtin b.nw ⟨.ref C :: us, []⟩) R ⟨z, g, d, t, os⟩ := by
  have hends := F.base.ends
  have hcB : (Value.ref C :: bm).contains (.type b.nB) = true := by rw [List.contains_cons, refsT_has hT, F.hasN, Bool.or_true]
  have hcA : (Value.ref C :: bm).contains (.type "AttributeError") = false := by rw [List.contains_cons, refsT_has hT, F.noA]; rfl
  have hcN : (Value.ref C :: bm).contains (.type "NameError") = false := by rw [List.contains_cons, refsT_has hT, F.noN]; rfl
  refine codeAny_builtinAt F.base.entry ?_
  unfold Builtin.«BaseException.__new__»
  refine wpAt_bind ?_
  show wpAt _ _ _ (stack >>= _) _ _ _
  refine wpAt_bind (wpAt_stack fun pp low => wpAt_of_wpAny ?_)
  wp_walk
  refine wpAt_of_wpAny ?_
  rw [F.base.owner]
  repeat (first
    | with_reducible refine wpAny_madeHere_exc F.base.canon hC ?_
    | with_reducible refine wpAny_loadPart_at hC ?_
    | (with_reducible refine wpAny_isSubtype_exc hC ?_; first | rw [hcB] | rw [hcA] | rw [hcN])
    | wp_step)
  show R _ _
  rw [Heap.size_push]
  exact hq
theorem tcall_x (F : XBOk b) (hT : refsT b.tl bm = true) {us : List Value} {fI : Addr} {Q : Fin → Shared → Prop} (hC : z.get? C = some (excClassObj nm q C N bs bm hdct sn sub ab col dd k0 k1 k2 k3 k5 b.nw))
    (hi : W.Looks (model prog w) z (typeLookup (.ref C) "__init__") (some (.ref fI))) (hb : ∀ self, W.Looks (model prog w) z (bindSpecial (.ref fI) self) (.ref fI, [self])) (hus : us.length ≤ sizeLine)
    (hq : codeAny (model prog w) A (.call (.ref fI) ⟨.ref (z.objs.size + 1) :: us, []⟩) (fun r s' => match r with | .ok (.ret v) => v = .none ∧ Q (.done (.ret (.ref (z.objs.size + 1)))) s' | .ok _ => False | .error e => E e s')
      ⟨(z.push (W.kdv_tup us)).push (PySem.HandSPX.excO C z.objs.size), g, d, t, os⟩) : wpAny (model prog w) A (Builtin.«type.__call__» ⟨.ref C :: us, []⟩) Q E ⟨z, g, d, t, os⟩ := by
  repeat (first
    | with_reducible refine wpAny_loadPart_at hC ?_
    | with_reducible refine wpAny_madeBy_exc hC ?_
    | wp_step)
  refine codeAny_call_builtin_code (Code.quiet_builtin _ F.base.quiet) (chk_new F hT hC ?_)
  refine new_x F hT hC ?_ hus
  show wpAny _ _ _ _ _ _
  have k : ∀ c o, z.get? c = some o → ((z.push (W.kdv_tup us)).push (PySem.HandSPX.excO C z.objs.size)).get? c = some o := fun c o e => Heap.get?_push_of_some _ (Heap.get?_push_of_some _ e)
  have hC2 := k _ _ hC
  have hnew : ((z.push (W.kdv_tup us)).push (PySem.HandSPX.excO C z.objs.size)).get? (z.objs.size + 1) = some (PySem.HandSPX.excO C z.objs.size) := by heap_get
  have hself : (Value.ref C :: bm).contains (.ref C) = true := by simp
  have i2 := hi.keeps k
  have b2 := (hb (.ref (z.objs.size + 1))).keeps k
  unfold isInstance
  repeat (first
    | with_reducible refine wpAny_loadPart_at hnew ?_
    | (with_reducible refine wpAny_isSubtype_exc hC2 ?_; rw [hself])
    | wp_step)
  show wpAny _ _ (typeLookup (.ref C) _) _ _ _
  refine i2.at ?_
  refine wpAny_holding (wpAny_bind (b2.at ?_))
  refine wpAny_bind (wpAny_call (codeAny_mono hq fun r s' y => ?_))
  rcases r with e | (v | _ | _ | _) <;> first | exact y | exact y.elim | skip
  obtain ⟨rfl, y⟩ := y
  first
    | exact wpAny_pure (wpAny_pure y)
    | (wp_walk; exact y)
theorem call_x (F : XBOk b) (hT : refsT b.tl bm = true) {us : List Value} {fI : Addr} (hC : z.get? C = some (excClassObj nm q C N bs bm hdct sn sub ab col dd k0 k1 k2 k3 k5 b.nw))
    (hi : W.Looks (model prog w) z (typeLookup (.ref C) "__init__") (some (.ref fI))) (hb : ∀ self, W.Looks (model prog w) z (bindSpecial (.ref fI) self) (.ref fI, [self])) (hus : us.length ≤ sizeLine)
    (hq : codeAny (model prog w) (A.under (.builtin "type.__call__" ⟨.ref C :: us, []⟩)) (.call (.ref fI) ⟨.ref (z.objs.size + 1) :: us, []⟩) (W.InitBack (z.objs.size + 1) R) ⟨(z.push (W.kdv_tup us)).push (PySem.HandSPX.excO C z.objs.size), g, d, t, os⟩) :
    codeAny (model prog w) A (.call (.ref C) ⟨us, []⟩) R ⟨z, g, d, t, os⟩ := by
  have g1 := tc_lookup
  have g2 := tc_bind (.ref C)
  have isT : (⟨z, g, d, t, os⟩ : Shared).TypeIs (.ref C) "type" := ⟨_, hC, rfl⟩
  refine codeAny_of_tree ?_
  show wpAny _ _ (callAny (.ref C) _) _ _ _
  repeat (any_goals (first
    | assumption
    | with_reducible refine wpAny_loadPart_at hC ?_
    | wp_step))
  refine ⟨rfl, ?_⟩
  refine codeAny_call_builtin_at (Code.quiet_builtin _ (by decide +kernel)) entry_typeCall (wpAny_check_type_call_sub hC (tcall_x F hT hC hi hb hus ?_))
  refine codeAny_mono hq fun r s' y => ?_
  rcases r with e | (v | _ | _ | _) <;> exact y
/-- the base's __init__ on an own one -/
theorem ini_x (F : XBOk b) (hT : refsT b.tl bm = true) {e t0 : Addr} {us : List Value} (hC : z.get? C = some (excClassObj nm q C N bs bm hdct sn sub ab col dd k0 k1 k2 k3 k5 b.nw)) (he : z.get? e = some (PySem.HandSPX.excO C t0)) (hus : us.length ≤ sizeLine)
    (hq : ∀ z' t1, (∀ c o, c ≠ e → z.get? c = some o → z'.get? c = some o) → z'.get? e = some (PySem.HandSPX.excO C t1) → R (.ok (.ret .none)) ⟨z', g, d, t, os⟩) :
    codeAny (model prog w) A (.call (.builtin b.ini) ⟨.ref e :: us, []⟩) R ⟨z, g, d, t, os⟩ := by
  refine codeAny_call_builtin F.iPlain F.iEntry (chk_ini F hT hC he rfl ?_)
  wp_walk
  refine hq _ z.objs.size (fun c o hc ho => ?_) ?_
  · rw [Heap.get?_update_other _ _ (Ne.symm hc)]
    exact Heap.get?_push_of_some _ ho
  · rw [Heap.get?_update_self _ (Heap.get?_push_of_some _ he) rfl]
    rfl
/-- the first field -/
theorem osa_x {K : W.Frag} {name : Str} {tk : Tok} {v : Value} {x : Addr} {fv : Array Value} {cd : ClassData} (KI : K.In z) (hx : z.get? x = some { cls := .ref C, data := .fields fv }) (hcd : W.clsIn K C = some cd)
    (hpass : refuseLoop (.ref x) "__setattr__" cd.mro = pure ()) (hne : cd.mro.isEmpty = false) (hob : cd.mro.contains (.type "object") = true) (hh : cd.hasDict = true) (hf : W.findIn K (.ref C) name = some none)
    (hq : ∀ z' tk' dx, (∀ c o, c ≠ x → z.get? c = some o → z'.get? c = some o) → z.objs.size ≤ dx → dx ≠ x → z'.get? x = some { cls := .ref C, dict := some dx, data := .fields fv } →
      z'.Ns1 dx (fun y => if y = name then some v else none) → R (.ok (.ret .none)) ⟨z', g, d, tk', os⟩) :
    codeAny (model prog w) A (.call (.builtin "object.__setattr__") ⟨[.ref x, .str name tk, v], []⟩) R ⟨z, g, d, t, os⟩ := by
  have ia : W.InstAt z x { cls := .ref C, data := .fields fv } C none := ⟨hx, rfl, rfl, trivial⟩
  have so := F.store_object
  have hxs : x ≠ z.objs.size := Nat.ne_of_lt (Heap.lt_size hx)
  have isO : W.Looks (model prog w) z (isInstance (.ref x) (.type "object")) true := ia.type.andThen (W.looks_mroIn KI (by unfold W.mroIn; rw [hcd, Option.bind_some, if_neg (by rw [hne]; decide), hob]))
  refine codeAny_call_builtin so.slot.plain so.entry (@W.check_slot (model prog w) _ _ ⟨z, g, d, t, os⟩ "object.__setattr__" "object" "__setattr__" (.ref x) [.str name tk, v] [] _ so.kind so.split isO (so.args (.ref x) (.str name tk) v) ?_)
  have lm : W.Looks (model prog w) z (mroOf (.ref C)) cd.mro := (W.looks_clsIn KI hcd).andThen .now
  have lt : W.Looks (model prog w) z (storeTaker? none) none := .now
  have lc : W.Looks (model prog w) z (classData C) cd := W.looks_clsIn KI hcd
  rw [W.osa_eq, refuse_eq]
  refine wpAny_bind (wpAny_bind (ia.type.at (wpAny_bind (lm.at ?_))))
  rw [hpass]
  refine wpAny_pure (wpAny_bind (ia.type.at (wpAny_bind ((W.looks_findIn KI hf).at (wpAny_bind (lt.at ?_))))))
  show wpAny _ _ (storeInOwnDict (.ref x) (.ref C) (.str name tk) name v false) _ _ _
  obtain ⟨nm, bs, mro, ns, qn, hd, sn, sb, ab, col, del⟩ := cd
  dsimp only at hh
  subst hh
  unfold storeInOwnDict ownDictForStores
  repeat (first
    | with_reducible refine PySem.HandSPX.store_in_new ?_ ?_
    | with_reducible refine wpAny_loadPart_at hx ?_
    | with_reducible refine lc.at ?_
    | wp_step)
  · exact ⟨_, #[], _, (Heap.get?_update_ne _ _ _ _ hxs.symm).trans (Heap.get?_push_at rfl rfl), rfl, fun e he => absurd he (by simp), fun _ => rfl⟩
  · intro z' tk' hn' hs
    have hx2 : (z.push { cls := .type "dict", data := .dict #[] }).get? x = some { cls := .ref C, data := .fields fv } := Heap.get?_push_of_some _ hx
    refine hq z' tk' z.objs.size (fun c o hc ho => ?_) (Nat.le_refl _) hxs.symm ?_ hn'
    · exact (hs.2 c (Nat.ne_of_lt (Heap.lt_size ho))).trans ((Heap.get?_update_ne _ _ _ _ hc).trans (Heap.get?_push_of_some _ ho))
    · exact (hs.2 x hxs).trans (Heap.get?_update_self _ hx2 rfl)
end
end MI
set_option maxHeartbeats 2000000
/-! MI, exceptions 3: own classes with one field, made and raised, or made and kept. -/
namespace MI
open PySem PySem.Spec PyProof.Rows L2
section
variable {X : Cx} {pins : List (Addr × Obj)} {σ : L2.St} {H : Hp} {s : Shared} {a C dx : Addr} {f : Str} {y : V} {u : Value} {b : XB} {E : Value → Shared → Prop} {A : Around}
/-- self.f = y, the first one -/
theorem ost_x {Q : Unit → Shared → Prop} (T : OexG X.K C b) (I : Inv X pins σ H s) (e : H a = some (exo a C none)) (hno : PySem.W.findIn X.K (.ref C) f = some none) (ry : RelV y u)
    (h : ∀ dx s', H dx = none → dx ≠ a → Inv X pins σ (upd (upd H dx (exd dx [(f, y)])) a (exo a C (some dx))) s' → Q () s') : wpAny (model X.prog X.w) A (setAttr (.ref a) f u) Q E s := by
  obtain ⟨nm, q, N, bs, bm, sn, sub, ab, col, dd, k0, k1, k2, k3, k5, hC, hbm⟩ := T.cls
  have hcl : PySem.W.clsIn X.K C = some { name := nm, bases := bs, mro := .ref C :: bm, ns := N, qualname := q, hasDict := true, slotNames := sn, subclasses := sub, abstract := ab, collection := col, hasDel := false } := by
    unfold PySem.W.clsIn
    rw [hC] <;> rfl
  obtain ⟨t1, ho⟩ := exo_at I.hok e
  obtain ⟨z, g, d, t, os⟩ := s
  refine PySem.W.set_plain I.kIn (ox := { cls := .ref C, dict := none, data := .fields #[.ref t1, .none, .none, .none, .bool false, .none] }) (od := none) ⟨ho, rfl, rfl, trivial⟩ T.sa ?_
  have hpass : refuseLoop (.ref a) "__setattr__" (.ref C :: bm) = pure () := by
    rw [refuseLoop_ref]
    exact refsT_pass hbm _ (T.ok.pass _)
  have hob : (Value.ref C :: bm).contains (.type "object") = true := by
    rw [List.contains_cons, refsT_has hbm, T.ok.obj, Bool.or_true]
  refine osa_x I.kIn ho hcl hpass rfl hob rfl hno (fun z' tk' dx k dn dne hx hn => ?_)
  have hnd : H dx = none := I.hok.fresh dn
  have nd : ∀ {c : Addr} {o : Obj}, z.get? c = some o → c ≠ dx := fun {c o} q => Nat.ne_of_lt (Nat.lt_of_lt_of_le (Heap.lt_size q) dn)
  have na : ∀ {c : Addr}, H c = none → c ≠ a := fun {c} n w => by
    rw [w, e] at n
    cases n
  have un : Un X.fs [] H (upd (upd H dx (exd dx [(f, y)])) a (exo a C (some dx))) z z' := {
    keep := fun c o q n _ _ => k c o (na n) q
    slot := fun c o q n _ _ => ⟨o.slots, k c o (na n) q⟩
    free := fun c o q n _ => by
      rw [upd_ne (na n), upd_ne (nd q)]
      exact n
    there := fun c o q _ => by
      by_cases hc : c = a
      · exact ⟨_, by rw [hc]; exact hx⟩
      · exact ⟨o, k c o hc q⟩
    tups := fun c xs q => by
      rw [upd_ne (at_ne e q exo_tup), upd_ne (ne_of_none q hnd)]
      exact q
    frzs := fun c o v q => by
      rw [upd_ne (at_ne e q exo_frz), upd_ne (ne_of_none q hnd)]
      exact q
    tbls := fun c ps q => ⟨#[], by
      rw [upd_ne (at_ne e q exo_tbl), upd_ne (ne_of_none q hnd), q]
      simp⟩ }
  refine h dx _ hnd dne (I.un (t' := tk') un fun c o q => ?_)
  by_cases hc : c = a
  · subst hc
    rw [upd_same] at q
    cases q
    exact exo_ok hx
  · rw [upd_ne hc] at q
    by_cases hd : c = dx
    · subst hd
      rw [upd_same] at q
      cases q
      exact exd_ok hn (relO_put (fs := []) ry fun g => True.intro)
    · rw [upd_ne hd] at q
      refine (I.hok c o q).stay (fun c' v hc' w => k c' v ?_ w) (fun c' hc' => ?_) (fun c' xs hc' => ?_)
      · rcases hc' with hc' | hc'
        · rw [hc']
          exact hc
        · exact at_ne e hc' exo_own
      · rw [upd_ne (at_ne e hc' exo_own), upd_ne (ne_of_none hc' hnd)]
        exact hc'
      · rw [upd_ne (at_ne e hc' exo_tup), upd_ne (ne_of_none hc' hnd)]
        exact hc'
/-- the base's __init__: nothing of it is told -/
theorem init_x {us : List Value} {Q : Value → Shared → Prop} (T : OexG X.K C b) (I : Inv X pins σ H s) (e : H a = some (exo a C none)) (hl : us.length ≤ sizeLine) (h : ∀ s', Inv X pins σ H s' → Q .none s') :
    wpAny (model X.prog X.w) A (call (.builtin b.ini) (.ref a :: us)) Q E s := by
  obtain ⟨nm, q, N, bs, bm, sn, sub, ab, col, dd, k0, k1, k2, k3, k5, hC, hbm⟩ := T.cls
  obtain ⟨t1, ho⟩ := exo_at I.hok e
  obtain ⟨z, g, d, t, os⟩ := s
  refine wpAny_call (ini_x T.ok hbm (I.kIn _ _ hC) ho hl fun z' t2 k hx => ?_)
  have J := I.write (t' := t) (x := a) (e := a) (o := exo a C none) (by rw [e]; exact True.intro) (.inl rfl) k ⟨_, hx⟩ (exo_ok hx)
  have same : upd H a (exo a C none) = H := by
    funext c
    by_cases hc : c = a
    · rw [hc, upd_same, e]
    · rw [upd_ne hc]
  rw [same] at J
  exact h _ J
end
/-- B.__init__(self, ..) -/
def tIni (K : PySem.W.Frag) (b : XB) (ta : TA) : TE := fun σ H Q => ta σ H fun vs H1 => ∃ (a C : Addr) (ws : List V), vs = .ref a :: ws ∧ ws.length ≤ 1000 ∧ OexG K C b ∧ H1 a = some (exo a C none) ∧ Q .non H1
/-- self.f = e, the first -/
def tOsx (K : PySem.W.Frag) (b : XB) (f : Str) (to te : TE) : TS := fun D σ H => te σ H fun y H1 => to σ H1 fun x H2 => ∃ a C : Addr, x = .ref a ∧ OexG K C b ∧ PySem.W.findIn K (.ref C) f = some none ∧
  H2 a = some (exo a C none) ∧ ∀ dx, H2 dx = none → dx ≠ a → D.nx σ (upd (upd H2 dx (exd dx [(f, y)])) a (exo a C (some dx)))
section
variable {X : Cx} {o e : Expr} {es : List Expr} {to te : TE} {ta : TA} {f : Str} {p p' p1 p2 pos : Pos} {b : XB}
theorem ps_osx (ho : PE X o to) (he : PE X e te) (hs : swapsWith e (some (.Attribute o f p')) pos.line X.env = pure false := by rfl) : PS X (.Assign [.Attribute o f p'] e pos) (tOsx X.K b f to te) := by
  refine ⟨fun pins s σ H D I h => ?_⟩
  refine plainObj_wpAny_Assign_Attribute (thn (he.run pins s σ H _ I h) fun v s1 ⟨y, H1, I1, r1, q1⟩ => thn (ho.run pins s1 σ H1 _ I1 q1) fun u s2 hh => ?_) hs
  obtain ⟨x, H2, I2, r2, a, C, ex, T, hno, ea, q⟩ := hh
  subst ex
  obtain rfl : u = Value.ref a := r2
  exact ost_x T I2 ea hno r1 fun dx s' n ne J => ⟨σ, _, J, q dx n ne⟩
/-- R.__init__(self, ..), R an own class that takes it from the base -/
theorem pe_rini {x : Str} {R : Addr} {mc : Value} (hg : Gl X x) (hm : X.mg x = some (.ref R)) (r : ClX.CRead X.K R mc) (ok : XBOk b) (at_ : PySem.W.findCls X.K (.ref R) mc "__init__" = some (.val (.builtin b.ini))) (ha : PA X (e :: es) ta)
    (hdb : (x == ("__debug__" : Str)) = false) (hline : (p2.endLine == pos.line) = true) (hfew : methodCallForm ((e :: es).length + ([] : List Keyword).length) (backTo pos (starEach (e :: es) X.env)) (backToKw pos (keywordEach [] X.env)) = true)
    (he : starEach (e :: es) X.env = (false, eval e X.env) :: starEach es X.env) (hpl : (backTo pos (starEach es X.env)).any (·.1) = false) :
    PE X (.Call (.Attribute (.Name x p1) "__init__" p2) (e :: es) [] pos) (tIni X.K b ta) := by
  constructor
  intro pins s σ H Q I h
  refine methCall_any (ab_ok fun _ _ _ z => nomatch z) hline hfew (ld_glob I hg hm ?_ hdb)
  intro pl
  refine PySem.W.method_cls I.kIn r.ga (PySem.W.cls_value I.kIn r.rd at_ ok.hand ?_)
  refine PyProof.Rows.callWith_method1 (thn (ha.run pos pins _ σ H _ (I.tok _) h) fun us t ht => ?_) he hpl
  obtain ⟨vs, H1, I1, r1, a, C, ws, rfl, hl, T, ea, q⟩ := ht
  cases r1 with
  | @cons _ u0 _ ur ra rw' =>
    obtain rfl : u0 = Value.ref a := ra
    refine init_x T I1 ea ?_ fun t' J => ⟨.non, H1, J, rfl, q⟩
    rw [← Paired.length rw', sizeLine_eq]
    omega
/-- B.__init__(self, ..), B built in -/
theorem pe_bini {x : Str} (hg : Gl X x) (hm : X.mg x = none) (ex : x = Str.ofString b.B) (hxn : x ≠ "__name__") (ok : XBOk b) (at_ : PySem.W.findCls X.K (.type b.B) (.type "type") "__init__" = some (.val (.builtin b.ini))) (ha : PA X (e :: es) ta)
    (hdb : (x == ("__debug__" : Str)) = false) (hline : (p2.endLine == pos.line) = true) (hfew : methodCallForm ((e :: es).length + ([] : List Keyword).length) (backTo pos (starEach (e :: es) X.env)) (backToKw pos (keywordEach [] X.env)) = true)
    (he : starEach (e :: es) X.env = (false, eval e X.env) :: starEach es X.env) (hpl : (backTo pos (starEach es X.env)).any (·.1) = false) :
    PE X (.Call (.Attribute (.Name x p1) "__init__" p2) (e :: es) [] pos) (tIni X.K b ta) := by
  constructor
  intro pins s σ H Q I h
  refine methCall_any (ab_ok fun _ _ _ z => nomatch z) hline hfew (ld_blt I hg hm (by rw [ex]; exact ok.boot) ?_ hxn hdb)
  intro pl
  obtain ⟨m, fr⟩ := I.fr
  refine PySem.W.method_type fr I.ok.mod.kin ok.typ ok.stub at_ ok.hand ?_
  refine PyProof.Rows.callWith_method1 (thn (ha.run pos pins _ σ H _ (I.tok _) h) fun us t ht => ?_) he hpl
  obtain ⟨vs, H1, I1, r1, a, C, ws, rfl, hl, T, ea, q⟩ := ht
  cases r1 with
  | @cons _ u0 _ ur ra rw' =>
    obtain rfl : u0 = Value.ref a := ra
    refine init_x T I1 ea ?_ fun t' J => ⟨.non, H1, J, rfl, q⟩
    rw [← Paired.length rw', sizeLine_eq]
    omega
end
end MI
set_option maxHeartbeats 4000000
/-! MI, exceptions 6: the rules for the small language's own things. -/
namespace MI
open PySem PySem.Spec PySem.Calls PyProof.Rows L2
section
variable {K : PySem.W.Frag} {L : Lay} {ρ : List Addr} {H : Hp} {hp : Hq}
theorem RelH.xob {i c j : Nat} {a : Addr} (r : RelH K L ρ hp H) (ha : ρ[i]? = some a) (h : gtX hp i = some (c, j)) : ∃ C d, H a = some (kx a C d) ∧ L.exs[c]? = some C ∧ ρ[j]? = some d := by
  obtain ⟨o, u, h1, h2, h3⟩ := r.at2 ha
  unfold gtX at h
  rw [h1] at h
  cases h3 with
  | @xob c' me j' a' C d q1 q2 q3 =>
    simp only at h
    by_cases e : me = i
    · rw [if_pos e] at h
      cases h
      subst e
      rw [ha] at q1
      cases q1
      exact ⟨C, d, h2, q2, q3⟩
    · rw [if_neg e] at h
      cases h
  | _ => cases h
theorem RelH.xo0 {i c : Nat} {a : Addr} (r : RelH K L ρ hp H) (ha : ρ[i]? = some a) (h : gtX0 hp i = some c) : ∃ C, H a = some (kx0 a C) ∧ L.exs[c]? = some C := by
  obtain ⟨o, u, h1, h2, h3⟩ := r.at2 ha
  unfold gtX0 at h
  rw [h1] at h
  cases h3 with
  | @xo0 c' me a' C q1 q2 =>
    simp only at h
    by_cases e : me = i
    · rw [if_pos e] at h
      cases h
      subst e
      rw [ha] at q1
      cases q1
      exact ⟨C, h2, q2⟩
    · rw [if_neg e] at h
      cases h
  | _ => cases h
theorem RelH.xdd {j c : Nat} {d : Addr} {fs : List (Nat × D)} (r : RelH K L ρ hp H) (hd : ρ[j]? = some d) (h : hp[j]? = some (.xd c fs)) : ∃ vs, H d = some (.xd vs) ∧ RFs K L ρ H fs vs := by
  obtain ⟨o, u, h1, h2, h3⟩ := r.at2 hd
  rw [h] at h1
  cases h1
  cases h3 with
  | xd q => exact ⟨_, h2, q⟩
end
section
variable {X : Cx} {pins : List (Addr × Obj)} {σ : L2.St} {H : Hp} {s : Shared} {a C d : Addr} {vs : List (Str × V)}
theorem inst_kept (I : Inv X pins σ H s) (ha : H a = some (kx a C d)) (hd : H d = some (.xd vs)) : ∃ (ob dob : Obj) (mA : Str → Option Value), PySem.W.InstAt s.heap a ob C (some dob) ∧ (∀ name, PySem.W.lookIn name dob = some (mA name)) ∧ ∀ f, RelO (vs.lookup f) (mA f) := by
  obtain ⟨ob, ws, e1, e2, e3⟩ := kx_at I.hok ha
  have y : ObjOk X.prog X.w H s.heap d (.xd vs) := I.hok d _ hd
  obtain ⟨mA, hns, hr⟩ := y
  obtain ⟨dob, ho, hl⟩ := lookIn_ns hns
  refine ⟨ob, dob, mA, ⟨e1, e2.1, ?_, ?_⟩, hl, hr⟩
  · unfold PySem.W.notCls
    rw [e3] <;> rfl
  · rw [e2.2]
    exact ho
end
theorem inst_kept0 {X : Cx} {pins : List (Addr × Obj)} {σ : L2.St} {H : Hp} {s : Shared} {a C : Addr} (I : Inv X pins σ H s) (ha : H a = some (kx0 a C)) : ∃ (ob : Obj), PySem.W.InstAt s.heap a ob C none := by
  obtain ⟨ob, ws, e1, e2, e3⟩ := kx0_at I.hok ha
  refine ⟨ob, e1, e2.1, ?_, ?_⟩
  · unfold PySem.W.notCls
    rw [e3] <;> rfl
  · rw [e2.2]
    trivial
/-- isinstance(e, R), e kept -/
def rIsK (K : PySem.W.Frag) (rv : V) (u : Value) : List V → Hp → VK → Prop := fun xs H Q => ∃ (p C : Addr) (b : Bool), xs = [.ref p, rv] ∧ ((∃ (d : Addr) (vs : List (Str × V)), H p = some (kx p C d) ∧ H d = some (.xd vs)) ∨ H p = some (kx0 p C)) ∧ ExcC K C ∧ PySem.W.kitOne K (.ref C) u = some b ∧ Q (.bl b) H
/-- .. of a tuple -/
def rIsT (K : PySem.W.Frag) (rvs : List V) (us : List Value) : List V → Hp → VK → Prop := fun xs H Q => ∃ (p C t : Addr) (b : Bool), xs = [.ref p, .ref t] ∧ H t = some (.tup rvs) ∧ ((∃ (d : Addr) (vs : List (Str × V)), H p = some (kx p C d) ∧ H d = some (.xd vs)) ∨ H p = some (kx0 p C)) ∧ ExcC K C ∧ PySem.W.kitAny K (.ref C) us = some b ∧ Q (.bl b) H
section
variable {X : Cx} {rv : V} {u : Value} {rvs : List V} {us0 : List Value}
theorem call_isK (hu : ∀ u', RelV rv u' → u' = u) : CallR X (.builtin "isinstance") (rIsK X.K rv u) := by
  intro pins s σ H xs us Q I r h
  obtain ⟨p, C, b, rfl, h12, c, e, q⟩ := h
  cases r with
  | cons rx rr =>
    cases rr with
    | cons rt rr =>
      cases rr
      cases rx
      have et := hu _ rt
      subst et
      rcases h12 with ⟨d, vs, h1, h2⟩ | h1
      · obtain ⟨ob, dob, _, J, _⟩ := inst_kept I h1 h2
        exact PySem.W.kia_one (kit_kept c) I.kIn ⟨ob, dob, J⟩ e (fun z => nomatch z) fun tk => ⟨.bl b, H, I.kept (t' := tk) fun _ _ z => z, rfl, q⟩
      · obtain ⟨ob, J⟩ := inst_kept0 I h1
        exact PySem.W.kia_one (PySem.W.handS_kitx_exc c.hg c.hk c.hs c.hd c.ha c.hn c.ht c.hm) I.kIn J e (fun z => nomatch z) fun tk => ⟨.bl b, H, I.kept (t' := tk) fun _ _ z => z, rfl, q⟩
theorem call_isT (hu : ∀ its, Vals rvs its → its = us0) : CallR X (.builtin "isinstance") (rIsT X.K rvs us0) := by
  intro pins s σ H xs us Q I r h
  obtain ⟨p, C, t, b, rfl, ht, h12, c, e, q⟩ := h
  cases r with
  | cons rx rr =>
    cases rr with
    | cons rt rr =>
      cases rr
      cases rx
      cases rt
      have y : ObjOk X.prog X.w H s.heap t (.tup rvs) := I.hok t _ ht
      obtain ⟨_, its, ri, ot, et, ct, nn, dt⟩ := y
      have hi := hu its ri
      subst hi
      obtain ⟨oc, od, oda, osl⟩ := ot
      have ct : oc = .type "tuple" := ct
      have dt : oda = _ := dt
      subst ct dt
      rcases h12 with ⟨d, vs, h1, h2⟩ | h1
      · obtain ⟨ob, dob, _, J, _⟩ := inst_kept I h1 h2
        exact PySem.W.kia_tup (kit_kept c) I.kIn ⟨ob, dob, J⟩ et e (fun z => nomatch z) fun tk => ⟨.bl b, H, I.kept (t' := tk) fun _ _ z => z, rfl, q⟩
      · obtain ⟨ob, J⟩ := inst_kept0 I h1
        exact PySem.W.kia_tup (PySem.W.handS_kitx_exc c.hg c.hk c.hs c.hd c.ha c.hn c.ht c.hm) I.kIn J et e (fun z => nomatch z) fun tk => ⟨.bl b, H, I.kept (t' := tk) fun _ _ z => z, rfl, q⟩
end
theorem kitAny_cons {K : PySem.W.Frag} {t c : Value} {cs : List Value} {b b2 : Bool} (h : PySem.W.kitOne K t c = some b) (h2 : PySem.W.kitAny K t cs = some b2) : PySem.W.kitAny K t (c :: cs) = some (b || b2) := by
  unfold PySem.W.kitAny
  rw [h]
  cases b with
  | true => rfl
  | false => exact h2
section
variable {S : Nm} {g : Glob} {L : Lay} {n : Nat} {X : Cx} {cl : Cl} {W : WX} {x y : Expr} {a : Ex} {p p2 p3 p4 pos : Pos} {bs bs1 bs2 bs3 : List Bool} {r1 r2 r3 : V} {u1 u2 u3 : Value} {z z2 z3 : Str}
theorem pe_gl (hg : Gl X z) (N : NamesV X.mg z r1 u1) (hdb : (z == ("__debug__" : Str)) = false) : PE X (.Name z p2) (tC r1) := ⟨fun pins s σ H Q I h => by
  rcases N.at_ with hm | ⟨hm, hv, hn⟩
  · exact ld_glob I hg hm ⟨r1, H, I, N.re, h⟩ hdb
  · exact ld_blt I hg hm hv ⟨r1, H, I, N.re, h⟩ hn hdb⟩
theorem s_isx (hm : ClMono cl) (T : TF S g X.prog X.w X.K X.mg X.base L n) (he : ExmAt X.K L u1 bs) (hgl : Gl X "isinstance") (hmg : X.mg "isinstance" = none) (hz : Gl X z) (N : NamesV X.mg z r1 u1) (hzd : (z == ("__debug__" : Str)) = false)
    (ha : PE X y (tE X.K L g cl W a)) (hst : isSub y = false) : PE X (.Call (.Name "isinstance" p) [y, .Name z p2] [] pos) (tE X.K L g cl W (.isx a bs)) := by
  have e1 : starEach [y, .Name z p2] X.env = (false, eval y X.env) :: starEach [.Name z p2] X.env := by cases y <;> first | rfl | cases hst
  have imp : ∀ σ H Q, tE X.K L g cl W (.isx a bs) σ H Q → tCB (rIsK X.K r1 u1) (tCons (tE X.K L g cl W a) (tCons (tC r1) tNil)) σ H Q := fun σ H Q ⟨ρ, hp, env, r, re, h⟩ => by
    unfold wE at h
    refine ⟨ρ, hp, env, r, re, wE_mono hm a env hp _ _ _ _ (fun d1 hp1 q1 => ?_) (fun _ _ _ z => z) h⟩
    intro ρ1 H1 v1 x1 ra d1r
    cases d1r with
    | @ref i q hs =>
      unfold oIsX at q1
      cases e : gtX hp1 i with
      | none =>
        simp only [e] at q1
        cases e2 : gtX0 hp1 i with
        | none => simp only [e2] at q1; exact q1.elim
        | some c =>
          simp only [e2] at q1
          obtain ⟨C, k1, k2⟩ := ra.xo0 hs e2
          cases hb : bs[c]? with
          | none => simp only [hb] at q1; exact q1.elim
          | some b =>
            simp only [hb] at q1
            exact ⟨q, C, b, rfl, .inr k1, (T.exf c C k2).c, (he c C b k2 hb).2, q1 ρ1 H1 _ x1 ra (.bl b)⟩
      | some cj =>
        obtain ⟨c, j⟩ := cj
        simp only [e] at q1
        obtain ⟨C, d, k1, k2, k3⟩ := ra.xob hs e
        split at q1
        · rename_i c' fs b hj hb
          obtain ⟨vs, k4, _⟩ := ra.xdd k3 hj
          exact ⟨q, C, b, rfl, .inl ⟨d, vs, k1, k4⟩, (T.exf c C k2).c, (he c C b k2 hb).2, q1 ρ1 H1 _ x1 ra (.bl b)⟩
        · exact q1.elim
    | _ => exact q1.elim
  exact PE.imp (pe_callB (call_isK N.un) hgl hmg (show bootBuiltins "isinstance" = some (.builtin "isinstance") by decide +kernel) (pa_cons ha (pa_cons (pe_gl hz N hzd) pa_nil) e1) (by decide) (by decide) e1 rfl) imp
/-- .. of a tuple of names, read by t -/
theorem s_isxT (hm : ClMono cl) (T : TF S g X.prog X.w X.K X.mg X.base L n) {es : List Expr} {rvs : List V} {us : List Value} {t : TA} (hu : ∀ its, Vals rvs its → its = us) (hes : PA X es t) (htp : ∀ σ H Q, Q rvs H → t σ H Q) (hl : rvs.length ≤ 100)
    (he : ∀ (c : Nat) (C : Addr) (b : Bool), L.exs[c]? = some C → bs[c]? = some b → PySem.W.kitAny X.K (.ref C) us = some b) (hgl : Gl X "isinstance") (hmg : X.mg "isinstance" = none)
    (ha : PE X y (tE X.K L g cl W a)) (hst : isSub y = false) {kt : Nat} {pt : Pos} : PE X (.Call (.Name "isinstance" p) [y, .Tuple es kt pt] [] pos) (tE X.K L g cl W (.isx a bs)) := by
  have e1 : starEach [y, .Tuple es kt pt] X.env = (false, eval y X.env) :: starEach [.Tuple es kt pt] X.env := by cases y <;> first | rfl | cases hst
  have imp : ∀ σ H Q, tE X.K L g cl W (.isx a bs) σ H Q → tCB (rIsT X.K rvs us) (tCons (tE X.K L g cl W a) (tCons (tTup t) tNil)) σ H Q := fun σ H Q ⟨ρ, hp, env, r, re, h⟩ => by
    unfold wE at h
    refine ⟨ρ, hp, env, r, re, wE_mono hm a env hp _ _ _ _ (fun d1 hp1 q1 => ?_) (fun _ _ _ z => z) h⟩
    intro ρ1 H1 v1 x1 ra d1r
    cases d1r with
    | @ref i q hs =>
      unfold oIsX at q1
      cases e : gtX hp1 i with
      | none =>
        simp only [e] at q1
        cases e2 : gtX0 hp1 i with
        | none => simp only [e2] at q1; exact q1.elim
        | some c =>
          simp only [e2] at q1
          obtain ⟨C, k1, k2⟩ := ra.xo0 hs e2
          cases hb : bs[c]? with
          | none => simp only [hb] at q1; exact q1.elim
          | some b =>
            simp only [hb] at q1
            refine htp _ _ _ ⟨by rw [sizeLine_eq]; omega, fun w hw => ?_⟩
            obtain ⟨rb, x2⟩ := ra.tmp (u := .tup rvs) hw
            exact ⟨q, C, w, b, rfl, upd_same, .inr (by rw [upd_ne (ne_of_none k1 hw)]; exact k1), (T.exf c C k2).c, he c C b k2 hb, q1 _ _ _ (x1.trans x2) rb (.bl _)⟩
      | some cj =>
        obtain ⟨c, j⟩ := cj
        simp only [e] at q1
        obtain ⟨C, d, k1, k2, k3⟩ := ra.xob hs e
        split at q1
        · rename_i c' fs b hj hb
          obtain ⟨vs, k4, _⟩ := ra.xdd k3 hj
          refine htp _ _ _ ⟨by rw [sizeLine_eq]; omega, fun w hw => ?_⟩
          obtain ⟨rb, x2⟩ := ra.tmp (u := .tup rvs) hw
          exact ⟨q, C, w, b, rfl, upd_same, .inl ⟨d, vs, by rw [upd_ne (ne_of_none k1 hw)]; exact k1, by rw [upd_ne (ne_of_none k4 hw)]; exact k4⟩, (T.exf c C k2).c, he c C b k2 hb, q1 _ _ _ (x1.trans x2) rb (.bl _)⟩
        · exact q1.elim
    | _ => exact q1.elim
  exact PE.imp (pe_callB (call_isT hu) hgl hmg (show bootBuiltins "isinstance" = some (.builtin "isinstance") by decide +kernel) (pa_cons ha (pa_cons (pe_tup hes) pa_nil) e1) (by decide) (by decide) e1 rfl) imp
theorem zw_some {c : Nat} {b : Bool} (h : (List.zipWith (· || ·) bs1 bs2)[c]? = some b) : ∃ b1 b2, bs1[c]? = some b1 ∧ bs2[c]? = some b2 ∧ b = (b1 || b2) := by
  rw [List.getElem?_zipWith] at h
  cases e1 : bs1[c]? with
  | none => rw [e1] at h; cases h
  | some v1 =>
    cases e2 : bs2[c]? with
    | none => rw [e1, e2] at h; cases h
    | some v2 =>
      rw [e1, e2] at h
      cases h
      exact ⟨v1, v2, rfl, rfl, rfl⟩
theorem s_isx2 (hm : ClMono cl) (T : TF S g X.prog X.w X.K X.mg X.base L n) (he : ExmAt X.K L u1 bs1) (he2 : ExmAt X.K L u2 bs2) (hbs : bs = List.zipWith (· || ·) bs1 bs2) (hgl : Gl X "isinstance") (hmg : X.mg "isinstance" = none)
    (hz : Gl X z) (N : NamesV X.mg z r1 u1) (hzd : (z == ("__debug__" : Str)) = false) (hz2 : Gl X z2) (N2 : NamesV X.mg z2 r2 u2) (hzd2 : (z2 == ("__debug__" : Str)) = false)
    (ha : PE X y (tE X.K L g cl W a)) (hst : isSub y = false) {kt : Nat} {pt : Pos} : PE X (.Call (.Name "isinstance" p) [y, .Tuple [.Name z p2, .Name z2 p3] kt pt] [] pos) (tE X.K L g cl W (.isx a bs)) := by
  refine s_isxT hm T (rvs := [r1, r2]) (us := [u1, u2]) (fun its hv => ?_) (pa_cons (pe_gl hz N hzd) (pa_cons (pe_gl hz2 N2 hzd2) pa_nil)) (fun σ H Q q => q) (show 2 ≤ 100 by decide) (fun c C b h1 h2 => ?_) hgl hmg ha hst
  · cases hv with
    | cons q1 t =>
      cases t with
      | cons q2 t =>
        cases t
        rw [N.un _ q1, N2.un _ q2]
  · rw [hbs] at h2
    obtain ⟨b1, b2, k1, k2, rfl⟩ := zw_some h2
    have := kitAny_cons (he c C b1 h1 k1).2 (kitAny_cons (he2 c C b2 h1 k2).2 (show PySem.W.kitAny X.K (.ref C) [] = some false from rfl))
    rwa [Bool.or_false] at this
theorem s_isx3 (hm : ClMono cl) (T : TF S g X.prog X.w X.K X.mg X.base L n) (he : ExmAt X.K L u1 bs1) (he2 : ExmAt X.K L u2 bs2) (he3 : ExmAt X.K L u3 bs3) (hbs : bs = List.zipWith (· || ·) bs1 (List.zipWith (· || ·) bs2 bs3)) (hgl : Gl X "isinstance") (hmg : X.mg "isinstance" = none)
    (hz : Gl X z) (N : NamesV X.mg z r1 u1) (hzd : (z == ("__debug__" : Str)) = false) (hz2 : Gl X z2) (N2 : NamesV X.mg z2 r2 u2) (hzd2 : (z2 == ("__debug__" : Str)) = false) (hz3 : Gl X z3) (N3 : NamesV X.mg z3 r3 u3) (hzd3 : (z3 == ("__debug__" : Str)) = false)
    (ha : PE X y (tE X.K L g cl W a)) (hst : isSub y = false) {kt : Nat} {pt : Pos} : PE X (.Call (.Name "isinstance" p) [y, .Tuple [.Name z p2, .Name z2 p3, .Name z3 p4] kt pt] [] pos) (tE X.K L g cl W (.isx a bs)) := by
  refine s_isxT hm T (rvs := [r1, r2, r3]) (us := [u1, u2, u3]) (fun its hv => ?_) (pa_cons (pe_gl hz N hzd) (pa_cons (pe_gl hz2 N2 hzd2) (pa_cons (pe_gl hz3 N3 hzd3) pa_nil))) (fun σ H Q q => q) (show 3 ≤ 100 by decide) (fun c C b h1 h2 => ?_) hgl hmg ha hst
  · cases hv with
    | cons q1 t =>
      cases t with
      | cons q2 t =>
        cases t with
        | cons q3 t =>
          cases t
          rw [N.un _ q1, N2.un _ q2, N3.un _ q3]
  · rw [hbs] at h2
    obtain ⟨b1, b2, k1, k2, rfl⟩ := zw_some h2
    obtain ⟨b3, b4, k3, k4, rfl⟩ := zw_some k2
    have := kitAny_cons (he c C b1 h1 k1).2 (kitAny_cons (he2 c C b3 h1 k3).2 (kitAny_cons (he3 c C b4 h1 k4).2 (show PySem.W.kitAny X.K (.ref C) [] = some false from rfl)))
    rwa [Bool.or_false] at this
theorem s_xfd (hm : ClMono cl) (T : TF S g X.prog X.w X.K X.mg X.base L n) {f : Nat} {nm : Str} (hf : S.attrs[f]? = some nm) (ha : PE X y (tE X.K L g cl W a)) (hb : attributeBase y nm X.env (eval y X.env) = eval y X.env) : PE X (.Attribute y nm pos) (tE X.K L g cl W (.xfd a f)) := by
  constructor
  intro pins s σ H Q I ⟨ρ, hp, env, r, re, h⟩
  unfold wE at h
  refine attr_of hb (thn (ha.run pins s σ H (fun v1 H1 => ∃ (p C d : Addr) (vs : List (Str × V)) (v : V), v1 = .ref p ∧ H1 p = some (kx p C d) ∧ H1 d = some (.xd vs) ∧ ExF X.K S.attrs C ∧ vs.lookup nm = some v ∧ Q v H1) I ⟨ρ, hp, env, r, re, wE_mono hm a env hp _ _ _ _ (fun d1 hp1 q1 => ?_) (fun _ _ _ z => z) h⟩) fun u s1 hh => ?_)
  · intro ρ1 H1 v1 x1 r1 d1r
    cases d1r with
    | @ref i q hs =>
      unfold oXF at q1
      cases e : gtX hp1 i with
      | none => simp only [e] at q1; exact q1.elim
      | some cj =>
        obtain ⟨c, j⟩ := cj
        simp only [e] at q1
        obtain ⟨C, d, k1, k2, k3⟩ := r1.xob hs e
        split at q1
        · rename_i c' f' d' hj
          obtain ⟨vs, k4, k5⟩ := r1.xdd k3 hj
          by_cases ef : f' = f
          · rw [if_pos ef] at q1
            subst ef
            cases k5 with
            | @cons _ pv _ vs' k6 k7 =>
              cases k7
              obtain ⟨nm', v'⟩ := pv
              have hn : nm' = nm := by
                have z1 := k6.1
                rw [T.att.1, hf] at z1
                exact (Option.some.inj z1).symm
              subst hn
              exact ⟨q, C, d, _, v', rfl, k1, k4, T.exf c C k2, by simp [List.lookup], q1 ρ1 H1 _ x1 r1 k6.2⟩
          · rw [if_neg ef] at q1; exact q1.elim
        · exact q1.elim
    | _ => exact q1.elim
  · obtain ⟨v1, H1, I1, rx, q, C, d, vs, v, rfl, k1, k2, F, lk, qq⟩ := hh
    obtain rfl : u = Value.ref q := rx
    obtain ⟨ob, dob, mA, J, hl, hr⟩ := inst_kept I1 k1 k2
    have hv := hr nm
    rw [lk] at hv
    obtain ⟨u, hu, ru⟩ := RelO.some_of (v := v) (o := mA nm) hv
    exact HandSPX.exc_get I1.kIn J F.f.ga F.f.gg F.f.exC (PySem.W.findObj_own F.f.hdC (F.no nm (List.mem_of_getElem? hf)) rfl (by rw [hl, hu])) (handed_of ru) ⟨v, H1, I1.tok _, ru, qq⟩
end
end MI
set_option maxHeartbeats 4000000
/-! MI, exceptions: C(x) in a raise, or as a value. -/
namespace MI
open PySem PySem.Spec PyProof.Rows L2
section
variable {X : Cx} {pins : List (Addr × Obj)} {σ : L2.St} {H : Hp} {s : Shared} {a C d : Addr} {fs : List (Str × V)}
theorem kx_own {e C d x : Addr} : kx e C d ≠ .own x := fun z => by
  have z' : HO.ext _ = HO.own x := z
  cases z'
/-- an exception that is made is told anew as a kept one -/
theorem retag (I : Inv X pins σ H s) (ha : H a = some (exo a C (some d))) (hd : H d = some (exd d fs)) (ne : d ≠ a) : Inv X pins σ (upd (upd H d (.xd fs)) a (kx a C d)) s := by
  have un : Un X.fs [] H (upd (upd H d (.xd fs)) a (kx a C d)) s.heap s.heap := {
    keep := fun c o q n _ _ => q
    slot := fun c o q n _ _ => ⟨o.slots, q⟩
    free := fun c o q n _ => by
      rw [upd_ne (fun z => by rw [z, ha] at n; cases n), upd_ne (fun z => by rw [z, hd] at n; cases n)]
      exact n
    there := fun c o q _ => ⟨o, q⟩
    tups := fun c xs q => by
      rw [upd_ne (at_ne ha q exo_tup), upd_ne (at_ne hd q exd_tup)]
      exact q
    frzs := fun c o v q => by
      rw [upd_ne (at_ne ha q exo_frz), upd_ne (at_ne hd q (fun z => by have z' : HO.ext _ = HO.frz o v := z; cases z'))]
      exact q
    tbls := fun c ps q => ⟨#[], by
      rw [upd_ne (at_ne ha q exo_tbl), upd_ne (at_ne hd q (fun z => by have z' : HO.ext _ = HO.tbl ps := z; cases z')), q]
      simp⟩ }
  have J := I.un (t' := s.toks) un fun c o q => ?_
  · exact J
  · by_cases hc : c = a
    · subst hc
      rw [upd_same] at q
      cases q
      obtain ⟨t1, ho⟩ := exo_at I.hok ha
      exact kx_ok ho ⟨rfl, rfl⟩ rfl
    · rw [upd_ne hc] at q
      by_cases hd' : c = d
      · subst hd'
        rw [upd_same] at q
        cases q
        exact exd_at I.hok hd
      · rw [upd_ne hd'] at q
        refine (I.hok c o q).stay (fun _ _ _ z => z) (fun c' z => ?_) (fun c' xs z => ?_)
        · rw [upd_ne (at_ne ha z exo_own), upd_ne (at_ne hd z exd_own)]
          exact z
        · rw [upd_ne (at_ne ha z exo_tup), upd_ne (at_ne hd z exd_tup)]
          exact z
end
/-- C(e, ..), kept -/
def tMkX (C : Addr) (sp : Sp) (ta : TA) : TE := fun σ H Q => ta σ H fun vs H1 => vs.length ≤ 1000 ∧ ∀ a, H1 a = none → sp (.ref a :: vs) (upd H1 a (exo a C none))
  (fun v H2 => v = .non ∧ ∃ (d : Addr) (fs : List (Str × V)), H2 a = some (exo a C (some d)) ∧ H2 d = some (exd d fs) ∧ d ≠ a ∧ Q (.ref a) (upd (upd H2 d (.xd fs)) a (kx a C d))) (fun _ _ _ => False)
section
variable {X : Cx} {e : Expr} {es : List Expr} {ta : TA} {p pos : Pos} {b : XB} {CX : CXT} {x : Str} {C fI : Addr} {k : Nat} {fd : FuncData} {ps : List Str} {sp : Sp}
theorem pmk_x (T : OexG X.K C b) (iC : PySem.W.findIn X.K (.ref C) "__init__" = some (some (.ref fI))) (tI : PySem.W.typeIn X.K (.ref fI) = some (.type "function"))
    (F1 : FnOk X.prog X.w X.K X.mg X.base CX k fI fd ps sp) (hr : Room (k + 1) X.A) (hb : Binds X.K fd ps []) (hx : Passes CX X (fun _ _ _ => False)) (hg : Gl X x) (hm : X.mg x = some (.ref C)) (ha : PA X (e :: es) ta)
    (hdb : (x == ("__debug__" : Str)) = false) (he : starEach (e :: es) X.env = (false, eval e X.env) :: starEach es X.env) (hpl : (backTo pos (starEach es X.env)).any (·.1) = false) :
    PMk X (.Call (.Name x p) (e :: es) [] pos) (tMkO C sp [] ta) := by
  intro pins s σ H Q I h
  obtain ⟨nm, q, N, bs, bm, sn, sub, ab, col, dd, k0, k1, k2, k3, k5, hC, hbm⟩ := T.cls
  refine wpAny_Call_Name_kw (ld_glob I hg hm ?_ hdb)
  refine PySem.W.callWith_K (h₀ := X.base) I.ok.mod.kin T.kC (thn (ha.run pos pins s σ H _ I h) fun us s1 hh => ?_) he hpl
  obtain ⟨vs, H1, I1, r1, hz, q1⟩ := hh
  refine ⟨I1.kIn, ?_⟩
  show wpAny _ _ (call (.ref C) us) _ _ _
  obtain ⟨z, g, dr, tk, os⟩ := s1
  have hsz : z.objs.size ≤ z.objs.size + 1 := Nat.le_succ _
  have hn : H1 (z.objs.size + 1) = none := I1.hok.fresh hsz
  have hq := q1 (z.objs.size + 1) hn
  rw [List.append_nil] at hq
  have kk : ∀ c o, z.get? c = some o → ((z.push (PySem.W.kdv_tup us)).push (PySem.HandSPX.excO C z.objs.size)).get? c = some o := fun c o e => Heap.get?_push_of_some _ (Heap.get?_push_of_some _ e)
  have hget : ((z.push (PySem.W.kdv_tup us)).push (PySem.HandSPX.excO C z.objs.size)).get? (z.objs.size + 1) = some (PySem.HandSPX.excO C z.objs.size) := by heap_get
  have I2 : Inv X pins σ (upd H1 (z.objs.size + 1) (exo (z.objs.size + 1) C none)) ⟨(z.push (PySem.W.kdv_tup us)).push (PySem.HandSPX.excO C z.objs.size), g, dr, tk, os⟩ :=
    I1.laid (t' := tk) (a := z.objs.size + 1) (o := exo (z.objs.size + 1) C none) (h' := (z.push (PySem.W.kdv_tup us)).push (PySem.HandSPX.excO C z.objs.size)) kk hsz (exo_ok hget)
  have r2 : Vals (V.ref (z.objs.size + 1) :: vs) (Value.ref (z.objs.size + 1) :: us) := .cons rfl r1
  have hl : (Value.ref (z.objs.size + 1) :: us ++ []).length = ps.length := by
    have e := r2.length
    rw [F1.len _ _ _ _ hq] at e
    rw [List.append_nil]
    exact e.symm
  have hus : us.length ≤ sizeLine := by
    rw [← Paired.length r1, sizeLine_eq]
    omega
  have hbb := hb _ (Value.ref (z.objs.size + 1) :: us) I2.kIn hl
  rw [List.append_nil] at hbb
  refine wpAny_call (call_x T.ok hbm (I1.kIn _ _ hC) (PySem.W.looks_findIn I1.kIn iC) (fun self => PySem.W.bind_fn I1.kIn self tI) hus
    (codeAny_mono (F1.run _ X.stack _ _ ⟨Value.ref (z.objs.size + 1) :: us, []⟩ (Value.ref (z.objs.size + 1) :: us) _ _ (fun _ _ _ => False) (hr.make C us []) (I2.env0.make C us []) hbb r2 hq) fun r s' hq' => ?_))
  cases r with
  | error er => exact hx pins σ _ _ er s' I2 hq'
  | ok fl =>
    cases fl with
    | ret u =>
      obtain ⟨v, H2, os2, bare2, un2, hok2, rv, ev, d, fs, ea, ed, hd1, q2⟩ := hq'
      subst ev
      obtain ⟨h2, g2, d2, t2, os'⟩ := s'
      exact ⟨rv, mk_end (raises_own T.exC T.tyC) I1 hsz kk un2 hok2 os2 bare2 ea ed hd1 q2⟩
    | next => exact False.elim hq'
    | brk => exact False.elim hq'
    | cont => exact False.elim hq'
/-- C(e, ..) as a value -/
theorem pe_mkx (T : OexG X.K C b) (iC : PySem.W.findIn X.K (.ref C) "__init__" = some (some (.ref fI))) (tI : PySem.W.typeIn X.K (.ref fI) = some (.type "function"))
    (F1 : FnOk X.prog X.w X.K X.mg X.base CX k fI fd ps sp) (hr : Room (k + 1) X.A) (hb : Binds X.K fd ps []) (hx : Passes CX X (fun _ _ _ => False)) (hg : Gl X x) (hm : X.mg x = some (.ref C)) (ha : PA X (e :: es) ta)
    (hdb : (x == ("__debug__" : Str)) = false) (he : starEach (e :: es) X.env = (false, eval e X.env) :: starEach es X.env) (hpl : (backTo pos (starEach es X.env)).any (·.1) = false) :
    PE X (.Call (.Name x p) (e :: es) [] pos) (tMkX C sp ta) := by
  constructor
  intro pins s σ H Q I h
  obtain ⟨nm, q, N, bs, bm, sn, sub, ab, col, dd, k0, k1, k2, k3, k5, hC, hbm⟩ := T.cls
  refine wpAny_Call_Name_kw (ld_glob I hg hm ?_ hdb)
  refine PySem.W.callWith_K (h₀ := X.base) I.ok.mod.kin T.kC (thn (ha.run pos pins s σ H _ I h) fun us s1 hh => ?_) he hpl
  obtain ⟨vs, H1, I1, r1, hz, q1⟩ := hh
  refine ⟨I1.kIn, ?_⟩
  show wpAny _ _ (call (.ref C) us) _ _ _
  obtain ⟨z, g, dr, tk, os⟩ := s1
  have hsz : z.objs.size ≤ z.objs.size + 1 := Nat.le_succ _
  have hn : H1 (z.objs.size + 1) = none := I1.hok.fresh hsz
  have hq := q1 (z.objs.size + 1) hn
  have kk : ∀ c o, z.get? c = some o → ((z.push (PySem.W.kdv_tup us)).push (PySem.HandSPX.excO C z.objs.size)).get? c = some o := fun c o e => Heap.get?_push_of_some _ (Heap.get?_push_of_some _ e)
  have hget : ((z.push (PySem.W.kdv_tup us)).push (PySem.HandSPX.excO C z.objs.size)).get? (z.objs.size + 1) = some (PySem.HandSPX.excO C z.objs.size) := by heap_get
  have I2 : Inv X pins σ (upd H1 (z.objs.size + 1) (exo (z.objs.size + 1) C none)) ⟨(z.push (PySem.W.kdv_tup us)).push (PySem.HandSPX.excO C z.objs.size), g, dr, tk, os⟩ :=
    I1.laid (t' := tk) (a := z.objs.size + 1) (o := exo (z.objs.size + 1) C none) (h' := (z.push (PySem.W.kdv_tup us)).push (PySem.HandSPX.excO C z.objs.size)) kk hsz (exo_ok hget)
  have r2 : Vals (V.ref (z.objs.size + 1) :: vs) (Value.ref (z.objs.size + 1) :: us) := .cons rfl r1
  have hl : (Value.ref (z.objs.size + 1) :: us ++ []).length = ps.length := by
    have e := r2.length
    rw [F1.len _ _ _ _ hq] at e
    rw [List.append_nil]
    exact e.symm
  have hus : us.length ≤ sizeLine := by
    rw [← Paired.length r1, sizeLine_eq]
    omega
  have hbb := hb _ (Value.ref (z.objs.size + 1) :: us) I2.kIn hl
  rw [List.append_nil] at hbb
  refine wpAny_call (call_x T.ok hbm (I1.kIn _ _ hC) (PySem.W.looks_findIn I1.kIn iC) (fun self => PySem.W.bind_fn I1.kIn self tI) hus
    (codeAny_mono (F1.run _ X.stack _ _ ⟨Value.ref (z.objs.size + 1) :: us, []⟩ (Value.ref (z.objs.size + 1) :: us) _ _ (fun _ _ _ => False) (hr.make C us []) (I2.env0.make C us []) hbb r2 hq) fun r s' hq' => ?_))
  cases r with
  | error er => exact hx pins σ _ _ er s' I2 hq'
  | ok fl =>
    cases fl with
    | ret u =>
      obtain ⟨v, H2, os2, bare2, un2, hok2, rv, ev, d, fs, ea, ed, ne, q2⟩ := hq'
      subst ev
      have I3 := I2.call' (ch := []) os2 un2 hok2 bare2 (fun b z => absurd z (by simp))
      exact ⟨rv, .ref (z.objs.size + 1), _, retag I3 ea ed ne, rfl, q2⟩
    | next => exact False.elim hq'
    | brk => exact False.elim hq'
    | cont => exact False.elim hq'
/-- C(), a class without own __init__ -/
def tMk0 (C : Addr) : TE := fun σ H Q => ∀ a, H a = none → Q (.ref a) (upd H a (kx0 a C))
theorem pe_mk0 (T : Oex0 X.K C b) (hg : Gl X x) (hm : X.mg x = some (.ref C)) (hdb : (x == ("__debug__" : Str)) = false) (hbase : b.ntl = b.tl) : PE X (.Call (.Name x p) [] [] pos) (tMk0 C) := by
  constructor
  intro pins s σ H Q I h
  refine wpAny_Call_Name_kw (ld_glob I hg hm ?_ hdb)
  refine PySem.W.callWith_K0 I.kIn T.kC ?_
  show wpAny _ _ (call (.ref C) []) _ _ _
  obtain ⟨z, g, dr, tk, os⟩ := s
  obtain ⟨bm, N, nm, qn, bs, hdct, sn, sub, ab, col, dd, k0, k1, k2, k3, k5, mN, hC, hN, hni, T2⟩ := exc_obj I.kIn T.cls
  have F0 := T.ok.base
  rw [hbase] at F0
  refine wpAny_call_exc_subT F0 T2 hC hN hni (fun h' e hm => ?_) (by show 0 ≤ sizeLine; rw [sizeLine_eq]; omega)
  obtain ⟨t, he, _, _⟩ := hm.there
  have hn : H e = none := I.hok.gone hm.new
  refine ⟨.ref e, _, I.laidN (t' := tk) (a := e) (o := kx0 e C) hm.keeps hm.new hn (kx0_ok he ⟨rfl, rfl⟩ rfl), rfl, h e hn⟩
end
end MI
set_option maxHeartbeats 4000000
/-! MI, exceptions 7: raise, try. -/
namespace MI
open PySem PySem.Spec PySem.Calls PyProof.Rows L2
section
variable {S : Nm} {g : Glob} {L : Lay} {n : Nat} {X : Cx} {cl : Cl} {W : WX} {x : Str} {y : Expr} {a : Ex} {p pos rpos : Pos}
theorem RE.setN {K : PySem.W.Frag} {ρ : List Addr} {H : Hp} {env : Env} {σ : L2.St} (h : RE K L ρ H env σ) (i : Nat) : RE K L ρ H (env.set i none) (σ.set i none) := h.wipe [i]
/-- a new thing that may tell of its own place -/
theorem RelH.pushN {K : PySem.W.Frag} {ρ : List Addr} {H : Hp} {hp : Hq} {p : Addr} {o : O} {u : HO} (r : RelH K L ρ hp H) (hn : H p = none) (q : RHO K L (ρ ++ [p]) (upd H p u) o u) : RelH K L (ρ ++ [p]) (hp ++ [o]) (upd H p u) ∧ Ext ρ H (ρ ++ [p]) (upd H p u) := by
  have e : Ext ρ H (ρ ++ [p]) (upd H p u) := by
    refine ⟨⟨[p], rfl⟩, fun a ha => ?_, fun a o' h _ => ?_, fun a o' h _ => ?_, fun a o' k h => ?_⟩
    · rcases List.mem_append.mp ha with h | h
      · exact .inl h
      · have : a = p := by simpa using h
        subst this
        exact .inr hn
    · rw [upd_ne (ne_of_none h hn)]; exact h
    · rw [upd_ne (ne_of_none h hn)]; exact h
    · rw [upd_ne (ne_of_none h hn)]; exact h
  refine ⟨⟨?_, by simp [r.len], fun i o' h => ?_⟩, e⟩
  · rw [List.nodup_append]
    refine ⟨r.nd, by simp, fun a ha b hb => ?_⟩
    have : b = p := by simpa using hb
    subst this
    exact fun z => r.notin hn (z ▸ ha)
  · by_cases hi : i < hp.length
    · rw [List.getElem?_append_left hi] at h
      obtain ⟨a, u', h1, h2, h3⟩ := r.at_ i o' h
      exact ⟨a, u', e.ix h1, by rw [upd_ne (ne_of_none h2 hn)]; exact h2, h3.mono e⟩
    · have hl : i < (hp ++ [o]).length := (List.getElem?_eq_some_iff.mp h).1
      have hi2 : i = hp.length := by
        rw [List.length_append, List.length_singleton] at hl
        omega
      subst hi2
      rw [List.getElem?_append_right (Nat.le_refl _)] at h
      have : o = o' := by simpa using h
      subst this
      refine ⟨p, u, ?_, upd_same, q⟩
      rw [← r.len, List.getElem?_append_right (Nat.le_refl _)]
      simp
theorem s_raise (hm : ClMono cl) (T : TF S g X.prog X.w X.K X.mg X.base L n) (hr : Room 2 X.A) (hc : X.calm = true) (tk : Takes X W) {k f : Nat} (hk : S.excN[k]? = some (x, f)) (hg : Gl X x) (hdb : (x == ("__debug__" : Str)) = false)
    (ha : PE X y (tE X.K L g cl W a)) (hst : isSub y = false) : PS X (.Raise (some (.Call (.Name x p) [y] [] pos)) none rpos) (tS X.K L g cl W (.raise k f a)) := by
  obtain ⟨C, nm, h1, h2, h3, fI, fd, ps, xb, h4, h5, h6, h7, h8⟩ := T.exc k x f hk
  have e1 : starEach [y] X.env = (false, eval y X.env) :: starEach [] X.env := by cases y <;> first | rfl | cases hst
  refine PS.imp (ps_raise hc tk (pmk_x h4 h5 h6 h8 hr h7 passL hg h2 (pa_cons ha pa_nil e1) hdb e1 rfl)) fun D σ H ⟨ρ, hp, env, r, re, h⟩ => ?_
  unfold wS at h
  refine ⟨ρ, hp, env, r, re, wE_mono hm a env hp _ _ _ _ (fun d1 hp1 q1 => ?_) (fun c i hp1 z => KSt.kx re (Ext.refl _ _) z) h⟩
  intro ρ1 H1 v1 x1 r1 d1r
  refine ⟨show 1 ≤ 1000 by decide, fun o hn => ⟨o, v1, rfl, upd_same, fun dx nx ne => ⟨rfl, dx, [(nm, v1)], upd_same, ?_, ?_, ?_⟩⟩⟩
  · rw [upd_ne ne, upd_same]
  · rw [upd_ne ne] at nx
    exact nx
  · have nx1 : H1 dx = none := by
      rw [upd_ne ne] at nx
      exact nx
    have eH : upd (del (upd (upd (upd H1 o (exo o C none)) dx (exd dx [(nm, v1)])) o (exo o C (some dx))) o) dx (.xd [(nm, v1)]) = upd H1 dx (.xd [(nm, v1)]) := by
      funext b
      by_cases hb : b = dx
      · rw [hb, upd_same, upd_same]
      · rw [upd_ne hb, upd_ne hb]
        by_cases hb2 : b = o
        · rw [hb2, del_same, hn]
        · rw [del_ne hb2, upd_ne hb2, upd_ne hb, upd_ne hb2]
    rw [eH]
    have fr : RFs X.K L ρ1 H1 [(f, d1)] [(nm, v1)] := .cons ⟨by rw [T.att.1]; exact h3, d1r⟩ .nil
    obtain ⟨r2, x2⟩ := r1.push nx1 (RHO.xd (c := k) fr)
    refine q1 _ _ _ dx C (x1.trans x2) r2 (re.mono (x1.trans x2)) ?_ h1
    rw [← r1.len, List.getElem?_append_right (Nat.le_refl _)]
    simp
theorem s_xnew (hm : ClMono cl) (T : TF S g X.prog X.w X.K X.mg X.base L n) (hr : Room 2 X.A) {k f : Nat} (hk : S.excN[k]? = some (x, f)) (hg : Gl X x) (hdb : (x == ("__debug__" : Str)) = false)
    (ha : PE X y (tE X.K L g cl W a)) (hst : isSub y = false) : PE X (.Call (.Name x p) [y] [] pos) (tE X.K L g cl W (.xnew k f a)) := by
  obtain ⟨C, nm, h1, h2, h3, fI, fd, ps, xb, h4, h5, h6, h7, h8⟩ := T.exc k x f hk
  have e1 : starEach [y] X.env = (false, eval y X.env) :: starEach [] X.env := by cases y <;> first | rfl | cases hst
  refine PE.imp (pe_mkx h4 h5 h6 h8 hr h7 passL hg h2 (pa_cons ha pa_nil e1) hdb e1 rfl) fun σ H Q ⟨ρ, hp, env, r, re, h⟩ => ?_
  unfold wE at h
  refine ⟨ρ, hp, env, r, re, wE_mono hm a env hp _ _ _ _ (fun d1 hp1 q1 => ?_) (fun _ _ _ z => z) h⟩
  intro ρ1 H1 v1 x1 r1 d1r
  refine ⟨show 1 ≤ 1000 by decide, fun o hn => ⟨o, v1, rfl, upd_same, fun dx nx ne => ⟨rfl, dx, [(nm, v1)], upd_same, ?_, ne, ?_⟩⟩⟩
  · rw [upd_ne ne, upd_same]
  · have nx1 : H1 dx = none := by
      rw [upd_ne ne] at nx
      exact nx
    have eH : upd (upd (upd (upd (upd H1 o (exo o C none)) dx (exd dx [(nm, v1)])) o (exo o C (some dx))) dx (.xd [(nm, v1)])) o (kx o C dx) = upd (upd H1 dx (.xd [(nm, v1)])) o (kx o C dx) := by
      funext c
      by_cases hc : c = o
      · rw [hc, upd_same, upd_same]
      · rw [upd_ne hc, upd_ne hc]
        by_cases hd : c = dx
        · rw [hd, upd_same, upd_same]
        · rw [upd_ne hd, upd_ne hc, upd_ne hd, upd_ne hc, upd_ne hd]
    rw [eH]
    have fr : RFs X.K L ρ1 H1 [(f, d1)] [(nm, v1)] := .cons ⟨by rw [T.att.1]; exact h3, d1r⟩ .nil
    obtain ⟨r2, x2⟩ := r1.push nx1 (RHO.xd (c := k) fr)
    have no : upd H1 dx (.xd [(nm, v1)]) o = none := by
      rw [upd_ne (Ne.symm ne)]
      exact hn
    have l1 : ρ1.length = hp1.length := r1.len
    have me : (ρ1 ++ [dx] ++ [o])[hp1.length + 1]? = some o := by
      rw [List.getElem?_append_right (by simp [l1])]
      simp [l1]
    have di : (ρ1 ++ [dx] ++ [o])[hp1.length]? = some dx := by
      rw [List.getElem?_append_left (by simp [l1]), ← l1, List.getElem?_append_right (Nat.le_refl _)]
      simp
    obtain ⟨r3, x3⟩ := r2.pushN (o := .xob k (hp1.length + 1) hp1.length) (u := kx o C dx) no (.xob me h1 di)
    exact q1 _ _ _ (x1.trans (x2.trans x3)) r3 (.ref me)
theorem s_xnw0 (T : TF S g X.prog X.w X.K X.mg X.base L n) {k : Nat} (hk : (k, x) ∈ S.exc0) (hg : Gl X x) (hdb : (x == ("__debug__" : Str)) = false) : PE X (.Call (.Name x p) [] [] pos) (tE X.K L g cl W (.xnw0 k)) := by
  obtain ⟨C, b, h1, h2, h3, h4⟩ := T.ex0 k x hk
  refine PE.imp (pe_mk0 h3 hg h2 hdb h4) fun σ H Q ⟨ρ, hp, env, r, re, h⟩ => ?_
  unfold wE at h
  intro o hn
  have l1 : ρ.length = hp.length := r.len
  have me : (ρ ++ [o])[hp.length]? = some o := by
    rw [← l1, List.getElem?_append_right (Nat.le_refl _)]
    simp
  obtain ⟨r2, x2⟩ := r.pushN (o := .xo0 k hp.length) (u := kx0 o C) hn (.xo0 me h1)
  exact h _ _ _ x2 r2 (.ref me)
theorem s_tryK (hm : ClMono cl) (hs : X.stack = X.env :: X.outer) (hf : X.env.frame = some X.env.locals) (hex : X.ex = []) (tk : Takes X W) {b : Sts} {bs : List Bool} {i j : Nat} {m kn : Str} {rv : V} {u : Value} {body : List Stmt} {np pos' p1 p2 p3 : Pos} (he : ExmAt X.K L u bs)
    (hN : X.N.Nodup) (hi : X.N[i]? = some m) (hln : X.env.scope.names.lookup m = some .local) (hj : X.N[j]? = some kn) (hlj : X.env.scope.names.lookup kn = some .local) (hij : i ≠ j) (hg : Gl X x) (hgm : NamesV X.mg x rv u) (hdb : (x == ("__debug__" : Str)) = false)
    (hv : (m == ("__debug__" : Str)) = false) (hv2 : (m == ("__classdict__" : Str)) = false)
    (hb : ∀ (W' : WX) (pn : List (Addr × Obj)) (xe : Value → Shared → Prop), Takes (X.tr pn xe) W' → PassesOwn (model X.prog X.w) X.A X.env xe → PSs (X.tr pn xe) body (tSs X.K L g cl W' b)) :
    PS X (.Try body [.ExceptHandler (some (.Name x np)) (some m) [.Assign [.Name kn p1] (.Name m p2) p3] pos'] [] [] pos) (tS X.K L g cl W (.tryK b bs i j)) := by
  refine PS.imp (ps_try_keep (tb := fun W' => tSs X.K L g cl W' b) (c := u) hs hf hN hi hln hj hlj hij hex ⟨hg, hdb, hgm.at_⟩ tk (fun a ob pn => ?_) hb) fun D σ H ⟨ρ, hp, env, r, re, h⟩ => ?_
  · refine PSs.imp (pss_cons (ps_set (X := X.suite a ((a, ob) :: pn)) hN hj (.inl hlj) (pe_var (X := X.suite a ((a, ob) :: pn)) hi (.inl hln) hv hv2) rfl (.inr hlj)) pss_nil) fun D σ H q => ?_
    cases z : σ[i]? with
    | none => rw [z] at q; exact q.elim
    | some ov =>
      cases ov with
      | none => rw [z] at q; exact q.elim
      | some v =>
        rw [z] at q
        exact ⟨v, z, q⟩
  · unfold wS at h
    refine ⟨ρ, hp, env, r, re, wSs_mono hm b env hp _ (KSt X.K L ρ H D (wKeep X.K u i j W D)) ?_ h⟩
    refine ⟨fun _ _ q => q, fun _ _ q => q, fun _ _ q => q, fun _ _ q => q, fun c i' env' hp' q => ?_⟩
    intro ρ' H' σ' d C x1 r1 re1 h1 h2
    have q : (match bs[c]? with
      | some true => (KSt X.K L ρ H D W).nx ((env'.set j (some (.ref hp'.length))).set i none) (hp' ++ [.xob c hp'.length i'])
      | some false => (KSt X.K L ρ H D W).ex c i' env' hp'
      | none => False) := q
    cases z : bs[c]? with
    | none => rw [z] at q; exact q.elim
    | some bb =>
      rw [z] at q
      refine ⟨bb, (he c C bb h2 z).1, fun eb => ?_, fun eb => ?_⟩
      · subst eb
        refine ⟨C, d, rfl, rfl, fun o hn => ?_⟩
        have le : ρ'.length = hp'.length := r1.len
        have me : (ρ' ++ [o])[hp'.length]? = some o := by
          rw [← le, List.getElem?_append_right (Nat.le_refl _)]
          simp
        have di : (ρ' ++ [o])[i']? = some d := by
          rw [List.getElem?_append_left (List.getElem?_eq_some_iff.mp h1).1]
          exact h1
        obtain ⟨r2, x2⟩ := r1.pushN (o := .xob c hp'.length i') (u := kx o C d) hn (.xob me h2 di)
        exact q _ _ _ (x1.trans x2) r2 (((re1.mono x2).set j (.ref me)).setN i)
      · subst eb
        exact q ρ' H' σ' d C x1 r1 re1 h1 h2
end
end MI
set_option maxHeartbeats 4000000
/-! MI, part 17: the check is enough (expressions). -/
namespace MI
open PySem PySem.Spec PyProof.Rows L2

structure Good (S : Nm) (g : Glob) (L : Lay) (n : Nat) (X : Cx) (c : Ck) (W : WX) : Prop where
  nm : c.nm = S
  sc : c.sc = X.env.scope
  N : c.N = X.N
  nd : X.N.Nodup
  fn : c.top = true → ∀ x, X.fn x = true
  calm : X.calm = true
  gd : X.A.guards = some []
  room : Room (2 * n + 3) X.A
  tk : Takes X W
  po : PassesOwn (model X.prog X.w) X.A X.env X.xe
  kind : X.env.scope.kind = .function
  tf : TF S g X.prog X.w X.K X.mg X.base L n
  tp : c.top = true → X.ex = [] ∧ X.stack = X.env :: X.outer ∧ X.env.frame = some X.env.locals
section
variable {S : Nm} {g : Glob} {L : Lay} {n : Nat} {X : Cx} {c : Ck} {W : WX}
theorem Good.u200 (G : Good S g L n X c W) : X.A.units + 200 < cLine := by have := G.room.un; omega
theorem Good.u65n (G : Good S g L n X c W) : X.A.units + 65 < cLine := by have := G.room.un; omega
theorem Good.u65 (G : Good S g L n X c W) : X.A.units + 65 < cLine ∧ L.pr = X.w.params := ⟨G.u65n, G.tf.pr⟩
theorem Good.hr (G : Good S g L n X c W) : Room (2 * n + 2) X.A := G.room.mono (by omega)
theorem Good.blk (G : Good S g L n X c W) {scope : Scope} (hk : scope.kind = .function) (s : Shared) (H : Hp) (C : Addr) (ce : List (Str × Addr)) (fp : List Addr) :
    Good S g L n (X.blk s H scope (compEnvC scope ce C X.env) fp) (c.inner scope) (fun _ _ _ _ => False) where
  nm := G.nm
  sc := by rw [show (c.inner scope).sc = relS scope c.sc from rfl, G.sc]; rfl
  N := G.N
  nd := G.nd
  fn := fun h => by cases h
  calm := G.calm
  gd := G.gd
  room := G.room
  tk := fun u s' ⟨_, _, _, _, _, _, _, _, _, _, _, _, _, _, _, _, w⟩ => w
  po := PassesOwn.never
  kind := by
    show (relS scope X.env.scope).kind = .function
    exact hk
  tf := G.tf
  tp := fun h => by cases h
theorem Good.tr (G : Good S g L n X c W) {W' : WX} {pn : List (Addr × Obj)} {xe : Value → Shared → Prop} (tk : Takes (X.tr pn xe) W') (po : PassesOwn (model X.prog X.w) X.A X.env xe) : Good S g L n (X.tr pn xe) c W' :=
  ⟨G.nm, G.sc, G.N, G.nd, G.fn, G.calm, G.gd, G.room, tk, po, G.kind, G.tf, G.tp⟩
theorem Good.loc (G : Good S g L n X c W) {x : Str} (h : c.loc x = true) : Loc X.env.scope x ∧ (X.fn x = true ∨ X.env.scope.names.lookup x = some .local) := by
  unfold Ck.loc at h
  rw [G.sc] at h
  split at h
  · rename_i e
    exact ⟨.inl e, .inr e⟩
  · rename_i e
    exact ⟨.inr e, .inl (G.fn h x)⟩
  · cases h
theorem Good.vis (G : Good S g L n X c W) {x : Str} (h : c.vis x = true) : Vis X.env.scope x ∧ (x == ("__debug__" : Str)) = false ∧ (x == ("__classdict__" : Str)) = false := by
  unfold Ck.vis at h
  rw [G.sc] at h
  simp only [Bool.and_eq_true, Bool.not_eq_true'] at h
  obtain ⟨⟨h1, h2⟩, h3⟩ := h
  refine ⟨?_, h2, h3⟩
  split at h1
  · rename_i e; exact .inl e
  · rename_i e; exact .inr (.inl e)
  · rename_i e; exact .inr (.inr e)
  · cases h1
theorem Good.glob (G : Good S g L n X c W) {x : Str} (h : c.glob x = true) : Gl X x ∧ (x == ("__debug__" : Str)) = false ∧ x ≠ "__name__" ∧ (x != ("super" : Str)) = true := by
  unfold Ck.glob at h
  rw [G.sc] at h
  simp only [Bool.and_eq_true, Bool.not_eq_true', decide_eq_true_eq] at h
  obtain ⟨⟨⟨h1, h2⟩, h3⟩, h4⟩ := h
  exact ⟨h1, h2, h3, h4⟩
theorem Good.blt (G : Good S g L n X c W) {x : Str} (h : c.nm.blts.contains x = true) : X.mg x = none := G.tf.blt x (by rw [← G.nm]; simpa using h)
/-- super() is no base of the text's -/
theorem base_of {e : Ex} {x : Expr} (G : Good S g L n X c W) (h : chkE c e x = true) (nm : Str) : attributeBase x nm X.env (eval x X.env) = eval x X.env := by
  refine ab_ok fun id p pos hx => ?_
  subst hx
  cases e <;> first
    | cases h
    | skip
  all_goals
    first
      | (rename_i d; cases d <;> cases h; done)
      | (unfold chkE at h
         simp only [Bool.and_eq_true] at h
         exact (G.glob h.1.2).2.2.2)
      | (unfold chkE at h
         simp only [Bool.and_eq_true] at h
         exact (G.glob h.2).2.2.2)
end

structure EOk (X : Cx) (L : Lay) (g : Glob) (cl : Cl) (W : WX) (e : Ex) (x : Expr) : Prop where
  pe : PE X x (tE X.K L g cl W e)
  pt : PT X x (tT X.K L g cl W e)
  pw : isBoolX x = true → PW X x (tT X.K L g cl W e)
theorem EOk.of {X : Cx} {L : Lay} {g : Glob} {cl : Cl} {W : WX} {e : Ex} {x : Expr} (hm : ClMono cl) (h : PE X x (tE X.K L g cl W e)) (ht : tstX x = false) : EOk X L g cl W e x :=
  ⟨h, t_plain hm h (isTrue_of ht), fun hb => by cases x <;> first | (cases hb; done) | (cases ht; done)⟩

section
variable {S : Nm} {g : Glob} {L : Lay} {n : Nat}
mutual
theorem okE : ∀ (e : Ex) {X : Cx} {c : Ck} {W : WX} {x : Expr}, Good S g L n X c W → chkE c e x = true → EOk X L g (wCall g n) W e x
  | .var i, X, c, W, x, G, h => by
    refine EOk.of (wCall_mono g n) ?_ (chk_tst h rfl)
    unfold chkE at h
    split at h
    · simp only [Bool.and_eq_true, decide_eq_true_eq] at h
      obtain ⟨a, b, d⟩ := G.vis h.2
      exact s_var (by rw [← G.N]; exact h.1) a b d
    · cases h
  | .lit d, X, c, W, x, G, h => by
    refine EOk.of (wCall_mono g n) ?_ (chk_tst h rfl)
    unfold chkE at h
    split at h
    · exact s_non
    · have h := beq_iff_eq.mp h
      subst h
      exact s_bl
    · have h := of_decide_eq_true h
      subst h
      exact s_int
    · have h := of_decide_eq_true h
      subst h
      exact s_str
    · cases h
  | .glob k, X, c, W, x, G, h => by
    refine EOk.of (wCall_mono g n) ?_ (chk_tst h rfl)
    unfold chkE at h
    split at h
    · simp only [Bool.and_eq_true, decide_eq_true_eq] at h
      obtain ⟨a, b, _⟩ := G.glob h.2
      obtain ⟨d, u, v, h1, h2, h3, h4⟩ := G.tf.con k _ (by rw [← G.nm]; exact h.1)
      exact s_glob a h2 h3 h1 h4 b
    · cases h
  | .bin o a b, X, c, W, x, G, h => by
    refine EOk.of (wCall_mono g n) ?_ (chk_tst h rfl)
    unfold chkE at h
    split at h
    · simp only [Bool.and_eq_true, decide_eq_true_eq] at h
      obtain ⟨⟨rfl, h1⟩, h2⟩ := h
      exact s_bin (wCall_mono g n) (okE a G h1).pe (okE b G h2).pe
    · cases h
  | .neg a, X, c, W, x, G, h => by
    refine EOk.of (wCall_mono g n) ?_ (chk_tst h rfl)
    unfold chkE at h
    split at h
    · exact s_neg (wCall_mono g n) (okE a G h).pe
    · cases h
  | .cmp o a b, X, c, W, x, G, h => by
    unfold chkE at h
    split at h
    · simp only [Bool.and_eq_true, decide_eq_true_eq] at h
      obtain ⟨⟨rfl, h1⟩, h2⟩ := h
      have pa := (okE a G h1).pe
      have pb := (okE b G h2).pe
      exact ⟨s_cmp (wCall_mono g n) G.u65 pa pb (marks_of (chk_sub h2)), t_cmp (wCall_mono g n) G.u65 pa pb (marks_of (chk_sub h2)), fun z => by cases z⟩
    · cases h
  | .cmp2 o p a b d, X, c, W, x, G, h => by
    unfold chkE at h
    split at h
    · simp only [Bool.and_eq_true, decide_eq_true_eq] at h
      obtain ⟨⟨⟨⟨rfl, rfl⟩, h1⟩, h2⟩, h3⟩ := h
      have pa := (okE a G h1).pe
      have pb := (okE b G h2).pe
      have pd := (okE d G h3).pe
      have hmk : ∀ {y z : Expr}, isSub z = false → lastMarks [copOf o, copOf p] [y, z] = false := fun hz => marks_of hz
      exact ⟨s_cmp2 (wCall_mono g n) G.u65 pa pb pd (hmk (chk_sub h3)), t_cmp2 (wCall_mono g n) G.u65 pa pb pd (hmk (chk_sub h3)), fun z => by cases z⟩
    · cases h
  | .and a b, X, c, W, x, G, h => by
    unfold chkE at h
    split at h
    · rename_i y z rest p
      rw [Bool.and_eq_true] at h
      obtain ⟨h1, h2⟩ := h
      have oa := okE a G h1
      cases rest with
      | nil =>
        have ob := okE b G h2
        have w := t_and (pos := p) (wCall_mono g n) oa.pt (PW.imp (pw_and1 ob.pt) fun _ _ _ q => q)
        exact ⟨s_and (wCall_mono g n) oa.pe (e_bool1 ob.pe), w.pt, fun _ => w⟩
      | cons z2 rest =>
        have ob := okE b G h2
        have w := t_and (pos := p) (wCall_mono g n) oa.pt (ob.pw rfl)
        exact ⟨s_and (wCall_mono g n) oa.pe ob.pe, w.pt, fun _ => w⟩
    · cases h
  | .or a b, X, c, W, x, G, h => by
    unfold chkE at h
    split at h
    · rename_i y z rest p
      rw [Bool.and_eq_true] at h
      obtain ⟨h1, h2⟩ := h
      have oa := okE a G h1
      cases rest with
      | nil =>
        have ob := okE b G h2
        have w := t_or (pos := p) (wCall_mono g n) oa.pt (PW.imp (pw_or1 ob.pt) fun _ _ _ q => q)
        exact ⟨s_or (wCall_mono g n) oa.pe (e_bool1 ob.pe), w.pt, fun _ => w⟩
      | cons z2 rest =>
        have ob := okE b G h2
        have w := t_or (pos := p) (wCall_mono g n) oa.pt (ob.pw rfl)
        exact ⟨s_or (wCall_mono g n) oa.pe ob.pe, w.pt, fun _ => w⟩
    · cases h
  | .not a, X, c, W, x, G, h => by
    unfold chkE at h
    split at h
    · have oa := okE a G h
      exact ⟨s_not (wCall_mono g n) oa.pe, t_not oa.pt (wCall_mono g n), fun z => by cases z⟩
    · cases h
  | .ite t a b, X, c, W, x, G, h => by
    unfold chkE at h
    split at h
    · simp only [Bool.and_eq_true] at h
      obtain ⟨⟨h1, h2⟩, h3⟩ := h
      have ot := okE t G h1
      have oa := okE a G h2
      have ob := okE b G h3
      exact ⟨s_ite (wCall_mono g n) ot.pt oa.pe ob.pe, t_ite (wCall_mono g n) ot.pt oa.pt ob.pt, fun z => by cases z⟩
    · cases h
  | .tup es, X, c, W, x, G, h => by
    refine EOk.of (wCall_mono g n) ?_ (chk_tst h rfl)
    unfold chkE at h
    split at h
    · simp only [Bool.and_eq_true, decide_eq_true_eq] at h
      exact s_tup (wCall_mono g n) (okEs es G h.1) (by rw [chks_len h.1]; exact h.2)
    · cases h
  | .lst es, X, c, W, x, G, h => by
    refine EOk.of (wCall_mono g n) ?_ (chk_tst h rfl)
    unfold chkE at h
    split at h
    · simp only [Bool.and_eq_true, decide_eq_true_eq] at h
      exact s_lst (wCall_mono g n) (okEs es G h.1) (by rw [chks_len h.1]; exact h.2)
    · cases h
  | .dic es, X, c, W, x, G, h => by
    refine EOk.of (wCall_mono g n) ?_ (chk_tst h rfl)
    unfold chkE at h
    split at h
    · rename_i ks vs p
      simp only [Bool.and_eq_true, decide_eq_true_eq] at h
      cases ks with
      | nil =>
        cases es with
        | nil =>
          cases vs with
          | nil => exact s_dic0
          | cons _ _ => cases h.1
        | cons e r => cases r <;> cases h.1
      | cons k ks =>
        obtain ⟨f1, f2, f3, f4⟩ := dis_form h.1
        exact s_dic (wCall_mono g n) (okDi es G h.1) f1 f2 f3 h.2 f4 (by intro z; cases z)
    · cases h
  | .bty b, X, c, W, x, G, h => by
    refine EOk.of (wCall_mono g n) ?_ (chk_tst h rfl)
    unfold chkE at h
    split at h
    · simp only [Bool.and_eq_true, decide_eq_true_eq] at h
      obtain ⟨⟨⟨rfl, h2⟩, h3⟩, h4⟩ := h
      obtain ⟨ga, gb, gn, _⟩ := G.glob h3
      exact s_bty (by simpa using h2) ga (G.blt h4) gn gb
    · cases h
  | .mmd mx a d, X, c, W, x, G, h => by
    refine EOk.of (wCall_mono g n) ?_ (chk_tst h rfl)
    unfold chkE at h
    split at h
    · simp only [Bool.and_eq_true, decide_eq_true_eq] at h
      obtain ⟨⟨⟨⟨⟨rfl, rfl⟩, h3⟩, h4⟩, h5⟩, h6⟩ := h
      obtain ⟨ga, gb, gn, _⟩ := G.glob h3
      exact s_mmd (wCall_mono g n) G.calm G.u200 ga (G.blt h4) (okE a G h5).pe (okE d G h6).pe (chk_sub h5)
    · cases h
  | .ix a i, X, c, W, x, G, h => by
    refine EOk.of (wCall_mono g n) ?_ (chk_tst h rfl)
    unfold chkE at h
    split at h
    · rw [Bool.and_eq_true] at h
      exact s_ix (wCall_mono g n) G.u65 (okE a G h.1).pe (okE i G h.2).pe (plain_of (chk_sub h.2))
    · cases h
  | .sl a lo hi, X, c, W, x, G, h => by
    refine EOk.of (wCall_mono g n) ?_ (chk_tst h rfl)
    unfold chkE at h
    split at h
    · simp only [Bool.and_eq_true] at h
      exact s_sl (wCall_mono g n) (okE a G h.1.1).pe ((okEo lo).1 G h.1.2) ((okEo hi).1 G h.2)
    · cases h
  | .fld a f, X, c, W, x, G, h => by
    refine EOk.of (wCall_mono g n) ?_ (chk_tst h rfl)
    unfold chkE at h
    split at h
    · simp only [Bool.and_eq_true, decide_eq_true_eq] at h
      exact s_fld (wCall_mono g n) G.tf (by rw [← G.nm]; exact h.1) (okE a G h.2).pe (base_of G h.2 _)
    · cases h
  | .call f es, X, c, W, x, G, h => by
    refine EOk.of (wCall_mono g n) ?_ (chk_tst h rfl)
    unfold chkE at h
    split at h
    · simp only [Bool.and_eq_true, decide_eq_true_eq] at h
      obtain ⟨a, b, _⟩ := G.glob h.1.2
      exact s_call G.tf G.hr G.gd G.tk (by rw [← G.nm]; exact h.1.1) a b (okEs es G h.2) (shape_of (chks_sub h.2)) fun z => by cases z
    · simp only [Bool.and_eq_true, decide_eq_true_eq] at h
      obtain ⟨a, b, _⟩ := G.glob h.1.2
      cases es with
      | nil => exact s_call G.tf G.hr G.gd G.tk (by rw [← G.nm]; exact h.1.1) a b sa_nil (.inl rfl) fun _ => rfl
      | cons _ _ => cases h.2
    · cases h
  | .make k es, X, c, W, x, G, h => by
    refine EOk.of (wCall_mono g n) ?_ (chk_tst h rfl)
    unfold chkE at h
    split at h
    · simp only [Bool.and_eq_true, decide_eq_true_eq] at h
      obtain ⟨a, b, _⟩ := G.glob h.1.2
      have hk := h.1.1
      rw [G.nm] at hk
      exact s_make G.tf G.room G.gd G.tk hk a b (G.tf.ini _ _ hk) (okEs es G h.2) (shape_of (chks_sub h.2)) fun z => by cases z
    · simp only [Bool.and_eq_true, decide_eq_true_eq] at h
      obtain ⟨a, b, _⟩ := G.glob h.1.2
      have hk := h.1.1
      rw [G.nm] at hk
      cases es with
      | nil => exact s_make G.tf G.room G.gd G.tk hk a b (G.tf.ini _ _ hk) sa_nil (.inl rfl) fun _ => rfl
      | cons _ _ => cases h.2
    · cases h
  | .meth a m es, X, c, W, x, G, h => by
    refine EOk.of (wCall_mono g n) ?_ (chk_tst h rfl)
    unfold chkE at h
    split at h
    · simp only [Bool.and_eq_true, decide_eq_true_eq] at h
      obtain ⟨⟨⟨⟨h1, h2⟩, h3⟩, h4⟩, h5⟩ := h
      exact s_meth G.tf G.hr G.gd G.tk (by rw [← G.nm]; exact h1) (okE a G h2).pe (okEs es G h3) (shape_of (chks_sub h3)) (fun z => by cases z) (base_of G h2 _) h5 (form_of (chks_sub h3) h4)
    · simp only [Bool.and_eq_true, decide_eq_true_eq] at h
      obtain ⟨⟨⟨h1, h2⟩, h3⟩, h5⟩ := h
      cases es with
      | nil => exact s_meth G.tf G.hr G.gd G.tk (by rw [← G.nm]; exact h1) (okE a G h2).pe sa_nil (.inl rfl) (fun _ => rfl) (base_of G h2 _) h5 rfl
      | cons _ _ => cases h3
    · cases h
  | .blt b es, X, c, W, x, G, h => by
    refine EOk.of (wCall_mono g n) ?_ (chk_tst h rfl)
    unfold chkE at h
    split at h
    · simp only [Bool.and_eq_true, decide_eq_true_eq] at h
      obtain ⟨⟨⟨⟨rfl, h2⟩, h3⟩, h4⟩, h5⟩ := h
      obtain ⟨ga, gb, _⟩ := G.glob h2
      have hs := chks_sub h4
      exact s_blt (wCall_mono g n) G.calm G.gd G.u200 ga (G.blt h3) (okEs es G h4) (star_of (hs _ List.mem_cons_self)) (any_of fun y hy => hs y (List.mem_cons_of_mem _ hy))
    · cases h
  | .bm m a es, X, c, W, x, G, h => by
    refine EOk.of (wCall_mono g n) ?_ (chk_tst h rfl)
    unfold chkE at h
    split at h
    · simp only [Bool.and_eq_true, decide_eq_true_eq] at h
      obtain ⟨⟨⟨⟨rfl, h2⟩, h3⟩, h4⟩, h5⟩ := h
      have hs := chks_sub h3
      exact s_bm (wCall_mono g n) G.calm G.u65n (okE a G h2).pe (okEs es G h3) (base_of G h2 _) (few_of hs (by omega)) h5 (star_of (hs _ List.mem_cons_self)) (any_of fun y hy => hs y (List.mem_cons_of_mem _ hy))
    · simp only [Bool.and_eq_true, decide_eq_true_eq] at h
      obtain ⟨⟨⟨rfl, h2⟩, h3⟩, h5⟩ := h
      cases es with
      | nil => exact s_bm0 (wCall_mono g n) G.calm G.u65n (okE a G h2).pe (base_of G h2 _) h5
      | cons _ _ => cases h3
    · cases h
  | .lc own t it d e', X, c, W, x, G, h => by
    refine EOk.of (wCall_mono g n) ?_ (chk_tst h rfl)
    unfold chkE at h
    split at h
    · rename_i elt tg iter ifs scope pos
      simp only [Bool.and_eq_true] at h
      obtain ⟨⟨⟨⟨⟨⟨h1, h2⟩, h3⟩, h4⟩, h5⟩, h6⟩, h7⟩ := h
      rw [G.N, G.sc] at h1
      have ok := blkOk_by h1
      have how : (ownOf X.N own).map (·.2) = own := by
        unfold ownOf
        rw [List.map_map]
        exact List.map_id' own
      have G2 := fun s H C ce fp => G.blk ok.kind s H C ce fp
      exact s_lc (wCall_mono g n) how h3 G.calm G.nd (okIt it G h4 h5).1 ok (fun s H C ce fp => okTg t (G2 s H C ce fp) h2) (fun s H C ce fp => (okEo d).2 (G2 s H C ce fp) h6) (fun s H C ce fp => (okE e' (G2 s H C ce fp) h7).pe) (okIt it G h4 h5).2
    · cases h
  | .dc own t it d k e', X, c, W, x, G, h => by
    refine EOk.of (wCall_mono g n) ?_ (chk_tst h rfl)
    unfold chkE at h
    split at h
    · rename_i kx elt tg iter ifs scope pos
      simp only [Bool.and_eq_true] at h
      obtain ⟨⟨⟨⟨⟨⟨⟨h1, h2⟩, h3⟩, h4⟩, h5⟩, h6⟩, h7⟩, h8⟩ := h
      rw [G.N, G.sc] at h1
      have ok := blkOk_by h1
      have how : (ownOf X.N own).map (·.2) = own := by
        unfold ownOf
        rw [List.map_map]
        exact List.map_id' own
      have G2 := fun s H C ce fp => G.blk ok.kind s H C ce fp
      exact s_dc (wCall_mono g n) how h3 G.calm G.nd (okIt it G h4 h5).1 ok (fun s H C ce fp => okTg t (G2 s H C ce fp) h2) (fun s H C ce fp => (okEo d).2 (G2 s H C ce fp) h6) (fun s H C ce fp => (okE k (G2 s H C ce fp) h7).pe) (fun s H C ce fp => (okE e' (G2 s H C ce fp) h8).pe) (okIt it G h4 h5).2
    · cases h
  | .lc2 own own1 t it t1 a e', X, c, W, x, G, h => by
    refine EOk.of (wCall_mono g n) ?_ (chk_tst h rfl)
    unfold chkE at h
    split at h
    · rename_i elt tg iter tg1 iter1 scope pos
      simp only [Bool.and_eq_true] at h
      obtain ⟨⟨⟨⟨⟨⟨⟨⟨⟨h1, h2⟩, h3⟩, h4⟩, h5⟩, h6⟩, h7⟩, h8⟩, h9⟩, h10⟩ := h
      rw [G.N, G.sc] at h1
      have ok := blkOk_by h1
      have how : (ownOf X.N own).map (·.2) = own := by
        unfold ownOf
        rw [List.map_map]
        exact List.map_id' own
      have G2 := fun s H C ce fp => G.blk ok.kind s H C ce fp
      have hin : ∀ i ∈ own1, i ∈ own := fun i hi => by simpa using List.all_eq_true.mp h8 i hi
      exact s_lc2 (wCall_mono g n) how hin h3 h7 G.calm G.nd (okIt it G h4 h5).1 ok (fun s H C ce fp => okTg t (G2 s H C ce fp) h2) (fun s H C ce fp => okTg t1 (G2 s H C ce fp) h6) (fun s H C ce fp => (okE a (G2 s H C ce fp) h9).pe) (fun s H C ce fp => (okE e' (G2 s H C ce fp) h10).pe) (okIt it G h4 h5).2 (fun env => fold_of (chk_sub h9))
    · cases h
  | .lenD a m, X, c, W, x, G, h => by
    refine EOk.of (wCall_mono g n) ?_ (chk_tst h rfl)
    unfold chkE at h
    split at h
    · simp only [Bool.and_eq_true, decide_eq_true_eq] at h
      obtain ⟨⟨⟨⟨rfl, h2⟩, h3⟩, h4⟩, h5⟩ := h
      obtain ⟨ga, gb, gn, _⟩ := G.glob h2
      exact s_lenD G.tf G.room G.calm G.gd G.gd G.u200 (by rw [← G.nm]; exact h4) ga (G.blt h3) (okE a G h5).pe (chk_sub h5)
    · cases h
  | .isx a bs, X, c, W, x, G, h => by
    refine EOk.of (wCall_mono g n) ?_ (chk_tst h rfl)
    unfold chkE at h
    split at h
    · simp only [Bool.and_eq_true, decide_eq_true_eq] at h
      obtain ⟨⟨⟨⟨⟨rfl, h2⟩, h3⟩, h4⟩, h5⟩, h6⟩ := h
      obtain ⟨ga, _⟩ := G.glob h2
      obtain ⟨gz, gzd, _⟩ := G.glob h5
      obtain ⟨rv, u, r1, r2⟩ := G.tf.exm _ (show _ ∈ S.exm by rw [← G.nm]; simpa using h6)
      exact s_isx (wCall_mono g n) G.tf r2 ga (G.blt h3) gz r1 gzd (okE a G h4).pe (chk_sub h4)
    · simp only [Bool.and_eq_true, decide_eq_true_eq, List.any_eq_true, beq_iff_eq] at h
      obtain ⟨⟨⟨⟨⟨⟨rfl, h2⟩, h3⟩, h4⟩, h5⟩, h6⟩, ⟨u, hu, rfl, v, hv, rfl, hbs⟩⟩ := h
      obtain ⟨ga, _⟩ := G.glob h2
      obtain ⟨gz, gzd, _⟩ := G.glob h5
      obtain ⟨gz2, gzd2, _⟩ := G.glob h6
      obtain ⟨_, _, r1, r2⟩ := G.tf.exm u (by rw [← G.nm]; exact hu)
      obtain ⟨_, _, q1, q2⟩ := G.tf.exm v (by rw [← G.nm]; exact hv)
      exact s_isx2 (wCall_mono g n) G.tf r2 q2 hbs ga (G.blt h3) gz r1 gzd gz2 q1 gzd2 (okE a G h4).pe (chk_sub h4)
    · simp only [Bool.and_eq_true, decide_eq_true_eq, List.any_eq_true, beq_iff_eq] at h
      obtain ⟨⟨⟨⟨⟨⟨⟨rfl, h2⟩, h3⟩, h4⟩, h5⟩, h6⟩, h7⟩, ⟨u, hu, rfl, v, hv, rfl, w, hw, rfl, hbs⟩⟩ := h
      obtain ⟨ga, _⟩ := G.glob h2
      obtain ⟨gz, gzd, _⟩ := G.glob h5
      obtain ⟨gz2, gzd2, _⟩ := G.glob h6
      obtain ⟨gz3, gzd3, _⟩ := G.glob h7
      obtain ⟨_, _, r1, r2⟩ := G.tf.exm u (by rw [← G.nm]; exact hu)
      obtain ⟨_, _, q1, q2⟩ := G.tf.exm v (by rw [← G.nm]; exact hv)
      obtain ⟨_, _, m1, m2⟩ := G.tf.exm w (by rw [← G.nm]; exact hw)
      exact s_isx3 (wCall_mono g n) G.tf r2 q2 m2 hbs ga (G.blt h3) gz r1 gzd gz2 q1 gzd2 gz3 m1 gzd3 (okE a G h4).pe (chk_sub h4)
    · cases h
  | .xfd a f, X, c, W, x, G, h => by
    refine EOk.of (wCall_mono g n) ?_ (chk_tst h rfl)
    unfold chkE at h
    split at h
    · simp only [Bool.and_eq_true, decide_eq_true_eq] at h
      exact s_xfd (wCall_mono g n) G.tf (by rw [← G.nm]; exact h.1.1) (okE a G h.2).pe (base_of G h.2 _)
    · cases h
  | .xnew k f a, X, c, W, x, G, h => by
    refine EOk.of (wCall_mono g n) ?_ (chk_tst h rfl)
    unfold chkE at h
    split at h
    · simp only [Bool.and_eq_true, decide_eq_true_eq] at h
      obtain ⟨gx, gd, _⟩ := G.glob h.1.2
      exact s_xnew (wCall_mono g n) G.tf (G.room.mono (by omega)) (by rw [← G.nm]; exact h.1.1) gx gd (okE a G h.2).pe (chk_sub h.2)
    · cases h
  | .lenS a, X, c, W, x, G, h => by
    refine EOk.of (wCall_mono g n) ?_ (chk_tst h rfl)
    unfold chkE at h
    split at h
    · simp only [Bool.and_eq_true, decide_eq_true_eq] at h
      obtain ⟨⟨⟨⟨⟨⟨h1, h2⟩, h3⟩, h4⟩, h5⟩, h6⟩, h7⟩ := h
      subst h1
      subst h2
      exact s_lenS (wCall_mono g n) (G.glob h3).1 (G.blt h5) (G.glob h4).1 (G.blt h6) G.calm (okE a G h7).pe (star_of (chk_sub h7))
    · cases h
  | .srtS a, X, c, W, x, G, h => by
    refine EOk.of (wCall_mono g n) ?_ (chk_tst h rfl)
    unfold chkE at h
    split at h
    · simp only [Bool.and_eq_true, decide_eq_true_eq] at h
      obtain ⟨⟨⟨⟨⟨⟨h1, h2⟩, h3⟩, h4⟩, h5⟩, h6⟩, h7⟩ := h
      subst h1
      subst h2
      exact s_srtS (wCall_mono g n) (G.glob h3).1 (G.blt h5) (G.glob h4).1 (G.blt h6) G.calm (okE a G h7).pe (star_of (chk_sub h7))
    · cases h
  | .callL i es, X, c, W, x, G, h => by
    refine EOk.of (wCall_mono g n) ?_ (chk_tst h rfl)
    unfold chkE at h
    split at h
    · simp only [Bool.and_eq_true, decide_eq_true_eq] at h
      obtain ⟨a, b, d⟩ := G.vis h.1.2
      exact s_callL G.tf G.hr G.gd G.tk (by rw [← G.N]; exact h.1.1) a b d (okEs es G h.2) (shape_of (chks_sub h.2)) (by simp)
    · cases h
  | .xnw0 k, X, c, W, x, G, h => by
    refine EOk.of (wCall_mono g n) ?_ (chk_tst h rfl)
    unfold chkE at h
    split at h
    · simp only [Bool.and_eq_true] at h
      obtain ⟨gx, gd, _⟩ := G.glob h.2
      exact s_xnw0 G.tf (by rw [← G.nm]; simpa using h.1) gx gd
    · cases h
  | .callK f es pm, X, c, W, x, G, h => by
    refine EOk.of (wCall_mono g n) ?_ (chk_tst h rfl)
    unfold chkE at h
    split at h
    · rename_i u p xs k ks q
      simp only [Bool.and_eq_true, decide_eq_true_eq, List.any_eq_true] at h
      obtain ⟨⟨⟨⟨h1, h2⟩, h3⟩, h4⟩, ⟨e, he, ⟨⟨e1, e2⟩, e3⟩, e4⟩⟩ := h
      obtain ⟨gz, gd, _⟩ := G.glob h2
      obtain ⟨pa, pk⟩ := okEk es G h3
      obtain ⟨s1, s2⟩ := chkk_sub h3
      obtain ⟨k1, k2, k3, k4⟩ := kws_form (pos := q) (env := X.env) h4
      obtain ⟨ef, en, ek, ep⟩ := e
      simp only at e1 e2 e3 e4
      subst e1 e2 e3
      exact s_callK G.tf G.hr G.gd G.tk (by rw [← G.nm]; exact h1) gz gd pa pk (shape_of s1) s2 k1 k2 k3 k4 (by rw [← G.nm]; exact he) (perm_inl e4)
    · cases h
  | .makeK _ _ _, X, c, W, x, G, h => by cases h
  | .methK a m es pm, X, c, W, x, G, h => by
    refine EOk.of (wCall_mono g n) ?_ (chk_tst h rfl)
    unfold chkE at h
    split at h
    · rename_i o nm p xs k ks q
      simp only [Bool.and_eq_true, decide_eq_true_eq, List.any_eq_true] at h
      obtain ⟨⟨⟨⟨⟨⟨h1, h2⟩, h3⟩, h4⟩, ⟨e, he, ⟨⟨e1, e2⟩, e3⟩, e4⟩⟩, h6⟩, h7⟩ := h
      obtain ⟨pa, pk⟩ := okEk es G h3
      obtain ⟨s1, s2⟩ := chkk_sub h3
      obtain ⟨k1, k2, k3, k4⟩ := kws_form (pos := q) (env := X.env) h4
      obtain ⟨em, en, ek, ep⟩ := e
      simp only at e1 e2 e3 e4
      subst e1 e2 e3
      exact s_methK G.tf G.hr G.gd G.tk (by rw [← G.nm]; exact h1) (okE a G h2).pe pa pk (shape_of s1) (base_of G h2 _) h7 (kform_of s1 k1 h6) s2 k1 k2 k3 k4 (by rw [← G.nm]; exact he) (perm_inl e4)
    · cases h
theorem okEs : ∀ (es : Exs) {X : Cx} {c : Ck} {W : WX} {xs : List Expr}, Good S g L n X c W → chkEs c es xs = true → PA X xs (tEs X.K L g (wCall g n) W es)
  | .nil, X, c, W, xs, G, h => by
    cases xs with
    | nil => exact sa_nil
    | cons _ _ => cases h
  | .cons e r, X, c, W, xs, G, h => by
    cases xs with
    | nil => cases h
    | cons y ys =>
      have h : (chkE c e y && chkEs c r ys) = true := h
      rw [Bool.and_eq_true] at h
      exact sa_cons (wCall_mono g n) (okE e G h.1).pe (okEs r G h.2) (star_of (chk_sub h.1))
theorem okEk : ∀ (es : Exs) {X : Cx} {c : Ck} {W : WX} {xs : List Expr} {ks : List Keyword}, Good S g L n X c W → chkEk c es xs ks = true → PA X xs (tEs X.K L g (wCall g n) W (takeX xs.length es)) ∧ PK X ks (tEs X.K L g (wCall g n) W (dropX xs.length es))
  | .nil, X, c, W, xs, ks, G, h => by
    unfold chkEk at h
    split at h
    · exact ⟨sa_nil, sk_nil⟩
    · cases h
  | .cons e r, X, c, W, xs, ks, G, h => by
    cases xs with
    | nil =>
      cases ks with
      | nil => cases h
      | cons k ks =>
        have h : (chkE c e k.value && chkEk c r [] ks) = true := h
        rw [Bool.and_eq_true] at h
        have q := (okEk r G h.2).2
        refine ⟨sa_nil, sk_cons (wCall_mono g n) (okE e G h.1).pe ?_⟩
        cases r <;> exact q
    | cons y ys =>
      have h : (chkE c e y && chkEk c r ys ks) = true := h
      rw [Bool.and_eq_true] at h
      have q := okEk r G h.2
      exact ⟨sa_cons (wCall_mono g n) (okE e G h.1).pe q.1 (star_of (chk_sub h.1)), q.2⟩
theorem okDi : ∀ (es : Exs) {X : Cx} {c : Ck} {W : WX} {ks : List (Option Expr)} {vs : List Expr} {pos : Pos}, Good S g L n X c W → chkDi c es ks vs = true → PPs X pos ks vs (trsOf X.K L g (wCall g n) W es)
  | .nil, X, c, W, ks, vs, pos, G, h => by
    unfold chkDi at h
    split at h
    · exact pps_nil
    · cases h
  | .cons e .nil, X, c, W, ks, vs, pos, G, h => by cases h
  | .cons e (.cons e' r), X, c, W, ks, vs, pos, G, h => by
    unfold chkDi at h
    simp only at h
    split at h
    · simp only [Bool.and_eq_true] at h
      exact pps_cons (okE e G h.1.1).pe (okE e' G h.1.2).pe (okDi r G h.2)
    · cases h
theorem okEo : ∀ (eo : Exo), (∀ {X : Cx} {c : Ck} {W : WX} {x : Option Expr}, Good S g L n X c W → chkEo c eo x = true → PO X x (tEo X.K L g (wCall g n) W eo)) ∧
    (∀ {X : Cx} {c : Ck} {x : List Expr}, Good S g L n X c (fun _ _ _ _ => False) → chkIf c eo x = true → PTs X x (ttOf X.K L g (wCall g n) eo))
  | .no => by
    refine ⟨fun {X c W x} G h => ?_, fun {X c x} G h => ?_⟩
    · cases x with
      | none => exact so_no
      | some _ => cases h
    · cases x with
      | nil => exact pts_nil
      | cons _ _ => cases h
  | .so e => by
    refine ⟨fun {X c W x} G h => ?_, fun {X c x} G h => ?_⟩
    · cases x with
      | none => cases h
      | some y => exact so_so (wCall_mono g n) (okE e G h).pe
    · cases x with
      | nil => cases h
      | cons y ys =>
        cases ys with
        | nil => exact pts_one (okE e G h).pt
        | cons _ _ => cases h
theorem okTg : ∀ (t : Tg) {X : Cx} {c : Ck} {W : WX} {x : Expr}, Good S g L n X c W → chkTg c t x = true → PG X x (tG X.K L g (wCall g n) t)
  | .nm i, X, c, W, x, G, h => by
    unfold chkTg at h
    split at h
    · simp only [Bool.and_eq_true, decide_eq_true_eq] at h
      obtain ⟨a, b⟩ := G.loc h.2
      exact g_nm G.nd (by rw [← G.N]; exact h.1) a b
    · cases h
  | .tp ts, X, c, W, x, G, h => by
    unfold chkTg at h
    split at h
    · exact g_tp G.calm (okTgs ts G h) (tgs_form h).1 (tgs_form h).2
    · cases h
  | .at o f, X, c, W, x, G, h => by
    unfold chkTg at h
    split at h
    · simp only [Bool.and_eq_true, decide_eq_true_eq] at h
      exact g_at (wCall_mono g n) G.tf (by rw [← G.nm]; exact h.1) (okE o G h.2).pe
    · cases h
  | .sb o i, X, c, W, x, G, h => by
    unfold chkTg at h
    split at h
    · rw [Bool.and_eq_true] at h
      exact g_sb (wCall_mono g n) G.u65n (okE o G h.1).pe (okE i G h.2).pe (chk_sub h.2)
    · cases h
theorem okTgs : ∀ (ts : Tgs) {X : Cx} {c : Ck} {W : WX} {xs : List Expr}, Good S g L n X c W → chkTgs c ts xs = true → PGs X xs (tGs X.K L g (wCall g n) ts)
  | .nil, X, c, W, xs, G, h => by
    cases xs with
    | nil => exact gs_nil
    | cons _ _ => cases h
  | .cons t r, X, c, W, xs, G, h => by
    cases xs with
    | nil => cases h
    | cons y ys =>
      have h : (chkTg c t y && chkTgs c r ys) = true := h
      rw [Bool.and_eq_true] at h
      exact gs_cons (wCall_mono g n) (okTg t G h.1) (okTgs r G h.2) (tg_ae h.1)
theorem okIt : ∀ (it : Ix) {X : Cx} {c : Ck} {W : WX} {tg x : Expr}, Good S g L n X c W → itTg it tg = true → chkIt c it x = true → PI X tg x (tI X.K L g (wCall g n) W X.H_0 it) ∧ ∀ z, foldedSetIterable x X.env z = pure z
  | .vl e, X, c, W, tg, x, G, ht, h => by
    have h : chkE c e x = true := h
    exact ⟨i_vl (wCall_mono g n) (okE e G h).pe, fold_of (chk_sub h)⟩
  | .rng1 e, X, c, W, tg, x, G, ht, h => by
    unfold chkIt at h
    split at h
    · simp only [Bool.and_eq_true, decide_eq_true_eq] at h
      obtain ⟨⟨⟨rfl, h2⟩, h3⟩, h4⟩ := h
      obtain ⟨ga, gb, _⟩ := G.glob h2
      exact ⟨i_rng1 (wCall_mono g n) ga (G.blt h3) (okE e G h4).pe (star_of (chk_sub h4)) rfl, fun _ => rfl⟩
    · cases h
  | .rng2 a b, X, c, W, tg, x, G, ht, h => by
    unfold chkIt at h
    split at h
    · simp only [Bool.and_eq_true, decide_eq_true_eq] at h
      obtain ⟨⟨⟨⟨rfl, h2⟩, h3⟩, h4⟩, h5⟩ := h
      obtain ⟨ga, gb, _⟩ := G.glob h2
      have e2 := star_of (xs := []) (env := X.env) (chk_sub h5)
      exact ⟨i_rng2 (wCall_mono g n) ga (G.blt h3) (okE a G h4).pe (okE b G h5).pe ((star_of (chk_sub h4)).trans (by rw [e2]; rfl)) e2 rfl, fun _ => rfl⟩
    · cases h
  | .enum e, X, c, W, tg, x, G, ht, h => by
    unfold chkIt at h
    split at h
    · simp only [Bool.and_eq_true, decide_eq_true_eq] at h
      obtain ⟨⟨⟨rfl, h2⟩, h3⟩, h4⟩ := h
      obtain ⟨ga, gb, _⟩ := G.glob h2
      cases tg <;> first | cases ht | skip
      exact ⟨i_enum (wCall_mono g n) ga (G.blt h3) (okE e G h4).pe (star_of (chk_sub h4)) rfl, fun _ => rfl⟩
    · cases h
  | .zip2 a b, X, c, W, tg, x, G, ht, h => by
    unfold chkIt at h
    split at h
    · simp only [Bool.and_eq_true, decide_eq_true_eq] at h
      obtain ⟨⟨⟨⟨rfl, h2⟩, h3⟩, h4⟩, h5⟩ := h
      obtain ⟨ga, gb, _⟩ := G.glob h2
      cases tg <;> first | cases ht | skip
      have e2 := star_of (xs := []) (env := X.env) (chk_sub h5)
      exact ⟨i_zip (wCall_mono g n) ga (G.blt h3) (okE a G h4).pe (okE b G h5).pe (star_of (chk_sub h4)) e2 rfl (by rw [e2]; rfl), fun _ => rfl⟩
    · cases h
  | .zipS a b, X, c, W, tg, x, G, ht, h => by
    unfold chkIt at h
    split at h
    · simp only [Bool.and_eq_true, decide_eq_true_eq] at h
      obtain ⟨⟨⟨⟨⟨rfl, rfl⟩, h2⟩, h3⟩, h4⟩, h5⟩ := h
      obtain ⟨ga, gb, _⟩ := G.glob h2
      cases tg <;> first | cases ht | skip
      have e2 := star_of (xs := []) (env := X.env) (chk_sub h5)
      exact ⟨i_zipS (wCall_mono g n) ga (G.blt h3) (okE a G h4).pe (okE b G h5).pe (star_of (chk_sub h4)) e2 rfl, fun _ => rfl⟩
    · cases h
  | .items e, X, c, W, tg, x, G, ht, h => by
    unfold chkIt at h
    split at h
    · simp only [Bool.and_eq_true, decide_eq_true_eq] at h
      obtain ⟨⟨rfl, h2⟩, h3⟩ := h
      cases tg <;> first | cases ht | skip
      exact ⟨i_items (wCall_mono g n) (okE e G h2).pe (base_of G h2 _) h3, fun _ => rfl⟩
    · cases h
  | .vals e, X, c, W, tg, x, G, ht, h => by
    unfold chkIt at h
    split at h
    · simp only [Bool.and_eq_true, decide_eq_true_eq] at h
      obtain ⟨⟨rfl, h2⟩, h3⟩ := h
      exact ⟨i_vals (wCall_mono g n) (okE e G h2).pe (base_of G h2 _) h3, fun _ => rfl⟩
    · cases h
end
end
end MI
set_option maxHeartbeats 4000000
/-! MI, part 18: the check is enough (statements). -/
namespace MI
open PySem PySem.Spec PyProof.Rows L2

section
variable {S : Nm} {g : Glob} {L : Lay} {n : Nat}
theorem blockKind_fn {env : PySem.Env} (h : env.scope.kind = .function) : env.blockKind = .function := by
  unfold PySem.Env.blockKind
  rw [h]
  rfl
theorem swap_par {env : PySem.Env} {u v : Str} {p q pt pt2 : Pos} {kt k2 : Nat} {xa xb : Expr} (hk : env.scope.kind = .function) (hx : env.scope.names.lookup u = some .local) (hy : env.scope.names.lookup v = some .local) (hl : (q.line == p.line) = true) (hne : u ≠ v) (ha : isSub xa = false) (hb : isSub xb = false)
    (hf : ([xa, xb].all (foldedForSure 8)) = false) (hc : ([xa, xb].all (constantsAlone 8)) = false) : swappedStores [.Tuple [.Name u p, .Name v q] kt pt] (.Tuple [xa, xb] k2 pt2) env = pure (some [u, v]) := by
  have hst : ([xa, xb].any fun | .Starred .. => true | _ => false) = false := by
    cases xa <;> first | cases ha | skip
    all_goals cases xb <;> first | rfl | cases hb
  have hbk := blockKind_fn hk
  have ku : env.kindOf u = some .local := hx
  have kv : env.kindOf v = some .local := hy
  have hl' : q.line = p.line := beq_iff_eq.mp hl
  unfold swappedStores
  simp only [hbk, hst, hf, hc, ku, kv, Expr.pos, hl', List.length_cons, List.length_nil, List.head?_cons, Option.map_some, Option.getD_some, List.filterMap_cons, List.filterMap_nil]
  simp [List.eraseDups_cons, hne, Ne.symm hne]
  intro h
  exfalso
  rcases h with h | h
  · cases xa <;> first | (cases ha; done) | (cases h; done)
  · cases xb <;> first | (cases hb; done) | (cases h; done)
theorem okS_setLc {X : Cx} {c : Ck} {W : WX} (G : Good S g L n X c W) {i : Nat} {x : Str} {p spos : Pos} {y : Expr} {e : Ex} (hi : X.N[i]? = some x) (hl : Loc X.env.scope x ∧ (X.fn x = true ∨ X.env.scope.names.lookup x = some .local)) (h : chkE c e y = true) (hn : (noComp y || isLc e) = true) :
    PS X (.Assign [.Name x p] y spos) (tS X.K L g (wCall g n) W (.asg (.nm i) e)) := by
  rw [Bool.or_eq_true] at hn
  rcases hn with hn | hn
  · exact s_asgN (wCall_mono g n) (okE e G h).pe G.nd hi hl.1 (swap_of hn) hl.2
  · cases e with
    | lc own t it d e' =>
      have hpe := (okE _ G h).pe
      unfold chkE at h
      split at h
      · rename_i elt tg iter ifs scope pos
        simp only [Bool.and_eq_true] at h
        obtain ⟨⟨⟨⟨⟨⟨h1, h2⟩, h3⟩, h4⟩, h5⟩, h6⟩, h7⟩ := h
        rw [G.N, G.sc] at h1
        have ok := blkOk_by h1
        have how : (ownOf X.N own).map (·.2) = own := by
          unfold ownOf
          rw [List.map_map]
          exact List.map_id' own
        have G2 := fun s H C ce fp => G.blk ok.kind s H C ce fp
        by_cases hcase : X.env.scope.names.lookup x = some .local ∧ (p.line == pos.line) = true ∧ (scope.names.any fun (n, k) => n == x && (k == .local || k == .cell)) = false
        · obtain ⟨c1, c2, c3⟩ := hcase
          exact s_setLc (wCall_mono g n) how h3 G.calm G.nd hi c1 (sw_true G.kind c1 c2 c3) (okIt it G h4 h5).1 ok (fun s H C ce fp => okTg t (G2 s H C ce fp) h2) (fun s H C ce fp => (okEo d).2 (G2 s H C ce fp) h6) (fun s H C ce fp => (okE e' (G2 s H C ce fp) h7).pe) (okIt it G h4 h5).2
        · refine s_asgN (wCall_mono g n) hpe G.nd hi hl.1 ?_ hl.2
          have hbk := blockKind_fn G.kind
          show (pure (X.env.blockKind == .function && X.env.kindOf x == some .local && p.line == pos.line && !(scope.names.any fun (n, k) => n == x && (k == .local || k == .cell))) : Sem Bool) = pure false
          congr 1
          cases hb : (X.env.blockKind == .function && X.env.kindOf x == some .local && p.line == pos.line && !(scope.names.any fun (n, k) => n == x && (k == .local || k == .cell))) with
          | false => rfl
          | true =>
            exfalso
            simp only [Bool.and_eq_true, Bool.not_eq_true'] at hb
            obtain ⟨⟨⟨b1, b2⟩, b3⟩, b4⟩ := hb
            exact hcase ⟨beq_iff_eq.mp b2, b3, b4⟩
      · cases h
    | _ => cases hn
mutual
theorem okS : ∀ (s : MI.St) {X : Cx} {c : Ck} {W : WX} {st : Stmt}, Good S g L n X c W → chkS c s st = true → PS X st (tS X.K L g (wCall g n) W s)
  | .pass, X, c, W, st, G, h => by
    unfold chkS at h
    split at h
    · exact s_pass
    · exact s_doc
    · cases h
  | .brk, X, c, W, st, G, h => by
    unfold chkS at h
    split at h
    · exact s_brk
    · cases h
  | .cont, X, c, W, st, G, h => by
    unfold chkS at h
    split at h
    · exact s_cont
    · cases h
  | .expr e, X, c, W, st, G, h => by
    unfold chkS at h
    split at h
    · rw [Bool.and_eq_true] at h
      exact s_expr (wCall_mono g n) (okE e G h.1).pe (swap_of h.2)
    · cases h
  | .ret eo, X, c, W, st, G, h => by
    unfold chkS at h
    split at h
    · rename_i x p
      cases eo with
      | no =>
        cases x with
        | none => exact s_retN
        | some _ => cases h
      | so e =>
        cases x with
        | none => cases h
        | some y => exact s_ret (wCall_mono g n) (okE e G h).pe
    · cases h
  | .asg t e, X, c, W, st, G, h => by
    unfold chkS at h
    split at h
    · rename_i x y p
      split at h
      · rename_i ts
        split at h
        · rename_i es
          -- a, b = x, y
          unfold chkPar at h
          split at h
          · split at h
            · simp only [Bool.and_eq_true, decide_eq_true_eq, Bool.not_eq_true'] at h
              obtain ⟨⟨⟨⟨⟨⟨⟨⟨⟨⟨h1, h2⟩, h3⟩, h4⟩, h5⟩, h6⟩, h7⟩, h8⟩, h9⟩, h10⟩, h11⟩ := h
              rw [G.N] at h3 h4
              rw [G.sc] at h5 h6
              have sa := chk_sub h8
              have sb := chk_sub h9
              exact s_par (wCall_mono g n) G.calm G.nd h3 h4 h1 h5 h6 (sa_cons (wCall_mono g n) (okE _ G h8).pe (sa_cons (wCall_mono g n) (okE _ G h9).pe sa_nil (star_of sb)) (star_of sa)) (swap_par G.kind h5 h6 h7 h2 sa sb h10 h11) rfl
            · cases h
          · cases h
        · rename_i hne
          simp only [Bool.and_eq_true, Bool.not_eq_true'] at h
          obtain ⟨⟨h1, h2⟩, h3⟩ := h
          have hx : ∃ xs k q, x = .Tuple xs k q := by
            cases x <;> first | exact ⟨_, _, _, rfl⟩ | cases h1
          obtain ⟨xs, k, q, rfl⟩ := hx
          refine s_asg (wCall_mono g n) (okE e G h2).pe (okTg _ G h1) ?_ ?_ rfl
          · show swapsWith y (some (.Tuple xs k q)) p.line X.env = pure false
            cases y <;> rfl
          · cases y <;> first | rfl | cases h3
      · rename_i i
        simp only [Bool.and_eq_true] at h
        obtain ⟨⟨h1, h2⟩, h3⟩ := h
        unfold chkTg at h1
        split at h1
        · simp only [Bool.and_eq_true, decide_eq_true_eq] at h1
          exact okS_setLc G (by rw [← G.N]; exact h1.1) (G.loc h1.2) h2 h3
        · cases h1
      · rename_i hn1 hn2
        rw [Bool.and_eq_true] at h
        obtain ⟨h1, h2⟩ := h
        cases t with
        | nm i => exact absurd rfl (hn2 i)
        | tp ts => exact absurd rfl (hn1 ts)
        | «at» o f =>
          have hx : ∃ a b q, x = .Attribute a b q := by
            cases x <;> first | exact ⟨_, _, _, rfl⟩ | cases h1
          obtain ⟨a, b, q, rfl⟩ := hx
          refine s_asg (wCall_mono g n) (okE e G h2).pe (okTg _ G h1) ?_ rfl rfl
          show swapsWith y (some (.Attribute a b q)) p.line X.env = pure false
          cases y <;> rfl
        | sb o i =>
          have hx : ∃ a b q, x = .Subscript a b q := by
            cases x <;> first | exact ⟨_, _, _, rfl⟩ | cases h1
          obtain ⟨a, b, q, rfl⟩ := hx
          refine s_asg (wCall_mono g n) (okE e G h2).pe (okTg _ G h1) ?_ rfl rfl
          show swapsWith y (some (.Subscript a b q)) p.line X.env = pure false
          cases y <;> rfl
    · cases h
  | .augn i o e, X, c, W, st, G, h => by
    unfold chkS at h
    split at h
    · simp only [Bool.and_eq_true, decide_eq_true_eq] at h
      obtain ⟨⟨⟨⟨h1, h2⟩, rfl⟩, h4⟩, h5⟩ := h
      obtain ⟨a, b⟩ := G.loc h2
      exact s_augn (wCall_mono g n) G.nd (by rw [← G.N]; exact h1) a (okE e G h5).pe b
    · cases h
  | .augf a f o e, X, c, W, st, G, h => by
    unfold chkS at h
    split at h
    · simp only [Bool.and_eq_true, decide_eq_true_eq] at h
      obtain ⟨⟨⟨⟨h1, rfl⟩, h3⟩, h4⟩, h5⟩ := h
      exact s_augf (wCall_mono g n) G.tf (by rw [← G.nm]; exact h1) (okE a G h4).pe (okE e G h5).pe
    · cases h
  | .ifs t a b, X, c, W, st, G, h => by
    unfold chkS at h
    split at h
    · simp only [Bool.and_eq_true] at h
      exact s_if (wCall_mono g n) (okE t G h.1.1).pt (okSs a G h.1.2) (okSs b G h.2)
    · cases h
  | .whl t b, X, c, W, st, G, h => by
    unfold chkS at h
    split at h
    · rw [Bool.and_eq_true] at h
      exact s_while (wCall_mono g n) G.po (okE t G h.1).pt (okSs b G h.2)
    · cases h
  | .for_ t it b, X, c, W, st, G, h => by
    unfold chkS at h
    split at h
    · simp only [Bool.and_eq_true] at h
      obtain ⟨⟨⟨h1, h2⟩, h3⟩, h4⟩ := h
      exact s_for (wCall_mono g n) G.po G.calm (okIt it G h2 h3).1 (okTg t G h1) (okSs b G h4) (okIt it G h2 h3).2
    · cases h
  | .raise k f e, X, c, W, st, G, h => by
    unfold chkS at h
    split at h
    · simp only [Bool.and_eq_true, decide_eq_true_eq] at h
      obtain ⟨gx, gd, _⟩ := G.glob h.1.2
      exact s_raise (wCall_mono g n) G.tf (G.room.mono (by omega)) G.calm G.tk (by rw [← G.nm]; exact h.1.1) gx gd (okE e G h.2).pe (chk_sub h.2)
    · cases h
  | .tryK b bs i j, X, c, W, st, G, h => by
    unfold chkS at h
    split at h
    · simp only [Bool.and_eq_true, decide_eq_true_eq] at h
      obtain ⟨⟨⟨⟨⟨⟨⟨⟨⟨⟨h0, h1⟩, h2⟩, rfl⟩, h4⟩, h5⟩, h6⟩, h7⟩, h8⟩, h9⟩, h10⟩ := h
      obtain ⟨gx, gd, _⟩ := G.glob h1
      obtain ⟨rv, u, r1, r2⟩ := G.tf.exm _ (show _ ∈ S.exm by rw [← G.nm]; simpa using h2)
      obtain ⟨t1, t2, t3⟩ := G.tp h0
      obtain ⟨_, v2, v3⟩ := G.vis h9
      rw [G.N] at h4 h5
      rw [G.sc] at h7 h8
      exact s_tryK (wCall_mono g n) t2 t3 t1 G.tk r2 G.nd h4 h7 h5 h8 h6 gx r1 gd v2 v3 fun W' pn xe tk po => okSs b (G.tr tk po) h10
    · cases h
  | .never, X, c, W, st, G, h => s_never
theorem okSs : ∀ (ss : Sts) {X : Cx} {c : Ck} {W : WX} {sts : List Stmt}, Good S g L n X c W → chkSs c ss sts = true → PSs X sts (tSs X.K L g (wCall g n) W ss)
  | .nil, X, c, W, sts, G, h => by
    cases sts with
    | nil => exact ss_nil
    | cons _ _ => cases h
  | .cons s r, X, c, W, sts, G, h => by
    cases sts with
    | nil => cases h
    | cons x xs =>
      have h : (chkS c s x && chkSs c r xs) = true := h
      rw [Bool.and_eq_true] at h
      exact ss_cons (wCall_mono g n) (okS s G h.1) (okSs r G h.2)
end
end
end MI
set_option maxHeartbeats 4000000
/-! MI, part 19: the text's functions, level by level; the end. -/
namespace MI
open PySem PySem.Spec PyProof.Rows L2

/-- the f-th def of the text stands at fa and its body is the f-th body -/
structure FnT (S : Nm) (g : Glob) (K : PySem.W.Frag) (f : Nat) (fa : Addr) : Prop where
  ex : ∃ (name qual : Str) (params : Arguments) (body : List Stmt) (scope : Scope) (dV kV doc pm cdv ct oc : Value) (an od : Option Addr) (osl : Array (Option Value)) (N : List Str) (fi : FnI),
    g.fns[f]? = some fi ∧ K.lookup fa = some ⟨oc, od, .func (PySem.W.fnOf name qual params body scope dV kV doc pm an cdv ct), osl⟩ ∧ PySem.W.codeIn K cdv qual = true ∧ FnScope N (N.take fi.np) scope ∧ fi.np ≤ N.length ∧ fi.ns = N.length ∧
      Binds K (PySem.W.fnOf name qual params body scope dV kV doc pm an cdv ct) (N.take fi.np) [] ∧ (∀ sh ∈ S.shp, sh.1 = f → ShpOk K (PySem.W.fnOf name qual params body scope dV kV doc pm an cdv ct) (N.take fi.np) sh.2.1 sh.2.2.1 sh.2.2.2) ∧ chkSs ⟨S, scope, N, true⟩ fi.body body = true
/-- what does not hang on the level -/
structure TFS (S : Nm) (g : Glob) (w : World) (K : PySem.W.Frag) (mg : Str → Option Value) (L : Lay) : Prop where
  blt : ∀ x ∈ S.blts, mg x = none
  att : L.attrs = S.attrs ∧ S.attrs.Nodup
  fn : ∀ (f : Nat) (x : Str), S.fnN[f]? = some (some x) → ∃ a, L.fns[f]? = some a ∧ mg x = some (.ref a) ∧ PySem.W.keepIn K (.ref a) = true
  fnt : ∀ (f : Nat) (a : Addr), L.fns[f]? = some a → FnT S g K f a
  mak : ∀ (c : Nat) (x : Str) (f : Nat), S.clsN[c]? = some x → g.init c = some f → ∃ C a, L.clss[c]? = some C ∧ mg x = some (.ref C) ∧ L.fns[f]? = some a ∧ Mk K C a
  ini : ∀ (k : Nat) (x : Str), S.clsN[k]? = some x → g.init k ≠ none
  cls : ∀ (c : Nat) (C : Addr), L.clss[c]? = some C → Cls K C ∧ (∀ x ∈ S.attrs, NoAttr K C x)
  mth : ∀ (c : Nat) (C : Addr) (m : Nat) (nm : Str) (f : Nat), L.clss[c]? = some C → S.mths[m]? = some nm → g.meth c m = some f → ∃ a, L.fns[f]? = some a ∧ Meth K C nm a
  mna : ∀ (m : Nat) (nm : Str), S.mths[m]? = some nm → nm ∉ S.attrs
  mks : ∀ e ∈ S.mks, ∀ c f, g.meth c e.1 = some f → (f, e.2.1 + 1, e.2.2.1, 0 :: e.2.2.2.map (· + 1)) ∈ S.shp
  exc : ∀ (k : Nat) (x : Str) (f : Nat), S.excN[k]? = some (x, f) → ∃ C nm, L.exs[k]? = some C ∧ mg x = some (.ref C) ∧ S.attrs[f]? = some nm ∧ ∃ fI fd ps, ∃ b, OexG K C b ∧ PySem.W.findIn K (.ref C) "__init__" = some (some (.ref fI)) ∧ PySem.W.typeIn K (.ref fI) = some (.type "function") ∧ Binds K fd ps [] ∧ ∀ P w base, FnOk P w K mg base (L2.CX P w) 1 fI fd ps (spX K C nm)
  ex0 : ∀ (k : Nat) (x : Str), (k, x) ∈ S.exc0 → ∃ C b, L.exs[k]? = some C ∧ mg x = some (.ref C) ∧ Oex0 K C b ∧ b.ntl = b.tl
  exf : ∀ (k : Nat) (C : Addr), L.exs[k]? = some C → ExF K S.attrs C
  exm : ∀ p ∈ S.exm, ∃ rv u, NamesV mg p.1 rv u ∧ ExmAt K L u p.2
  pr : L.pr = w.params
  kfn : ∀ (f : Nat) (a : Addr), L.fns[f]? = some a → PySem.W.keepIn K (.ref a) = true
  con : ∀ (k : Nat) (x : Str), S.constN[k]? = some x → ∃ d u v, g.consts[k]? = some d ∧ mg x = some u ∧ RelV v u ∧ ∀ ρ H, RD K L ρ H d v

section
variable {S : Nm} {g : Glob} {P : Program} {w : World} {K : PySem.W.Frag} {mg : Str → Option Value} {base : Heap} {L : Lay}
theorem spI_len {n f : Nat} {fi : FnI} {N : List Str} (hf : g.fns[f]? = some fi) (hnp : fi.np ≤ N.length) {vs : List V} {H : Hp} {Q : VK} {E : XK} (h : spI K L g n f vs H Q E) : vs.length = (N.take fi.np).length := by
  obtain ⟨ρ, hp, ds, r, rd, h⟩ := h
  cases n with
  | zero => exact False.elim h
  | succ n =>
    unfold wCall at h
    simp only [hf] at h
    rw [← rd.len, h.1, List.length_take, Nat.min_eq_left hnp]
/-- the context of a body is good -/
theorem good_cx {n : Nat} (T : TF S g P w K mg base L n) {N : List Str} {qual : Str} {scope : Scope} {f : Addr} {cd : Value} {A : Around} {outer : List PySem.Env} {s : Shared} {H : Hp} {E : XK} (nd : N.Nodup) (hk : scope.kind = .function) (hg : A.guards = some []) (hr : Room (2 * n + 3) (A.deeper (envOfC qual scope s.heap.objs.size f cd))) :
    Good S g L n (cxOf (L2.CX P w) P w K mg base N qual scope f cd A outer s H E) ⟨S, scope, N, true⟩ (fun cls d _ H' => E cls d H') where
  nm := rfl
  sc := rfl
  N := rfl
  nd := nd
  fn := fun _ _ => rfl
  calm := rfl
  gd := hg
  room := hr
  tk := takes_of (X := cxOf (L2.CX P w) P w K mg base N qual scope f cd A outer s H E) rfl rfl rfl rfl
  po := passes_of (X := cxOf (L2.CX P w) P w K mg base N qual scope f cd A outer s H E) rfl
  kind := hk
  tf := T
  tp := fun _ => ⟨rfl, rfl, rfl⟩
theorem fnG_of {n f : Nat} {fa : Addr} {name qual : Str} {params : Arguments} {body : List Stmt} {scope : Scope} {dV kV doc pm cdv ct oc : Value} {an od : Option Addr} {osl : Array (Option Value)} {N : List Str} {fi : FnI} (T : TF S g P w K mg base L n)
    (hf : g.fns[f]? = some fi) (lk : K.lookup fa = some ⟨oc, od, .func (PySem.W.fnOf name qual params body scope dV kV doc pm an cdv ct), osl⟩) (hcd : PySem.W.codeIn K cdv qual = true) (SC : FnScope N (N.take fi.np) scope) (hnp : fi.np ≤ N.length) (hns : fi.ns = N.length)
    (hchk : chkSs ⟨S, scope, N, true⟩ fi.body body = true) : FnG P w K mg base (2 * (n + 1) + 2) fa (PySem.W.fnOf name qual params body scope dV kV doc pm an cdv ct) (N.take fi.np) (spI K L g (n + 1) f) := by
  refine ⟨fun vs H Q E h => spI_len hf hnp h, fun A outer s H args us vs Q E hr hg e0 hb rv hsp => ?_⟩
  have hl := spI_len hf hnp hsp
  have hKs : K.In s.heap := e0.mod.kin.keeps fun b o e => (e0.bs b o e).1
  have lim : s.heap.NoLimit := e0.mod.nolimit.keeps fun b o e => (e0.bs b o e).1
  have kinds : ∀ y ∈ (N.take fi.np).zip us, scope.names.lookup y.1 = some .local ∨ (scope.names.lookup y.1 = some .cell ∧ ((cellsFrom (s.heap.objs.size + 1) scope.names []).lookup y.1).isSome = true) := fun y hy => by
    rcases SC.par y.1 (List.of_mem_zip (show (y.1, y.2) ∈ _ from hy)).1 with q | q
    · exact .inl q
    · exact .inr ⟨q, PySem.W.cellsFrom_some _ _ _ (.inl q)⟩
  have hrd : Room (2 * n + 3) (A.deeper (envOfC qual scope s.heap.objs.size fa cdv)) := (show Room ((2 * n + 3) + 1) A from hr).deeper _
  refine codeAny_call_function hr.depth (hKs _ _ lk) rfl SC.co SC.gen rfl (PySem.W.codeRec_of hKs hcd) (hb _ _ _ _ ?_)
  refine wpAny_newFunctionEnv_cells SC.kind kinds fun env he s1 x => ?_
  subst he
  refine ⟨lim.keeps x.toInCall.keep, codeAny_func ?_⟩
  have G := good_cx (N := N) (qual := qual) (f := fa) (cd := cdv) (outer := outer) (H := H) (E := E) T SC.nd SC.kind hg hrd
  have hps := okSs fi.body G hchk
  have I : Inv (cxOf (L2.CX P w) P w K mg base N qual scope fa cdv A outer s H E) [] (L2.start N vs) H s1 := inv_start SC hr.hd e0 hl rv x
  obtain ⟨ρ, hp, ds, r, rd, h⟩ := hsp
  unfold wCall at h
  simp only [hf] at h
  obtain ⟨hdl, h⟩ := h
  have hrt : tSs K L g (wCall g n) (fun cls d _ H' => E cls d H') fi.body { nx := fun _ H' => Q .non H', rt := Q } (L2.start N vs) H := by
    refine ⟨ρ, hp, _, r, ⟨?_, fun i d hd => ?_⟩, wSs_mono (wCall_mono g n) fi.body _ hp { nx := fun _ hp => KQ K L ρ H Q .non hp, bk := fun _ _ => False, ct := fun _ _ => False, rt := KQ K L ρ H Q, ex := fun c i _ hp => KE K L ρ H E c i hp } _ ⟨fun env' hp' q => ?_, fun _ _ q => False.elim q, fun _ _ q => False.elim q, fun _ _ q => q, fun c i env' hp' q => ?_⟩ h⟩
    · unfold L2.start
      rw [List.length_append, List.length_append, List.length_map, List.length_map, List.length_replicate, List.length_replicate, ← rd.len, hdl, hns]
    · have hi : i < ds.length := by
        by_cases hi : i < ds.length
        · exact hi
        · rw [List.getElem?_append_right (by simpa using hi), List.getElem?_replicate] at hd
          split at hd <;> cases hd
      rw [List.getElem?_append_left (by simpa using hi), List.getElem?_map] at hd
      cases e : ds[i]? with
      | none => rw [e] at hd; cases hd
      | some d' =>
        rw [e] at hd
        cases hd
        obtain ⟨v, h1, h2⟩ := rd.get e
        refine ⟨v, ?_, h2⟩
        unfold L2.start
        rw [List.getElem?_append_left (by rw [List.length_map, ← rd.len]; exact hi), List.getElem?_map, h1]
        rfl
    · intro ρ' H' σ' e' r' _
      exact q ρ' H' .non e' r' .non
    · intro ρ' H' σ' a C e' r' _ h1 h2
      exact q ρ' H' a C e' r' h1 h2
  refine wpAny_mono (hps.run [] s1 (L2.start N vs) H _ I hrt) (fun fl s' hs => ?_) fun e s' hs => hs
  cases fl with
  | ret u =>
    obtain ⟨v, σ', H', J, rv', q⟩ := hs
    exact ⟨v, H', J.os, J.bare, J.base, J.hok, rv', q⟩
  | next =>
    obtain ⟨σ', H', J, q⟩ := hs
    exact ⟨.non, H', J.os, J.bare, J.base, J.hok, rfl, q⟩
  | brk =>
    obtain ⟨_, _, _, q⟩ := hs
    exact False.elim q
  | cont =>
    obtain ⟨_, _, _, q⟩ := hs
    exact False.elim q
theorem tf_of {w : World} (T : TFS S g w K mg L) (P : Program) (base : Heap) : ∀ n, TF S g P w K mg base L n := by
  intro n
  induction n with
  | zero =>
    refine ⟨T.blt, T.att, T.fn, fun f a ha => ?_, T.mks, T.mak, T.ini, T.cls, T.mth, T.mna, fun k x f h => let ⟨C, nm, h1, h2, h3, fI, fd, ps, xb, h4, h5, h6, h7, h8⟩ := T.exc k x f h; ⟨C, nm, h1, h2, h3, fI, fd, ps, xb, h4, h5, h6, h7, h8 P w base⟩, T.ex0, T.exf, T.exm, T.pr, T.kfn, T.con⟩
    obtain ⟨name, qual, params, body, scope, dV, kV, doc, pm, cdv, ct, oc, an, od, osl, N, fi, hf, lk, hcd, SC, hnp, hns, hb, hsh, hchk⟩ := (T.fnt f a ha).ex
    refine ⟨_, N.take fi.np, hb, hsh, fun vs H Q E h => spI_len hf hnp h, fun A outer s H args us vs Q E hr hg e0 hb rv hsp => ?_⟩
    obtain ⟨ρ, hp, ds, r, rd, h⟩ := hsp
    exact False.elim h
  | succ n ih =>
    refine ⟨T.blt, T.att, T.fn, fun f a ha => ?_, T.mks, T.mak, T.ini, T.cls, T.mth, T.mna, fun k x f h => let ⟨C, nm, h1, h2, h3, fI, fd, ps, xb, h4, h5, h6, h7, h8⟩ := T.exc k x f h; ⟨C, nm, h1, h2, h3, fI, fd, ps, xb, h4, h5, h6, h7, h8 P w base⟩, T.ex0, T.exf, T.exm, T.pr, T.kfn, T.con⟩
    obtain ⟨name, qual, params, body, scope, dV, kV, doc, pm, cdv, ct, oc, an, od, osl, N, fi, hf, lk, hcd, SC, hnp, hns, hb, hsh, hchk⟩ := (T.fnt f a ha).ex
    exact ⟨_, _, hb, hsh, fnG_of ih hf lk hcd SC hnp hns hchk⟩

/-! ### the end: the law is called with the script -/
/-- nothing is tracked but the script, if it is none of the written part -/
def hS (K : PySem.W.Frag) (a : Addr) (vs : List Value) (ns : List Int) : Hp := fun b => if b = a ∧ K.lookup a = none then some (.frz { cls := .type "list", data := .seq vs.toArray } (.lst (ns.map V.int))) else none
theorem hS_some {a b : Addr} {vs : List Value} {ns : List Int} {u : HO} (h : hS K a vs ns b = some u) : b = a ∧ K.lookup a = none ∧ u = .frz { cls := .type "list", data := .seq vs.toArray } (.lst (ns.map V.int)) := by
  unfold hS at h
  split at h
  · rename_i q
    exact ⟨q.1, q.2, (Option.some.inj h).symm⟩
  · cases h
theorem end_call {mb : Str → Option Value} {k : Nat} {fa a : Addr} {sp : Sp} {s₁ : Shared} {vs : List Value} {ns : List Int}
    (hK : K.In s₁.heap) (hmg : s₁.heap.Ns mainGlobals mg) (hmb : s₁.heap.Ns builtinsNs mb) (hbb : ∀ x : Str, x ≠ "__name__" → mb x = bootBuiltins x) (hlim : s₁.heap.NoLimit) (hgn : s₁.gens = #[])
    (ha : s₁.heap.get? a = some { cls := .type "list", data := .seq vs.toArray }) (hi : IntsAre vs ns) (hl : ns.length ≤ sizeLine) (hr : Room k callerA)
    (F : ∀ base : Heap, ∃ fd ps, Binds K fd ps [] ∧ FnG P w K mg base k fa fd ps sp)
    (hsp : KlL K (hS K a vs ns) a (ns.map V.int) → sp [.ref a] (hS K a vs ns) (fun v _ => v = .bl true) fun _ _ _ => False) :
    codeAny (model P w) callerA (.call (.ref fa) ⟨[.ref a], []⟩) (fun r s' => r = .ok (.ret (.bool true)) ∧ OldK s₁.heap s'.heap ∧ s'.os = s₁.os ∧ AllBare s'.gens) s₁ := by
  have rv := vals_ints hi
  generalize hH : hS K a vs ns = H at hsp
  have hsome : ∀ {b : Addr} {u : HO}, H b = some u → b = a ∧ K.lookup a = none ∧ u = .frz { cls := .type "list", data := .seq vs.toArray } (.lst (ns.map V.int)) := fun {b u} h => hS_some (by rw [hH]; exact h)
  -- what is not the script is not tracked
  have hnone : ∀ {b : Addr} {o : Obj}, s₁.heap.get? b = some o → (∀ vs n, o.data ≠ .seq vs n) → H b = none := fun {b o} e hd => by
    cases q : H b with
    | none => rfl
    | some u =>
      obtain ⟨rfl, _, _⟩ := hsome q
      rw [ha] at e
      cases e
      exact absurd rfl (hd _ _)
  have ns2 : ∀ {b : Addr} {m : Str → Option Value}, s₁.heap.Ns b m → (hidT s₁.heap H).Ns b m := fun {b m} ⟨o, es, ep, e, d, r⟩ => ⟨o, es, ep, hidT_get e (hnone e fun _ _ z => by rw [d] at z; cases z), d, r⟩
  have hKb : K.In (hidT s₁.heap H) := fun b o e => hidT_get (hK b o e) (by
    cases q : H b with
    | none => rfl
    | some u =>
      obtain ⟨rfl, q2, _⟩ := hsome q
      rw [q2] at e
      cases e)
  have hM : Mod K mg (hidT s₁.heap H) := ⟨hKb, ns2 hmg, ⟨mb, ns2 hmb, hbb⟩, let ⟨mc, h1, h2⟩ := hlim; ⟨mc, ns2 h1, h2⟩⟩
  have hok : HOk P w H s₁.heap := fun b u e => by
    obtain ⟨rfl, _, rfl⟩ := hsome e
    exact ⟨ha, by rw [List.length_map]; exact hl, vs, _, rv, ha⟩
  have e0 : Env0 P w K mg (hidT s₁.heap H) callerA [] s₁ H := ⟨rfl, hM, fun b o e => of_hidT e, Nat.le_of_eq (hidT_size _ _), trivial, fun b hb => absurd (show b ∈ ([] : List Addr) from hb) (by simp), hok, .of_eq hgn⟩
  have hkl : KlL K H a (ns.map V.int) := by
    cases q : K.lookup a with
    | none =>
      left
      refine ⟨{ cls := .type "list", data := .seq vs.toArray }, ?_⟩
      rw [← hH]
      exact if_pos ⟨rfl, q⟩
    | some o =>
      right
      have e := hK a o q
      rw [ha] at e
      cases e
      exact ⟨_, vs.toArray, _, q, rfl, rfl, rfl, by rw [List.size_toArray, hi.length]; exact hl, by simpa using rv⟩
  obtain ⟨fd, ps, hbind, F⟩ := F (hidT s₁.heap H)
  have hsp := hsp hkl
  have hln := F.len _ _ _ _ hsp
  have hbd : BindsTo s₁ fd ⟨[.ref a], []⟩ (ps.zip [.ref a]) := by
    have q := hbind s₁ [.ref a] hK hln
    rw [List.append_nil] at q
    exact q
  refine codeAny_mono (F.run callerA [] s₁ H ⟨[.ref a], []⟩ [.ref a] [.ref a] _ _ hr rfl e0 hbd (.cons rfl .nil) hsp) fun r s' h => ?_
  cases r with
  | error e =>
    -- no exception is let out
    exfalso
    obtain ⟨_, _, _, _, _, _, _, _, _, _, _, _, z⟩ := h
    exact z
  | ok fl =>
    cases fl with
    | next => exact False.elim h
    | brk => exact False.elim h
    | cont => exact False.elim h
    | ret u =>
      obtain ⟨v, H', os, bare, un, hok', rv', q⟩ := h
      have q' : v = .bl true := q
      subst q'
      obtain rfl : u = Value.bool true := rv'
      refine ⟨rfl, OldK.of_keep fun b o e => ?_, os, bare⟩
      cases q : H b with
      | none => exact un.keep b o e q (by intro z; exact absurd (show b ∈ ([] : List Addr) from z) (by simp)) (by simp)
      | some u =>
        obtain ⟨rfl, _, rfl⟩ := hsome q
        have z2 := un.frzs b _ _ q
        obtain ⟨e1, _⟩ := hok b _ q
        obtain ⟨e2, _⟩ := hok' b _ z2
        rw [e] at e1
        cases e1
        exact e2
end
theorem rds_ints {K : PySem.W.Frag} {L : Lay} {ρ : List Addr} {H : Hp} : ∀ ns : List Int, RDs K L ρ H (ns.map D.int) (ns.map V.int)
  | [] => .nil
  | n :: r => .cons (.int n) (rds_ints r)
/-- the promise of the law, from its run in the small language -/
theorem law_run {K : PySem.W.Frag} {L : Lay} {g : Glob} {N lf : Nat} {a : Addr} {H : Hp} {ns : List Int} (h : wCall g N lf [.kl (ns.map D.int)] [] (fun d _ => d = .bl true) fun _ _ _ => False) (hk : KlL K H a (ns.map V.int)) :
    spI K L g N lf [.ref a] H (fun v _ => v = .bl true) fun _ _ _ => False := by
  refine ⟨[], [], [.kl (ns.map D.int)], ⟨List.nodup_nil, rfl, fun i o h => by simp at h⟩, .cons (.kl hk (rds_ints ns)) .nil, wCall_mono g N lf _ _ _ _ _ _ (fun d hp q => ?_) (fun _ _ _ z => False.elim z) h⟩
  intro ρ' H' v _ _ rd
  subst q
  cases rd
  rfl
theorem walk_mi {l : PySem.W.OpenLaw} {n N : Nat} {q : Program} {loose : List Str} {XP : (Str → Option Value) → Heap → Prop} {YP : World → Heap → Prop} {d : DefRec} {K : Params → PySem.W.Frag} {S : Nm} {g : Glob} {lf : Nat}
    (hn : l.most = some n) (hn2 : n ≤ sizeLine) (hdf : d.params.defaults = []) (hr : Room (2 * N + 2) callerA)
    (hY : ∀ (w : World) (h : Heap), YP w h → (K w.params).In h)
    (F : ∀ (w : World) (mg : Str → Option Value) (fa : Addr) (h : Heap), (K w.params).In h → h.Ns mainGlobals mg → mg d.name = some (.ref fa) → ∃ L : Lay, TFS S g w (K w.params) mg L ∧ L.fns[lf]? = some fa)
    (run : ∀ ns : List Int, ns.length ≤ n → wCall g N lf [.kl (ns.map D.int)] [] (fun d _ => d = .bl true) fun _ _ _ => False) :
    PySem.W.WalkO q loose XP YP l.row.toRowW d [] (fun f vs => PySem.call f vs) := by
  refine Att.attach_call hn hdf fun w s₀ s₁ mg mb fa o pm cd doc a vs ns G Y ho hd hcd hmg hobj hints hlen hg => ?_
  have hK := hY w _ Y
  obtain ⟨L, T, hL⟩ := F w mg fa _ hK G.T.g hmg
  exact end_call (sp := spI (K w.params) L g N lf) hK G.T.g G.T.b G.T.builtins G.T.nolimit hg hobj hints (Nat.le_trans hlen hn2) hr (fun base => let ⟨fd, ps, hb, _, F⟩ := (tf_of T l.prog base N).call lf fa hL; ⟨fd, ps, hb, F⟩) fun hk => law_run (run ns hlen) hk
/-- .. where no int of the script is above 2^1048576 or so -/
theorem walk_miB {l : PySem.W.OpenLaw} {n N : Nat} {q : Program} {loose : List Str} {XP : (Str → Option Value) → Heap → Prop} {YP : World → Heap → Prop} {d : DefRec} {K : Params → PySem.W.Frag} {S : Nm} {g : Glob} {lf : Nat}
    (hn : l.most = some n) (hn2 : n ≤ sizeLine) (hdf : d.params.defaults = []) (hr : Room (2 * N + 2) callerA)
    (hY : ∀ (w : World) (h : Heap), YP w h → (K w.params).In h)
    (F : ∀ (w : World) (mg : Str → Option Value) (fa : Addr) (h : Heap), (K w.params).In h → h.Ns mainGlobals mg → mg d.name = some (.ref fa) → ∃ L : Lay, TFS S g w (K w.params) mg L ∧ L.fns[lf]? = some fa)
    (run : ∀ ns : List Int, ns.length ≤ n → (∀ k ∈ ns, Builtin.Int.intBits k ≤ 1048576) → wCall g N lf [.kl (ns.map D.int)] [] (fun d _ => d = .bl true) fun _ _ _ => False) :
    PySem.W.WalkO q loose XP YP l.row.toRowW d [] (fun f vs => PySem.call f vs) := by
  refine Att.attach_callB hn hdf fun w s₀ s₁ mg mb fa o pm cd doc a vs ns G Y ho hd hcd hmg hobj hints hlen hbits hg => ?_
  have hK := hY w _ Y
  obtain ⟨L, T, hL⟩ := F w mg fa _ hK G.T.g hmg
  exact end_call (sp := spI (K w.params) L g N lf) hK G.T.g G.T.b G.T.builtins G.T.nolimit hg hobj hints (Nat.le_trans hlen hn2) hr (fun base => let ⟨fd, ps, hb, _, F⟩ := (tf_of T l.prog base N).call lf fa hL; ⟨fd, ps, hb, F⟩) fun hk => law_run (run ns hlen hbits) hk
end MI
set_option maxHeartbeats 2000000
/-! MI, exceptions 4: the __init__ of an own class with one field. -/
namespace MI
open PySem PySem.Spec PyProof.Rows L2
/-- the text of such an __init__ -/
def xinB (c : Ck) (b f : Str) (body : List Stmt) : Bool := match body with
  | [.Expr (.Call (.Attribute (.Name b1 _) i p2) [.Name s1 _, .Constant (.str _) _ _] [] p5) _, .Assign [.Attribute (.Name s2 _) f1 _] (.Name y _) _] =>
    decide (b1 = b) && decide (i = "__init__") && decide (f1 = f) && decide (s1 = s2) && decide (c.N = [s1, y]) && c.glob b1 && c.vis s1 && c.vis y && (p2.endLine == p5.line)
  | _ => false
section
variable {K : PySem.W.Frag} {mg : Str → Option Value} {C R fI : Addr} {f b : Str} {mc : Value} {N : List Str}
theorem visB {c : Ck} {x : Str} (h : c.vis x = true) : Vis c.sc x ∧ (x == ("__debug__" : Str)) = false ∧ (x == ("__classdict__" : Str)) = false := by
  unfold Ck.vis at h
  simp only [Bool.and_eq_true, Bool.not_eq_true'] at h
  refine ⟨?_, h.1.2, h.2⟩
  have h1 := h.1.1
  split at h1
  · rename_i e; exact .inl e
  · rename_i e; exact .inr (.inl e)
  · rename_i e; exact .inr (.inr e)
  · cases h1
theorem globB {c : Ck} {x : Str} (h : c.glob x = true) : c.sc.names.lookup x = some .globalImplicit ∧ (x == ("__debug__" : Str)) = false := by
  unfold Ck.glob at h
  simp only [Bool.and_eq_true, Bool.not_eq_true', decide_eq_true_eq] at h
  exact ⟨h.1.1.1, h.1.1.2⟩
theorem exk_of {name qual : Str} {params : Arguments} {body : List Stmt} {scope : Scope} {dV kV doc pm cdv ct oc : Value} {an od : Option Addr} {osl : Array (Option Value)} {xb : XB} (T : OexG K C xb) (hno : PySem.W.findIn K (.ref C) f = some none)
    (gR : mg b = some (.ref R)) (r : ClX.CRead K R mc) (at_ : PySem.W.findCls K (.ref R) mc "__init__" = some (.val (.builtin xb.ini)))
    (iC : PySem.W.findIn K (.ref C) "__init__" = some (some (.ref fI))) (tI : PySem.W.typeIn K (.ref fI) = some (.type "function"))
    (lk : K.lookup fI = some ⟨oc, od, .func (PySem.W.fnOf name qual params body scope dV kV doc pm an cdv ct), osl⟩) (hcd : PySem.W.codeIn K cdv qual = true) (hsc : fnScopeB N 2 scope = true) (hb : Binds K (PySem.W.fnOf name qual params body scope dV kV doc pm an cdv ct) (N.take 2) [])
    (hx : xinB ⟨{ fnN := [], clsN := [], constN := [], attrs := [], mths := [], blts := [] }, scope, N, true⟩ b f body = true) : ∃ fI fd ps, ∃ xb, OexG K C xb ∧ PySem.W.findIn K (.ref C) "__init__" = some (some (.ref fI)) ∧ PySem.W.typeIn K (.ref fI) = some (.type "function") ∧ Binds K fd ps [] ∧ ∀ P w base, FnOk P w K mg base (L2.CX P w) 1 fI fd ps (spX K C f) := by
  have SC := fnScope_by hsc
  refine ⟨fI, _, N.take 2, xb, T, iC, tI, hb, fun P w base => ?_⟩
  unfold xinB at hx
  split at hx
  · rename_i b1 p1 i p2 s1 p3 t1 j1 p4 p5 p6 s2 p7 f1 p8 y p9 p10
    simp only [Bool.and_eq_true, decide_eq_true_eq] at hx
    obtain ⟨⟨⟨⟨⟨⟨⟨⟨rfl, rfl⟩, rfl⟩, rfl⟩, hN⟩, hg⟩, hv1⟩, hv2⟩, hli⟩ := hx
    have hN : N = [s1, y] := hN
    subst hN
    refine fn_of lk hcd SC (fun vs H Q E h => ?_) fun A outer s H vs Q E hr h => ?_
    · obtain ⟨a, z, rfl, _⟩ := h
      rfl
    · obtain ⟨a, z, rfl, ha, h⟩ := h
      have V1 := visB hv1
      have V2 := visB hv2
      have G1 := globB hg
      have n0 : ([s1, y] : List Str)[0]? = some s1 := rfl
      have n1 : ([s1, y] : List Str)[1]? = some y := rfl
      refine ⟨_, pss_cons (ps_expr (pe_rini (X := cxOf (L2.CX P w) P w K mg base [s1, y] qual scope fI cdv A outer s H E) (b := xb) G1.1 gR r T.ok at_ (pa_cons (pe_var n0 V1.1 V1.2.1 V1.2.2) (pa_cons pe_str pa_nil)) G1.2 hli rfl rfl rfl))
        (pss_cons (ps_osx (b := xb) (pe_var n0 V1.1 V1.2.1 V1.2.2) (pe_var n1 V2.1 V2.2.1 V2.2.2)) pss_nil), ?_⟩
      refine ⟨.ref a, rfl, a, C, [.str t1], rfl, (show 1 ≤ 1000 by decide), T, ha, z, rfl, .ref a, rfl, a, C, rfl, T, hno, ha, fun dx n ne => ?_⟩
      exact h dx n ne
  · cases hx
theorem exk_b {name qual : Str} {params : Arguments} {body : List Stmt} {scope : Scope} {dV kV doc pm cdv ct oc : Value} {an od : Option Addr} {osl : Array (Option Value)} {xb : XB} (T : OexG K C xb) (hno : PySem.W.findIn K (.ref C) f = some none)
    (gR : mg b = none) (eb : b = Str.ofString xb.B) (nb : b ≠ "__name__") (at_ : PySem.W.findCls K (.type xb.B) (.type "type") "__init__" = some (.val (.builtin xb.ini)))
    (iC : PySem.W.findIn K (.ref C) "__init__" = some (some (.ref fI))) (tI : PySem.W.typeIn K (.ref fI) = some (.type "function"))
    (lk : K.lookup fI = some ⟨oc, od, .func (PySem.W.fnOf name qual params body scope dV kV doc pm an cdv ct), osl⟩) (hcd : PySem.W.codeIn K cdv qual = true) (hsc : fnScopeB N 2 scope = true) (hb : Binds K (PySem.W.fnOf name qual params body scope dV kV doc pm an cdv ct) (N.take 2) [])
    (hx : xinB ⟨{ fnN := [], clsN := [], constN := [], attrs := [], mths := [], blts := [] }, scope, N, true⟩ b f body = true) : ∃ fI fd ps, ∃ xb, OexG K C xb ∧ PySem.W.findIn K (.ref C) "__init__" = some (some (.ref fI)) ∧ PySem.W.typeIn K (.ref fI) = some (.type "function") ∧ Binds K fd ps [] ∧ ∀ P w base, FnOk P w K mg base (L2.CX P w) 1 fI fd ps (spX K C f) := by
  have SC := fnScope_by hsc
  refine ⟨fI, _, N.take 2, xb, T, iC, tI, hb, fun P w base => ?_⟩
  unfold xinB at hx
  split at hx
  · rename_i b1 p1 i p2 s1 p3 t1 j1 p4 p5 p6 s2 p7 f1 p8 y p9 p10
    simp only [Bool.and_eq_true, decide_eq_true_eq] at hx
    obtain ⟨⟨⟨⟨⟨⟨⟨⟨rfl, rfl⟩, rfl⟩, rfl⟩, hN⟩, hg⟩, hv1⟩, hv2⟩, hli⟩ := hx
    have hN : N = [s1, y] := hN
    subst hN
    refine fn_of lk hcd SC (fun vs H Q E h => ?_) fun A outer s H vs Q E hr h => ?_
    · obtain ⟨a, z, rfl, _⟩ := h
      rfl
    · obtain ⟨a, z, rfl, ha, h⟩ := h
      have V1 := visB hv1
      have V2 := visB hv2
      have G1 := globB hg
      have n0 : ([s1, y] : List Str)[0]? = some s1 := rfl
      have n1 : ([s1, y] : List Str)[1]? = some y := rfl
      refine ⟨_, pss_cons (ps_expr (pe_bini (X := cxOf (L2.CX P w) P w K mg base [s1, y] qual scope fI cdv A outer s H E) (b := xb) G1.1 gR eb nb T.ok at_ (pa_cons (pe_var n0 V1.1 V1.2.1 V1.2.2) (pa_cons pe_str pa_nil)) G1.2 hli rfl rfl rfl))
        (pss_cons (ps_osx (b := xb) (pe_var n0 V1.1 V1.2.1 V1.2.2) (pe_var n1 V2.1 V2.2.1 V2.2.2)) pss_nil), ?_⟩
      refine ⟨.ref a, rfl, a, C, [.str t1], rfl, (show 1 ≤ 1000 by decide), T, ha, z, rfl, .ref a, rfl, a, C, rfl, T, hno, ha, fun dx n ne => ?_⟩
      exact h dx n ne
  · cases hx
end
end MI
/-! MI, part 20: the head's facts, gathered. -/
namespace MI
open PySem PySem.Spec PyProof.Rows L2

inductive AllM {α : Type} (P : α → Prop) : List α → Prop
  | nil : AllM P []
  | cons {a : α} {l : List α} : P a → AllM P l → AllM P (a :: l)
theorem all_mem {α : Type} {P : α → Prop} : ∀ {l : List α}, AllM P l → ∀ x ∈ l, P x
  | _, .cons h t, x, hx => by
    rcases List.mem_cons.mp hx with e | e
    · subst e; exact h
    · exact all_mem t x e
inductive AllI {α : Type} (P : Nat → α → Prop) : Nat → List α → Prop
  | nil {n : Nat} : AllI P n []
  | cons {n : Nat} {a : α} {l : List α} : P n a → AllI P (n + 1) l → AllI P n (a :: l)
theorem all_ix0 {α : Type} {P : Nat → α → Prop} : ∀ {l : List α} {n : Nat}, AllI P n l → ∀ i a, l[i]? = some a → P (n + i) a
  | _, n, .nil, i, a, h => by simp at h
  | _, n, .cons p t, 0, a, h => by
    have h : some _ = some a := h
    cases h
    exact p
  | _, n, .cons p t, i + 1, a, h => by
    have := all_ix0 t i a (by simpa using h)
    rw [show n + (i + 1) = n + 1 + i by omega]
    exact this
theorem all_ix {α : Type} {P : Nat → α → Prop} {l : List α} (h : AllI P 0 l) : ∀ i a, l[i]? = some a → P i a := fun i a e => by
  have := all_ix0 h i a e
  rwa [Nat.zero_add] at this
section
variable {S : Nm} {g : Glob} {K : PySem.W.Frag} {mg : Str → Option Value} {L : Lay}
inductive AllF (K : PySem.W.Frag) (mg : Str → Option Value) (fns : List Addr) : Nat → List (Option Str) → Prop
  | nil {n : Nat} : AllF K mg fns n []
  | none {n : Nat} {l : List (Option Str)} : AllF K mg fns (n + 1) l → AllF K mg fns n (.none :: l)
  | some {n : Nat} {x : Str} {a : Addr} {l : List (Option Str)} : fns[n]? = .some a → mg x = .some (.ref a) → PySem.W.keepIn K (.ref a) = true → AllF K mg fns (n + 1) l → AllF K mg fns n (.some x :: l)
theorem all_fn0 {fns : List Addr} : ∀ {l : List (Option Str)} {n : Nat}, AllF K mg fns n l → ∀ (f : Nat) (x : Str), l[f]? = some (some x) → ∃ a, fns[n + f]? = some a ∧ mg x = some (.ref a) ∧ PySem.W.keepIn K (.ref a) = true
  | _, n, .nil, f, x, h => by simp at h
  | _, n, .none t, 0, x, h => by simp at h
  | _, n, .none t, f + 1, x, h => by
    have := all_fn0 t f x (by simpa using h)
    rwa [show n + (f + 1) = n + 1 + f by omega]
  | _, n, .some a b c t, 0, x, h => by
    have h : some (some _) = some (some x) := h
    cases h
    exact ⟨_, a, b, c⟩
  | _, n, .some a b c t, f + 1, x, h => by
    have := all_fn0 t f x (by simpa using h)
    rwa [show n + (f + 1) = n + 1 + f by omega]
theorem all_fn {fns : List Addr} {l : List (Option Str)} (h : AllF K mg fns 0 l) (f : Nat) (x : Str) (e : l[f]? = some (some x)) : ∃ a, fns[f]? = some a ∧ mg x = some (.ref a) ∧ PySem.W.keepIn K (.ref a) = true := by
  have := all_fn0 h f x e
  rwa [Nat.zero_add] at this
theorem fnt_mk {f : Nat} {fi : FnI} {N : List Str} {a : Addr} {name qual : Str} {params : Arguments} {body : List Stmt} {scope : Scope} {dV kV doc pm cdv ct oc : Value} {an od : Option Addr} {osl : Array (Option Value)} (hf : g.fns[f]? = some fi)
    (l : K.lookup a = some ⟨oc, od, .func (PySem.W.fnOf name qual params body scope dV kV doc pm an cdv ct), osl⟩) (c : PySem.W.codeIn K cdv qual = true) (hsc : fnScopeB N fi.np scope = true) (hns : fi.ns = N.length)
    (hchk : chkSs ⟨S, scope, N, true⟩ fi.body body = true) (hb : Binds K (PySem.W.fnOf name qual params body scope dV kV doc pm an cdv ct) (N.take fi.np) []) (hsh : ∀ sh ∈ S.shp, sh.1 = f → ShpOk K (PySem.W.fnOf name qual params body scope dV kV doc pm an cdv ct) (N.take fi.np) sh.2.1 sh.2.2.1 sh.2.2.2) : FnT S g K f a := by
  have hnp : fi.np ≤ N.length := by
    unfold fnScopeB at hsc
    simp only [Bool.and_eq_true, decide_eq_true_eq] at hsc
    exact hsc.1.1.2
  exact ⟨name, qual, params, body, scope, dV, kV, doc, pm, cdv, ct, oc, an, od, osl, N, fi, hf, l, c, fnScope_by hsc, hnp, hns, hb, hsh, hchk⟩
theorem all_mak (h : AllI (fun c x => ∃ f C a, g.init c = some f ∧ L.clss[c]? = some C ∧ mg x = some (.ref C) ∧ L.fns[f]? = some a ∧ Mk K C a) 0 S.clsN) (c : Nat) (x : Str) (f : Nat) (e : S.clsN[c]? = some x) (e2 : g.init c = some f) :
    ∃ C a, L.clss[c]? = some C ∧ mg x = some (.ref C) ∧ L.fns[f]? = some a ∧ Mk K C a := by
  obtain ⟨f', C, a, h1, h2, h3, h4, h5⟩ := all_ix h c x e
  rw [e2] at h1
  cases h1
  exact ⟨C, a, h2, h3, h4, h5⟩
theorem all_ini (h : ((List.range S.clsN.length).all fun k => (g.init k).isSome) = true) (k : Nat) (x : Str) (e : S.clsN[k]? = some x) : g.init k ≠ none := by
  have hl := (List.getElem?_eq_some_iff.mp e).1
  have := List.all_eq_true.mp h k (List.mem_range.mpr hl)
  intro z
  rw [z] at this
  cases this
theorem nfind_mem : ∀ {l : List (Nat × Nat)} {m f : Nat}, nfind l m = some f → (m, f) ∈ l
  | [], m, f, h => by cases h
  | (k, v) :: r, m, f, h => by
    unfold nfind at h
    split at h
    · rename_i e
      cases h
      subst e
      exact List.mem_cons_self
    · exact List.mem_cons_of_mem _ (nfind_mem h)
theorem all_mth (h : AllI (fun c C => ∃ ci, g.clss[c]? = some ci ∧ AllM (fun p : Nat × Nat => ∃ nm a, S.mths[p.1]? = some nm ∧ L.fns[p.2]? = some a ∧ Meth K C nm a) ci.meths) 0 L.clss) (c : Nat) (C : Addr) (m : Nat) (nm : Str) (f : Nat)
    (e : L.clss[c]? = some C) (e1 : S.mths[m]? = some nm) (e2 : g.meth c m = some f) : ∃ a, L.fns[f]? = some a ∧ Meth K C nm a := by
  obtain ⟨ci, h1, h2⟩ := all_ix h c C e
  unfold Glob.meth at e2
  simp only [h1] at e2
  obtain ⟨nm', a, h3, h4, h5⟩ := all_mem h2 _ (nfind_mem e2)
  have h3 : S.mths[m]? = some nm' := h3
  rw [e1] at h3
  cases h3
  exact ⟨a, h4, h5⟩
theorem all_mna (h : (S.mths.all fun nm => !S.attrs.contains nm) = true) (m : Nat) (nm : Str) (e : S.mths[m]? = some nm) : nm ∉ S.attrs := by
  have := List.all_eq_true.mp h nm (List.mem_of_getElem? e)
  simpa using this
def mksB (S : Nm) (g : Glob) : Bool := S.mks.all fun e => (List.range g.clss.length).all fun c =>
  match g.meth c e.1 with
  | some f => decide ((f, e.2.1 + 1, e.2.2.1, 0 :: e.2.2.2.map (· + 1)) ∈ S.shp)
  | none => true
theorem all_mks (h : mksB S g = true) : ∀ e ∈ S.mks, ∀ c f, g.meth c e.1 = some f → (f, e.2.1 + 1, e.2.2.1, 0 :: e.2.2.2.map (· + 1)) ∈ S.shp := fun e he c f hm => by
  have h1 := List.all_eq_true.mp h e he
  have hc : c < g.clss.length := by
    unfold Glob.meth at hm
    cases hg : g.clss[c]? with
    | none => rw [hg] at hm; cases hm
    | some _ => exact (List.getElem?_eq_some_iff.mp hg).1
  have h2 := List.all_eq_true.mp h1 c (List.mem_range.mpr hc)
  rw [hm] at h2
  exact of_decide_eq_true h2
theorem all_con (h : AllI (fun k x => ∃ d u v, g.consts[k]? = some d ∧ mg x = some u ∧ RelV v u ∧ ∀ ρ H, RD K L ρ H d v) 0 S.constN) (k : Nat) (x : Str) (e : S.constN[k]? = some x) : ∃ d u v, g.consts[k]? = some d ∧ mg x = some u ∧ RelV v u ∧ ∀ ρ H, RD K L ρ H d v := all_ix h k x e
theorem all_exc (h : AllI (fun k p => ∃ C nm, L.exs[k]? = some C ∧ mg p.1 = some (.ref C) ∧ S.attrs[p.2]? = some nm ∧ ∃ fI fd ps, ∃ b, OexG K C b ∧ PySem.W.findIn K (.ref C) "__init__" = some (some (.ref fI)) ∧ PySem.W.typeIn K (.ref fI) = some (.type "function") ∧ Binds K fd ps [] ∧ ∀ P w base, FnOk P w K mg base (L2.CX P w) 1 fI fd ps (spX K C nm)) 0 S.excN) (k : Nat) (x : Str) (f : Nat) (e : S.excN[k]? = some (x, f)) :
    ∃ C nm, L.exs[k]? = some C ∧ mg x = some (.ref C) ∧ S.attrs[f]? = some nm ∧ ∃ fI fd ps, ∃ b, OexG K C b ∧ PySem.W.findIn K (.ref C) "__init__" = some (some (.ref fI)) ∧ PySem.W.typeIn K (.ref fI) = some (.type "function") ∧ Binds K fd ps [] ∧ ∀ P w base, FnOk P w K mg base (L2.CX P w) 1 fI fd ps (spX K C nm) := all_ix h k (x, f) e
inductive AllZ {α β : Type} (P : α → β → Prop) : List α → List β → Prop
  | nil : AllZ P [] []
  | cons {a : α} {b : β} {as : List α} {bs : List β} : P a b → AllZ P as bs → AllZ P (a :: as) (b :: bs)
theorem all_z {α β : Type} {P : α → β → Prop} : ∀ {as : List α} {bs : List β}, AllZ P as bs → ∀ (k : Nat) (a : α) (b : β), as[k]? = some a → bs[k]? = some b → P a b
  | _, _, .nil, k, a, b, h, _ => by simp at h
  | _, _, .cons p t, 0, a, b, h1, h2 => by
    simp at h1 h2
    subst h1 h2
    exact p
  | _, _, .cons p t, k + 1, a, b, h1, h2 => all_z t k a b (by simpa using h1) (by simpa using h2)
theorem kit_ref {C R : Addr} {b : Bool} (h4 : PySem.W.subIn K (.ref C) (.ref R) = some b) (hs : PySem.W.subIn K (.ref C) (.ref C) = some true) (hd : PySem.W.hasDictIn K R = true) (ht : PySem.W.typeIn K (.ref R) = some (.type "type")) : PySem.W.kitOne K (.ref C) (.ref R) = some b := by
  unfold PySem.W.kitOne
  by_cases e : C = R
  · subst e
    rw [h4] at hs
    cases hs
    rw [if_pos (by simp)]
  · rw [if_neg (by simpa using e)]
    obtain ⟨cd, hc, _⟩ := PySem.W.any_some hd
    show (if ((PySem.W.clsIn K R).isSome && PySem.W.typeIn K (.ref R) == some (.type "type")) = true then PySem.W.subIn K (.ref C) (.ref R) else none) = some b
    rw [if_pos (by rw [hc, ht] <;> rfl)]
    exact h4
theorem exm_of {C R : Addr} {b : Bool} (h1 : PySem.W.subIn K (.ref R) (.type "BaseException") = some true) (hd : PySem.W.hasDictIn K R = true) (ht : PySem.W.typeIn K (.ref R) = some (.type "type")) (hs : PySem.W.subIn K (.ref C) (.ref C) = some true) (h4 : PySem.W.subIn K (.ref C) (.ref R) = some b) :
    PySem.W.exmOne K (.ref C) (.ref R) = some b ∧ PySem.W.kitOne K (.ref C) (.ref R) = some b := ⟨PySem.W.exm_ref h1 hd ht h4, kit_ref h4 hs hd ht⟩
theorem exm_ty {C : Addr} {b : Bool} {T : String} (h1 : PySem.W.subIn K (.type T) (.type "BaseException") = some true) (hk : PySem.W.kitCls K (.ref C) (.type T) = some b) :
    PySem.W.exmOne K (.ref C) (.type T) = some b ∧ PySem.W.kitOne K (.ref C) (.type T) = some b := by
  refine ⟨?_, ?_⟩
  · unfold PySem.W.exmOne
    rw [h1, if_pos (by rfl)]
    exact hk
  · unfold PySem.W.kitOne
    rw [if_neg (by simp)]
    exact hk
/-! the mro of the own exception classes, told by places in a list of addresses -/
def MroOf (K : PySem.W.Frag) (C : Addr) (cs : List Addr) (tl : List Value) : Prop := ∃ cd, PySem.W.clsIn K C = some cd ∧ cd.mro = .ref C :: (cs.map Value.ref ++ tl)
def isTyB : Value → Bool
  | .type _ => true
  | _ => false
def ixs (A : List Addr) (ps : List Nat) : Option (List Addr) := mapO (fun i => A[i]?) ps
theorem ixs_mem {A : List Addr} : ∀ {ps : List Nat} {cs : List Addr}, ixs A ps = some cs → ∀ m D, A.Nodup → A[m]? = some D → (D ∈ cs ↔ m ∈ ps)
  | [], cs, h, m, D, nd, hD => by
    cases h
    simp
  | p :: ps, cs, h, m, D, nd, hD => by
    unfold ixs mapO at h
    cases e : A[p]? with
    | none => simp only [e] at h; cases h
    | some c =>
      simp only [e] at h
      cases e2 : mapO (fun i => A[i]?) ps with
      | none => simp only [e2] at h; cases h
      | some r =>
        simp only [e2] at h
        cases h
        have ih := ixs_mem (ps := ps) (cs := r) e2 m D nd hD
        rw [List.mem_cons, List.mem_cons, ih]
        constructor
        · rintro (q | q)
          · subst q
            exact .inl (nodup_at nd hD e)
          · exact .inr q
        · rintro (q | q)
          · subst q
            rw [e] at hD
            cases hD
            exact .inl rfl
          · exact .inr q
theorem sub_mro {C : Addr} {cs : List Addr} {tl : List Value} {v : Value} (h : MroOf K C cs tl) : PySem.W.subIn K (.ref C) v = some ((Value.ref C :: (cs.map Value.ref ++ tl)).contains v) := by
  obtain ⟨cd, h1, h2⟩ := h
  show PySem.W.mroIn K C v = _
  unfold PySem.W.mroIn
  rw [h1, Option.bind_some, h2, if_neg (by simp)]
theorem ty_noref {D : Addr} : ∀ {tl : List Value}, tl.all isTyB = true → tl.contains (.ref D) = false
  | [], _ => rfl
  | .type T :: r, h => by
    rw [List.contains_cons, ty_noref (tl := r) (by simpa [isTyB] using h)]
    rfl
  | .ref c :: _, h => by simp [isTyB] at h
  | .none :: _, h => by simp [isTyB] at h
  | .ellipsis :: _, h => by simp [isTyB] at h
  | .notImplemented :: _, h => by simp [isTyB] at h
  | .bool _ :: _, h => by simp [isTyB] at h
  | .int _ _ :: _, h => by simp [isTyB] at h
  | .float _ _ :: _, h => by simp [isTyB] at h
  | .str _ _ :: _, h => by simp [isTyB] at h
  | .bytes _ _ :: _, h => by simp [isTyB] at h
  | .builtin _ :: _, h => by simp [isTyB] at h
theorem map_ref_ty {T : String} : ∀ cs : List Addr, (cs.map Value.ref).contains (.type T) = false
  | [] => rfl
  | c :: r => by
    rw [List.map_cons, List.contains_cons, map_ref_ty r]
    rfl
theorem contains_app {l r : List Value} {v : Value} : (l ++ r).contains v = (l.contains v || r.contains v) := by
  induction l with
  | nil => rfl
  | cons a l ih => rw [List.cons_append, List.contains_cons, List.contains_cons, ih, Bool.or_assoc]
theorem sub_own {A : List Addr} {C D : Addr} {cs : List Addr} {ps : List Nat} {tl : List Value} {k m : Nat} (mr : MroOf K C cs tl) (hp : A[k]? = some C) (hi : ixs A ps = some cs) (nd : A.Nodup) (hD : A[m]? = some D) (ht : tl.all isTyB = true) :
    PySem.W.subIn K (.ref C) (.ref D) = some (k == m || ps.contains m) := by
  rw [sub_mro mr, List.contains_cons, contains_app, ty_noref ht, Bool.or_false]
  congr 1
  have e1 : (Value.ref D == Value.ref C) = (k == m) := by
    by_cases q : k = m
    · subst q
      rw [hp] at hD
      cases hD
      simp
    · have : ¬ D = C := fun z => q (nodup_at nd hp (z ▸ hD))
      have h1 : (Value.ref D == Value.ref C) = false := beq_eq_false_iff_ne.mpr fun z => this (Value.ref.inj z)
      have h2 : (k == m) = false := beq_eq_false_iff_ne.mpr q
      rw [h1, h2]
  have e2 : (cs.map Value.ref).contains (.ref D) = ps.contains m := by
    have z := ixs_mem hi m D nd hD
    rw [Bool.eq_iff_iff]
    rw [List.contains_iff_mem, List.contains_iff_mem, ← z, List.mem_map]
    constructor
    · rintro ⟨x, hx, e⟩
      cases e
      exact hx
    · intro hx
      exact ⟨D, hx, rfl⟩
  rw [e1, e2]
theorem sub_tyo {C : Addr} {cs : List Addr} {tl : List Value} {T : String} (mr : MroOf K C cs tl) : PySem.W.subIn K (.ref C) (.type T) = some (tl.contains (.type T)) := by
  rw [sub_mro mr, List.contains_cons, contains_app, map_ref_ty]
  rfl
/-- all own classes' mros -/
def Mros (K : PySem.W.Frag) (A exs : List Addr) (par : List (List Nat)) (tls : List (List Value)) : Prop :=
  (∀ (k : Nat) (C : Addr), exs[k]? = some C → A[k]? = some C) ∧ A.Nodup ∧ ∀ (k : Nat) (C : Addr), exs[k]? = some C → ∃ ps tl cs, par[k]? = some ps ∧ tls[k]? = some tl ∧ ixs A ps = some cs ∧ MroOf K C cs tl ∧ tl.all isTyB = true
theorem exm_row {A : List Addr} {par : List (List Nat)} {tls : List (List Value)} {D : Addr} {m : Nat} {bs : List Bool} (M : Mros K A L.exs par tls) (hD : A[m]? = some D) (h1 : PySem.W.subIn K (.ref D) (.type "BaseException") = some true) (hd : PySem.W.hasDictIn K D = true) (ht : PySem.W.typeIn K (.ref D) = some (.type "type"))
    (hb : ((List.range bs.length).all fun k => bs[k]? == some (k == m || (par.getD k []).contains m)) = true) : ExmAt K L (.ref D) bs := fun k C b hC hk => by
  obtain ⟨pre, nd, mm⟩ := M
  obtain ⟨ps, tl, cs, p1, p2, p3, p4, p5⟩ := mm k C hC
  have hl := (List.getElem?_eq_some_iff.mp hk).1
  have q := List.all_eq_true.mp hb k (List.mem_range.mpr hl)
  rw [hk] at q
  have eb : b = (k == m || ps.contains m) := by
    have : par.getD k [] = ps := by rw [List.getD_eq_getElem?_getD, p1]; rfl
    rw [this] at q
    simpa using q
  have s1 := sub_own p4 (pre k C hC) p3 nd hD p5
  rw [← eb] at s1
  have s2 : PySem.W.subIn K (.ref C) (.ref C) = some true := by
    rw [sub_mro p4, List.contains_cons]
    simp
  exact ⟨PySem.W.exm_ref h1 hd ht s1, kit_ref s1 s2 hd ht⟩
theorem exm_rowT {A : List Addr} {par : List (List Nat)} {tls : List (List Value)} {T : String} {bs : List Bool} (M : Mros K A L.exs par tls) (h1 : PySem.W.subIn K (.type T) (.type "BaseException") = some true) (hm : PySem.W.kitMeta T = true)
    (hb : ((List.range bs.length).all fun k => bs[k]? == some ((tls.getD k []).contains (.type T))) = true) : ExmAt K L (.type T) bs := fun k C b hC hk => by
  obtain ⟨pre, nd, mm⟩ := M
  obtain ⟨ps, tl, cs, p1, p2, p3, p4, p5⟩ := mm k C hC
  have hl := (List.getElem?_eq_some_iff.mp hk).1
  have q := List.all_eq_true.mp hb k (List.mem_range.mpr hl)
  rw [hk] at q
  have eb : b = tl.contains (.type T) := by
    have : tls.getD k [] = tl := by rw [List.getD_eq_getElem?_getD, p2]; rfl
    rw [this] at q
    simpa using q
  refine exm_ty h1 ?_
  show (if PySem.W.kitMeta T = true then PySem.W.subIn K (.ref C) (.type T) else none) = some b
  rw [if_pos hm, sub_tyo p4, eb]
theorem mro_of {C N : Addr} {xa xb : Str} {cs : List Addr} {tl : List Value} {bs : List Value} {h : Bool} {sn : List Str} {sub : List Value} {ab : Bool} {col : Option Bool} {dd : Option Addr} {k0 k1 k2 k3 k5 : Option Value} {nw : String}
    (l : K.lookup C = some (excClassObj xa xb C N bs (cs.map Value.ref ++ tl) h sn sub ab col dd k0 k1 k2 k3 k5 nw)) : MroOf K C cs tl := by
  have e : PySem.W.clsIn K C = some { name := xa, bases := bs, mro := .ref C :: (cs.map Value.ref ++ tl), ns := N, qualname := xb, hasDict := h, slotNames := sn, subclasses := sub, abstract := ab, collection := col, hasDel := false } := by
    unfold PySem.W.clsIn
    rw [l] <;> rfl
  exact ⟨_, e, rfl⟩
theorem refsT_cs (tl : List Value) (hne : ∀ x ∈ tl.head?, isTyB x = true) : ∀ cs : List Addr, refsT tl (cs.map Value.ref ++ tl) = true
  | [] => by
    cases tl with
    | nil => rfl
    | cons a r =>
      have := hne a (by simp)
      cases a <;> first | (simp [isTyB] at this; done) | (show (_ == _) = true; exact beq_self_eq_true _)
  | c :: r => refsT_cs tl hne r
theorem sub_bi {T : String} (h : ((PySem.fastBuiltinMro T).map (·.contains (.type "BaseException"))) = some true) : PySem.W.subIn K (.type T) (.type "BaseException") = some true := h
theorem pre_of {α : Type} (ys : List α) {xs : List α} {k : Nat} {c : α} (h : xs[k]? = some c) : (xs ++ ys)[k]? = some c := by
  rw [List.getElem?_append_left (List.getElem?_eq_some_iff.mp h).1]
  exact h
theorem all_ex0 (h : AllM (fun p : Nat × Str => ∃ C b, L.exs[p.1]? = some C ∧ mg p.2 = some (.ref C) ∧ Oex0 K C b ∧ b.ntl = b.tl) S.exc0) (k : Nat) (x : Str) (e : (k, x) ∈ S.exc0) : ∃ C b, L.exs[k]? = some C ∧ mg x = some (.ref C) ∧ Oex0 K C b ∧ b.ntl = b.tl := all_mem h (k, x) e
theorem exf_of {C : Addr} {as : List Str} (g1 : PySem.W.findIn K (.ref C) "__getattribute__" = some (some (.builtin "BaseException.__getattribute__"))) (g2 : PySem.W.findIn K (.ref C) "__getattr__" = some none) (g3 : PySem.W.subIn K (.ref C) (.type "BaseException") = some true) (g4 : PySem.W.hasDictIn K C = true)
    (g5 : PySem.W.findIn K (.ref C) "__class__" = some (some (.builtin "object.__class__"))) (g6 : PySem.W.specialIn K (.builtin "object.__class__") "__get__" = some (some (.builtin "getset_descriptor.__get__"))) (g7 : PySem.W.takesIn K (.builtin "object.__class__") = some true) (g8 : PySem.W.mroIn K C (.type "object") = some true)
    (no : AllM (fun x => PySem.W.findIn K (.ref C) x = some none) as) : ExF K as C := ⟨⟨g1, g2, g3, g4, g5, g6, g7, g8⟩, ⟨g1, g2, g3, g4⟩, all_mem no⟩
end
end MI
/-! MI, part 21: running the small language by hand. -/
namespace MI
open PySem L2

/-- a loop, by what holds ahead of each turn -/
theorem for_run {nx : Nat → Hq → Option (Option D)} {body : D → Env → Hq → (Env → Hq → Prop) → Prop} {k : Env → Hq → Prop} (M : Nat) (Inv : Nat → Env → Hq → Prop)
    (step : ∀ j env hp kn, j < M → Inv j env hp → (∀ env' hp', Inv (j + 1) env' hp' → kn env' hp') → ∃ d, nx j hp = some (some d) ∧ body d env hp kn)
    (fin : ∀ env hp, Inv M env hp → nx M hp = some none ∧ k env hp) {env : Env} {hp : Hq} (h0 : Inv 0 env hp) : ∃ N, forLoop nx body N 0 env hp k := by
  have go : ∀ m j env hp, m + j = M → Inv j env hp → forLoop nx body (m + 1) j env hp k := by
    intro m
    induction m with
    | zero =>
      intro j env hp e h
      have e : j = M := by omega
      subst e
      obtain ⟨h1, h2⟩ := fin env hp h
      unfold forLoop
      rw [h1]
      exact h2
    | succ m ih =>
      intro j env hp e h
      unfold forLoop
      obtain ⟨d, h1, h2⟩ := step j env hp (fun env' hp' => forLoop nx body (m + 1) (j + 1) env' hp' k) (by omega) h fun env' hp' h' => ih (j + 1) env' hp' (by omega) h'
      rw [h1]
      exact h2
  exact ⟨M + 1, go M 0 env hp (by omega) h0⟩
/-- a comprehension, likewise: acc is what stands so far -/
theorem lc_run {nx : Nat → Hq → Option (Option D)} {body : D → Hq → (Option D → Hq → Prop) → Prop} {k : List D → Hq → Prop} (M : Nat) (Inv : Nat → List D → Hq → Prop)
    (step : ∀ j acc hp kn, j < M → Inv j acc hp → (∀ hp', Inv (j + 1) acc hp' → kn none hp') → (∀ y hp', Inv (j + 1) (acc ++ [y]) hp' → kn (some y) hp') → ∃ d, nx j hp = some (some d) ∧ body d hp kn)
    (small : ∀ j acc hp, Inv j acc hp → acc.length < SZ)
    (fin : ∀ acc hp, Inv M acc hp → nx M hp = some none ∧ k acc hp) {hp : Hq} (h0 : Inv 0 [] hp) : ∃ N, lcLoop nx body N 0 [] hp k := by
  have go : ∀ m j acc hp, m + j = M → Inv j acc hp → lcLoop nx body (m + 1) j acc hp k := by
    intro m
    induction m with
    | zero =>
      intro j acc hp e h
      have e : j = M := by omega
      subst e
      obtain ⟨h1, h2⟩ := fin acc hp h
      unfold lcLoop
      rw [h1]
      exact h2
    | succ m ih =>
      intro j acc hp e h
      unfold lcLoop
      obtain ⟨d, h1, h2⟩ := step j acc hp (fun r hp' => match r with
        | none => lcLoop nx body (m + 1) (j + 1) acc hp' k
        | some y => acc.length < SZ ∧ lcLoop nx body (m + 1) (j + 1) (acc ++ [y]) hp' k) (by omega) h (fun hp' h' => ih (j + 1) acc hp' (by omega) h') fun y hp' h' => ⟨small j acc hp h, ih (j + 1) (acc ++ [y]) hp' (by omega) h'⟩
      rw [h1]
      exact h2
  exact ⟨M + 1, go M 0 [] hp (by omega) h0⟩
theorem set_same {hp : Hq} {i : Nat} {o o' : O} (h : hp[i]? = some o) : (hp.set i o')[i]? = some o' := List.getElem?_set_self (List.getElem?_eq_some_iff.mp h).1
theorem set_other {hp : Hq} {i j : Nat} {o' : O} (h : i ≠ j) : (hp.set i o')[j]? = hp[j]? := List.getElem?_set_ne h
theorem app_old {hp : Hq} {i : Nat} {o : O} {l : List O} (h : hp[i]? = some o) : (hp ++ l)[i]? = some o := by
  rw [List.getElem?_append_left (List.getElem?_eq_some_iff.mp h).1]
  exact h
theorem lt_of {hp : Hq} {i : Nat} {o : O} (h : hp[i]? = some o) : i < hp.length := (List.getElem?_eq_some_iff.mp h).1
/-! ### steps -/
section
variable {hp : Hq} {Q : QD} {k : Bool → Prop} {kh : Hq → Prop} {i j : Int} {x y : Str} {a b : Bool} {n : Nat} {d e : D} {xs ys : List D} {C : Prop}
theorem a_ok : (OutD.ok d hp).app Q = Q d hp := rfl
theorem a_cd : (OutD.cd C d hp).app Q = (C ∧ Q d hp) := rfl
theorem a_no : OutD.no.app Q = False := rfl
theorem ab_okB : (OutB.ok a).app k = k a := rfl
theorem ab_cd : (OutB.cd C a).app k = (C ∧ k a) := rfl
theorem ah_ok : (OutH.ok hp).app kh = kh hp := rfl
theorem ah_cd : (OutH.cd C hp).app kh = (C ∧ kh hp) := rfl
theorem o_add : oBin .add (.int i) (.int j) hp = .ok (.int (i + j)) hp := rfl
theorem o_addt : oBin .add (.tup xs) (.tup ys) hp = .cd (xs.length + ys.length ≤ SZ) (.tup (xs ++ ys)) hp := rfl
theorem o_adds : oBin .add (.str x) (.str y) hp = .cd (x.length + y.length ≤ SZ) (.str (x ++ y)) hp := rfl
theorem o_addl {p q : Nat} : oBin .add (.ref p) (.ref q) hp = (match gtL hp p, gtL hp q with
    | some xs, some ys => .cd (xs.length + ys.length ≤ SZ) (.ref hp.length) (hp ++ [.lst (xs ++ ys)])
    | _, _ => .no) := rfl
theorem o_mull {p : Nat} : oBin .mul (.ref p) (.int i) hp = (match gtL hp p with
    | some xs => .cd (-(2 ^ 63) ≤ i ∧ i < 2 ^ 63 ∧ xs.length * i.toNat ≤ SZ) (.ref hp.length) (hp ++ [.lst (List.replicate i.toNat xs).flatten])
    | none => .no) := rfl
theorem o_sub : oBin .sub (.int i) (.int j) hp = .ok (.int (i - j)) hp := rfl
theorem o_mul : oBin .mul (.int i) (.int j) hp = .cd ((-(2 ^ 64) < i ∧ i < 2 ^ 64) ∨ (-(2 ^ 64) < j ∧ j < 2 ^ 64)) (.int (i * j)) hp := rfl
theorem o_fdiv : oBin .fdiv (.int i) (.int j) hp = .cd (0 < j ∧ j < 1073741824) (.int (i / j)) hp := rfl
theorem o_mod : oBin .mod (.int i) (.int j) hp = .cd (0 < j) (.int (i % j)) hp := rfl
theorem o_pow : oBin .pow (.int i) (.int j) hp = .cd (0 ≤ j ∧ j ≤ 1000000 ∧ i.natAbs < 2 ^ 64) (.int (i ^ j.toNat)) hp := rfl
theorem t_non : oTru .non hp = .ok false := rfl
theorem t_bl : oTru (.bl a) hp = .ok a := rfl
theorem t_int : oTru (.int i) hp = .ok (i != 0) := rfl
theorem t_tup : oTru (.tup xs) hp = .ok (!xs.isEmpty) := rfl
theorem c_eqi : oCmp .eq (.int i) (.int j) hp = .ok (.bl (decide (i = j))) hp := rfl
theorem c_eqs : oCmp .eq (.str x) (.str y) hp = .ok (.bl (decide (x = y))) hp := rfl
theorem c_eqb : oCmp .eq (.bl a) (.bl b) hp = .ok (.bl (decide (a = b))) hp := rfl
theorem c_nei : oCmp .ne (.int i) (.int j) hp = .ok (.bl (!decide (i = j))) hp := rfl
theorem c_nes : oCmp .ne (.str x) (.str y) hp = .ok (.bl (!decide (x = y))) hp := rfl
theorem c_eqt : oCmp .eq (.tup xs) d hp = (oEqG (.tup xs) d hp).val false hp := by cases d <;> rfl
theorem c_net : oCmp .ne (.tup xs) d hp = (oEqG (.tup xs) d hp).val true hp := by cases d <;> rfl
theorem c_eqr : oCmp .eq (.ref n) d hp = (oEqG (.ref n) d hp).val false hp := by cases d <;> rfl
theorem c_ner : oCmp .ne (.ref n) d hp = (oEqG (.ref n) d hp).val true hp := by cases d <;> rfl
theorem c_lt : oCmp .lt (.int i) (.int j) hp = .ok (.bl (decide (i < j))) hp := rfl
theorem c_le : oCmp .le (.int i) (.int j) hp = .ok (.bl (decide (i ≤ j))) hp := rfl
theorem c_gt : oCmp .gt (.int i) (.int j) hp = .ok (.bl (decide (j < i))) hp := rfl
theorem c_ge : oCmp .ge (.int i) (.int j) hp = .ok (.bl (decide (j ≤ i))) hp := rfl
theorem c_is : oCmp .is d .non hp = .ok (.bl (isNon d)) hp := by cases d <;> rfl
theorem c_nis : oCmp .nis d .non hp = .ok (.bl (!isNon d)) hp := by cases d <;> rfl
theorem c_in : oCmp .isin d e hp = (oIn d e hp).val false hp := rfl
theorem c_nin : oCmp .nin d e hp = (oIn d e hp).val true hp := rfl
theorem v_ok {neg : Bool} : (OutB.ok a).val neg hp = .ok (.bl (if neg then !a else a)) hp := rfl
theorem v_cd {neg : Bool} : (OutB.cd C a).val neg hp = .cd C (.bl (if neg then !a else a)) hp := rfl
theorem x_tup : oIx (.tup xs) (.int i) hp = oAtI xs i hp := rfl
theorem x_kl : oIx (.kl xs) (.int i) hp = oAtI xs i hp := rfl
theorem x_refi {p : Nat} : oIx (.ref p) (.int i) hp = (match hp[p]? with
    | some (.dic kvs) => oAtK kvs (.int i) hp
    | some (.fdic kvs) => oAtK kvs (.int i) hp
    | some (.lst xs) => oAtI xs i hp
    | _ => .no) := rfl
theorem x_refs {p : Nat} : oIx (.ref p) (.str x) hp = (match hp[p]? with
    | some (.dic kvs) => oAtK kvs (.str x) hp
    | some (.fdic kvs) => oAtK kvs (.str x) hp
    | _ => .no) := by
  show (match hp[p]? with
    | some (.dic kvs) => oAtK kvs (.str x) hp
    | some (.fdic kvs) => oAtK kvs (.str x) hp
    | some (.lst xs) => OutD.no
    | _ => .no) = _
  rcases hp[p]? with _ | (_ | _ | _ | _ | _) <;> rfl
theorem s_refi {p : Nat} : oSet (.ref p) (.int i) d hp = (match hp[p]? with
    | some (.dic kvs) => .cd (kvs.length < SZ) (hp.set p (.dic (dput kvs (.inl i) d)))
    | some (.lst xs) => (match L2.ixN xs.length i with
        | some j => .ok (hp.set p (.lst (xs.set j d)))
        | none => .no)
    | _ => .no) := by
  show (match hp[p]? with
    | some (.dic kvs) => _
    | some (.lst xs) => _
    | _ => _) = _
  rcases hp[p]? with _ | (_ | _ | _ | _ | _) <;> rfl
theorem s_refs {p : Nat} : oSet (.ref p) (.str x) d hp = (match hp[p]? with
    | some (.dic kvs) => .cd (kvs.length < SZ) (hp.set p (.dic (dput kvs (.inr x) d)))
    | _ => .no) := by
  show (match hp[p]? with
    | some (.dic kvs) => _
    | some (.lst xs) => OutH.no
    | _ => _) = _
  rcases hp[p]? with _ | (_ | _ | _ | _ | _) <;> rfl
theorem f_ref {p f : Nat} : oGetF (.ref p) f hp = (match gtI hp p with
    | some (_, fs) => (match fget fs f with
      | some d => .ok d hp
      | none => .no)
    | none => .no) := rfl
theorem sf_ref {p f : Nat} : oSetF (.ref p) f d hp = (match gtI hp p with
    | some (c, fs) => .cd (fs.length < 900) (hp.set p (.ins c (fput fs f d)))
    | none => .no) := rfl
theorem atI_nat {α : Type} (xs : List α) (k : Nat) : L2.atI xs (k : Int) = xs[k]? := by
  unfold L2.atI L2.ixN
  by_cases h : k < xs.length
  · rw [if_pos (Int.natCast_nonneg k), if_pos (by exact_mod_cast h)]
    simp
  · rw [if_pos (Int.natCast_nonneg k), if_neg (by omega)]
    rw [List.getElem?_eq_none (Nat.le_of_not_lt h)]
    rfl
theorem oAt_nat (k : Nat) : oAtI xs (k : Int) hp = (match xs[k]? with | some d => .ok d hp | none => .no) := by
  unfold oAtI
  rw [atI_nat]
  all_goals (cases xs[k]? <;> rfl)
theorem at_0 {x : D} : oAtI (x :: xs) 0 hp = .ok x hp := oAt_nat 0
theorem at_1 {x y : D} : oAtI (x :: y :: xs) 1 hp = .ok y hp := oAt_nat 1
theorem at_2 {x y z : D} : oAtI (x :: y :: z :: xs) 2 hp = .ok z hp := oAt_nat 2
theorem ixN_nat {n k : Nat} (h : k < n) : L2.ixN n (k : Int) = some k := by
  unfold L2.ixN
  rw [if_pos (Int.natCast_nonneg k), if_pos (by exact_mod_cast h)]
  simp
theorem ixN_0 {n : Nat} : L2.ixN (n + 1) 0 = some 0 := ixN_nat (k := 0) (Nat.succ_pos n)
theorem ixN_1 {n : Nat} : L2.ixN (n + 1 + 1) 1 = some 1 := ixN_nat (k := 1) (by omega)
theorem atI_m1 {α : Type} (xs : List α) (h : xs ≠ []) : L2.atI xs (-1) = xs.getLast? := by
  have hl : 0 < xs.length := List.length_pos_iff.mpr h
  unfold L2.atI L2.ixN
  rw [if_neg (by decide), if_pos (by omega)]
  show xs[((-1 : Int) + (xs.length : Int)).toNat]? = _
  rw [List.getLast?_eq_getElem?]
  congr 1
  omega
theorem sl_lst {p : Nat} {l h : Option Int} (e : hp[p]? = some (.lst xs)) : oSl (.ref p) l h hp = .ok (.ref hp.length) (hp ++ [.lst (cutD xs l h)]) := by
  show (match gtL hp p with | some xs => oNew hp (.lst (cutD xs l h)) | none => OutD.no) = _
  unfold gtL
  rw [e]
  rfl
theorem sl_tup {l h : Option Int} : oSl (.tup xs) l h hp = .ok (.tup (cutD xs l h)) hp := rfl
theorem list_l {p : Nat} (e : hp[p]? = some (.lst xs)) : oBF .list1 [.ref p] hp = .ok (.ref hp.length) (hp ++ [.lst xs]) := by
  show (match gtL hp p with | some xs => oNew hp (.lst xs) | none => OutD.no) = _
  unfold gtL
  rw [e]
  rfl
theorem seq_lst {p : Nat} (h : hp[p]? = some (.lst xs)) : itSeq hp (.ref p) = some (itLst p, hp) := by
  unfold itSeq
  simp only [h]
theorem app_k {p : Nat} (e : hp[p]? = some (.lst xs)) : bmK .append (.ref p) hp = some .lst := by
  unfold bmK
  simp only [e]
theorem app_l {p : Nat} (e : hp[p]? = some (.lst xs)) : oBM .append .lst (.ref p) [d] hp = .cd (xs.length < SZ) .non (hp.set p (.lst (xs ++ [d]))) := by
  show (match gtL hp p with | some xs => OutD.cd (xs.length < SZ) .non (hp.set p (.lst (xs ++ [d]))) | none => .no) = _
  unfold gtL
  rw [e]
theorem mapO_map {α β γ : Type} {f : β → Option γ} {u : α → β} {v : α → γ} : ∀ xs : List α, (∀ x ∈ xs, f (u x) = some (v x)) → mapO f (xs.map u) = some (xs.map v)
  | [], _ => rfl
  | k :: r, h => by
    rw [List.map_cons]
    unfold mapO
    rw [h k List.mem_cons_self, mapO_map r fun x hx => h x (List.mem_cons_of_mem _ hx)]
    rfl
theorem mapO_ints (n : Nat) (hp : Hq) (ns : List Int) : mapO (toP (n + 1) hp) (ns.map D.int) = some (ns.map PyData.int) := mapO_map ns fun _ _ => rfl
theorem sh_ints (ns : List Int) : SeqAt.shaped (.list (ns.map PyData.int)) = true := by
  have h1 : ∀ ns : List Int, PyData.canLayAll0 (ns.map PyData.int) = true := by
    intro ns
    induction ns with
    | nil => rfl
    | cons k r ih => simp [PyData.canLayAll0, PyData.canLay0, ih]
  have h2 := depth_ints ns
  have h3 : (PyData.list (ns.map PyData.int)).depth ≤ 64 := by
    simp only [PyData.depth]
    omega
  unfold SeqAt.shaped
  rw [Bool.and_eq_true]
  exact ⟨by simpa [PyData.canLay0] using h1 ns, decide_eq_true h3⟩
theorem sh_int (n : Int) : SeqAt.shaped (.int n) = true := by
  unfold SeqAt.shaped
  simp [PyData.canLay0, PyData.depth]
theorem any_ints (n : Int) : ∀ ns : List Int, ((ns.map PyData.int).any fun b => PyData.eqv b (.int n)) = decide (n ∈ ns)
  | [] => rfl
  | k :: r => by
    rw [List.map_cons, List.any_cons, any_ints n r]
    simp only [PyData.eqv, List.mem_cons]
    by_cases h : k = n
    · subst h; simp
    · simp [h, Ne.symm h]
theorem in_ints {p : Nat} {ns : List Int} (e : hp[p]? = some (.lst (ns.map D.int))) : oIn (.int i) (.ref p) hp = .cd (SeqAt.shaped (.int i) = true ∧ SeqAt.shaped (.list (ns.map PyData.int)) = true) (decide (i ∈ ns)) := by
  have h : oIn (.int i) (.ref p) hp = oInS (.int i) (ns.map D.int) hp := by
    unfold oIn
    simp only [e]
  rw [h]
  unfold oInS
  rw [mapO_ints 39 hp ns, show toP 40 hp (.int i) = some (.int i) from rfl]
  simp only [any_ints]
theorem isi_tt : oBF .isi [.tup xs, .ty "tuple"] hp = .ok (.bl true) hp := by
  show (if tyAll.contains "tuple" then OutD.ok (.bl (isiB "tuple" "tuple")) hp else .no) = _
  rw [if_pos (by decide +kernel), show isiB "tuple" "tuple" = true by decide +kernel]
theorem isi_ss : oBF .isi [.str x, .ty "str"] hp = .ok (.bl true) hp := by
  show (if tyAll.contains "str" then OutD.ok (.bl (isiB "str" "str")) hp else .no) = _
  rw [if_pos (by decide +kernel), show isiB "str" "str" = true by decide +kernel]
theorem isi_ii : oBF .isi [.int i, .ty "int"] hp = .ok (.bl true) hp := by
  show (if tyAll.contains "int" then OutD.ok (.bl (isiB "int" "int")) hp else .no) = _
  rw [if_pos (by decide +kernel), show isiB "int" "int" = true by decide +kernel]
theorem isi_ib : oBF .isi [.int i, .ty "bool"] hp = .ok (.bl false) hp := by
  show (if tyAll.contains "bool" then OutD.ok (.bl (isiB "int" "bool")) hp else .no) = _
  rw [if_pos (by decide +kernel), show isiB "int" "bool" = false by decide +kernel]
theorem isi_ll {p : Nat} (h : hp[p]? = some (.lst xs)) : oBF .isi [.ref p, .ty "list"] hp = .ok (.bl true) hp := by
  show (match tyOf hp (.ref p) with | some a => if tyAll.contains "list" then OutD.ok (.bl (isiB a "list")) hp else .no | none => .no) = _
  have : tyOf hp (.ref p) = some "list" := by simp only [tyOf, h]
  rw [this]
  show (if tyAll.contains "list" then OutD.ok (.bl (isiB "list" "list")) hp else .no) = _
  rw [if_pos (by decide +kernel), show isiB "list" "list" = true by decide +kernel]
theorem len_t : oBF .len [.tup xs] hp = .ok (.int xs.length) hp := rfl
theorem len_t0 : oBF .len [.tup []] hp = .ok (.int 0) hp := rfl
theorem len_t1 : oBF .len [.tup [d]] hp = .ok (.int 1) hp := rfl
theorem len_t2 : oBF .len [.tup [d, e]] hp = .ok (.int 2) hp := rfl
theorem len_k : oBF .len [.kl xs] hp = .ok (.int xs.length) hp := rfl
theorem max_2 : oBF .max2 [.int i, .int j] hp = .ok (.int (if j > i then j else i)) hp := rfl
theorem min_2 : oBF .min2 [.int i, .int j] hp = .ok (.int (if j < i then j else i)) hp := rfl
theorem int_b : oBF .int1 [.bl a] hp = .ok (.int (if a then 1 else 0)) hp := rfl
theorem gtL_of {p : Nat} (h : hp[p]? = some (.lst xs)) : gtL hp p = some xs := by unfold gtL; rw [h]
theorem gtI_of {p c : Nat} {fs : List (Nat × D)} (h : hp[p]? = some (.ins c fs)) : gtI hp p = some (c, fs) := by unfold gtI; rw [h]
theorem gtD_of {p : Nat} {kvs : List (L2.Key × D)} (h : hp[p]? = some (.dic kvs)) : gtD hp p = some kvs := by unfold gtD; rw [h]
end
/-- old places stay, but some -/
structure Keep (P : Nat → Prop) (hp hp' : Hq) : Prop where
  len : hp.length ≤ hp'.length
  at_ : ∀ i, i < hp.length → ¬ P i → hp'[i]? = hp[i]?
theorem Keep.refl (P : Nat → Prop) (hp : Hq) : Keep P hp hp := ⟨Nat.le_refl _, fun _ _ _ => rfl⟩
theorem Keep.trans {P : Nat → Prop} {a b c : Hq} (h1 : Keep P a b) (h2 : Keep P b c) : Keep P a c :=
  ⟨Nat.le_trans h1.len h2.len, fun i hi hp => (h2.at_ i (Nat.lt_of_lt_of_le hi h1.len) hp).trans (h1.at_ i hi hp)⟩
theorem Keep.set {P : Nat → Prop} {hp : Hq} {i : Nat} {o : O} (h : P i) : Keep P hp (hp.set i o) := ⟨by simp, fun j _ hj => List.getElem?_set_ne (fun e : i = j => hj (by rw [← e]; exact h))⟩
theorem Keep.app {P : Nat → Prop} {hp : Hq} {l : List O} : Keep P hp (hp ++ l) := ⟨by simp, fun j hj _ => List.getElem?_append_left hj⟩
theorem Keep.get {P : Nat → Prop} {a b : Hq} (h : Keep P a b) {i : Nat} {o : O} (e : a[i]? = some o) (hn : ¬ P i) : b[i]? = some o := (h.at_ i (lt_of e) hn).trans e
theorem Keep.mono {P Q : Nat → Prop} {a b : Hq} (h : Keep P a b) (hq : ∀ i, i < a.length → P i → Q i) : Keep Q a b := ⟨h.len, fun i hi hn => h.at_ i hi fun p => hn (hq i hi p)⟩
end MI
set_option maxHeartbeats 4000000
/-! MI, part 22: how a law draws its numbers. -/
local macro_rules | `(tactic| walk_at "mi") => `(tactic| simp (disch := (first | assumption | omega | (simp only [List.length_append, List.length_cons, List.length_nil, List.length_set]; omega))) only [*, MI.wSs, MI.wS, MI.wE, MI.wEs, MI.wEo, MI.wTg, MI.wTgs, MI.a_ok, MI.a_cd, MI.a_no, MI.ab_okB, MI.ab_cd, MI.ah_ok, MI.ah_cd, MI.o_add, MI.o_addt, MI.o_adds, MI.o_addl, MI.o_mull, MI.o_sub, MI.o_mul, MI.o_fdiv, MI.o_mod, MI.o_pow, MI.t_non, MI.t_bl, MI.t_int, MI.t_tup, MI.c_eqi, MI.c_eqs, MI.c_eqb, MI.c_nei, MI.c_nes, MI.c_eqt, MI.c_net, MI.c_eqr, MI.c_ner, MI.c_lt, MI.c_le, MI.c_gt, MI.c_ge, MI.c_is, MI.c_nis, MI.c_in, MI.c_nin, MI.v_ok, MI.v_cd, MI.x_tup, MI.x_kl, MI.x_refi, MI.x_refs, MI.s_refi, MI.s_refs, MI.f_ref, MI.sf_ref, MI.at_0, MI.at_1, MI.at_2, MI.ixN_0, MI.ixN_1, List.getElem?_cons_zero, List.getElem?_cons_succ, List.set_cons_zero, List.set_cons_succ, List.map_cons, List.map_nil, List.cons_append, List.nil_append, List.replicate, Option.getD_some, Option.getD_none, Bool.false_eq_true, if_true, if_false, List.length_cons, List.length_nil, List.getElem?_set_self', Option.map_eq_map, Option.map_some, Function.const_apply, List.set_set, decide_eq_true_eq, true_and, and_true])
namespace MI
open PySem L2

def bCell : Sts :=
  (.cons (.ifs (.cmp .lt (.var 1) (.blt .len (.cons (.var 0) .nil))) (.cons (.ret (.so (.ix (.var 0) (.var 1)))) .nil) .nil) (.cons (.ret (.so (.lit (.int 0)))) .nil))
def bPool (f : Nat) : Sts :=
  (.cons (.asg (.nm 2) (.call f (.cons (.var 0) (.cons (.var 1) .nil)))) (.cons (.asg (.nm 3) (.bin .mod (.bin .mul (.bin .add (.bin .add (.bin .mod (.var 2) (.lit (.int 2147483629))) (.bin .mul (.bin .mul (.lit (.int 7919)) (.var 1)) (.var 1))) (.lit (.int 1))) (.lit (.int 48271))) (.lit (.int 2147483647)))) (.cons (.ifs (.cmp .lt (.var 2) (.bin .pow (.lit (.int 10)) (.lit (.int 18)))) (.cons (.asg (.nm 2) (.lit (.int 0))) .nil) .nil) (.cons (.ret (.so (.lst (.cons (.var 2) (.cons (.bin .mod (.bin .mul (.var 3) (.var 3)) (.lit (.int 2147483629))) .nil))))) .nil))))
def bTake : Sts :=
  (.cons (.ifs (.cmp .gt (.ix (.var 0) (.lit (.int 0))) (.lit (.int 0))) (.cons (.asg (.nm 2) (.bin .mod (.ix (.var 0) (.lit (.int 0))) (.var 1))) (.cons (.asg (.sb (.var 0) (.lit (.int 0))) (.bin .fdiv (.ix (.var 0) (.lit (.int 0))) (.var 1))) (.cons (.ret (.so (.var 2))) .nil))) .nil) (.cons (.asg (.sb (.var 0) (.lit (.int 1))) (.bin .mod (.bin .add (.bin .mul (.ix (.var 0) (.lit (.int 1))) (.lit (.int 48271))) (.lit (.int 11))) (.lit (.int 2147483647)))) (.cons (.ret (.so (.bin .mod (.bin .fdiv (.bin .mod (.bin .mul (.ix (.var 0) (.lit (.int 1))) (.ix (.var 0) (.lit (.int 1)))) (.lit (.int 2147483629))) (.lit (.int 64))) (.var 1)))) .nil)))
theorem call_of {g : Glob} {f np ns : Nat} {b : Sts} (h : g.fns[f]? = some ⟨np, ns, b⟩) (n : Nat) (ds : List D) (hp : Hq) (Q : QD) (E : QX) :
    wCall g (n + 1) f ds hp Q E = (ds.length = np ∧ wSs g (wCall g n) b (ds.map some ++ List.replicate (ns - np) none) hp { nx := fun _ hp => Q .non hp, bk := fun _ _ => False, ct := fun _ _ => False, rt := Q, ex := fun c i _ hp => E c i hp }) := by
  show (match g.fns[f]? with | none => False | some fi => _) = _
  rw [h]
section
variable {g : Glob} {f n : Nat} {hp : Hq} {Q : QD} {E : QX}
/-- the pool: what is left of the cell, a seed -/
def PoolAt (hp : Hq) (i : Nat) : Prop := ∃ c s : Int, hp[i]? = some (.lst [.int c, .int s]) ∧ 0 ≤ c ∧ 0 ≤ s ∧ s < 2147483647
theorem take_run (hf : g.fns[f]? = some ⟨2, 3, bTake⟩) {i : Nat} {m : Int} (h : PoolAt hp i) (hm : 0 < m) (hm2 : m < 1073741824)
    (k : ∀ (r : Int) hp', 0 ≤ r → r < m → Keep (· = i) hp hp' → hp'.length = hp.length → PoolAt hp' i → Q (.int r) hp') : wCall g (n + 1) f [.ref i, .int m] hp Q E := by
  obtain ⟨c, s, h, hc, hs, hs2⟩ := h
  have fin : ∀ r c' s' : Int, 0 ≤ r → r < m → 0 ≤ c' → 0 ≤ s' → s' < 2147483647 → Q (.int r) (hp.set i (.lst [.int c', .int s'])) := fun r c' s' h1 h2 h3 h4 h5 =>
    k r _ h1 h2 (Keep.set rfl) (by simp) ⟨c', s', set_same h, h3, h4, h5⟩
  clear k
  rw [call_of hf]
  refine ⟨rfl, ?_⟩
  unfold bTake
  revert fin
  walk_at "mi"
  intro fin
  split
  · exact fin _ _ _ (Int.emod_nonneg _ (by omega)) (Int.emod_lt_of_pos _ hm) (Int.ediv_nonneg hc (by omega)) hs hs2
  · have q1 := Int.emod_nonneg (s * 48271 + 11) (b := 2147483647) (by decide)
    have q2 := Int.emod_lt_of_pos (s * 48271 + 11) (b := 2147483647) (by decide)
    refine ⟨.inr ⟨by decide, by decide⟩, by decide, .inl ⟨by omega, by omega⟩, by decide, ⟨by decide, by decide⟩, fin _ _ _ (Int.emod_nonneg _ (by omega)) (Int.emod_lt_of_pos _ hm) hc q1 q2⟩
theorem cell_run (hf : g.fns[f]? = some ⟨2, 2, bCell⟩) {ns : List Int} {j : Nat} (k : ∀ c : Int, Q (.int c) hp) : wCall g (n + 1) f [.kl (ns.map D.int), .int j] hp Q E := by
  rw [call_of hf]
  refine ⟨rfl, ?_⟩
  unfold bCell
  by_cases h : j < ns.length
  · have e : L2.atI (ns.map D.int) (j : Int) = some (.int ns[j]) := by rw [atI_nat]; simp [h]
    have h' : (j : Int) < ((ns.map D.int).length : Int) := by simpa using h
    simp only [wSs, wS, wE, wEs, wEo, a_ok, ab_okB, oBF, c_lt, t_bl, x_kl, oAtI, e, List.map_cons, List.map_nil, List.cons_append, List.nil_append, List.replicate, List.getElem?_cons_zero, List.getElem?_cons_succ, Option.getD_some, h', decide_true, if_true]
    exact k _
  · have h' : ¬ (j : Int) < ((ns.map D.int).length : Int) := by simpa using h
    simp only [wSs, wS, wE, wEs, wEo, a_ok, ab_okB, oBF, c_lt, t_bl, x_kl, oAtI, List.map_cons, List.map_nil, List.cons_append, List.nil_append, List.replicate, List.getElem?_cons_zero, List.getElem?_cons_succ, Option.getD_some, h', decide_false, if_false, Bool.false_eq_true]
    exact k _
theorem pool_run {fc : Nat} (hf : g.fns[f]? = some ⟨2, 4, bPool fc⟩) (hc : g.fns[fc]? = some ⟨2, 2, bCell⟩) {ns : List Int} {j : Nat} (hj : j < 1000)
    (k : ∀ hp', hp' = hp ++ [hp'.getD hp.length (.lst [])] → PoolAt hp' hp.length → Q (.ref hp.length) hp') : wCall g (n + 2) f [.kl (ns.map D.int), .int j] hp Q E := by
  have fin : ∀ c s : Int, 0 ≤ c → 0 ≤ s → s < 2147483647 → Q (.ref hp.length) (hp ++ [.lst [.int c, .int s]]) := fun c s h1 h2 h3 => k _ (by simp) ⟨c, s, by simp, h1, h2, h3⟩
  clear k
  rw [call_of hf]
  refine ⟨rfl, ?_⟩
  unfold bPool
  simp only [wSs, wS, wE, wEs, wTg, List.map_cons, List.map_nil, List.cons_append, List.nil_append, List.replicate, List.getElem?_cons_zero, List.getElem?_cons_succ]
  refine cell_run hc fun c => ?_
  have sd : ∀ x : Int, 0 ≤ x % 2147483629 ∧ x % 2147483629 < 2147483629 := fun x => ⟨Int.emod_nonneg _ (by decide), Int.emod_lt_of_pos _ (by decide)⟩
  have sd2 : ∀ x : Int, 0 ≤ x % 2147483647 ∧ x % 2147483647 < 2147483647 := fun x => ⟨Int.emod_nonneg _ (by decide), Int.emod_lt_of_pos _ (by decide)⟩
  have p18 : (10 : Int) ^ (18 : Int).toNat = 1000000000000000000 := by decide
  simp only [wEs, wEo, wE, a_ok, a_cd, ab_okB, o_add, o_mul, o_mod, o_pow, c_lt, t_bl, p18, List.set_cons_zero, List.set_cons_succ, List.getElem?_cons_zero, List.getElem?_cons_succ]
  refine ⟨by decide, .inl ⟨by decide, by decide⟩, .inr ⟨by omega, by omega⟩, .inr ⟨by decide, by decide⟩, by decide, by decide, ?_⟩
  have q := sd2 ((c % 2147483629 + 7919 * (j : Int) * (j : Int) + 1) * 48271)
  generalize (c % 2147483629 + 7919 * (j : Int) * (j : Int) + 1) * 48271 % 2147483647 = s at q ⊢
  by_cases h : c < 1000000000000000000
  · simp only [h, decide_true, if_true]
    refine ⟨.inl ⟨by omega, by omega⟩, by decide, fin 0 _ (by decide) (sd _).1 ?_⟩
    have := (sd (s * s)).2
    omega
  · simp only [h, decide_false, if_false, Bool.false_eq_true]
    refine ⟨.inl ⟨by omega, by omega⟩, by decide, fin c _ (by omega) (sd _).1 ?_⟩
    have := (sd (s * s)).2
    omega
end
end MI
set_option maxHeartbeats 4000000
/-! MI, part 23: repr of small data. -/
namespace MI
open PySem L2
mutual
def smal : PyData → Bool
  | .none => true
  | .bool _ => true
  | .int i => decide (-999999999999 ≤ i) && decide (i ≤ 999999999999)
  | .str x => PyData.strOk x && x.cps.toList.all fun c => decide (c < 16 ^ 8)
  | .list xs => smalAll xs
  | .tuple xs => smalAll xs
  | .dict _ => false
def smalAll : List PyData → Bool
  | [] => true
  | x :: xs => smal x && smalAll xs
end
theorem log2_small {i : Int} (h1 : -999999999999 ≤ i) (h2 : i ≤ 999999999999) : i.natAbs.log2 < 1920 := by
  have h : i.natAbs ≤ 999999999999 := by omega
  by_cases z : i.natAbs = 0
  · rw [z]; decide
  · have : i.natAbs.log2 < 40 := (Nat.log2_lt z).mpr (by omega)
    omega
mutual
theorem smal_ok : ∀ d : PyData, smal d = true → d.leavesShort 13 = true ∧ d.showable = true ∧ d.canLay0 = true
  | .none, _ => by simp [PyData.leavesShort, PyData.showable, PyData.canLay0]
  | .bool b, _ => by simp [PyData.leavesShort, PyData.showable, PyData.canLay0]
  | .int i, h => by
    have h' : -999999999999 ≤ i ∧ i ≤ 999999999999 := by simpa [smal] using h
    refine ⟨?_, ?_, by simp [PyData.canLay0]⟩
    · simp only [PyData.leavesShort, decide_eq_true_eq]
      exact PyData.shown_int_le2 h'.1 h'.2
    · simp only [PyData.showable, decide_eq_true_eq]
      exact log2_small h'.1 h'.2
  | .str x, h => by
    unfold smal at h
    rw [Bool.and_eq_true] at h
    refine ⟨?_, by simp [PyData.showable], ?_⟩
    · unfold PyData.leavesShort; exact h.2
    · unfold PyData.canLay0; exact h.1
  | .list xs, h => by
    have q := smalAll_ok xs (by simpa [smal] using h)
    simpa [PyData.leavesShort, PyData.showable, PyData.canLay0] using q
  | .tuple xs, h => by
    have q := smalAll_ok xs (by simpa [smal] using h)
    simpa [PyData.leavesShort, PyData.showable, PyData.canLay0] using q
  | .dict kvs, h => by simp [smal] at h
theorem smalAll_ok : ∀ xs : List PyData, smalAll xs = true → PyData.leavesShortAll 13 xs = true ∧ PyData.showableAll xs = true ∧ PyData.canLayAll0 xs = true
  | [], _ => by simp [PyData.leavesShortAll, PyData.showableAll, PyData.canLayAll0]
  | x :: xs, h => by
    have h' : smal x = true ∧ smalAll xs = true := by simpa [smalAll] using h
    have q1 := smal_ok x h'.1
    have q2 := smalAll_ok xs h'.2
    simp [PyData.leavesShortAll, PyData.showableAll, PyData.canLayAll0, q1, q2]
end
def RpOk (a : PyData) : Prop := SeqAt.shaped a = true ∧ a.showable = true ∧ a.shown.length ≤ SZ
theorem rp_of {a : PyData} (h : smal a = true) (hd : a.depth ≤ 64) (hb : a.bulk ≤ 100000) : RpOk a := by
  obtain ⟨h1, h2, h3⟩ := smal_ok a h
  refine ⟨?_, h2, ?_⟩
  · unfold SeqAt.shaped
    rw [Bool.and_eq_true]
    exact ⟨h3, decide_eq_true hd⟩
  · have := PyData.shown_le_bulk 13 (by decide) a h1
    show _ ≤ 16777216
    omega
theorem repr_at {x : D} {a : PyData} {hp : Hq} (h : toP 40 hp x = some a) : oBF .repr [x] hp = .cd (RpOk a) (.str a.shown) hp := by
  unfold oBF
  simp only [h]
  rfl
theorem repr_atR {x : D} {a : PyData} {hp : Hq} (h0 : toP 40 hp x = none) (h : toR 40 hp x = some a) : oBF .repr [x] hp = .cd (a.depth ≤ 64 ∧ a.showable = true ∧ a.shown.length ≤ SZ) (.str a.shown) hp := by
  unfold oBF
  simp only [h0, h]
theorem smal_ints : ∀ ns : List Int, (∀ n ∈ ns, -999999999999 ≤ n ∧ n ≤ 999999999999) → smalAll (ns.map .int) = true
  | [], _ => by simp [smalAll]
  | n :: r, h => by
    have q := h n List.mem_cons_self
    have q2 := smal_ints r fun x hx => h x (List.mem_cons_of_mem _ hx)
    simp [smalAll, smal, q, q2]
theorem bulk_ints : ∀ ns : List Int, PyData.bulkAll (ns.map .int) = ns.length
  | [] => rfl
  | n :: r => by
    have := bulk_ints r
    simp only [List.map_cons, PyData.bulkAll, PyData.bulk, List.length_cons]
    omega
end MI
set_option maxHeartbeats 4000000
/-! MI, part 24: dicts by their keys. -/
namespace MI
open PySem L2
section
variable {α β : Type}
theorem dget_map (k : Key) (f : Key × α → β) : ∀ kvs : List (Key × α), dget (kvs.map fun kv => (kv.1, f kv)) k = (dget kvs k).map fun v => f (k, v)
  | [] => rfl
  | (k', v) :: r => by
    show (if k' = k then some (f (k', v)) else dget (r.map fun kv => (kv.1, f kv)) k) = (if k' = k then some v else dget r k).map _
    by_cases h : k' = k
    · rw [if_pos h, if_pos h, h]; rfl
    · rw [if_neg h, if_neg h]; exact dget_map k f r
theorem dget_mem {k : Key} {v : α} : ∀ {kvs : List (Key × α)}, dget kvs k = some v → (k, v) ∈ kvs
  | (k', v') :: r, h => by
    have h : (if k' = k then some v' else dget r k) = some v := h
    by_cases e : k' = k
    · rw [if_pos e] at h; cases h; rw [e]; exact List.mem_cons_self
    · rw [if_neg e] at h; exact List.mem_cons_of_mem _ (dget_mem h)
theorem dget_none {k : Key} : ∀ {kvs : List (Key × α)}, (∀ kv ∈ kvs, kv.1 ≠ k) → dget kvs k = none
  | [], _ => rfl
  | (k', v') :: r, h => by
    show (if k' = k then some v' else dget r k) = none
    rw [if_neg (h (k', v') List.mem_cons_self)]
    exact dget_none fun kv hk => h kv (List.mem_cons_of_mem _ hk)
theorem dget_of_mem {k : Key} {v : α} : ∀ {kvs : List (Key × α)}, (kvs.map (·.1)).Nodup → (k, v) ∈ kvs → dget kvs k = some v
  | (k', v') :: r, hn, h => by
    have hn' := List.nodup_cons.mp hn
    show (if k' = k then some v' else dget r k) = some v
    rcases List.mem_cons.mp h with e | e
    · cases e; rw [if_pos rfl]
    · rw [if_neg fun z => hn'.1 (List.mem_map.mpr ⟨_, e, z.symm⟩)]
      exact dget_of_mem hn'.2 e
theorem dget_app {k : Key} : ∀ (a b : List (Key × α)), dget (a ++ b) k = match dget a k with | some v => some v | none => dget b k
  | [], b => rfl
  | (k', v') :: r, b => by
    show (if k' = k then some v' else dget (r ++ b) k) = match (if k' = k then some v' else dget r k) with | some v => some v | none => dget b k
    by_cases e : k' = k
    · simp only [if_pos e]
    · simp only [if_neg e]; exact dget_app r b
theorem any_key {k : Key} {kvs : List (Key × α)} : ((kvs.any fun kv => decide (kv.1 = k)) = true) ↔ k ∈ kvs.map (·.1) := by
  simp only [List.any_eq_true, decide_eq_true_eq, List.mem_map]
theorem dput_new {k : Key} {v : α} {kvs : List (Key × α)} (h : k ∉ kvs.map (·.1)) : dput kvs k v = kvs ++ [(k, v)] := by
  unfold dput
  rw [if_neg fun z => h (any_key.mp z)]
theorem dput_keys {k : Key} {v : α} {kvs : List (Key × α)} (hn : (kvs.map (·.1)).Nodup) : ((dput kvs k v).map (·.1)).Nodup ∧ ∀ kv ∈ dput kvs k v, kv.1 = k ∨ kv.1 ∈ kvs.map (·.1) := by
  by_cases h : k ∈ kvs.map (·.1)
  · have e : (dput kvs k v).map (·.1) = kvs.map (·.1) := by
      unfold dput
      rw [if_pos (any_key.mpr h), List.map_map]
      exact List.map_congr_left fun kv _ => by
        show (if kv.1 = k then (kv.1, v) else kv).1 = kv.1
        split <;> rfl
    refine ⟨e ▸ hn, fun kv hk => .inr ?_⟩
    rw [← e]
    exact List.mem_map.mpr ⟨kv, hk, rfl⟩
  · rw [dput_new h]
    refine ⟨?_, fun kv hk => ?_⟩
    · rw [List.map_append, List.nodup_append]
      refine ⟨hn, by simp, fun a ha b hb => ?_⟩
      have : b = k := by simpa using hb
      intro e
      exact h (by rw [← this, ← e]; exact ha)
    · rcases List.mem_append.mp hk with z | z
      · exact .inr (List.mem_map.mpr ⟨kv, z, rfl⟩)
      · have : kv = (k, v) := by simpa using z
        exact .inl (by rw [this])
theorem dget_put_map {k k' : Key} {v : α} : ∀ kvs : List (Key × α), dget (kvs.map fun kv => if kv.1 = k then (kv.1, v) else kv) k' = if k = k' then (dget kvs k').map fun _ => v else dget kvs k'
  | [] => by simp [dget]
  | (k1, v1) :: r => by
    have ih := dget_put_map (k := k) (k' := k') (v := v) r
    rw [List.map_cons]
    by_cases h1 : k1 = k
    · subst h1
      simp only [if_true]
      show (if k1 = k' then some v else _) = if k1 = k' then (if k1 = k' then some v1 else dget r k').map _ else if k1 = k' then some v1 else dget r k'
      by_cases h2 : k1 = k'
      · simp [h2]
      · simp only [if_neg h2] at ih ⊢; exact ih
    · simp only [if_neg h1]
      show (if k1 = k' then some v1 else _) = if k = k' then (if k1 = k' then some v1 else dget r k').map _ else if k1 = k' then some v1 else dget r k'
      by_cases h2 : k1 = k'
      · have h3 : k ≠ k' := fun z => h1 (h2.trans z.symm)
        simp only [if_pos h2, if_neg h3]
      · simp only [if_neg h2]; exact ih
theorem dget_dput {k k' : Key} {v : α} {kvs : List (Key × α)} : dget (dput kvs k v) k' = if k = k' then some v else dget kvs k' := by
  by_cases h : k ∈ kvs.map (·.1)
  · unfold dput
    rw [if_pos (any_key.mpr h), dget_put_map]
    by_cases e : k = k'
    · subst e
      rw [if_pos rfl, if_pos rfl]
      cases z : dget kvs k with
      | some w => rfl
      | none =>
        exfalso
        obtain ⟨kv, h1, h2⟩ := List.mem_map.mp h
        clear h
        induction kvs with
        | nil => cases h1
        | cons a r ih =>
          have z : (if a.1 = k then some a.2 else dget r k) = none := z
          by_cases q : a.1 = k
          · rw [if_pos q] at z; cases z
          · rw [if_neg q] at z
            rcases List.mem_cons.mp h1 with w | w
            · subst w; exact q h2
            · exact ih z w
    · rw [if_neg e, if_neg e]
  · rw [dput_new h, dget_app]
    by_cases e : k = k'
    · subst e
      rw [if_pos rfl, dget_none fun kv hk z => h (List.mem_map.mpr ⟨kv, hk, z⟩)]
      show (if k = k then some v else none) = some v
      rw [if_pos rfl]
    · rw [if_neg e]
      cases dget kvs k' with
      | some w => rfl
      | none =>
        show (if k = k' then some v else none) = none
        rw [if_neg e]
theorem dget_ddrop {k k' : Key} : ∀ kvs : List (Key × α), dget (ddrop kvs k) k' = if k = k' then none else dget kvs k'
  | [] => by simp [ddrop, dget]
  | (k1, v1) :: r => by
    have ih := dget_ddrop (k := k) (k' := k') r
    unfold ddrop at ih ⊢
    by_cases h1 : k1 = k
    · subst h1
      rw [List.filter_cons_of_neg (by simp), ih]
      show _ = if k1 = k' then none else if k1 = k' then some v1 else dget r k'
      by_cases h2 : k1 = k'
      · rw [if_pos h2, if_pos h2]
      · rw [if_neg h2, if_neg h2, if_neg h2]
    · rw [List.filter_cons_of_pos (by simpa using h1)]
      show (if k1 = k' then some v1 else _) = if k = k' then none else if k1 = k' then some v1 else dget r k'
      by_cases h2 : k1 = k'
      · have h3 : k ≠ k' := fun z => h1 (h2.trans z.symm)
        simp only [if_pos h2, if_neg h3]
      · simp only [if_neg h2]; exact ih
theorem ddrop_sub {k : Key} {kvs : List (Key × α)} : (ddrop kvs k).Sublist kvs := List.filter_sublist
/-- a fold of puts over new keys hangs them on -/
theorem fold_put : ∀ (l acc : List (Key × α)), ((acc ++ l).map (·.1)).Nodup → l.foldl (fun a kv => dput a kv.1 kv.2) acc = acc ++ l
  | [], acc, _ => by simp
  | (k, v) :: r, acc, h => by
    show r.foldl _ (dput acc k v) = _
    have hk : k ∉ acc.map (·.1) := by
      intro z
      rw [List.map_append, List.nodup_append] at h
      exact h.2.2 k z k (by simp) rfl
    rw [dput_new hk, fold_put r _ (by simpa using h)]
    simp
end
/-- the keys are 0 .. n-1, each once -/
structure Kys {α : Type} (n : Nat) (kvs : List (Key × α)) : Prop where
  nd : (kvs.map (·.1)).Nodup
  lt : ∀ kv ∈ kvs, ∃ j : Nat, j < n ∧ kv.1 = .inl (j : Int)
section
variable {α : Type} {n : Nat} {kvs : List (Key × α)}
theorem Kys.nil : Kys n ([] : List (Key × α)) := ⟨by simp, fun _ h => by cases h⟩
theorem Kys.put (h : Kys n kvs) {j : Nat} (hj : j < n) (v : α) : Kys n (dput kvs (.inl (j : Int)) v) :=
  ⟨(dput_keys h.nd).1, fun kv hk => by
    rcases (dput_keys h.nd).2 kv hk with e | e
    · exact ⟨j, hj, e⟩
    · obtain ⟨w, h1, h2⟩ := List.mem_map.mp e
      obtain ⟨i, h3, h4⟩ := h.lt w h1
      exact ⟨i, h3, h2 ▸ h4⟩⟩
theorem Kys.drop (h : Kys n kvs) (k : Key) : Kys n (ddrop kvs k) :=
  ⟨(ddrop_sub.map _).nodup h.nd, fun kv hk => h.lt kv (ddrop_sub.subset hk)⟩
theorem Kys.big (h : Kys n kvs) {j : Nat} (hj : n ≤ j) : dget kvs (.inl (j : Int)) = none := dget_none fun kv hk e => by
  obtain ⟨i, h1, h2⟩ := h.lt kv hk
  rw [h2] at e
  have : (i : Int) = j := by injection e
  omega
def wsum (w : Key → α → Nat) (kvs : List (Key × α)) : Nat → Nat
  | 0 => 0
  | n + 1 => wsum w kvs n + (match dget kvs (.inl (n : Int)) with | some v => w (.inl (n : Int)) v | none => 0)
theorem wsum_cons {w : Key → α → Nat} {j : Nat} {v : α} (hk : (.inl (j : Int)) ∉ kvs.map (·.1)) : ∀ n, wsum w ((.inl (j : Int), v) :: kvs) n = wsum w kvs n + (if j < n then w (.inl (j : Int)) v else 0)
  | 0 => by simp [wsum]
  | n + 1 => by
    have ih := wsum_cons (w := w) (v := v) hk n
    show wsum w _ n + (match (if (Sum.inl (j : Int) : Key) = .inl (n : Int) then some v else dget kvs (.inl (n : Int))) with | some v => w (.inl (n : Int)) v | none => 0) = wsum w kvs n + (match dget kvs (.inl (n : Int)) with | some v => w (.inl (n : Int)) v | none => 0) + _
    rw [ih]
    by_cases e : j = n
    · subst e
      rw [dget_none (kvs := kvs) fun kv h z => hk (List.mem_map.mpr ⟨kv, h, z⟩)]
      simp
    · have e' : ¬ (Sum.inl (j : Int) : Key) = .inl (n : Int) := fun z => e (by injection z with z; omega)
      rw [if_neg e']
      by_cases l : j < n
      · rw [if_pos l, if_pos (by omega)]; omega
      · rw [if_neg l, if_neg (show ¬ j < n + 1 by omega)]; simp only [Nat.add_zero]
theorem sum_keys {w : Key → α → Nat} : ∀ {kvs : List (Key × α)}, Kys n kvs → (kvs.map fun kv => w kv.1 kv.2).sum = wsum w kvs n
  | [], hz => by
    clear hz
    show 0 = _
    induction n with
    | zero => rfl
    | succ n ih => show 0 = wsum w [] n + 0; exact ih
  | (k, v) :: r, h => by
    have hn := List.nodup_cons.mp h.nd
    obtain ⟨j, hj, e⟩ := h.lt (k, v) List.mem_cons_self
    have e : k = .inl (j : Int) := e
    subst e
    rw [wsum_cons hn.1, List.map_cons, List.sum_cons, sum_keys (kvs := r) ⟨hn.2, fun kv hk => h.lt kv (List.mem_cons_of_mem _ hk)⟩, if_pos hj]
    exact Nat.add_comm _ _
theorem wsum_congr {β : Type} {w : Key → α → Nat} {w' : Key → β → Nat} {ls : List (Key × β)} : ∀ n, (∀ j : Nat, j < n → (match dget kvs (.inl (j : Int)) with | some v => w (.inl (j : Int)) v | none => 0) = (match dget ls (.inl (j : Int)) with | some v => w' (.inl (j : Int)) v | none => 0)) → wsum w kvs n = wsum w' ls n
  | 0, _ => rfl
  | n + 1, h => by
    show wsum w kvs n + _ = wsum w' ls n + _
    rw [wsum_congr n fun j hj => h j (by omega), h n (by omega)]
theorem Kys.len (h : Kys n kvs) : kvs.length ≤ n := by
  have h1 : kvs.length = (kvs.map fun kv => (fun (_ : Key) (_ : α) => 1) kv.1 kv.2).sum := by
    clear h
    induction kvs with
    | nil => rfl
    | cons a r ih => rw [List.length_cons, List.map_cons, List.sum_cons, ih]; exact Nat.add_comm _ _
  rw [h1, sum_keys (w := fun _ _ => 1) h]
  clear h1 h
  induction n with
  | zero => exact Nat.le_refl _
  | succ n ih =>
    show wsum _ kvs n + _ ≤ n + 1
    have : (match dget kvs (.inl (n : Int)) with | some v => (fun (_ : Key) (_ : α) => 1) (.inl (n : Int)) v | none => 0) ≤ 1 := by split <;> simp
    omega
end
end MI
set_option maxHeartbeats 4000000
/-! ### the text, as tables (written by gen.py) -/
namespace MI
open PySem PySem.Spec PyProof.Rows L2 MI
namespace T
def top (i : Nat) : Stmt := PySem.Challenge.pw_rowstold_k01_words_rows_and_entries.main.body.getD i (.Pass ⟨0, 0, 0, 0⟩)
abbrev s_is_whole : Stmt := top 7
/- slots: 0 thing -/
def b_is_whole : Sts :=
  (.cons (.ret (.so (.and (.blt .isi (.cons (.var 0) (.cons (.bty "int") .nil))) (.not (.blt .isi (.cons (.var 0) (.cons (.bty "bool") .nil))))))) .nil)
def n_is_whole : List Str := ["thing"]
def i_is_whole : FnI := ⟨1, 1, b_is_whole⟩
abbrev s_is_within : Stmt := top 8
/- slots: 0 thing, 1 least, 2 most -/
def b_is_within : Sts :=
  (.cons (.ret (.so (.and (.call 0 (.cons (.var 0) .nil)) (.cmp2 .le .le (.var 1) (.var 0) (.var 2))))) .nil)
def n_is_within : List Str := ["thing", "least", "most"]
def i_is_within : FnI := ⟨3, 3, b_is_within⟩
abbrev s_is_word : Stmt := top 9
/- slots: 0 thing, 1 sign -/
def b_is_word : Sts :=
  (.cons (.ret (.so (.and (.blt .isi (.cons (.var 0) (.cons (.bty "str") .nil))) (.and (.cmp2 .le .le (.lit (.int 1)) (.blt .len (.cons (.var 0) .nil)) (.glob 0)) (.blt .all1 (.cons (.lc [1] (.nm 1) (.vl (.var 0)) .no (.cmp .isin (.var 1) (.glob 1))) .nil)))))) .nil)
def n_is_word : List Str := ["thing", "sign"]
def i_is_word : FnI := ⟨1, 2, b_is_word⟩
abbrev s_is_worth : Stmt := top 10
/- slots: 0 thing -/
def b_is_worth : Sts :=
  (.cons (.ret (.so (.call 1 (.cons (.var 0) (.cons (.neg (.glob 2)) (.cons (.glob 2) .nil)))))) .nil)
def n_is_worth : List Str := ["thing"]
def i_is_worth : FnI := ⟨1, 1, b_is_worth⟩
abbrev s_is_row : Stmt := top 11
/- slots: 0 thing, 1 one -/
def b_is_row : Sts :=
  (.cons (.ret (.so (.and (.blt .isi (.cons (.var 0) (.cons (.bty "tuple") .nil))) (.and (.cmp2 .le .le (.lit (.int 1)) (.blt .len (.cons (.var 0) .nil)) (.glob 3)) (.blt .all1 (.cons (.lc [1] (.nm 1) (.vl (.var 0)) .no (.call 3 (.cons (.var 1) .nil))) .nil)))))) .nil)
def n_is_row : List Str := ["thing", "one"]
def i_is_row : FnI := ⟨1, 2, b_is_row⟩
abbrev s_are_fields : Stmt := top 12
/- slots: 0 thing, 1 one, 2 word -/
def b_are_fields : Sts :=
  (.cons (.ifs (.or (.not (.blt .isi (.cons (.var 0) (.cons (.bty "tuple") .nil)))) (.not (.cmp2 .le .le (.lit (.int 1)) (.blt .len (.cons (.var 0) .nil)) (.glob 3)))) (.cons (.ret (.so (.lit (.bl false)))) .nil) .nil) (.cons (.ret (.so (.and (.blt .all1 (.cons (.lc [1] (.nm 1) (.vl (.var 0)) .no (.call 2 (.cons (.var 1) .nil))) .nil)) (.cmp .eq (.blt .len (.cons (.dc [2] (.nm 2) (.vl (.var 0)) .no (.var 2) (.lit (.bl true))) .nil)) (.blt .len (.cons (.var 0) .nil)))))) .nil))
def n_are_fields : List Str := ["thing", "one", "word"]
def i_are_fields : FnI := ⟨1, 3, b_are_fields⟩
abbrev s_is_place : Stmt := top 13
/- slots: 0 thing -/
def b_is_place : Sts :=
  (.cons (.ret (.so (.and (.call 0 (.cons (.var 0) .nil)) (.cmp .ge (.var 0) (.lit (.int 0)))))) .nil)
def n_is_place : List Str := ["thing"]
def i_is_place : FnI := ⟨1, 1, b_is_place⟩
abbrev s_is_table : Stmt := top 14
/- slots: 0 thing -/
def b_is_table : Sts :=
  (.cons (.ret (.so (.call 1 (.cons (.var 0) (.cons (.lit (.int 0)) (.cons (.glob 4) .nil)))))) .nil)
def n_is_table : List Str := ["thing"]
def i_is_table : FnI := ⟨1, 1, b_is_table⟩
abbrev s_is_dealing : Stmt := top 15
/- slots: 0 thing -/
def b_is_dealing : Sts :=
  (.cons (.ret (.so (.call 1 (.cons (.var 0) (.cons (.lit (.int 0)) (.cons (.glob 5) .nil)))))) .nil)
def n_is_dealing : List Str := ["thing"]
def i_is_dealing : FnI := ⟨1, 1, b_is_dealing⟩
abbrev s_may_be_word : Stmt := top 16
/- slots: 0 thing -/
def b_may_be_word : Sts :=
  (.cons (.ret (.so (.or (.cmp .is (.var 0) (.lit .non)) (.call 2 (.cons (.var 0) .nil))))) .nil)
def n_may_be_word : List Str := ["thing"]
def i_may_be_word : FnI := ⟨1, 1, b_may_be_word⟩
abbrev s_are_dealings : Stmt := top 17
/- slots: 0 thing, 1 one, 2 other -/
def b_are_dealings : Sts :=
  (.cons (.ifs (.or (.not (.blt .isi (.cons (.var 0) (.cons (.bty "tuple") .nil)))) (.not (.blt .all1 (.cons (.lc [1] (.nm 1) (.vl (.var 0)) .no (.call 8 (.cons (.var 1) .nil))) .nil)))) (.cons (.ret (.so (.lit (.bl false)))) .nil) .nil) (.cons (.ret (.so (.blt .all1 (.cons (.lc [1, 2] (.tp (.cons (.nm 1) (.cons (.nm 2) .nil))) (.zip2 (.var 0) (.sl (.var 0) (.so (.lit (.int 1))) .no)) .no (.cmp .lt (.var 1) (.var 2))) .nil)))) .nil))
def n_are_dealings : List Str := ["thing", "one", "other"]
def i_are_dealings : FnI := ⟨1, 3, b_are_dealings⟩
abbrev s_is_entry : Stmt := top 19
/- slots: 0 thing, 1 looks, 2 look, 3 one -/
def b_is_entry : Sts :=
  (.cons (.ifs (.or (.not (.blt .isi (.cons (.var 0) (.cons (.bty "tuple") .nil)))) (.or (.cmp .eq (.var 0) (.tup .nil)) (.or (.not (.blt .isi (.cons (.ix (.var 0) (.lit (.int 0))) (.cons (.bty "str") .nil)))) (.cmp .nin (.ix (.var 0) (.lit (.int 0))) (.glob 6))))) (.cons (.ret (.so (.lit (.bl false)))) .nil) .nil) (.cons (.asg (.nm 1) (.ix (.glob 6) (.ix (.var 0) (.lit (.int 0))))) (.cons (.ifs (.or (.cmp .ne (.blt .len (.cons (.var 1) .nil)) (.bin .sub (.blt .len (.cons (.var 0) .nil)) (.lit (.int 1)))) (.not (.blt .all1 (.cons (.lc [2, 3] (.tp (.cons (.nm 2) (.cons (.nm 3) .nil))) (.zipS (.var 1) (.sl (.var 0) (.so (.lit (.int 1))) .no)) .no (.callL 2 (.cons (.var 3) .nil))) .nil)))) (.cons (.ret (.so (.lit (.bl false)))) .nil) .nil) (.cons (.ret (.so (.or (.cmp .ne (.ix (.var 0) (.lit (.int 0))) (.lit (.str "within"))) (.cmp .ne (.ix (.var 0) (.lit (.int 1))) (.ix (.var 0) (.lit (.int 2))))))) .nil))))
def n_is_entry : List Str := ["thing", "looks", "look", "one"]
def i_is_entry : FnI := ⟨1, 4, b_is_entry⟩
abbrev s__law_cell_at : Stmt := top 21
/- slots: 0 _law_script, 1 _law_k -/
def b__law_cell_at : Sts :=
  (.cons (.ifs (.cmp .lt (.var 1) (.blt .len (.cons (.var 0) .nil))) (.cons (.ret (.so (.ix (.var 0) (.var 1)))) .nil) .nil) (.cons (.ret (.so (.lit (.int 0)))) .nil))
def n__law_cell_at : List Str := ["_law_script", "_law_k"]
def i__law_cell_at : FnI := ⟨2, 2, b__law_cell_at⟩
abbrev s__law_pool : Stmt := top 22
/- slots: 0 _law_script, 1 _law_k, 2 _law_cell, 3 _law_seed -/
def b__law_pool : Sts :=
  (.cons (.asg (.nm 2) (.call 12 (.cons (.var 0) (.cons (.var 1) .nil)))) (.cons (.asg (.nm 3) (.bin .mod (.bin .mul (.bin .add (.bin .add (.bin .mod (.var 2) (.lit (.int 2147483629))) (.bin .mul (.bin .mul (.lit (.int 7919)) (.var 1)) (.var 1))) (.lit (.int 1))) (.lit (.int 48271))) (.lit (.int 2147483647)))) (.cons (.ifs (.cmp .lt (.var 2) (.bin .pow (.lit (.int 10)) (.lit (.int 18)))) (.cons (.asg (.nm 2) (.lit (.int 0))) .nil) .nil) (.cons (.ret (.so (.lst (.cons (.var 2) (.cons (.bin .mod (.bin .mul (.var 3) (.var 3)) (.lit (.int 2147483629))) .nil))))) .nil))))
def n__law_pool : List Str := ["_law_script", "_law_k", "_law_cell", "_law_seed"]
def i__law_pool : FnI := ⟨2, 4, b__law_pool⟩
abbrev s__law_take : Stmt := top 23
/- slots: 0 _law_pool_here, 1 _law_many, 2 _law_found -/
def b__law_take : Sts :=
  (.cons (.ifs (.cmp .gt (.ix (.var 0) (.lit (.int 0))) (.lit (.int 0))) (.cons (.asg (.nm 2) (.bin .mod (.ix (.var 0) (.lit (.int 0))) (.var 1))) (.cons (.asg (.sb (.var 0) (.lit (.int 0))) (.bin .fdiv (.ix (.var 0) (.lit (.int 0))) (.var 1))) (.cons (.ret (.so (.var 2))) .nil))) .nil) (.cons (.asg (.sb (.var 0) (.lit (.int 1))) (.bin .mod (.bin .add (.bin .mul (.ix (.var 0) (.lit (.int 1))) (.lit (.int 48271))) (.lit (.int 11))) (.lit (.int 2147483647)))) (.cons (.ret (.so (.bin .mod (.bin .fdiv (.bin .mod (.bin .mul (.ix (.var 0) (.lit (.int 1))) (.ix (.var 0) (.lit (.int 1)))) (.lit (.int 2147483629))) (.lit (.int 64))) (.var 1)))) .nil)))
def n__law_take : List Str := ["_law_pool_here", "_law_many", "_law_found"]
def i__law_take : FnI := ⟨2, 3, b__law_take⟩
abbrev s__law_whole : Stmt := top 24
/- slots: 0 _law_item, 1 _law_least, 2 _law_most -/
def b__law_whole : Sts :=
  (.cons (.ret (.so (.and (.blt .isi (.cons (.var 0) (.cons (.bty "int") .nil))) (.and (.not (.blt .isi (.cons (.var 0) (.cons (.bty "bool") .nil)))) (.cmp2 .le .le (.var 1) (.var 0) (.var 2)))))) .nil)
def n__law_whole : List Str := ["_law_item", "_law_least", "_law_most"]
def i__law_whole : FnI := ⟨3, 3, b__law_whole⟩
abbrev s__law_is_word : Stmt := top 25
/- slots: 0 _law_item, 1 _law_sign -/
def b__law_is_word : Sts :=
  (.cons (.ifs (.or (.not (.blt .isi (.cons (.var 0) (.cons (.bty "str") .nil)))) (.not (.cmp2 .le .le (.lit (.int 1)) (.blt .len (.cons (.var 0) .nil)) (.lit (.int 8))))) (.cons (.ret (.so (.lit (.bl false)))) .nil) .nil) (.cons (.ret (.so (.cmp .eq (.lc [1] (.nm 1) (.vl (.var 0)) (.so (.cmp .nin (.var 1) (.lit (.str "abcdefghijklmnopqrstuvwxyz")))) (.var 1)) (.lst .nil)))) .nil))
def n__law_is_word : List Str := ["_law_item", "_law_sign"]
def i__law_is_word : FnI := ⟨1, 2, b__law_is_word⟩
abbrev s__law_are_fields : Stmt := top 26
/- slots: 0 _law_item, 1 _law_one -/
def b__law_are_fields : Sts :=
  (.cons (.ifs (.or (.not (.blt .isi (.cons (.var 0) (.cons (.bty "tuple") .nil)))) (.not (.cmp2 .le .le (.lit (.int 1)) (.blt .len (.cons (.var 0) .nil)) (.lit (.int 6))))) (.cons (.ret (.so (.lit (.bl false)))) .nil) .nil) (.cons (.ret (.so (.and (.cmp .eq (.lc [1] (.nm 1) (.vl (.var 0)) (.so (.not (.call 16 (.cons (.var 1) .nil)))) (.var 1)) (.lst .nil)) (.cmp .eq (.lenS (.var 0)) (.blt .len (.cons (.var 0) .nil)))))) .nil))
def n__law_are_fields : List Str := ["_law_item", "_law_one"]
def i__law_are_fields : FnI := ⟨1, 2, b__law_are_fields⟩
abbrev s__law_is_row : Stmt := top 27
/- slots: 0 _law_item, 1 _law_many, 2 _law_one -/
def b__law_is_row : Sts :=
  (.cons (.ifs (.or (.not (.blt .isi (.cons (.var 0) (.cons (.bty "tuple") .nil)))) (.cmp .ne (.blt .len (.cons (.var 0) .nil)) (.var 1))) (.cons (.ret (.so (.lit (.bl false)))) .nil) .nil) (.cons (.ret (.so (.cmp .eq (.lc [2] (.nm 2) (.vl (.var 0)) (.so (.not (.call 15 (.cons (.var 2) (.cons (.neg (.bin .pow (.lit (.int 10)) (.lit (.int 9)))) (.cons (.bin .pow (.lit (.int 10)) (.lit (.int 9))) .nil)))))) (.var 2)) (.lst .nil)))) .nil))
def n__law_is_row : List Str := ["_law_item", "_law_many", "_law_one"]
def i__law_is_row : FnI := ⟨2, 3, b__law_is_row⟩
abbrev s__law_fields : Stmt := top 28
/- slots: 0 _law_pool_here, 1 _law_some, 2 _law_found, 3 _law_turn, 4 _law_one -/
def b__law_fields : Sts :=
  (.cons (.asg (.nm 1) (.lst (.cons (.lit (.str "a")) (.cons (.lit (.str "b")) (.cons (.lit (.str "name")) (.cons (.lit (.str "far")) (.cons (.lit (.str "c")) .nil))))))) (.cons (.asg (.nm 2) (.lst (.cons (.ix (.lst (.cons (.lit (.str "key")) (.cons (.lit (.str "a")) (.cons (.lit (.str "id")) .nil)))) (.call 14 (.cons (.var 0) (.cons (.lit (.int 3)) .nil)))) .nil))) (.cons (.for_ (.nm 3) (.rng1 (.call 14 (.cons (.var 0) (.cons (.lit (.int 4)) .nil)))) (.cons (.asg (.nm 4) (.bm .pop1 (.var 1) (.cons (.call 14 (.cons (.var 0) (.cons (.blt .len (.cons (.var 1) .nil)) .nil))) .nil))) (.cons (.ifs (.cmp .nin (.var 4) (.var 2)) (.cons (.expr (.bm .append (.var 2) (.cons (.var 4) .nil))) .nil) .nil) .nil))) (.cons (.ret (.so (.blt .tuple1 (.cons (.var 2) .nil)))) .nil))))
def n__law_fields : List Str := ["_law_pool_here", "_law_some", "_law_found", "_law_turn", "_law_one"]
def i__law_fields : FnI := ⟨1, 5, b__law_fields⟩
abbrev s__law_worth : Stmt := top 29
/- slots: 0 _law_pool_here -/
def b__law_worth : Sts :=
  (.cons (.ret (.so (.ix (.lst (.cons (.lit (.int 0)) (.cons (.lit (.int 1)) (.cons (.lit (.int 2)) (.cons (.lit (.int 3)) (.cons (.lit (.int 7)) (.cons (.neg (.lit (.int 1))) (.cons (.lit (.int 10)) (.cons (.bin .sub (.bin .pow (.lit (.int 10)) (.lit (.int 9))) (.call 14 (.cons (.var 0) (.cons (.lit (.int 9)) .nil)))) .nil))))))))) (.call 14 (.cons (.var 0) (.cons (.lit (.int 8)) .nil)))))) .nil)
def n__law_worth : List Str := ["_law_pool_here"]
def i__law_worth : FnI := ⟨1, 1, b__law_worth⟩
abbrev s__law_row : Stmt := top 30
/- slots: 0 _law_pool_here, 1 _law_many, 2 _law_k -/
def b__law_row : Sts :=
  (.cons (.ret (.so (.blt .tuple1 (.cons (.bin .add (.lst (.cons (.call 14 (.cons (.var 0) (.cons (.lit (.int 4)) .nil))) .nil)) (.lc [2] (.nm 2) (.rng1 (.bin .sub (.var 1) (.lit (.int 1)))) .no (.call 20 (.cons (.var 0) .nil)))) .nil)))) .nil)
def n__law_row : List Str := ["_law_pool_here", "_law_many", "_law_k"]
def i__law_row : FnI := ⟨2, 3, b__law_row⟩
abbrev s__law_is_some_row : Stmt := top 31
/- slots: 0 _law_item -/
def b__law_is_some_row : Sts :=
  (.cons (.ret (.so (.and (.blt .isi (.cons (.var 0) (.cons (.bty "tuple") .nil))) (.and (.cmp2 .le .le (.lit (.int 1)) (.blt .len (.cons (.var 0) .nil)) (.lit (.int 6))) (.call 18 (.cons (.var 0) (.cons (.blt .len (.cons (.var 0) .nil)) .nil))))))) .nil)
def n__law_is_some_row : List Str := ["_law_item"]
def i__law_is_some_row : FnI := ⟨1, 1, b__law_is_some_row⟩
abbrev s__law_is_dealing : Stmt := top 32
/- slots: 0 _law_item -/
def b__law_is_dealing : Sts :=
  (.cons (.ret (.so (.call 15 (.cons (.var 0) (.cons (.lit (.int 0)) (.cons (.lit (.int 9999)) .nil)))))) .nil)
def n__law_is_dealing : List Str := ["_law_item"]
def i__law_is_dealing : FnI := ⟨1, 1, b__law_is_dealing⟩
abbrev s__law_sizes : Stmt := top 33
/- slots:  -/
def b__law_sizes : Sts :=
  (.cons (.ret (.so (.dic (.cons (.lit (.str "within")) (.cons (.lit (.int 3)) (.cons (.lit (.str "from")) (.cons (.lit (.int 4)) (.cons (.lit (.str "form")) (.cons (.lit (.int 5)) (.cons (.lit (.str "put")) (.cons (.lit (.int 4)) (.cons (.lit (.str "change")) (.cons (.lit (.int 5)) (.cons (.lit (.str "strike")) (.cons (.lit (.int 4)) (.cons (.lit (.str "ready")) (.cons (.lit (.int 3)) (.cons (.lit (.str "sure")) (.cons (.lit (.int 3)) (.cons (.lit (.str "off")) (.cons (.lit (.int 3)) .nil))))))))))))))))))))) .nil)
def n__law_sizes : List Str := []
def i__law_sizes : FnI := ⟨0, 0, b__law_sizes⟩
abbrev s__law_is_running : Stmt := top 34
/- slots: 0 _law_item, 1 _law_one -/
def b__law_is_running : Sts :=
  (.cons (.ifs (.or (.cmp .ne (.blt .len (.cons (.var 0) .nil)) (.lit (.int 2))) (.not (.blt .isi (.cons (.ix (.var 0) (.lit (.int 1))) (.cons (.bty "tuple") .nil))))) (.cons (.ret (.so (.lit (.bl false)))) .nil) .nil) (.cons (.ifs (.cmp .ne (.lc [1] (.nm 1) (.vl (.ix (.var 0) (.lit (.int 1)))) (.so (.not (.call 23 (.cons (.var 1) .nil)))) (.var 1)) (.lst .nil)) (.cons (.ret (.so (.lit (.bl false)))) .nil) .nil) (.cons (.ret (.so (.cmp .eq (.blt .list1 (.cons (.ix (.var 0) (.lit (.int 1))) .nil)) (.srtS (.ix (.var 0) (.lit (.int 1))))))) .nil)))
def n__law_is_running : List Str := ["_law_item", "_law_one"]
def i__law_is_running : FnI := ⟨1, 2, b__law_is_running⟩
abbrev s__law_is_rest : Stmt := top 35
/- slots: 0 _law_word, 1 _law_rest, 2 _law_row_here -/
def b__law_is_rest : Sts :=
  (.cons (.ifs (.cmp .eq (.var 0) (.lit (.str "within"))) (.cons (.ret (.so (.and (.call 23 (.cons (.ix (.var 1) (.lit (.int 1))) .nil)) (.cmp .ne (.ix (.var 1) (.lit (.int 0))) (.ix (.var 1) (.lit (.int 1))))))) .nil) .nil) (.cons (.ifs (.cmp .eq (.var 0) (.lit (.str "from"))) (.cons (.ret (.so (.and (.call 16 (.cons (.ix (.var 1) (.lit (.int 1))) .nil)) (.call 15 (.cons (.ix (.var 1) (.lit (.int 2))) (.cons (.lit (.int 0)) (.cons (.bin .pow (.lit (.int 10)) (.lit (.int 60))) .nil))))))) .nil) .nil) (.cons (.ifs (.cmp .isin (.var 0) (.tup (.cons (.lit (.str "ready")) (.cons (.lit (.str "sure")) (.cons (.lit (.str "off")) .nil))))) (.cons (.ret (.so (.or (.call 16 (.cons (.ix (.var 1) (.lit (.int 1))) .nil)) (.and (.cmp .is (.ix (.var 1) (.lit (.int 1))) (.lit .non)) (.cmp .ne (.var 0) (.lit (.str "ready"))))))) .nil) .nil) (.cons (.ifs (.not (.call 15 (.cons (.ix (.var 1) (.lit (.int 1))) (.cons (.lit (.int 0)) (.cons (.lit (.int 9)) .nil))))) (.cons (.ret (.so (.lit (.bl false)))) .nil) .nil) (.cons (.ifs (.cmp .eq (.var 0) (.lit (.str "form"))) (.cons (.ret (.so (.and (.call 16 (.cons (.ix (.var 1) (.lit (.int 2))) .nil)) (.call 17 (.cons (.ix (.var 1) (.lit (.int 3))) .nil))))) .nil) .nil) (.cons (.ret (.so (.cmp .eq (.lc [2] (.nm 2) (.vl (.sl (.var 1) (.so (.lit (.int 2))) .no)) (.so (.not (.call 22 (.cons (.var 2) .nil)))) (.var 2)) (.lst .nil)))) .nil))))))
def n__law_is_rest : List Str := ["_law_word", "_law_rest", "_law_row_here"]
def i__law_is_rest : FnI := ⟨2, 3, b__law_is_rest⟩
abbrev s__law_is_entry : Stmt := top 36
/- slots: 0 _law_item -/
def b__law_is_entry : Sts :=
  (.cons (.ifs (.or (.not (.blt .isi (.cons (.var 0) (.cons (.bty "tuple") .nil)))) (.or (.cmp .eq (.var 0) (.tup .nil)) (.not (.blt .isi (.cons (.ix (.var 0) (.lit (.int 0))) (.cons (.bty "str") .nil)))))) (.cons (.ret (.so (.lit (.bl false)))) .nil) .nil) (.cons (.ifs (.cmp .eq (.ix (.var 0) (.lit (.int 0))) (.lit (.str "running"))) (.cons (.ret (.so (.call 25 (.cons (.var 0) .nil)))) .nil) .nil) (.cons (.ifs (.or (.cmp .ne (.bm .get2 (.call 24 .nil) (.cons (.ix (.var 0) (.lit (.int 0))) (.cons (.lit (.int 0)) .nil))) (.blt .len (.cons (.var 0) .nil))) (.not (.call 23 (.cons (.ix (.var 0) (.lit (.int 1))) .nil)))) (.cons (.ret (.so (.lit (.bl false)))) .nil) .nil) (.cons (.ret (.so (.call 26 (.cons (.ix (.var 0) (.lit (.int 0))) (.cons (.sl (.var 0) (.so (.lit (.int 1))) .no) .nil))))) .nil))))
def n__law_is_entry : List Str := ["_law_item"]
def i__law_is_entry : FnI := ⟨1, 1, b__law_is_entry⟩
abbrev s__law_bent_entry : Stmt := top 37
/- slots: 0 _law_pool_here, 1 _law_entry, 2 _law_at, 3 _law_odd, 4 _law_one, 5 _law_some -/
def b__law_bent_entry : Sts :=
  (.cons (.asg (.nm 2) (.call 14 (.cons (.var 0) (.cons (.blt .len (.cons (.var 1) .nil)) .nil)))) (.cons (.asg (.nm 3) (.lst (.cons (.lit .non) (.cons (.lit (.bl true)) (.cons (.neg (.lit (.int 1))) (.cons (.lit (.str "")) (.cons (.lit (.str "X")) (.cons (.lit (.str "ninesigns")) (.cons (.tup .nil) (.cons (.tup (.cons (.lit (.int 1)) (.cons (.lit (.int 1)) .nil))) (.cons (.tup (.cons (.lit (.str "a")) (.cons (.lit (.str "a")) .nil))) (.cons (.lit (.int 10000)) (.cons (.lst (.cons (.lit (.int 0)) .nil)) (.cons (.bin .add (.bin .pow (.lit (.int 10)) (.lit (.int 9))) (.lit (.int 1))) (.cons (.tup (.cons (.bin .add (.bin .pow (.lit (.int 10)) (.lit (.int 9))) (.lit (.int 1))) .nil)) (.cons (.dic .nil) .nil)))))))))))))))) (.cons (.asg (.nm 3) (.bin .add (.var 3) (.lst (.cons (.lit (.str "put")) (.cons (.lit (.str "off")) (.cons (.bin .mul (.tup (.cons (.lit (.int 0)) .nil)) (.lit (.int 7))) (.cons (.tup (.cons (.lit (.str "a")) (.cons (.lit (.str "b\n")) .nil))) (.cons (.lit (.int 10)) (.cons (.lit (.int 0)) .nil))))))))) (.cons (.asg (.nm 4) (.ix (.var 3) (.call 14 (.cons (.var 0) (.cons (.lit (.int 20)) .nil))))) (.cons (.asg (.nm 5) (.lst (.cons (.bin .add (.bin .add (.sl (.var 1) .no (.so (.var 2))) (.tup (.cons (.var 4) .nil))) (.sl (.var 1) (.so (.bin .add (.var 2) (.lit (.int 1)))) .no)) (.cons (.bin .add (.bin .add (.sl (.var 1) .no (.so (.var 2))) (.tup (.cons (.var 4) .nil))) (.sl (.var 1) (.so (.bin .add (.var 2) (.lit (.int 1)))) .no)) (.cons (.bin .add (.sl (.var 1) .no (.so (.var 2))) (.sl (.var 1) (.so (.bin .add (.var 2) (.lit (.int 1)))) .no)) .nil))))) (.cons (.ret (.so (.ix (.bin .add (.var 5) (.lst (.cons (.bin .add (.var 1) (.tup (.cons (.var 4) .nil))) (.cons (.blt .list1 (.cons (.var 1) .nil)) (.cons (.tup (.cons (.var 1) .nil)) (.cons (.var 4) .nil)))))) (.call 14 (.cons (.var 0) (.cons (.lit (.int 7)) .nil)))))) .nil))))))
def n__law_bent_entry : List Str := ["_law_pool_here", "_law_entry", "_law_at", "_law_odd", "_law_one", "_law_some"]
def i__law_bent_entry : FnI := ⟨2, 6, b__law_bent_entry⟩
abbrev s__law_items : Stmt := top 38
/- slots: 0 _law_some -/
def b__law_items : Sts :=
  (.cons (.asg (.nm 0) (.lst (.cons (.lit .non) (.cons (.lit (.bl true)) (.cons (.lit (.bl false)) (.cons (.lit (.int 0)) (.cons (.lit (.int 1)) (.cons (.neg (.lit (.int 1))) (.cons (.lit (.int 9)) (.cons (.lit (.int 10)) (.cons (.lit (.int 9999)) (.cons (.bin .pow (.lit (.int 10)) (.lit (.int 9))) (.cons (.bin .add (.bin .pow (.lit (.int 10)) (.lit (.int 9))) (.lit (.int 1))) (.cons (.bin .sub (.lit (.int 0)) (.bin .pow (.lit (.int 10)) (.lit (.int 9)))) (.cons (.bin .sub (.neg (.lit (.int 1))) (.bin .pow (.lit (.int 10)) (.lit (.int 9)))) (.cons (.bin .pow (.lit (.int 10)) (.lit (.int 59))) (.cons (.lit (.str "")) .nil))))))))))))))))) (.cons (.asg (.nm 0) (.bin .add (.var 0) (.lst (.cons (.lit (.str "a")) (.cons (.lit (.str "abcdefgh")) (.cons (.lit (.str "abcdefghi")) (.cons (.lit (.str "A")) (.cons (.lit (.str "a b")) (.cons (.lit (.str "a\n")) (.cons (.lst .nil) (.cons (.lst (.cons (.lit (.int 1)) .nil)) (.cons (.tup .nil) (.cons (.tup (.cons (.lit (.int 1)) .nil)) (.cons (.bin .mul (.tup (.cons (.lit (.int 1)) .nil)) (.lit (.int 6))) (.cons (.bin .mul (.tup (.cons (.lit (.int 1)) .nil)) (.lit (.int 7))) (.cons (.tup (.cons (.lit (.int 1)) (.cons (.lit (.bl true)) .nil))) .nil)))))))))))))))) (.cons (.ret (.so (.bin .add (.var 0) (.lst (.cons (.tup (.cons (.lit (.str "a")) .nil)) (.cons (.tup (.cons (.lit (.str "a")) (.cons (.lit (.str "b")) .nil))) (.cons (.tup (.cons (.lit (.str "a")) (.cons (.lit (.str "a")) .nil))) (.cons (.tup (.cons (.lit (.str "a")) (.cons (.lit (.str "")) .nil))) (.cons (.blt .tuple1 (.cons (.lit (.str "abcdef")) .nil)) (.cons (.blt .tuple1 (.cons (.lit (.str "abcdefg")) .nil)) (.cons (.dic .nil) (.cons (.tup (.cons (.lit .non) .nil)) (.cons (.tup (.cons (.tup (.cons (.lit (.int 1)) .nil)) .nil)) .nil))))))))))))) .nil)))
def n__law_items : List Str := ["_law_some"]
def i__law_items : FnI := ⟨0, 1, b__law_items⟩
abbrev s__law_plain_right : Stmt := top 39
/- slots: 0 _law_item, 1 _law_far, 2 _law_due, 3 _law_told -/
def b__law_plain_right : Sts :=
  (.cons (.asg (.nm 1) (.bin .pow (.lit (.int 10)) (.lit (.int 60)))) (.cons (.asg (.nm 2) (.lst (.cons (.call 15 (.cons (.var 0) (.cons (.bin .sub (.lit (.int 0)) (.var 1)) (.cons (.var 1) .nil)))) (.cons (.call 16 (.cons (.var 0) .nil)) (.cons (.call 15 (.cons (.var 0) (.cons (.bin .sub (.lit (.int 0)) (.bin .pow (.lit (.int 10)) (.lit (.int 9)))) (.cons (.bin .pow (.lit (.int 10)) (.lit (.int 9))) .nil)))) .nil))))) (.cons (.asg (.nm 2) (.bin .add (.var 2) (.lst (.cons (.call 22 (.cons (.var 0) .nil)) (.cons (.call 17 (.cons (.var 0) .nil)) (.cons (.call 15 (.cons (.var 0) (.cons (.lit (.int 0)) (.cons (.var 1) .nil)))) (.cons (.call 27 (.cons (.var 0) .nil)) .nil))))))) (.cons (.asg (.nm 3) (.lst (.cons (.call 0 (.cons (.var 0) .nil)) (.cons (.call 2 (.cons (.var 0) .nil)) (.cons (.call 3 (.cons (.var 0) .nil)) (.cons (.call 4 (.cons (.var 0) .nil)) (.cons (.call 5 (.cons (.var 0) .nil)) (.cons (.call 6 (.cons (.var 0) .nil)) .nil)))))))) (.cons (.ret (.so (.cmp .eq (.blt .repr (.cons (.bin .add (.var 3) (.lst (.cons (.call 11 (.cons (.var 0) .nil)) .nil))) .nil)) (.blt .repr (.cons (.var 2) .nil))))) .nil)))))
def n__law_plain_right : List Str := ["_law_item", "_law_far", "_law_due", "_law_told"]
def i__law_plain_right : FnI := ⟨1, 4, b__law_plain_right⟩
abbrev s__law_entries : Stmt := top 40
/- slots: 0 _law_pool_here, 1 _law_d, 2 _law_t, 3 _law_row_here, 4 _law_found -/
def b__law_entries : Sts :=
  (.cons (.asg (.nm 1) (.call 14 (.cons (.var 0) (.cons (.lit (.int 10000)) .nil)))) (.cons (.asg (.nm 2) (.call 14 (.cons (.var 0) (.cons (.lit (.int 10)) .nil)))) (.cons (.asg (.nm 3) (.call 21 (.cons (.var 0) (.cons (.bin .add (.lit (.int 1)) (.call 14 (.cons (.var 0) (.cons (.lit (.int 6)) .nil)))) .nil)))) (.cons (.asg (.nm 4) (.lst (.cons (.tup (.cons (.lit (.str "within")) (.cons (.var 1) (.cons (.bin .mod (.bin .add (.var 1) (.lit (.int 1))) (.lit (.int 10000))) .nil)))) (.cons (.tup (.cons (.lit (.str "from")) (.cons (.var 1) (.cons (.lit (.str "home")) (.cons (.call 14 (.cons (.var 0) (.cons (.bin .pow (.lit (.int 10)) (.lit (.int 9))) .nil))) .nil))))) (.cons (.tup (.cons (.lit (.str "sure")) (.cons (.var 1) (.cons (.lit .non) .nil)))) .nil))))) (.cons (.asg (.nm 4) (.bin .add (.var 4) (.lst (.cons (.tup (.cons (.lit (.str "form")) (.cons (.var 1) (.cons (.var 2) (.cons (.lit (.str "tall")) (.cons (.call 19 (.cons (.var 0) .nil)) .nil)))))) (.cons (.tup (.cons (.lit (.str "put")) (.cons (.var 1) (.cons (.var 2) (.cons (.var 3) .nil))))) (.cons (.tup (.cons (.lit (.str "change")) (.cons (.var 1) (.cons (.var 2) (.cons (.var 3) (.cons (.sl (.var 3) .no (.so (.lit (.int 1)))) .nil)))))) .nil)))))) (.cons (.asg (.nm 4) (.bin .add (.var 4) (.lst (.cons (.tup (.cons (.lit (.str "strike")) (.cons (.var 1) (.cons (.var 2) (.cons (.var 3) .nil))))) (.cons (.tup (.cons (.lit (.str "ready")) (.cons (.var 1) (.cons (.lit (.str "one")) .nil)))) (.cons (.tup (.cons (.lit (.str "sure")) (.cons (.var 1) (.cons (.lit (.str "one")) .nil)))) (.cons (.tup (.cons (.lit (.str "off")) (.cons (.var 1) (.cons (.ix (.lst (.cons (.lit .non) (.cons (.lit (.str "x")) .nil))) (.bin .mod (.var 2) (.lit (.int 2)))) .nil)))) .nil))))))) (.cons (.ret (.so (.bin .add (.var 4) (.lst (.cons (.tup (.cons (.lit (.str "running")) (.cons (.blt .tuple1 (.cons (.srtS (.lst (.cons (.var 1) (.cons (.var 2) (.cons (.call 14 (.cons (.var 0) (.cons (.lit (.int 10000)) .nil))) .nil))))) .nil)) .nil))) .nil))))) .nil)))))))
def n__law_entries : List Str := ["_law_pool_here", "_law_d", "_law_t", "_law_row_here", "_law_found"]
def i__law_entries : FnI := ⟨1, 5, b__law_entries⟩
abbrev s_law : Stmt := top 41
/- slots: 0 _law_script, 1 _law_item, 2 _law_word, 3 _law_k, 4 _law_pool_here, 5 _law_entry, 6 _law_bent, 7 _law_kept -/
def b_law : Sts :=
  (.cons (.for_ (.nm 1) (.vl (.call 29 .nil)) (.cons (.ifs (.or (.not (.call 30 (.cons (.var 1) .nil))) (.not (.call 30 (.cons (.tup (.cons (.lit (.str "strike")) (.cons (.lit (.int 0)) (.cons (.lit (.int 0)) (.cons (.var 1) .nil))))) .nil)))) (.cons (.ret (.so (.lit (.bl false)))) .nil) .nil) (.cons (.for_ (.nm 2) (.vl (.lst (.cons (.lit (.str "sure")) (.cons (.lit (.str "ready")) (.cons (.lit (.str "running")) .nil))))) (.cons (.ifs (.or (.not (.call 30 (.cons (.tup (.cons (.var 2) (.cons (.lit (.int 0)) (.cons (.var 1) .nil)))) .nil))) (.not (.call 30 (.cons (.tup (.cons (.var 2) (.cons (.var 1) .nil))) .nil)))) (.cons (.ret (.so (.lit (.bl false)))) .nil) .nil) .nil)) .nil))) (.cons (.for_ (.nm 3) (.rng1 (.blt .max2 (.cons (.lit (.int 1)) (.cons (.blt .min2 (.cons (.blt .len (.cons (.var 0) .nil)) (.cons (.lit (.int 10)) .nil))) .nil)))) (.cons (.asg (.nm 4) (.call 13 (.cons (.var 0) (.cons (.var 3) .nil)))) (.cons (.for_ (.nm 5) (.vl (.call 31 (.cons (.var 4) .nil))) (.cons (.asg (.nm 6) (.call 28 (.cons (.var 4) (.cons (.var 5) .nil)))) (.cons (.asg (.nm 7) (.blt .repr (.cons (.var 6) .nil))) (.cons (.ifs (.or (.cmp .nis (.call 11 (.cons (.var 5) .nil)) (.lit (.bl true))) (.or (.not (.call 30 (.cons (.var 5) .nil))) (.not (.call 30 (.cons (.var 6) .nil))))) (.cons (.ret (.so (.lit (.bl false)))) .nil) .nil) (.cons (.ifs (.cmp .ne (.blt .repr (.cons (.var 6) .nil)) (.var 7)) (.cons (.ret (.so (.lit (.bl false)))) .nil) .nil) .nil))))) .nil))) (.cons (.ret (.so (.callK 11 (.cons (.tup (.cons (.lit (.str "running")) (.cons (.tup .nil) .nil))) .nil) [.inl 0]))) .nil)))
def n_law : List Str := ["_law_script", "_law_item", "_law_word", "_law_k", "_law_pool_here", "_law_entry", "_law_bent", "_law_kept"]
def i_law : FnI := ⟨1, 8, b_law⟩
/- defs: 0 is_whole, 1 is_within, 2 is_word, 3 is_worth, 4 is_row, 5 are_fields, 6 is_place, 7 is_table, 8 is_dealing, 9 may_be_word, 10 are_dealings, 11 is_entry, 12 _law_cell_at, 13 _law_pool, 14 _law_take, 15 _law_whole, 16 _law_is_word, 17 _law_are_fields, 18 _law_is_row, 19 _law_fields, 20 _law_worth, 21 _law_row, 22 _law_is_some_row, 23 _law_is_dealing, 24 _law_sizes, 25 _law_is_running, 26 _law_is_rest, 27 _law_is_entry, 28 _law_bent_entry, 29 _law_items, 30 _law_plain_right, 31 _law_entries, 32 law -/
/- attributes:  -/
/- methods:  -/
def g : Glob := ⟨[i_is_whole, i_is_within, i_is_word, i_is_worth, i_is_row, i_are_fields, i_is_place, i_is_table, i_is_dealing, i_may_be_word, i_are_dealings, i_is_entry, i__law_cell_at, i__law_pool, i__law_take, i__law_whole, i__law_is_word, i__law_are_fields, i__law_is_row, i__law_fields, i__law_worth, i__law_row, i__law_is_some_row, i__law_is_dealing, i__law_sizes, i__law_is_running, i__law_is_rest, i__law_is_entry, i__law_bent_entry, i__law_items, i__law_plain_right, i__law_entries, i_law], [], [(.int 8), (.str "abcdefghijklmnopqrstuvwxyz"), (.int 1000000000), (.int 6), (.int 9), (.int 9999), (.kd ["within", "from", "form", "put", "change", "strike", "ready", "sure", "off", "running"] [(.tup [(.fn 8), (.fn 8)]), (.tup [(.fn 8), (.fn 2), (.fn 6)]), (.tup [(.fn 8), (.fn 7), (.fn 2), (.fn 5)]), (.tup [(.fn 8), (.fn 7), (.fn 4)]), (.tup [(.fn 8), (.fn 7), (.fn 4), (.fn 4)]), (.tup [(.fn 8), (.fn 7), (.fn 4)]), (.tup [(.fn 8), (.fn 2)]), (.tup [(.fn 8), (.fn 9)]), (.tup [(.fn 8), (.fn 9)]), (.tup [(.fn 10)])])]⟩
def S : Nm where
  fnN := [some ("is_whole" : Str), some ("is_within" : Str), some ("is_word" : Str), some ("is_worth" : Str), some ("is_row" : Str), some ("are_fields" : Str), some ("is_place" : Str), some ("is_table" : Str), some ("is_dealing" : Str), some ("may_be_word" : Str), some ("are_dealings" : Str), some ("is_entry" : Str), some ("_law_cell_at" : Str), some ("_law_pool" : Str), some ("_law_take" : Str), some ("_law_whole" : Str), some ("_law_is_word" : Str), some ("_law_are_fields" : Str), some ("_law_is_row" : Str), some ("_law_fields" : Str), some ("_law_worth" : Str), some ("_law_row" : Str), some ("_law_is_some_row" : Str), some ("_law_is_dealing" : Str), some ("_law_sizes" : Str), some ("_law_is_running" : Str), some ("_law_is_rest" : Str), some ("_law_is_entry" : Str), some ("_law_bent_entry" : Str), some ("_law_items" : Str), some ("_law_plain_right" : Str), some ("_law_entries" : Str), some ("law" : Str)]
  clsN := []
  constN := ["LONGEST", "LETTERS", "MOST_WORTH", "MOST_FIELDS", "MOST_TABLE", "MOST_DEALING", "FORMS"]
  attrs := []
  mths := []
  blts := ["isinstance", "int", "bool", "str", "len", "all", "tuple", "zip", "set", "range", "list", "sorted", "repr", "max", "min"]
  shp := [(11, 0, ["thing"], [0])]
  mks := []
  excN := []
  exm := []
  exc0 := []
theorem k_is_whole : chkSs ⟨S, defScope s_is_whole, n_is_whole, true⟩ b_is_whole (defBody s_is_whole) = true := by decide +kernel
theorem q_is_whole : fnScopeB n_is_whole 1 (defScope s_is_whole) = true := by decide +kernel
theorem k_is_within : chkSs ⟨S, defScope s_is_within, n_is_within, true⟩ b_is_within (defBody s_is_within) = true := by decide +kernel
theorem q_is_within : fnScopeB n_is_within 3 (defScope s_is_within) = true := by decide +kernel
theorem k_is_word : chkSs ⟨S, defScope s_is_word, n_is_word, true⟩ b_is_word (defBody s_is_word) = true := by decide +kernel
theorem q_is_word : fnScopeB n_is_word 1 (defScope s_is_word) = true := by decide +kernel
theorem k_is_worth : chkSs ⟨S, defScope s_is_worth, n_is_worth, true⟩ b_is_worth (defBody s_is_worth) = true := by decide +kernel
theorem q_is_worth : fnScopeB n_is_worth 1 (defScope s_is_worth) = true := by decide +kernel
theorem k_is_row : chkSs ⟨S, defScope s_is_row, n_is_row, true⟩ b_is_row (defBody s_is_row) = true := by decide +kernel
theorem q_is_row : fnScopeB n_is_row 1 (defScope s_is_row) = true := by decide +kernel
theorem k_are_fields : chkSs ⟨S, defScope s_are_fields, n_are_fields, true⟩ b_are_fields (defBody s_are_fields) = true := by decide +kernel
theorem q_are_fields : fnScopeB n_are_fields 1 (defScope s_are_fields) = true := by decide +kernel
theorem k_is_place : chkSs ⟨S, defScope s_is_place, n_is_place, true⟩ b_is_place (defBody s_is_place) = true := by decide +kernel
theorem q_is_place : fnScopeB n_is_place 1 (defScope s_is_place) = true := by decide +kernel
theorem k_is_table : chkSs ⟨S, defScope s_is_table, n_is_table, true⟩ b_is_table (defBody s_is_table) = true := by decide +kernel
theorem q_is_table : fnScopeB n_is_table 1 (defScope s_is_table) = true := by decide +kernel
theorem k_is_dealing : chkSs ⟨S, defScope s_is_dealing, n_is_dealing, true⟩ b_is_dealing (defBody s_is_dealing) = true := by decide +kernel
theorem q_is_dealing : fnScopeB n_is_dealing 1 (defScope s_is_dealing) = true := by decide +kernel
theorem k_may_be_word : chkSs ⟨S, defScope s_may_be_word, n_may_be_word, true⟩ b_may_be_word (defBody s_may_be_word) = true := by decide +kernel
theorem q_may_be_word : fnScopeB n_may_be_word 1 (defScope s_may_be_word) = true := by decide +kernel
theorem k_are_dealings : chkSs ⟨S, defScope s_are_dealings, n_are_dealings, true⟩ b_are_dealings (defBody s_are_dealings) = true := by decide +kernel
theorem q_are_dealings : fnScopeB n_are_dealings 1 (defScope s_are_dealings) = true := by decide +kernel
theorem k_is_entry : chkSs ⟨S, defScope s_is_entry, n_is_entry, true⟩ b_is_entry (defBody s_is_entry) = true := by decide +kernel
theorem q_is_entry : fnScopeB n_is_entry 1 (defScope s_is_entry) = true := by decide +kernel
theorem k__law_cell_at : chkSs ⟨S, defScope s__law_cell_at, n__law_cell_at, true⟩ b__law_cell_at (defBody s__law_cell_at) = true := by decide +kernel
theorem q__law_cell_at : fnScopeB n__law_cell_at 2 (defScope s__law_cell_at) = true := by decide +kernel
theorem k__law_pool : chkSs ⟨S, defScope s__law_pool, n__law_pool, true⟩ b__law_pool (defBody s__law_pool) = true := by decide +kernel
theorem q__law_pool : fnScopeB n__law_pool 2 (defScope s__law_pool) = true := by decide +kernel
theorem k__law_take : chkSs ⟨S, defScope s__law_take, n__law_take, true⟩ b__law_take (defBody s__law_take) = true := by decide +kernel
theorem q__law_take : fnScopeB n__law_take 2 (defScope s__law_take) = true := by decide +kernel
theorem k__law_whole : chkSs ⟨S, defScope s__law_whole, n__law_whole, true⟩ b__law_whole (defBody s__law_whole) = true := by decide +kernel
theorem q__law_whole : fnScopeB n__law_whole 3 (defScope s__law_whole) = true := by decide +kernel
theorem k__law_is_word : chkSs ⟨S, defScope s__law_is_word, n__law_is_word, true⟩ b__law_is_word (defBody s__law_is_word) = true := by decide +kernel
theorem q__law_is_word : fnScopeB n__law_is_word 1 (defScope s__law_is_word) = true := by decide +kernel
theorem k__law_are_fields : chkSs ⟨S, defScope s__law_are_fields, n__law_are_fields, true⟩ b__law_are_fields (defBody s__law_are_fields) = true := by decide +kernel
theorem q__law_are_fields : fnScopeB n__law_are_fields 1 (defScope s__law_are_fields) = true := by decide +kernel
theorem k__law_is_row : chkSs ⟨S, defScope s__law_is_row, n__law_is_row, true⟩ b__law_is_row (defBody s__law_is_row) = true := by decide +kernel
theorem q__law_is_row : fnScopeB n__law_is_row 2 (defScope s__law_is_row) = true := by decide +kernel
theorem k__law_fields : chkSs ⟨S, defScope s__law_fields, n__law_fields, true⟩ b__law_fields (defBody s__law_fields) = true := by decide +kernel
theorem q__law_fields : fnScopeB n__law_fields 1 (defScope s__law_fields) = true := by decide +kernel
theorem k__law_worth : chkSs ⟨S, defScope s__law_worth, n__law_worth, true⟩ b__law_worth (defBody s__law_worth) = true := by decide +kernel
theorem q__law_worth : fnScopeB n__law_worth 1 (defScope s__law_worth) = true := by decide +kernel
theorem k__law_row : chkSs ⟨S, defScope s__law_row, n__law_row, true⟩ b__law_row (defBody s__law_row) = true := by decide +kernel
theorem q__law_row : fnScopeB n__law_row 2 (defScope s__law_row) = true := by decide +kernel
theorem k__law_is_some_row : chkSs ⟨S, defScope s__law_is_some_row, n__law_is_some_row, true⟩ b__law_is_some_row (defBody s__law_is_some_row) = true := by decide +kernel
theorem q__law_is_some_row : fnScopeB n__law_is_some_row 1 (defScope s__law_is_some_row) = true := by decide +kernel
theorem k__law_is_dealing : chkSs ⟨S, defScope s__law_is_dealing, n__law_is_dealing, true⟩ b__law_is_dealing (defBody s__law_is_dealing) = true := by decide +kernel
theorem q__law_is_dealing : fnScopeB n__law_is_dealing 1 (defScope s__law_is_dealing) = true := by decide +kernel
theorem k__law_sizes : chkSs ⟨S, defScope s__law_sizes, n__law_sizes, true⟩ b__law_sizes (defBody s__law_sizes) = true := by decide +kernel
theorem q__law_sizes : fnScopeB n__law_sizes 0 (defScope s__law_sizes) = true := by decide +kernel
theorem k__law_is_running : chkSs ⟨S, defScope s__law_is_running, n__law_is_running, true⟩ b__law_is_running (defBody s__law_is_running) = true := by decide +kernel
theorem q__law_is_running : fnScopeB n__law_is_running 1 (defScope s__law_is_running) = true := by decide +kernel
theorem k__law_is_rest : chkSs ⟨S, defScope s__law_is_rest, n__law_is_rest, true⟩ b__law_is_rest (defBody s__law_is_rest) = true := by decide +kernel
theorem q__law_is_rest : fnScopeB n__law_is_rest 2 (defScope s__law_is_rest) = true := by decide +kernel
theorem k__law_is_entry : chkSs ⟨S, defScope s__law_is_entry, n__law_is_entry, true⟩ b__law_is_entry (defBody s__law_is_entry) = true := by decide +kernel
theorem q__law_is_entry : fnScopeB n__law_is_entry 1 (defScope s__law_is_entry) = true := by decide +kernel
theorem k__law_bent_entry : chkSs ⟨S, defScope s__law_bent_entry, n__law_bent_entry, true⟩ b__law_bent_entry (defBody s__law_bent_entry) = true := by decide +kernel
theorem q__law_bent_entry : fnScopeB n__law_bent_entry 2 (defScope s__law_bent_entry) = true := by decide +kernel
theorem k__law_items : chkSs ⟨S, defScope s__law_items, n__law_items, true⟩ b__law_items (defBody s__law_items) = true := by decide +kernel
theorem q__law_items : fnScopeB n__law_items 0 (defScope s__law_items) = true := by decide +kernel
theorem k__law_plain_right : chkSs ⟨S, defScope s__law_plain_right, n__law_plain_right, true⟩ b__law_plain_right (defBody s__law_plain_right) = true := by decide +kernel
theorem q__law_plain_right : fnScopeB n__law_plain_right 1 (defScope s__law_plain_right) = true := by decide +kernel
theorem k__law_entries : chkSs ⟨S, defScope s__law_entries, n__law_entries, true⟩ b__law_entries (defBody s__law_entries) = true := by decide +kernel
theorem q__law_entries : fnScopeB n__law_entries 1 (defScope s__law_entries) = true := by decide +kernel
theorem k_law : chkSs ⟨S, defScope s_law, n_law, true⟩ b_law (defBody s_law) = true := by decide +kernel
theorem q_law : fnScopeB n_law 1 (defScope s_law) = true := by decide +kernel
section
variable {w : World} {K : PySem.W.Frag} {h : Heap} {mg : Str → Option Value}
theorem t_is_whole {a : Addr} {od an : Option Addr} {sl : Array (Option Value)} {oc kV dc pm cd ct : Value} (l : K.lookup a = some ⟨oc, od, .func (PySem.W.fnOf "is_whole" "is_whole" (defArgs s_is_whole) (defBody s_is_whole) (defScope s_is_whole) .none kV dc pm an cd ct), sl⟩) (c : PySem.W.codeIn K cd "is_whole" = true) : FnT S g K 0 a :=
  by
    refine fnt_mk (fi := i_is_whole) rfl l c q_is_whole rfl k_is_whole (Binds.all fun us hl => match us, hl with | [_], _ => rfl) (fun sh h e => ?_)
    rcases List.mem_cons.mp h with z | h
    · subst z
      cases e
    cases h
theorem t_is_within {a : Addr} {od an : Option Addr} {sl : Array (Option Value)} {oc kV dc pm cd ct : Value} (l : K.lookup a = some ⟨oc, od, .func (PySem.W.fnOf "is_within" "is_within" (defArgs s_is_within) (defBody s_is_within) (defScope s_is_within) .none kV dc pm an cd ct), sl⟩) (c : PySem.W.codeIn K cd "is_within" = true) : FnT S g K 1 a :=
  by
    refine fnt_mk (fi := i_is_within) rfl l c q_is_within rfl k_is_within (Binds.all fun us hl => match us, hl with | [_, _, _], _ => rfl) (fun sh h e => ?_)
    rcases List.mem_cons.mp h with z | h
    · subst z
      cases e
    cases h
theorem t_is_word {a : Addr} {od an : Option Addr} {sl : Array (Option Value)} {oc kV dc pm cd ct : Value} (l : K.lookup a = some ⟨oc, od, .func (PySem.W.fnOf "is_word" "is_word" (defArgs s_is_word) (defBody s_is_word) (defScope s_is_word) .none kV dc pm an cd ct), sl⟩) (c : PySem.W.codeIn K cd "is_word" = true) : FnT S g K 2 a :=
  by
    refine fnt_mk (fi := i_is_word) rfl l c q_is_word rfl k_is_word (Binds.all fun us hl => match us, hl with | [_], _ => rfl) (fun sh h e => ?_)
    rcases List.mem_cons.mp h with z | h
    · subst z
      cases e
    cases h
theorem t_is_worth {a : Addr} {od an : Option Addr} {sl : Array (Option Value)} {oc kV dc pm cd ct : Value} (l : K.lookup a = some ⟨oc, od, .func (PySem.W.fnOf "is_worth" "is_worth" (defArgs s_is_worth) (defBody s_is_worth) (defScope s_is_worth) .none kV dc pm an cd ct), sl⟩) (c : PySem.W.codeIn K cd "is_worth" = true) : FnT S g K 3 a :=
  by
    refine fnt_mk (fi := i_is_worth) rfl l c q_is_worth rfl k_is_worth (Binds.all fun us hl => match us, hl with | [_], _ => rfl) (fun sh h e => ?_)
    rcases List.mem_cons.mp h with z | h
    · subst z
      cases e
    cases h
theorem t_is_row {a : Addr} {od an : Option Addr} {sl : Array (Option Value)} {oc kV dc pm cd ct : Value} (l : K.lookup a = some ⟨oc, od, .func (PySem.W.fnOf "is_row" "is_row" (defArgs s_is_row) (defBody s_is_row) (defScope s_is_row) .none kV dc pm an cd ct), sl⟩) (c : PySem.W.codeIn K cd "is_row" = true) : FnT S g K 4 a :=
  by
    refine fnt_mk (fi := i_is_row) rfl l c q_is_row rfl k_is_row (Binds.all fun us hl => match us, hl with | [_], _ => rfl) (fun sh h e => ?_)
    rcases List.mem_cons.mp h with z | h
    · subst z
      cases e
    cases h
theorem t_are_fields {a : Addr} {od an : Option Addr} {sl : Array (Option Value)} {oc kV dc pm cd ct : Value} (l : K.lookup a = some ⟨oc, od, .func (PySem.W.fnOf "are_fields" "are_fields" (defArgs s_are_fields) (defBody s_are_fields) (defScope s_are_fields) .none kV dc pm an cd ct), sl⟩) (c : PySem.W.codeIn K cd "are_fields" = true) : FnT S g K 5 a :=
  by
    refine fnt_mk (fi := i_are_fields) rfl l c q_are_fields rfl k_are_fields (Binds.all fun us hl => match us, hl with | [_], _ => rfl) (fun sh h e => ?_)
    rcases List.mem_cons.mp h with z | h
    · subst z
      cases e
    cases h
theorem t_is_place {a : Addr} {od an : Option Addr} {sl : Array (Option Value)} {oc kV dc pm cd ct : Value} (l : K.lookup a = some ⟨oc, od, .func (PySem.W.fnOf "is_place" "is_place" (defArgs s_is_place) (defBody s_is_place) (defScope s_is_place) .none kV dc pm an cd ct), sl⟩) (c : PySem.W.codeIn K cd "is_place" = true) : FnT S g K 6 a :=
  by
    refine fnt_mk (fi := i_is_place) rfl l c q_is_place rfl k_is_place (Binds.all fun us hl => match us, hl with | [_], _ => rfl) (fun sh h e => ?_)
    rcases List.mem_cons.mp h with z | h
    · subst z
      cases e
    cases h
theorem t_is_table {a : Addr} {od an : Option Addr} {sl : Array (Option Value)} {oc kV dc pm cd ct : Value} (l : K.lookup a = some ⟨oc, od, .func (PySem.W.fnOf "is_table" "is_table" (defArgs s_is_table) (defBody s_is_table) (defScope s_is_table) .none kV dc pm an cd ct), sl⟩) (c : PySem.W.codeIn K cd "is_table" = true) : FnT S g K 7 a :=
  by
    refine fnt_mk (fi := i_is_table) rfl l c q_is_table rfl k_is_table (Binds.all fun us hl => match us, hl with | [_], _ => rfl) (fun sh h e => ?_)
    rcases List.mem_cons.mp h with z | h
    · subst z
      cases e
    cases h
theorem t_is_dealing {a : Addr} {od an : Option Addr} {sl : Array (Option Value)} {oc kV dc pm cd ct : Value} (l : K.lookup a = some ⟨oc, od, .func (PySem.W.fnOf "is_dealing" "is_dealing" (defArgs s_is_dealing) (defBody s_is_dealing) (defScope s_is_dealing) .none kV dc pm an cd ct), sl⟩) (c : PySem.W.codeIn K cd "is_dealing" = true) : FnT S g K 8 a :=
  by
    refine fnt_mk (fi := i_is_dealing) rfl l c q_is_dealing rfl k_is_dealing (Binds.all fun us hl => match us, hl with | [_], _ => rfl) (fun sh h e => ?_)
    rcases List.mem_cons.mp h with z | h
    · subst z
      cases e
    cases h
theorem t_may_be_word {a : Addr} {od an : Option Addr} {sl : Array (Option Value)} {oc kV dc pm cd ct : Value} (l : K.lookup a = some ⟨oc, od, .func (PySem.W.fnOf "may_be_word" "may_be_word" (defArgs s_may_be_word) (defBody s_may_be_word) (defScope s_may_be_word) .none kV dc pm an cd ct), sl⟩) (c : PySem.W.codeIn K cd "may_be_word" = true) : FnT S g K 9 a :=
  by
    refine fnt_mk (fi := i_may_be_word) rfl l c q_may_be_word rfl k_may_be_word (Binds.all fun us hl => match us, hl with | [_], _ => rfl) (fun sh h e => ?_)
    rcases List.mem_cons.mp h with z | h
    · subst z
      cases e
    cases h
theorem t_are_dealings {a : Addr} {od an : Option Addr} {sl : Array (Option Value)} {oc kV dc pm cd ct : Value} (l : K.lookup a = some ⟨oc, od, .func (PySem.W.fnOf "are_dealings" "are_dealings" (defArgs s_are_dealings) (defBody s_are_dealings) (defScope s_are_dealings) .none kV dc pm an cd ct), sl⟩) (c : PySem.W.codeIn K cd "are_dealings" = true) : FnT S g K 10 a :=
  by
    refine fnt_mk (fi := i_are_dealings) rfl l c q_are_dealings rfl k_are_dealings (Binds.all fun us hl => match us, hl with | [_], _ => rfl) (fun sh h e => ?_)
    rcases List.mem_cons.mp h with z | h
    · subst z
      cases e
    cases h
theorem t_is_entry {a : Addr} {od an : Option Addr} {sl : Array (Option Value)} {oc kV dc pm cd ct : Value} (l : K.lookup a = some ⟨oc, od, .func (PySem.W.fnOf "is_entry" "is_entry" (defArgs s_is_entry) (defBody s_is_entry) (defScope s_is_entry) .none kV dc pm an cd ct), sl⟩) (c : PySem.W.codeIn K cd "is_entry" = true) : FnT S g K 11 a :=
  by
    refine fnt_mk (fi := i_is_entry) rfl l c q_is_entry rfl k_is_entry (Binds.all fun us hl => match us, hl with | [_], _ => rfl) (fun sh h e => ?_)
    rcases List.mem_cons.mp h with z | h
    · subst z
      exact ⟨by decide, fun s us ws _ h1 h2 => match us, ws, h1, h2 with | [], [_], _, _ => .of_eq rfl⟩
    cases h
theorem t__law_cell_at {a : Addr} {od an : Option Addr} {sl : Array (Option Value)} {oc kV dc pm cd ct : Value} (l : K.lookup a = some ⟨oc, od, .func (PySem.W.fnOf "_law_cell_at" "_law_cell_at" (defArgs s__law_cell_at) (defBody s__law_cell_at) (defScope s__law_cell_at) .none kV dc pm an cd ct), sl⟩) (c : PySem.W.codeIn K cd "_law_cell_at" = true) : FnT S g K 12 a :=
  by
    refine fnt_mk (fi := i__law_cell_at) rfl l c q__law_cell_at rfl k__law_cell_at (Binds.all fun us hl => match us, hl with | [_, _], _ => rfl) (fun sh h e => ?_)
    rcases List.mem_cons.mp h with z | h
    · subst z
      cases e
    cases h
theorem t__law_pool {a : Addr} {od an : Option Addr} {sl : Array (Option Value)} {oc kV dc pm cd ct : Value} (l : K.lookup a = some ⟨oc, od, .func (PySem.W.fnOf "_law_pool" "_law_pool" (defArgs s__law_pool) (defBody s__law_pool) (defScope s__law_pool) .none kV dc pm an cd ct), sl⟩) (c : PySem.W.codeIn K cd "_law_pool" = true) : FnT S g K 13 a :=
  by
    refine fnt_mk (fi := i__law_pool) rfl l c q__law_pool rfl k__law_pool (Binds.all fun us hl => match us, hl with | [_, _], _ => rfl) (fun sh h e => ?_)
    rcases List.mem_cons.mp h with z | h
    · subst z
      cases e
    cases h
theorem t__law_take {a : Addr} {od an : Option Addr} {sl : Array (Option Value)} {oc kV dc pm cd ct : Value} (l : K.lookup a = some ⟨oc, od, .func (PySem.W.fnOf "_law_take" "_law_take" (defArgs s__law_take) (defBody s__law_take) (defScope s__law_take) .none kV dc pm an cd ct), sl⟩) (c : PySem.W.codeIn K cd "_law_take" = true) : FnT S g K 14 a :=
  by
    refine fnt_mk (fi := i__law_take) rfl l c q__law_take rfl k__law_take (Binds.all fun us hl => match us, hl with | [_, _], _ => rfl) (fun sh h e => ?_)
    rcases List.mem_cons.mp h with z | h
    · subst z
      cases e
    cases h
theorem t__law_whole {a : Addr} {od an : Option Addr} {sl : Array (Option Value)} {oc kV dc pm cd ct : Value} (l : K.lookup a = some ⟨oc, od, .func (PySem.W.fnOf "_law_whole" "_law_whole" (defArgs s__law_whole) (defBody s__law_whole) (defScope s__law_whole) .none kV dc pm an cd ct), sl⟩) (c : PySem.W.codeIn K cd "_law_whole" = true) : FnT S g K 15 a :=
  by
    refine fnt_mk (fi := i__law_whole) rfl l c q__law_whole rfl k__law_whole (Binds.all fun us hl => match us, hl with | [_, _, _], _ => rfl) (fun sh h e => ?_)
    rcases List.mem_cons.mp h with z | h
    · subst z
      cases e
    cases h
theorem t__law_is_word {a : Addr} {od an : Option Addr} {sl : Array (Option Value)} {oc kV dc pm cd ct : Value} (l : K.lookup a = some ⟨oc, od, .func (PySem.W.fnOf "_law_is_word" "_law_is_word" (defArgs s__law_is_word) (defBody s__law_is_word) (defScope s__law_is_word) .none kV dc pm an cd ct), sl⟩) (c : PySem.W.codeIn K cd "_law_is_word" = true) : FnT S g K 16 a :=
  by
    refine fnt_mk (fi := i__law_is_word) rfl l c q__law_is_word rfl k__law_is_word (Binds.all fun us hl => match us, hl with | [_], _ => rfl) (fun sh h e => ?_)
    rcases List.mem_cons.mp h with z | h
    · subst z
      cases e
    cases h
theorem t__law_are_fields {a : Addr} {od an : Option Addr} {sl : Array (Option Value)} {oc kV dc pm cd ct : Value} (l : K.lookup a = some ⟨oc, od, .func (PySem.W.fnOf "_law_are_fields" "_law_are_fields" (defArgs s__law_are_fields) (defBody s__law_are_fields) (defScope s__law_are_fields) .none kV dc pm an cd ct), sl⟩) (c : PySem.W.codeIn K cd "_law_are_fields" = true) : FnT S g K 17 a :=
  by
    refine fnt_mk (fi := i__law_are_fields) rfl l c q__law_are_fields rfl k__law_are_fields (Binds.all fun us hl => match us, hl with | [_], _ => rfl) (fun sh h e => ?_)
    rcases List.mem_cons.mp h with z | h
    · subst z
      cases e
    cases h
theorem t__law_is_row {a : Addr} {od an : Option Addr} {sl : Array (Option Value)} {oc kV dc pm cd ct : Value} (l : K.lookup a = some ⟨oc, od, .func (PySem.W.fnOf "_law_is_row" "_law_is_row" (defArgs s__law_is_row) (defBody s__law_is_row) (defScope s__law_is_row) .none kV dc pm an cd ct), sl⟩) (c : PySem.W.codeIn K cd "_law_is_row" = true) : FnT S g K 18 a :=
  by
    refine fnt_mk (fi := i__law_is_row) rfl l c q__law_is_row rfl k__law_is_row (Binds.all fun us hl => match us, hl with | [_, _], _ => rfl) (fun sh h e => ?_)
    rcases List.mem_cons.mp h with z | h
    · subst z
      cases e
    cases h
theorem t__law_fields {a : Addr} {od an : Option Addr} {sl : Array (Option Value)} {oc kV dc pm cd ct : Value} (l : K.lookup a = some ⟨oc, od, .func (PySem.W.fnOf "_law_fields" "_law_fields" (defArgs s__law_fields) (defBody s__law_fields) (defScope s__law_fields) .none kV dc pm an cd ct), sl⟩) (c : PySem.W.codeIn K cd "_law_fields" = true) : FnT S g K 19 a :=
  by
    refine fnt_mk (fi := i__law_fields) rfl l c q__law_fields rfl k__law_fields (Binds.all fun us hl => match us, hl with | [_], _ => rfl) (fun sh h e => ?_)
    rcases List.mem_cons.mp h with z | h
    · subst z
      cases e
    cases h
theorem t__law_worth {a : Addr} {od an : Option Addr} {sl : Array (Option Value)} {oc kV dc pm cd ct : Value} (l : K.lookup a = some ⟨oc, od, .func (PySem.W.fnOf "_law_worth" "_law_worth" (defArgs s__law_worth) (defBody s__law_worth) (defScope s__law_worth) .none kV dc pm an cd ct), sl⟩) (c : PySem.W.codeIn K cd "_law_worth" = true) : FnT S g K 20 a :=
  by
    refine fnt_mk (fi := i__law_worth) rfl l c q__law_worth rfl k__law_worth (Binds.all fun us hl => match us, hl with | [_], _ => rfl) (fun sh h e => ?_)
    rcases List.mem_cons.mp h with z | h
    · subst z
      cases e
    cases h
theorem t__law_row {a : Addr} {od an : Option Addr} {sl : Array (Option Value)} {oc kV dc pm cd ct : Value} (l : K.lookup a = some ⟨oc, od, .func (PySem.W.fnOf "_law_row" "_law_row" (defArgs s__law_row) (defBody s__law_row) (defScope s__law_row) .none kV dc pm an cd ct), sl⟩) (c : PySem.W.codeIn K cd "_law_row" = true) : FnT S g K 21 a :=
  by
    refine fnt_mk (fi := i__law_row) rfl l c q__law_row rfl k__law_row (Binds.all fun us hl => match us, hl with | [_, _], _ => rfl) (fun sh h e => ?_)
    rcases List.mem_cons.mp h with z | h
    · subst z
      cases e
    cases h
theorem t__law_is_some_row {a : Addr} {od an : Option Addr} {sl : Array (Option Value)} {oc kV dc pm cd ct : Value} (l : K.lookup a = some ⟨oc, od, .func (PySem.W.fnOf "_law_is_some_row" "_law_is_some_row" (defArgs s__law_is_some_row) (defBody s__law_is_some_row) (defScope s__law_is_some_row) .none kV dc pm an cd ct), sl⟩) (c : PySem.W.codeIn K cd "_law_is_some_row" = true) : FnT S g K 22 a :=
  by
    refine fnt_mk (fi := i__law_is_some_row) rfl l c q__law_is_some_row rfl k__law_is_some_row (Binds.all fun us hl => match us, hl with | [_], _ => rfl) (fun sh h e => ?_)
    rcases List.mem_cons.mp h with z | h
    · subst z
      cases e
    cases h
theorem t__law_is_dealing {a : Addr} {od an : Option Addr} {sl : Array (Option Value)} {oc kV dc pm cd ct : Value} (l : K.lookup a = some ⟨oc, od, .func (PySem.W.fnOf "_law_is_dealing" "_law_is_dealing" (defArgs s__law_is_dealing) (defBody s__law_is_dealing) (defScope s__law_is_dealing) .none kV dc pm an cd ct), sl⟩) (c : PySem.W.codeIn K cd "_law_is_dealing" = true) : FnT S g K 23 a :=
  by
    refine fnt_mk (fi := i__law_is_dealing) rfl l c q__law_is_dealing rfl k__law_is_dealing (Binds.all fun us hl => match us, hl with | [_], _ => rfl) (fun sh h e => ?_)
    rcases List.mem_cons.mp h with z | h
    · subst z
      cases e
    cases h
theorem t__law_sizes {a : Addr} {od an : Option Addr} {sl : Array (Option Value)} {oc kV dc pm cd ct : Value} (l : K.lookup a = some ⟨oc, od, .func (PySem.W.fnOf "_law_sizes" "_law_sizes" (defArgs s__law_sizes) (defBody s__law_sizes) (defScope s__law_sizes) .none kV dc pm an cd ct), sl⟩) (c : PySem.W.codeIn K cd "_law_sizes" = true) : FnT S g K 24 a :=
  by
    refine fnt_mk (fi := i__law_sizes) rfl l c q__law_sizes rfl k__law_sizes (Binds.all fun us hl => match us, hl with | [], _ => rfl) (fun sh h e => ?_)
    rcases List.mem_cons.mp h with z | h
    · subst z
      cases e
    cases h
theorem t__law_is_running {a : Addr} {od an : Option Addr} {sl : Array (Option Value)} {oc kV dc pm cd ct : Value} (l : K.lookup a = some ⟨oc, od, .func (PySem.W.fnOf "_law_is_running" "_law_is_running" (defArgs s__law_is_running) (defBody s__law_is_running) (defScope s__law_is_running) .none kV dc pm an cd ct), sl⟩) (c : PySem.W.codeIn K cd "_law_is_running" = true) : FnT S g K 25 a :=
  by
    refine fnt_mk (fi := i__law_is_running) rfl l c q__law_is_running rfl k__law_is_running (Binds.all fun us hl => match us, hl with | [_], _ => rfl) (fun sh h e => ?_)
    rcases List.mem_cons.mp h with z | h
    · subst z
      cases e
    cases h
theorem t__law_is_rest {a : Addr} {od an : Option Addr} {sl : Array (Option Value)} {oc kV dc pm cd ct : Value} (l : K.lookup a = some ⟨oc, od, .func (PySem.W.fnOf "_law_is_rest" "_law_is_rest" (defArgs s__law_is_rest) (defBody s__law_is_rest) (defScope s__law_is_rest) .none kV dc pm an cd ct), sl⟩) (c : PySem.W.codeIn K cd "_law_is_rest" = true) : FnT S g K 26 a :=
  by
    refine fnt_mk (fi := i__law_is_rest) rfl l c q__law_is_rest rfl k__law_is_rest (Binds.all fun us hl => match us, hl with | [_, _], _ => rfl) (fun sh h e => ?_)
    rcases List.mem_cons.mp h with z | h
    · subst z
      cases e
    cases h
theorem t__law_is_entry {a : Addr} {od an : Option Addr} {sl : Array (Option Value)} {oc kV dc pm cd ct : Value} (l : K.lookup a = some ⟨oc, od, .func (PySem.W.fnOf "_law_is_entry" "_law_is_entry" (defArgs s__law_is_entry) (defBody s__law_is_entry) (defScope s__law_is_entry) .none kV dc pm an cd ct), sl⟩) (c : PySem.W.codeIn K cd "_law_is_entry" = true) : FnT S g K 27 a :=
  by
    refine fnt_mk (fi := i__law_is_entry) rfl l c q__law_is_entry rfl k__law_is_entry (Binds.all fun us hl => match us, hl with | [_], _ => rfl) (fun sh h e => ?_)
    rcases List.mem_cons.mp h with z | h
    · subst z
      cases e
    cases h
theorem t__law_bent_entry {a : Addr} {od an : Option Addr} {sl : Array (Option Value)} {oc kV dc pm cd ct : Value} (l : K.lookup a = some ⟨oc, od, .func (PySem.W.fnOf "_law_bent_entry" "_law_bent_entry" (defArgs s__law_bent_entry) (defBody s__law_bent_entry) (defScope s__law_bent_entry) .none kV dc pm an cd ct), sl⟩) (c : PySem.W.codeIn K cd "_law_bent_entry" = true) : FnT S g K 28 a :=
  by
    refine fnt_mk (fi := i__law_bent_entry) rfl l c q__law_bent_entry rfl k__law_bent_entry (Binds.all fun us hl => match us, hl with | [_, _], _ => rfl) (fun sh h e => ?_)
    rcases List.mem_cons.mp h with z | h
    · subst z
      cases e
    cases h
theorem t__law_items {a : Addr} {od an : Option Addr} {sl : Array (Option Value)} {oc kV dc pm cd ct : Value} (l : K.lookup a = some ⟨oc, od, .func (PySem.W.fnOf "_law_items" "_law_items" (defArgs s__law_items) (defBody s__law_items) (defScope s__law_items) .none kV dc pm an cd ct), sl⟩) (c : PySem.W.codeIn K cd "_law_items" = true) : FnT S g K 29 a :=
  by
    refine fnt_mk (fi := i__law_items) rfl l c q__law_items rfl k__law_items (Binds.all fun us hl => match us, hl with | [], _ => rfl) (fun sh h e => ?_)
    rcases List.mem_cons.mp h with z | h
    · subst z
      cases e
    cases h
theorem t__law_plain_right {a : Addr} {od an : Option Addr} {sl : Array (Option Value)} {oc kV dc pm cd ct : Value} (l : K.lookup a = some ⟨oc, od, .func (PySem.W.fnOf "_law_plain_right" "_law_plain_right" (defArgs s__law_plain_right) (defBody s__law_plain_right) (defScope s__law_plain_right) .none kV dc pm an cd ct), sl⟩) (c : PySem.W.codeIn K cd "_law_plain_right" = true) : FnT S g K 30 a :=
  by
    refine fnt_mk (fi := i__law_plain_right) rfl l c q__law_plain_right rfl k__law_plain_right (Binds.all fun us hl => match us, hl with | [_], _ => rfl) (fun sh h e => ?_)
    rcases List.mem_cons.mp h with z | h
    · subst z
      cases e
    cases h
theorem t__law_entries {a : Addr} {od an : Option Addr} {sl : Array (Option Value)} {oc kV dc pm cd ct : Value} (l : K.lookup a = some ⟨oc, od, .func (PySem.W.fnOf "_law_entries" "_law_entries" (defArgs s__law_entries) (defBody s__law_entries) (defScope s__law_entries) .none kV dc pm an cd ct), sl⟩) (c : PySem.W.codeIn K cd "_law_entries" = true) : FnT S g K 31 a :=
  by
    refine fnt_mk (fi := i__law_entries) rfl l c q__law_entries rfl k__law_entries (Binds.all fun us hl => match us, hl with | [_], _ => rfl) (fun sh h e => ?_)
    rcases List.mem_cons.mp h with z | h
    · subst z
      cases e
    cases h
theorem t_law {a : Addr} {od an : Option Addr} {sl : Array (Option Value)} {oc kV dc pm cd ct : Value} (l : K.lookup a = some ⟨oc, od, .func (PySem.W.fnOf "law" "law" (defArgs s_law) (defBody s_law) (defScope s_law) .none kV dc pm an cd ct), sl⟩) (c : PySem.W.codeIn K cd "law" = true) : FnT S g K 32 a :=
  by
    refine fnt_mk (fi := i_law) rfl l c q_law rfl k_law (Binds.all fun us hl => match us, hl with | [_], _ => rfl) (fun sh h e => ?_)
    rcases List.mem_cons.mp h with z | h
    · subst z
      cases e
    cases h
theorem tfs {fa : Addr} {f0 f1 f2 f3 f4 f5 f6 f7 f8 f9 f10 f11 f12 f13 f14 f15 f16 f17 f18 f19 f20 f21 f22 f23 f24 f25 f26 f27 f28 f29 f30 f31 f32 : Addr} (X : K.In h) (G : h.Ns mainGlobals mg) (hfa : mg "law" = some (.ref fa))
    {od0 an0 : Option Addr} {sl0 : Array (Option Value)} {oc0 kV0 dc0 pm0 cd0 ct0 : Value}
    {od1 an1 : Option Addr} {sl1 : Array (Option Value)} {oc1 kV1 dc1 pm1 cd1 ct1 : Value}
    {od2 an2 : Option Addr} {sl2 : Array (Option Value)} {oc2 kV2 dc2 pm2 cd2 ct2 : Value}
    {od3 an3 : Option Addr} {sl3 : Array (Option Value)} {oc3 kV3 dc3 pm3 cd3 ct3 : Value}
    {od4 an4 : Option Addr} {sl4 : Array (Option Value)} {oc4 kV4 dc4 pm4 cd4 ct4 : Value}
    {od5 an5 : Option Addr} {sl5 : Array (Option Value)} {oc5 kV5 dc5 pm5 cd5 ct5 : Value}
    {od6 an6 : Option Addr} {sl6 : Array (Option Value)} {oc6 kV6 dc6 pm6 cd6 ct6 : Value}
    {od7 an7 : Option Addr} {sl7 : Array (Option Value)} {oc7 kV7 dc7 pm7 cd7 ct7 : Value}
    {od8 an8 : Option Addr} {sl8 : Array (Option Value)} {oc8 kV8 dc8 pm8 cd8 ct8 : Value}
    {od9 an9 : Option Addr} {sl9 : Array (Option Value)} {oc9 kV9 dc9 pm9 cd9 ct9 : Value}
    {od10 an10 : Option Addr} {sl10 : Array (Option Value)} {oc10 kV10 dc10 pm10 cd10 ct10 : Value}
    {od11 an11 : Option Addr} {sl11 : Array (Option Value)} {oc11 kV11 dc11 pm11 cd11 ct11 : Value}
    {od12 an12 : Option Addr} {sl12 : Array (Option Value)} {oc12 kV12 dc12 pm12 cd12 ct12 : Value}
    {od13 an13 : Option Addr} {sl13 : Array (Option Value)} {oc13 kV13 dc13 pm13 cd13 ct13 : Value}
    {od14 an14 : Option Addr} {sl14 : Array (Option Value)} {oc14 kV14 dc14 pm14 cd14 ct14 : Value}
    {od15 an15 : Option Addr} {sl15 : Array (Option Value)} {oc15 kV15 dc15 pm15 cd15 ct15 : Value}
    {od16 an16 : Option Addr} {sl16 : Array (Option Value)} {oc16 kV16 dc16 pm16 cd16 ct16 : Value}
    {od17 an17 : Option Addr} {sl17 : Array (Option Value)} {oc17 kV17 dc17 pm17 cd17 ct17 : Value}
    {od18 an18 : Option Addr} {sl18 : Array (Option Value)} {oc18 kV18 dc18 pm18 cd18 ct18 : Value}
    {od19 an19 : Option Addr} {sl19 : Array (Option Value)} {oc19 kV19 dc19 pm19 cd19 ct19 : Value}
    {od20 an20 : Option Addr} {sl20 : Array (Option Value)} {oc20 kV20 dc20 pm20 cd20 ct20 : Value}
    {od21 an21 : Option Addr} {sl21 : Array (Option Value)} {oc21 kV21 dc21 pm21 cd21 ct21 : Value}
    {od22 an22 : Option Addr} {sl22 : Array (Option Value)} {oc22 kV22 dc22 pm22 cd22 ct22 : Value}
    {od23 an23 : Option Addr} {sl23 : Array (Option Value)} {oc23 kV23 dc23 pm23 cd23 ct23 : Value}
    {od24 an24 : Option Addr} {sl24 : Array (Option Value)} {oc24 kV24 dc24 pm24 cd24 ct24 : Value}
    {od25 an25 : Option Addr} {sl25 : Array (Option Value)} {oc25 kV25 dc25 pm25 cd25 ct25 : Value}
    {od26 an26 : Option Addr} {sl26 : Array (Option Value)} {oc26 kV26 dc26 pm26 cd26 ct26 : Value}
    {od27 an27 : Option Addr} {sl27 : Array (Option Value)} {oc27 kV27 dc27 pm27 cd27 ct27 : Value}
    {od28 an28 : Option Addr} {sl28 : Array (Option Value)} {oc28 kV28 dc28 pm28 cd28 ct28 : Value}
    {od29 an29 : Option Addr} {sl29 : Array (Option Value)} {oc29 kV29 dc29 pm29 cd29 ct29 : Value}
    {od30 an30 : Option Addr} {sl30 : Array (Option Value)} {oc30 kV30 dc30 pm30 cd30 ct30 : Value}
    {od31 an31 : Option Addr} {sl31 : Array (Option Value)} {oc31 kV31 dc31 pm31 cd31 ct31 : Value}
    {od32 an32 : Option Addr} {sl32 : Array (Option Value)} {oc32 kV32 dc32 pm32 cd32 ct32 : Value}
    {t0 : Tok}
    {t1 : Tok}
    {t2 : Tok}
    {t3 : Tok}
    {t4 : Tok}
    {t5 : Tok}
    {p6 : Addr} {pn6 : Nat} {t6_0 t6_1 t6_2 t6_3 t6_4 t6_5 t6_6 t6_7 t6_8 t6_9 : Tok}
    {q6_0 : Addr} {qd6_0 : Option Addr} {qn6_0 : Nat} {qs6_0 : Array (Option Value)}
    {q6_1 : Addr} {qd6_1 : Option Addr} {qn6_1 : Nat} {qs6_1 : Array (Option Value)}
    {q6_2 : Addr} {qd6_2 : Option Addr} {qn6_2 : Nat} {qs6_2 : Array (Option Value)}
    {q6_3 : Addr} {qd6_3 : Option Addr} {qn6_3 : Nat} {qs6_3 : Array (Option Value)}
    {q6_4 : Addr} {qd6_4 : Option Addr} {qn6_4 : Nat} {qs6_4 : Array (Option Value)}
    {q6_5 : Addr} {qd6_5 : Option Addr} {qn6_5 : Nat} {qs6_5 : Array (Option Value)}
    {q6_6 : Addr} {qd6_6 : Option Addr} {qn6_6 : Nat} {qs6_6 : Array (Option Value)}
    {q6_7 : Addr} {qd6_7 : Option Addr} {qn6_7 : Nat} {qs6_7 : Array (Option Value)}
    {q6_8 : Addr} {qd6_8 : Option Addr} {qn6_8 : Nat} {qs6_8 : Array (Option Value)}
    {q6_9 : Addr} {qd6_9 : Option Addr} {qn6_9 : Nat} {qs6_9 : Array (Option Value)}
    (a0 : PySem.W.nsIn K mainGlobals "is_whole" = some (some (.ref f0)))
    (l0 : K.lookup f0 = some ⟨oc0, od0, .func (PySem.W.fnOf "is_whole" "is_whole" (defArgs s_is_whole) (defBody s_is_whole) (defScope s_is_whole) .none kV0 dc0 pm0 an0 cd0 ct0), sl0⟩)
    (c0 : PySem.W.codeIn K cd0 "is_whole" = true)
    (k0 : PySem.W.keepIn K (.ref f0) = true)
    (a1 : PySem.W.nsIn K mainGlobals "is_within" = some (some (.ref f1)))
    (l1 : K.lookup f1 = some ⟨oc1, od1, .func (PySem.W.fnOf "is_within" "is_within" (defArgs s_is_within) (defBody s_is_within) (defScope s_is_within) .none kV1 dc1 pm1 an1 cd1 ct1), sl1⟩)
    (c1 : PySem.W.codeIn K cd1 "is_within" = true)
    (k1 : PySem.W.keepIn K (.ref f1) = true)
    (a2 : PySem.W.nsIn K mainGlobals "is_word" = some (some (.ref f2)))
    (l2 : K.lookup f2 = some ⟨oc2, od2, .func (PySem.W.fnOf "is_word" "is_word" (defArgs s_is_word) (defBody s_is_word) (defScope s_is_word) .none kV2 dc2 pm2 an2 cd2 ct2), sl2⟩)
    (c2 : PySem.W.codeIn K cd2 "is_word" = true)
    (k2 : PySem.W.keepIn K (.ref f2) = true)
    (a3 : PySem.W.nsIn K mainGlobals "is_worth" = some (some (.ref f3)))
    (l3 : K.lookup f3 = some ⟨oc3, od3, .func (PySem.W.fnOf "is_worth" "is_worth" (defArgs s_is_worth) (defBody s_is_worth) (defScope s_is_worth) .none kV3 dc3 pm3 an3 cd3 ct3), sl3⟩)
    (c3 : PySem.W.codeIn K cd3 "is_worth" = true)
    (k3 : PySem.W.keepIn K (.ref f3) = true)
    (a4 : PySem.W.nsIn K mainGlobals "is_row" = some (some (.ref f4)))
    (l4 : K.lookup f4 = some ⟨oc4, od4, .func (PySem.W.fnOf "is_row" "is_row" (defArgs s_is_row) (defBody s_is_row) (defScope s_is_row) .none kV4 dc4 pm4 an4 cd4 ct4), sl4⟩)
    (c4 : PySem.W.codeIn K cd4 "is_row" = true)
    (k4 : PySem.W.keepIn K (.ref f4) = true)
    (a5 : PySem.W.nsIn K mainGlobals "are_fields" = some (some (.ref f5)))
    (l5 : K.lookup f5 = some ⟨oc5, od5, .func (PySem.W.fnOf "are_fields" "are_fields" (defArgs s_are_fields) (defBody s_are_fields) (defScope s_are_fields) .none kV5 dc5 pm5 an5 cd5 ct5), sl5⟩)
    (c5 : PySem.W.codeIn K cd5 "are_fields" = true)
    (k5 : PySem.W.keepIn K (.ref f5) = true)
    (a6 : PySem.W.nsIn K mainGlobals "is_place" = some (some (.ref f6)))
    (l6 : K.lookup f6 = some ⟨oc6, od6, .func (PySem.W.fnOf "is_place" "is_place" (defArgs s_is_place) (defBody s_is_place) (defScope s_is_place) .none kV6 dc6 pm6 an6 cd6 ct6), sl6⟩)
    (c6 : PySem.W.codeIn K cd6 "is_place" = true)
    (k6 : PySem.W.keepIn K (.ref f6) = true)
    (a7 : PySem.W.nsIn K mainGlobals "is_table" = some (some (.ref f7)))
    (l7 : K.lookup f7 = some ⟨oc7, od7, .func (PySem.W.fnOf "is_table" "is_table" (defArgs s_is_table) (defBody s_is_table) (defScope s_is_table) .none kV7 dc7 pm7 an7 cd7 ct7), sl7⟩)
    (c7 : PySem.W.codeIn K cd7 "is_table" = true)
    (k7 : PySem.W.keepIn K (.ref f7) = true)
    (a8 : PySem.W.nsIn K mainGlobals "is_dealing" = some (some (.ref f8)))
    (l8 : K.lookup f8 = some ⟨oc8, od8, .func (PySem.W.fnOf "is_dealing" "is_dealing" (defArgs s_is_dealing) (defBody s_is_dealing) (defScope s_is_dealing) .none kV8 dc8 pm8 an8 cd8 ct8), sl8⟩)
    (c8 : PySem.W.codeIn K cd8 "is_dealing" = true)
    (k8 : PySem.W.keepIn K (.ref f8) = true)
    (a9 : PySem.W.nsIn K mainGlobals "may_be_word" = some (some (.ref f9)))
    (l9 : K.lookup f9 = some ⟨oc9, od9, .func (PySem.W.fnOf "may_be_word" "may_be_word" (defArgs s_may_be_word) (defBody s_may_be_word) (defScope s_may_be_word) .none kV9 dc9 pm9 an9 cd9 ct9), sl9⟩)
    (c9 : PySem.W.codeIn K cd9 "may_be_word" = true)
    (k9 : PySem.W.keepIn K (.ref f9) = true)
    (a10 : PySem.W.nsIn K mainGlobals "are_dealings" = some (some (.ref f10)))
    (l10 : K.lookup f10 = some ⟨oc10, od10, .func (PySem.W.fnOf "are_dealings" "are_dealings" (defArgs s_are_dealings) (defBody s_are_dealings) (defScope s_are_dealings) .none kV10 dc10 pm10 an10 cd10 ct10), sl10⟩)
    (c10 : PySem.W.codeIn K cd10 "are_dealings" = true)
    (k10 : PySem.W.keepIn K (.ref f10) = true)
    (a11 : PySem.W.nsIn K mainGlobals "is_entry" = some (some (.ref f11)))
    (l11 : K.lookup f11 = some ⟨oc11, od11, .func (PySem.W.fnOf "is_entry" "is_entry" (defArgs s_is_entry) (defBody s_is_entry) (defScope s_is_entry) .none kV11 dc11 pm11 an11 cd11 ct11), sl11⟩)
    (c11 : PySem.W.codeIn K cd11 "is_entry" = true)
    (k11 : PySem.W.keepIn K (.ref f11) = true)
    (a12 : PySem.W.nsIn K mainGlobals "_law_cell_at" = some (some (.ref f12)))
    (l12 : K.lookup f12 = some ⟨oc12, od12, .func (PySem.W.fnOf "_law_cell_at" "_law_cell_at" (defArgs s__law_cell_at) (defBody s__law_cell_at) (defScope s__law_cell_at) .none kV12 dc12 pm12 an12 cd12 ct12), sl12⟩)
    (c12 : PySem.W.codeIn K cd12 "_law_cell_at" = true)
    (k12 : PySem.W.keepIn K (.ref f12) = true)
    (a13 : PySem.W.nsIn K mainGlobals "_law_pool" = some (some (.ref f13)))
    (l13 : K.lookup f13 = some ⟨oc13, od13, .func (PySem.W.fnOf "_law_pool" "_law_pool" (defArgs s__law_pool) (defBody s__law_pool) (defScope s__law_pool) .none kV13 dc13 pm13 an13 cd13 ct13), sl13⟩)
    (c13 : PySem.W.codeIn K cd13 "_law_pool" = true)
    (k13 : PySem.W.keepIn K (.ref f13) = true)
    (a14 : PySem.W.nsIn K mainGlobals "_law_take" = some (some (.ref f14)))
    (l14 : K.lookup f14 = some ⟨oc14, od14, .func (PySem.W.fnOf "_law_take" "_law_take" (defArgs s__law_take) (defBody s__law_take) (defScope s__law_take) .none kV14 dc14 pm14 an14 cd14 ct14), sl14⟩)
    (c14 : PySem.W.codeIn K cd14 "_law_take" = true)
    (k14 : PySem.W.keepIn K (.ref f14) = true)
    (a15 : PySem.W.nsIn K mainGlobals "_law_whole" = some (some (.ref f15)))
    (l15 : K.lookup f15 = some ⟨oc15, od15, .func (PySem.W.fnOf "_law_whole" "_law_whole" (defArgs s__law_whole) (defBody s__law_whole) (defScope s__law_whole) .none kV15 dc15 pm15 an15 cd15 ct15), sl15⟩)
    (c15 : PySem.W.codeIn K cd15 "_law_whole" = true)
    (k15 : PySem.W.keepIn K (.ref f15) = true)
    (a16 : PySem.W.nsIn K mainGlobals "_law_is_word" = some (some (.ref f16)))
    (l16 : K.lookup f16 = some ⟨oc16, od16, .func (PySem.W.fnOf "_law_is_word" "_law_is_word" (defArgs s__law_is_word) (defBody s__law_is_word) (defScope s__law_is_word) .none kV16 dc16 pm16 an16 cd16 ct16), sl16⟩)
    (c16 : PySem.W.codeIn K cd16 "_law_is_word" = true)
    (k16 : PySem.W.keepIn K (.ref f16) = true)
    (a17 : PySem.W.nsIn K mainGlobals "_law_are_fields" = some (some (.ref f17)))
    (l17 : K.lookup f17 = some ⟨oc17, od17, .func (PySem.W.fnOf "_law_are_fields" "_law_are_fields" (defArgs s__law_are_fields) (defBody s__law_are_fields) (defScope s__law_are_fields) .none kV17 dc17 pm17 an17 cd17 ct17), sl17⟩)
    (c17 : PySem.W.codeIn K cd17 "_law_are_fields" = true)
    (k17 : PySem.W.keepIn K (.ref f17) = true)
    (a18 : PySem.W.nsIn K mainGlobals "_law_is_row" = some (some (.ref f18)))
    (l18 : K.lookup f18 = some ⟨oc18, od18, .func (PySem.W.fnOf "_law_is_row" "_law_is_row" (defArgs s__law_is_row) (defBody s__law_is_row) (defScope s__law_is_row) .none kV18 dc18 pm18 an18 cd18 ct18), sl18⟩)
    (c18 : PySem.W.codeIn K cd18 "_law_is_row" = true)
    (k18 : PySem.W.keepIn K (.ref f18) = true)
    (a19 : PySem.W.nsIn K mainGlobals "_law_fields" = some (some (.ref f19)))
    (l19 : K.lookup f19 = some ⟨oc19, od19, .func (PySem.W.fnOf "_law_fields" "_law_fields" (defArgs s__law_fields) (defBody s__law_fields) (defScope s__law_fields) .none kV19 dc19 pm19 an19 cd19 ct19), sl19⟩)
    (c19 : PySem.W.codeIn K cd19 "_law_fields" = true)
    (k19 : PySem.W.keepIn K (.ref f19) = true)
    (a20 : PySem.W.nsIn K mainGlobals "_law_worth" = some (some (.ref f20)))
    (l20 : K.lookup f20 = some ⟨oc20, od20, .func (PySem.W.fnOf "_law_worth" "_law_worth" (defArgs s__law_worth) (defBody s__law_worth) (defScope s__law_worth) .none kV20 dc20 pm20 an20 cd20 ct20), sl20⟩)
    (c20 : PySem.W.codeIn K cd20 "_law_worth" = true)
    (k20 : PySem.W.keepIn K (.ref f20) = true)
    (a21 : PySem.W.nsIn K mainGlobals "_law_row" = some (some (.ref f21)))
    (l21 : K.lookup f21 = some ⟨oc21, od21, .func (PySem.W.fnOf "_law_row" "_law_row" (defArgs s__law_row) (defBody s__law_row) (defScope s__law_row) .none kV21 dc21 pm21 an21 cd21 ct21), sl21⟩)
    (c21 : PySem.W.codeIn K cd21 "_law_row" = true)
    (k21 : PySem.W.keepIn K (.ref f21) = true)
    (a22 : PySem.W.nsIn K mainGlobals "_law_is_some_row" = some (some (.ref f22)))
    (l22 : K.lookup f22 = some ⟨oc22, od22, .func (PySem.W.fnOf "_law_is_some_row" "_law_is_some_row" (defArgs s__law_is_some_row) (defBody s__law_is_some_row) (defScope s__law_is_some_row) .none kV22 dc22 pm22 an22 cd22 ct22), sl22⟩)
    (c22 : PySem.W.codeIn K cd22 "_law_is_some_row" = true)
    (k22 : PySem.W.keepIn K (.ref f22) = true)
    (a23 : PySem.W.nsIn K mainGlobals "_law_is_dealing" = some (some (.ref f23)))
    (l23 : K.lookup f23 = some ⟨oc23, od23, .func (PySem.W.fnOf "_law_is_dealing" "_law_is_dealing" (defArgs s__law_is_dealing) (defBody s__law_is_dealing) (defScope s__law_is_dealing) .none kV23 dc23 pm23 an23 cd23 ct23), sl23⟩)
    (c23 : PySem.W.codeIn K cd23 "_law_is_dealing" = true)
    (k23 : PySem.W.keepIn K (.ref f23) = true)
    (a24 : PySem.W.nsIn K mainGlobals "_law_sizes" = some (some (.ref f24)))
    (l24 : K.lookup f24 = some ⟨oc24, od24, .func (PySem.W.fnOf "_law_sizes" "_law_sizes" (defArgs s__law_sizes) (defBody s__law_sizes) (defScope s__law_sizes) .none kV24 dc24 pm24 an24 cd24 ct24), sl24⟩)
    (c24 : PySem.W.codeIn K cd24 "_law_sizes" = true)
    (k24 : PySem.W.keepIn K (.ref f24) = true)
    (a25 : PySem.W.nsIn K mainGlobals "_law_is_running" = some (some (.ref f25)))
    (l25 : K.lookup f25 = some ⟨oc25, od25, .func (PySem.W.fnOf "_law_is_running" "_law_is_running" (defArgs s__law_is_running) (defBody s__law_is_running) (defScope s__law_is_running) .none kV25 dc25 pm25 an25 cd25 ct25), sl25⟩)
    (c25 : PySem.W.codeIn K cd25 "_law_is_running" = true)
    (k25 : PySem.W.keepIn K (.ref f25) = true)
    (a26 : PySem.W.nsIn K mainGlobals "_law_is_rest" = some (some (.ref f26)))
    (l26 : K.lookup f26 = some ⟨oc26, od26, .func (PySem.W.fnOf "_law_is_rest" "_law_is_rest" (defArgs s__law_is_rest) (defBody s__law_is_rest) (defScope s__law_is_rest) .none kV26 dc26 pm26 an26 cd26 ct26), sl26⟩)
    (c26 : PySem.W.codeIn K cd26 "_law_is_rest" = true)
    (k26 : PySem.W.keepIn K (.ref f26) = true)
    (a27 : PySem.W.nsIn K mainGlobals "_law_is_entry" = some (some (.ref f27)))
    (l27 : K.lookup f27 = some ⟨oc27, od27, .func (PySem.W.fnOf "_law_is_entry" "_law_is_entry" (defArgs s__law_is_entry) (defBody s__law_is_entry) (defScope s__law_is_entry) .none kV27 dc27 pm27 an27 cd27 ct27), sl27⟩)
    (c27 : PySem.W.codeIn K cd27 "_law_is_entry" = true)
    (k27 : PySem.W.keepIn K (.ref f27) = true)
    (a28 : PySem.W.nsIn K mainGlobals "_law_bent_entry" = some (some (.ref f28)))
    (l28 : K.lookup f28 = some ⟨oc28, od28, .func (PySem.W.fnOf "_law_bent_entry" "_law_bent_entry" (defArgs s__law_bent_entry) (defBody s__law_bent_entry) (defScope s__law_bent_entry) .none kV28 dc28 pm28 an28 cd28 ct28), sl28⟩)
    (c28 : PySem.W.codeIn K cd28 "_law_bent_entry" = true)
    (k28 : PySem.W.keepIn K (.ref f28) = true)
    (a29 : PySem.W.nsIn K mainGlobals "_law_items" = some (some (.ref f29)))
    (l29 : K.lookup f29 = some ⟨oc29, od29, .func (PySem.W.fnOf "_law_items" "_law_items" (defArgs s__law_items) (defBody s__law_items) (defScope s__law_items) .none kV29 dc29 pm29 an29 cd29 ct29), sl29⟩)
    (c29 : PySem.W.codeIn K cd29 "_law_items" = true)
    (k29 : PySem.W.keepIn K (.ref f29) = true)
    (a30 : PySem.W.nsIn K mainGlobals "_law_plain_right" = some (some (.ref f30)))
    (l30 : K.lookup f30 = some ⟨oc30, od30, .func (PySem.W.fnOf "_law_plain_right" "_law_plain_right" (defArgs s__law_plain_right) (defBody s__law_plain_right) (defScope s__law_plain_right) .none kV30 dc30 pm30 an30 cd30 ct30), sl30⟩)
    (c30 : PySem.W.codeIn K cd30 "_law_plain_right" = true)
    (k30 : PySem.W.keepIn K (.ref f30) = true)
    (a31 : PySem.W.nsIn K mainGlobals "_law_entries" = some (some (.ref f31)))
    (l31 : K.lookup f31 = some ⟨oc31, od31, .func (PySem.W.fnOf "_law_entries" "_law_entries" (defArgs s__law_entries) (defBody s__law_entries) (defScope s__law_entries) .none kV31 dc31 pm31 an31 cd31 ct31), sl31⟩)
    (c31 : PySem.W.codeIn K cd31 "_law_entries" = true)
    (k31 : PySem.W.keepIn K (.ref f31) = true)
    (a32 : PySem.W.nsIn K mainGlobals "law" = some (some (.ref f32)))
    (l32 : K.lookup f32 = some ⟨oc32, od32, .func (PySem.W.fnOf "law" "law" (defArgs s_law) (defBody s_law) (defScope s_law) .none kV32 dc32 pm32 an32 cd32 ct32), sl32⟩)
    (c32 : PySem.W.codeIn K cd32 "law" = true)
    (k32 : PySem.W.keepIn K (.ref f32) = true)
    (z0 : PySem.W.nsIn K mainGlobals "isinstance" = some none)
    (z1 : PySem.W.nsIn K mainGlobals "int" = some none)
    (z2 : PySem.W.nsIn K mainGlobals "bool" = some none)
    (z3 : PySem.W.nsIn K mainGlobals "str" = some none)
    (z4 : PySem.W.nsIn K mainGlobals "len" = some none)
    (z5 : PySem.W.nsIn K mainGlobals "all" = some none)
    (z6 : PySem.W.nsIn K mainGlobals "tuple" = some none)
    (z7 : PySem.W.nsIn K mainGlobals "zip" = some none)
    (z8 : PySem.W.nsIn K mainGlobals "set" = some none)
    (z9 : PySem.W.nsIn K mainGlobals "range" = some none)
    (z10 : PySem.W.nsIn K mainGlobals "list" = some none)
    (z11 : PySem.W.nsIn K mainGlobals "sorted" = some none)
    (z12 : PySem.W.nsIn K mainGlobals "repr" = some none)
    (z13 : PySem.W.nsIn K mainGlobals "max" = some none)
    (z14 : PySem.W.nsIn K mainGlobals "min" = some none)
    (g0 : PySem.W.nsIn K mainGlobals "LONGEST" = some (some (.int (8) t0)))
    (g1 : PySem.W.nsIn K mainGlobals "LETTERS" = some (some (.str "abcdefghijklmnopqrstuvwxyz" t1)))
    (g2 : PySem.W.nsIn K mainGlobals "MOST_WORTH" = some (some (.int (1000000000) t2)))
    (g3 : PySem.W.nsIn K mainGlobals "MOST_FIELDS" = some (some (.int (6) t3)))
    (g4 : PySem.W.nsIn K mainGlobals "MOST_TABLE" = some (some (.int (9) t4)))
    (g5 : PySem.W.nsIn K mainGlobals "MOST_DEALING" = some (some (.int (9999) t5)))
    (g6 : PySem.W.nsIn K mainGlobals "FORMS" = some (some (.ref p6)))
    (h6 : K.lookup p6 = some ⟨.type "dict", none, .dict #[⟨PyData.keyHash w.params "within", .str "within" t6_0, .ref q6_0⟩, ⟨PyData.keyHash w.params "from", .str "from" t6_1, .ref q6_1⟩, ⟨PyData.keyHash w.params "form", .str "form" t6_2, .ref q6_2⟩, ⟨PyData.keyHash w.params "put", .str "put" t6_3, .ref q6_3⟩, ⟨PyData.keyHash w.params "change", .str "change" t6_4, .ref q6_4⟩, ⟨PyData.keyHash w.params "strike", .str "strike" t6_5, .ref q6_5⟩, ⟨PyData.keyHash w.params "ready", .str "ready" t6_6, .ref q6_6⟩, ⟨PyData.keyHash w.params "sure", .str "sure" t6_7, .ref q6_7⟩, ⟨PyData.keyHash w.params "off", .str "off" t6_8, .ref q6_8⟩, ⟨PyData.keyHash w.params "running", .str "running" t6_9, .ref q6_9⟩] pn6, #[]⟩)
    (hs6 : (p6 == sysModules) = false)
    (h6_0 : K.lookup q6_0 = some ⟨.type "tuple", qd6_0, .seq #[.ref f8, .ref f8] qn6_0, qs6_0⟩)
    (h6_1 : K.lookup q6_1 = some ⟨.type "tuple", qd6_1, .seq #[.ref f8, .ref f2, .ref f6] qn6_1, qs6_1⟩)
    (h6_2 : K.lookup q6_2 = some ⟨.type "tuple", qd6_2, .seq #[.ref f8, .ref f7, .ref f2, .ref f5] qn6_2, qs6_2⟩)
    (h6_3 : K.lookup q6_3 = some ⟨.type "tuple", qd6_3, .seq #[.ref f8, .ref f7, .ref f4] qn6_3, qs6_3⟩)
    (h6_4 : K.lookup q6_4 = some ⟨.type "tuple", qd6_4, .seq #[.ref f8, .ref f7, .ref f4, .ref f4] qn6_4, qs6_4⟩)
    (h6_5 : K.lookup q6_5 = some ⟨.type "tuple", qd6_5, .seq #[.ref f8, .ref f7, .ref f4] qn6_5, qs6_5⟩)
    (h6_6 : K.lookup q6_6 = some ⟨.type "tuple", qd6_6, .seq #[.ref f8, .ref f2] qn6_6, qs6_6⟩)
    (h6_7 : K.lookup q6_7 = some ⟨.type "tuple", qd6_7, .seq #[.ref f8, .ref f9] qn6_7, qs6_7⟩)
    (h6_8 : K.lookup q6_8 = some ⟨.type "tuple", qd6_8, .seq #[.ref f8, .ref f9] qn6_8, qs6_8⟩)
    (h6_9 : K.lookup q6_9 = some ⟨.type "tuple", qd6_9, .seq #[.ref f10] qn6_9, qs6_9⟩)
    : ∃ L : Lay, TFS S g w K mg L ∧ L.fns[32]? = some fa := by
  have e : f32 = fa := by
    have z := (PySem.W.mg_of X G a32).symm.trans hfa
    cases z
    rfl
  refine ⟨⟨[f0, f1, f2, f3, f4, f5, f6, f7, f8, f9, f10, f11, f12, f13, f14, f15, f16, f17, f18, f19, f20, f21, f22, f23, f24, f25, f26, f27, f28, f29, f30, f31, f32], [], [], w.params, S.attrs⟩, ⟨?_, ⟨rfl, by decide +kernel⟩, ?_, ?_, ?_, ?_, ?_, ?_, ?_, ?_, ?_, ?_, ?_, ?_, rfl, ?_, ?_⟩, show some f32 = some fa by rw [e]⟩
  · exact all_mem (.cons (PySem.W.mg_none_of X G z0) (.cons (PySem.W.mg_none_of X G z1) (.cons (PySem.W.mg_none_of X G z2) (.cons (PySem.W.mg_none_of X G z3) (.cons (PySem.W.mg_none_of X G z4) (.cons (PySem.W.mg_none_of X G z5) (.cons (PySem.W.mg_none_of X G z6) (.cons (PySem.W.mg_none_of X G z7) (.cons (PySem.W.mg_none_of X G z8) (.cons (PySem.W.mg_none_of X G z9) (.cons (PySem.W.mg_none_of X G z10) (.cons (PySem.W.mg_none_of X G z11) (.cons (PySem.W.mg_none_of X G z12) (.cons (PySem.W.mg_none_of X G z13) (.cons (PySem.W.mg_none_of X G z14) (.nil))))))))))))))))
  · exact all_fn (.some rfl (PySem.W.mg_of X G a0) k0 (.some rfl (PySem.W.mg_of X G a1) k1 (.some rfl (PySem.W.mg_of X G a2) k2 (.some rfl (PySem.W.mg_of X G a3) k3 (.some rfl (PySem.W.mg_of X G a4) k4 (.some rfl (PySem.W.mg_of X G a5) k5 (.some rfl (PySem.W.mg_of X G a6) k6 (.some rfl (PySem.W.mg_of X G a7) k7 (.some rfl (PySem.W.mg_of X G a8) k8 (.some rfl (PySem.W.mg_of X G a9) k9 (.some rfl (PySem.W.mg_of X G a10) k10 (.some rfl (PySem.W.mg_of X G a11) k11 (.some rfl (PySem.W.mg_of X G a12) k12 (.some rfl (PySem.W.mg_of X G a13) k13 (.some rfl (PySem.W.mg_of X G a14) k14 (.some rfl (PySem.W.mg_of X G a15) k15 (.some rfl (PySem.W.mg_of X G a16) k16 (.some rfl (PySem.W.mg_of X G a17) k17 (.some rfl (PySem.W.mg_of X G a18) k18 (.some rfl (PySem.W.mg_of X G a19) k19 (.some rfl (PySem.W.mg_of X G a20) k20 (.some rfl (PySem.W.mg_of X G a21) k21 (.some rfl (PySem.W.mg_of X G a22) k22 (.some rfl (PySem.W.mg_of X G a23) k23 (.some rfl (PySem.W.mg_of X G a24) k24 (.some rfl (PySem.W.mg_of X G a25) k25 (.some rfl (PySem.W.mg_of X G a26) k26 (.some rfl (PySem.W.mg_of X G a27) k27 (.some rfl (PySem.W.mg_of X G a28) k28 (.some rfl (PySem.W.mg_of X G a29) k29 (.some rfl (PySem.W.mg_of X G a30) k30 (.some rfl (PySem.W.mg_of X G a31) k31 (.some rfl (PySem.W.mg_of X G a32) k32 (.nil))))))))))))))))))))))))))))))))))
  · exact all_ix (.cons (t_is_whole l0 c0) (.cons (t_is_within l1 c1) (.cons (t_is_word l2 c2) (.cons (t_is_worth l3 c3) (.cons (t_is_row l4 c4) (.cons (t_are_fields l5 c5) (.cons (t_is_place l6 c6) (.cons (t_is_table l7 c7) (.cons (t_is_dealing l8 c8) (.cons (t_may_be_word l9 c9) (.cons (t_are_dealings l10 c10) (.cons (t_is_entry l11 c11) (.cons (t__law_cell_at l12 c12) (.cons (t__law_pool l13 c13) (.cons (t__law_take l14 c14) (.cons (t__law_whole l15 c15) (.cons (t__law_is_word l16 c16) (.cons (t__law_are_fields l17 c17) (.cons (t__law_is_row l18 c18) (.cons (t__law_fields l19 c19) (.cons (t__law_worth l20 c20) (.cons (t__law_row l21 c21) (.cons (t__law_is_some_row l22 c22) (.cons (t__law_is_dealing l23 c23) (.cons (t__law_sizes l24 c24) (.cons (t__law_is_running l25 c25) (.cons (t__law_is_rest l26 c26) (.cons (t__law_is_entry l27 c27) (.cons (t__law_bent_entry l28 c28) (.cons (t__law_items l29 c29) (.cons (t__law_plain_right l30 c30) (.cons (t__law_entries l31 c31) (.cons (t_law l32 c32) (.nil))))))))))))))))))))))))))))))))))
  · exact all_mak (.nil)
  · exact all_ini (by decide +kernel)
  · exact all_ix (P := fun _ C => Cls K C ∧ ∀ x ∈ S.attrs, NoAttr K C x) (.nil)
  · exact all_mth (g := g) (.nil)
  · exact all_mna (by decide +kernel)
  · exact all_mks (by decide +kernel)
  · exact all_exc (.nil)
  · exact all_ex0 (.nil)
  · exact all_ix (P := fun _ C => ExF K S.attrs C) (.nil)
  · exact all_mem (.nil)
  · exact all_ix (P := fun _ a => PySem.W.keepIn K (.ref a) = true) (.cons (k0) (.cons (k1) (.cons (k2) (.cons (k3) (.cons (k4) (.cons (k5) (.cons (k6) (.cons (k7) (.cons (k8) (.cons (k9) (.cons (k10) (.cons (k11) (.cons (k12) (.cons (k13) (.cons (k14) (.cons (k15) (.cons (k16) (.cons (k17) (.cons (k18) (.cons (k19) (.cons (k20) (.cons (k21) (.cons (k22) (.cons (k23) (.cons (k24) (.cons (k25) (.cons (k26) (.cons (k27) (.cons (k28) (.cons (k29) (.cons (k30) (.cons (k31) (.cons (k32) (.nil))))))))))))))))))))))))))))))))))
  · exact all_con (.cons (⟨_, _, .int _, rfl, PySem.W.mg_of X G g0, ⟨t0, rfl⟩, fun _ _ => .int _⟩) (.cons (⟨_, _, .str _, rfl, PySem.W.mg_of X G g1, ⟨t1, rfl⟩, fun _ _ => .str _⟩) (.cons (⟨_, _, .int _, rfl, PySem.W.mg_of X G g2, ⟨t2, rfl⟩, fun _ _ => .int _⟩) (.cons (⟨_, _, .int _, rfl, PySem.W.mg_of X G g3, ⟨t3, rfl⟩, fun _ _ => .int _⟩) (.cons (⟨_, _, .int _, rfl, PySem.W.mg_of X G g4, ⟨t4, rfl⟩, fun _ _ => .int _⟩) (.cons (⟨_, _, .int _, rfl, PySem.W.mg_of X G g5, ⟨t5, rfl⟩, fun _ _ => .int _⟩) (.cons (⟨_, _, .ref p6, rfl, PySem.W.mg_of X G g6, rfl, fun _ _ => .kd ⟨hs6, _, _, h6, (.cons ⟨_, rfl⟩ rfl (show RelV (V.ref q6_0) _ from rfl) (.cons ⟨_, rfl⟩ rfl (show RelV (V.ref q6_1) _ from rfl) (.cons ⟨_, rfl⟩ rfl (show RelV (V.ref q6_2) _ from rfl) (.cons ⟨_, rfl⟩ rfl (show RelV (V.ref q6_3) _ from rfl) (.cons ⟨_, rfl⟩ rfl (show RelV (V.ref q6_4) _ from rfl) (.cons ⟨_, rfl⟩ rfl (show RelV (V.ref q6_5) _ from rfl) (.cons ⟨_, rfl⟩ rfl (show RelV (V.ref q6_6) _ from rfl) (.cons ⟨_, rfl⟩ rfl (show RelV (V.ref q6_7) _ from rfl) (.cons ⟨_, rfl⟩ rfl (show RelV (V.ref q6_8) _ from rfl) (.cons ⟨_, rfl⟩ rfl (show RelV (V.ref q6_9) _ from rfl) .nil))))))))))⟩ (.cons (.tup (.inr ⟨_, _, _, h6_0, rfl, rfl, show 2 ≤ sizeLine by decide, (.cons (show RelV (V.ref f8) _ from rfl) (.cons (show RelV (V.ref f8) _ from rfl) .nil))⟩) (.cons (.fn (show _ = some f8 from rfl)) (.cons (.fn (show _ = some f8 from rfl)) .nil))) (.cons (.tup (.inr ⟨_, _, _, h6_1, rfl, rfl, show 3 ≤ sizeLine by decide, (.cons (show RelV (V.ref f8) _ from rfl) (.cons (show RelV (V.ref f2) _ from rfl) (.cons (show RelV (V.ref f6) _ from rfl) .nil)))⟩) (.cons (.fn (show _ = some f8 from rfl)) (.cons (.fn (show _ = some f2 from rfl)) (.cons (.fn (show _ = some f6 from rfl)) .nil)))) (.cons (.tup (.inr ⟨_, _, _, h6_2, rfl, rfl, show 4 ≤ sizeLine by decide, (.cons (show RelV (V.ref f8) _ from rfl) (.cons (show RelV (V.ref f7) _ from rfl) (.cons (show RelV (V.ref f2) _ from rfl) (.cons (show RelV (V.ref f5) _ from rfl) .nil))))⟩) (.cons (.fn (show _ = some f8 from rfl)) (.cons (.fn (show _ = some f7 from rfl)) (.cons (.fn (show _ = some f2 from rfl)) (.cons (.fn (show _ = some f5 from rfl)) .nil))))) (.cons (.tup (.inr ⟨_, _, _, h6_3, rfl, rfl, show 3 ≤ sizeLine by decide, (.cons (show RelV (V.ref f8) _ from rfl) (.cons (show RelV (V.ref f7) _ from rfl) (.cons (show RelV (V.ref f4) _ from rfl) .nil)))⟩) (.cons (.fn (show _ = some f8 from rfl)) (.cons (.fn (show _ = some f7 from rfl)) (.cons (.fn (show _ = some f4 from rfl)) .nil)))) (.cons (.tup (.inr ⟨_, _, _, h6_4, rfl, rfl, show 4 ≤ sizeLine by decide, (.cons (show RelV (V.ref f8) _ from rfl) (.cons (show RelV (V.ref f7) _ from rfl) (.cons (show RelV (V.ref f4) _ from rfl) (.cons (show RelV (V.ref f4) _ from rfl) .nil))))⟩) (.cons (.fn (show _ = some f8 from rfl)) (.cons (.fn (show _ = some f7 from rfl)) (.cons (.fn (show _ = some f4 from rfl)) (.cons (.fn (show _ = some f4 from rfl)) .nil))))) (.cons (.tup (.inr ⟨_, _, _, h6_5, rfl, rfl, show 3 ≤ sizeLine by decide, (.cons (show RelV (V.ref f8) _ from rfl) (.cons (show RelV (V.ref f7) _ from rfl) (.cons (show RelV (V.ref f4) _ from rfl) .nil)))⟩) (.cons (.fn (show _ = some f8 from rfl)) (.cons (.fn (show _ = some f7 from rfl)) (.cons (.fn (show _ = some f4 from rfl)) .nil)))) (.cons (.tup (.inr ⟨_, _, _, h6_6, rfl, rfl, show 2 ≤ sizeLine by decide, (.cons (show RelV (V.ref f8) _ from rfl) (.cons (show RelV (V.ref f2) _ from rfl) .nil))⟩) (.cons (.fn (show _ = some f8 from rfl)) (.cons (.fn (show _ = some f2 from rfl)) .nil))) (.cons (.tup (.inr ⟨_, _, _, h6_7, rfl, rfl, show 2 ≤ sizeLine by decide, (.cons (show RelV (V.ref f8) _ from rfl) (.cons (show RelV (V.ref f9) _ from rfl) .nil))⟩) (.cons (.fn (show _ = some f8 from rfl)) (.cons (.fn (show _ = some f9 from rfl)) .nil))) (.cons (.tup (.inr ⟨_, _, _, h6_8, rfl, rfl, show 2 ≤ sizeLine by decide, (.cons (show RelV (V.ref f8) _ from rfl) (.cons (show RelV (V.ref f9) _ from rfl) .nil))⟩) (.cons (.fn (show _ = some f8 from rfl)) (.cons (.fn (show _ = some f9 from rfl)) .nil))) (.cons (.tup (.inr ⟨_, _, _, h6_9, rfl, rfl, show 1 ≤ sizeLine by decide, (.cons (show RelV (V.ref f10) _ from rfl) .nil)⟩) (.cons (.fn (show _ = some f10 from rfl)) .nil)) .nil))))))))))⟩) (.nil))))))))
end
theorem call_is_whole (n : Nat) (ds : List D) (hp : Hq) (Q : QD) (E : QX) : wCall g (n + 1) 0 ds hp Q E = (ds.length = 1 ∧ wSs g (wCall g n) b_is_whole (ds.map some ++ List.replicate 0 none) hp { nx := fun _ hp => Q .non hp, bk := fun _ _ => False, ct := fun _ _ => False, rt := Q, ex := fun c i _ hp => E c i hp }) := rfl
theorem call_is_within (n : Nat) (ds : List D) (hp : Hq) (Q : QD) (E : QX) : wCall g (n + 1) 1 ds hp Q E = (ds.length = 3 ∧ wSs g (wCall g n) b_is_within (ds.map some ++ List.replicate 0 none) hp { nx := fun _ hp => Q .non hp, bk := fun _ _ => False, ct := fun _ _ => False, rt := Q, ex := fun c i _ hp => E c i hp }) := rfl
theorem call_is_word (n : Nat) (ds : List D) (hp : Hq) (Q : QD) (E : QX) : wCall g (n + 1) 2 ds hp Q E = (ds.length = 1 ∧ wSs g (wCall g n) b_is_word (ds.map some ++ List.replicate 1 none) hp { nx := fun _ hp => Q .non hp, bk := fun _ _ => False, ct := fun _ _ => False, rt := Q, ex := fun c i _ hp => E c i hp }) := rfl
theorem call_is_worth (n : Nat) (ds : List D) (hp : Hq) (Q : QD) (E : QX) : wCall g (n + 1) 3 ds hp Q E = (ds.length = 1 ∧ wSs g (wCall g n) b_is_worth (ds.map some ++ List.replicate 0 none) hp { nx := fun _ hp => Q .non hp, bk := fun _ _ => False, ct := fun _ _ => False, rt := Q, ex := fun c i _ hp => E c i hp }) := rfl
theorem call_is_row (n : Nat) (ds : List D) (hp : Hq) (Q : QD) (E : QX) : wCall g (n + 1) 4 ds hp Q E = (ds.length = 1 ∧ wSs g (wCall g n) b_is_row (ds.map some ++ List.replicate 1 none) hp { nx := fun _ hp => Q .non hp, bk := fun _ _ => False, ct := fun _ _ => False, rt := Q, ex := fun c i _ hp => E c i hp }) := rfl
theorem call_are_fields (n : Nat) (ds : List D) (hp : Hq) (Q : QD) (E : QX) : wCall g (n + 1) 5 ds hp Q E = (ds.length = 1 ∧ wSs g (wCall g n) b_are_fields (ds.map some ++ List.replicate 2 none) hp { nx := fun _ hp => Q .non hp, bk := fun _ _ => False, ct := fun _ _ => False, rt := Q, ex := fun c i _ hp => E c i hp }) := rfl
theorem call_is_place (n : Nat) (ds : List D) (hp : Hq) (Q : QD) (E : QX) : wCall g (n + 1) 6 ds hp Q E = (ds.length = 1 ∧ wSs g (wCall g n) b_is_place (ds.map some ++ List.replicate 0 none) hp { nx := fun _ hp => Q .non hp, bk := fun _ _ => False, ct := fun _ _ => False, rt := Q, ex := fun c i _ hp => E c i hp }) := rfl
theorem call_is_table (n : Nat) (ds : List D) (hp : Hq) (Q : QD) (E : QX) : wCall g (n + 1) 7 ds hp Q E = (ds.length = 1 ∧ wSs g (wCall g n) b_is_table (ds.map some ++ List.replicate 0 none) hp { nx := fun _ hp => Q .non hp, bk := fun _ _ => False, ct := fun _ _ => False, rt := Q, ex := fun c i _ hp => E c i hp }) := rfl
theorem call_is_dealing (n : Nat) (ds : List D) (hp : Hq) (Q : QD) (E : QX) : wCall g (n + 1) 8 ds hp Q E = (ds.length = 1 ∧ wSs g (wCall g n) b_is_dealing (ds.map some ++ List.replicate 0 none) hp { nx := fun _ hp => Q .non hp, bk := fun _ _ => False, ct := fun _ _ => False, rt := Q, ex := fun c i _ hp => E c i hp }) := rfl
theorem call_may_be_word (n : Nat) (ds : List D) (hp : Hq) (Q : QD) (E : QX) : wCall g (n + 1) 9 ds hp Q E = (ds.length = 1 ∧ wSs g (wCall g n) b_may_be_word (ds.map some ++ List.replicate 0 none) hp { nx := fun _ hp => Q .non hp, bk := fun _ _ => False, ct := fun _ _ => False, rt := Q, ex := fun c i _ hp => E c i hp }) := rfl
theorem call_are_dealings (n : Nat) (ds : List D) (hp : Hq) (Q : QD) (E : QX) : wCall g (n + 1) 10 ds hp Q E = (ds.length = 1 ∧ wSs g (wCall g n) b_are_dealings (ds.map some ++ List.replicate 2 none) hp { nx := fun _ hp => Q .non hp, bk := fun _ _ => False, ct := fun _ _ => False, rt := Q, ex := fun c i _ hp => E c i hp }) := rfl
theorem call_is_entry (n : Nat) (ds : List D) (hp : Hq) (Q : QD) (E : QX) : wCall g (n + 1) 11 ds hp Q E = (ds.length = 1 ∧ wSs g (wCall g n) b_is_entry (ds.map some ++ List.replicate 3 none) hp { nx := fun _ hp => Q .non hp, bk := fun _ _ => False, ct := fun _ _ => False, rt := Q, ex := fun c i _ hp => E c i hp }) := rfl
theorem call__law_cell_at (n : Nat) (ds : List D) (hp : Hq) (Q : QD) (E : QX) : wCall g (n + 1) 12 ds hp Q E = (ds.length = 2 ∧ wSs g (wCall g n) b__law_cell_at (ds.map some ++ List.replicate 0 none) hp { nx := fun _ hp => Q .non hp, bk := fun _ _ => False, ct := fun _ _ => False, rt := Q, ex := fun c i _ hp => E c i hp }) := rfl
theorem call__law_pool (n : Nat) (ds : List D) (hp : Hq) (Q : QD) (E : QX) : wCall g (n + 1) 13 ds hp Q E = (ds.length = 2 ∧ wSs g (wCall g n) b__law_pool (ds.map some ++ List.replicate 2 none) hp { nx := fun _ hp => Q .non hp, bk := fun _ _ => False, ct := fun _ _ => False, rt := Q, ex := fun c i _ hp => E c i hp }) := rfl
theorem call__law_take (n : Nat) (ds : List D) (hp : Hq) (Q : QD) (E : QX) : wCall g (n + 1) 14 ds hp Q E = (ds.length = 2 ∧ wSs g (wCall g n) b__law_take (ds.map some ++ List.replicate 1 none) hp { nx := fun _ hp => Q .non hp, bk := fun _ _ => False, ct := fun _ _ => False, rt := Q, ex := fun c i _ hp => E c i hp }) := rfl
theorem call__law_whole (n : Nat) (ds : List D) (hp : Hq) (Q : QD) (E : QX) : wCall g (n + 1) 15 ds hp Q E = (ds.length = 3 ∧ wSs g (wCall g n) b__law_whole (ds.map some ++ List.replicate 0 none) hp { nx := fun _ hp => Q .non hp, bk := fun _ _ => False, ct := fun _ _ => False, rt := Q, ex := fun c i _ hp => E c i hp }) := rfl
theorem call__law_is_word (n : Nat) (ds : List D) (hp : Hq) (Q : QD) (E : QX) : wCall g (n + 1) 16 ds hp Q E = (ds.length = 1 ∧ wSs g (wCall g n) b__law_is_word (ds.map some ++ List.replicate 1 none) hp { nx := fun _ hp => Q .non hp, bk := fun _ _ => False, ct := fun _ _ => False, rt := Q, ex := fun c i _ hp => E c i hp }) := rfl
theorem call__law_are_fields (n : Nat) (ds : List D) (hp : Hq) (Q : QD) (E : QX) : wCall g (n + 1) 17 ds hp Q E = (ds.length = 1 ∧ wSs g (wCall g n) b__law_are_fields (ds.map some ++ List.replicate 1 none) hp { nx := fun _ hp => Q .non hp, bk := fun _ _ => False, ct := fun _ _ => False, rt := Q, ex := fun c i _ hp => E c i hp }) := rfl
theorem call__law_is_row (n : Nat) (ds : List D) (hp : Hq) (Q : QD) (E : QX) : wCall g (n + 1) 18 ds hp Q E = (ds.length = 2 ∧ wSs g (wCall g n) b__law_is_row (ds.map some ++ List.replicate 1 none) hp { nx := fun _ hp => Q .non hp, bk := fun _ _ => False, ct := fun _ _ => False, rt := Q, ex := fun c i _ hp => E c i hp }) := rfl
theorem call__law_fields (n : Nat) (ds : List D) (hp : Hq) (Q : QD) (E : QX) : wCall g (n + 1) 19 ds hp Q E = (ds.length = 1 ∧ wSs g (wCall g n) b__law_fields (ds.map some ++ List.replicate 4 none) hp { nx := fun _ hp => Q .non hp, bk := fun _ _ => False, ct := fun _ _ => False, rt := Q, ex := fun c i _ hp => E c i hp }) := rfl
theorem call__law_worth (n : Nat) (ds : List D) (hp : Hq) (Q : QD) (E : QX) : wCall g (n + 1) 20 ds hp Q E = (ds.length = 1 ∧ wSs g (wCall g n) b__law_worth (ds.map some ++ List.replicate 0 none) hp { nx := fun _ hp => Q .non hp, bk := fun _ _ => False, ct := fun _ _ => False, rt := Q, ex := fun c i _ hp => E c i hp }) := rfl
theorem call__law_row (n : Nat) (ds : List D) (hp : Hq) (Q : QD) (E : QX) : wCall g (n + 1) 21 ds hp Q E = (ds.length = 2 ∧ wSs g (wCall g n) b__law_row (ds.map some ++ List.replicate 1 none) hp { nx := fun _ hp => Q .non hp, bk := fun _ _ => False, ct := fun _ _ => False, rt := Q, ex := fun c i _ hp => E c i hp }) := rfl
theorem call__law_is_some_row (n : Nat) (ds : List D) (hp : Hq) (Q : QD) (E : QX) : wCall g (n + 1) 22 ds hp Q E = (ds.length = 1 ∧ wSs g (wCall g n) b__law_is_some_row (ds.map some ++ List.replicate 0 none) hp { nx := fun _ hp => Q .non hp, bk := fun _ _ => False, ct := fun _ _ => False, rt := Q, ex := fun c i _ hp => E c i hp }) := rfl
theorem call__law_is_dealing (n : Nat) (ds : List D) (hp : Hq) (Q : QD) (E : QX) : wCall g (n + 1) 23 ds hp Q E = (ds.length = 1 ∧ wSs g (wCall g n) b__law_is_dealing (ds.map some ++ List.replicate 0 none) hp { nx := fun _ hp => Q .non hp, bk := fun _ _ => False, ct := fun _ _ => False, rt := Q, ex := fun c i _ hp => E c i hp }) := rfl
theorem call__law_sizes (n : Nat) (ds : List D) (hp : Hq) (Q : QD) (E : QX) : wCall g (n + 1) 24 ds hp Q E = (ds.length = 0 ∧ wSs g (wCall g n) b__law_sizes (ds.map some ++ List.replicate 0 none) hp { nx := fun _ hp => Q .non hp, bk := fun _ _ => False, ct := fun _ _ => False, rt := Q, ex := fun c i _ hp => E c i hp }) := rfl
theorem call__law_is_running (n : Nat) (ds : List D) (hp : Hq) (Q : QD) (E : QX) : wCall g (n + 1) 25 ds hp Q E = (ds.length = 1 ∧ wSs g (wCall g n) b__law_is_running (ds.map some ++ List.replicate 1 none) hp { nx := fun _ hp => Q .non hp, bk := fun _ _ => False, ct := fun _ _ => False, rt := Q, ex := fun c i _ hp => E c i hp }) := rfl
theorem call__law_is_rest (n : Nat) (ds : List D) (hp : Hq) (Q : QD) (E : QX) : wCall g (n + 1) 26 ds hp Q E = (ds.length = 2 ∧ wSs g (wCall g n) b__law_is_rest (ds.map some ++ List.replicate 1 none) hp { nx := fun _ hp => Q .non hp, bk := fun _ _ => False, ct := fun _ _ => False, rt := Q, ex := fun c i _ hp => E c i hp }) := rfl
theorem call__law_is_entry (n : Nat) (ds : List D) (hp : Hq) (Q : QD) (E : QX) : wCall g (n + 1) 27 ds hp Q E = (ds.length = 1 ∧ wSs g (wCall g n) b__law_is_entry (ds.map some ++ List.replicate 0 none) hp { nx := fun _ hp => Q .non hp, bk := fun _ _ => False, ct := fun _ _ => False, rt := Q, ex := fun c i _ hp => E c i hp }) := rfl
theorem call__law_bent_entry (n : Nat) (ds : List D) (hp : Hq) (Q : QD) (E : QX) : wCall g (n + 1) 28 ds hp Q E = (ds.length = 2 ∧ wSs g (wCall g n) b__law_bent_entry (ds.map some ++ List.replicate 4 none) hp { nx := fun _ hp => Q .non hp, bk := fun _ _ => False, ct := fun _ _ => False, rt := Q, ex := fun c i _ hp => E c i hp }) := rfl
theorem call__law_items (n : Nat) (ds : List D) (hp : Hq) (Q : QD) (E : QX) : wCall g (n + 1) 29 ds hp Q E = (ds.length = 0 ∧ wSs g (wCall g n) b__law_items (ds.map some ++ List.replicate 1 none) hp { nx := fun _ hp => Q .non hp, bk := fun _ _ => False, ct := fun _ _ => False, rt := Q, ex := fun c i _ hp => E c i hp }) := rfl
theorem call__law_plain_right (n : Nat) (ds : List D) (hp : Hq) (Q : QD) (E : QX) : wCall g (n + 1) 30 ds hp Q E = (ds.length = 1 ∧ wSs g (wCall g n) b__law_plain_right (ds.map some ++ List.replicate 3 none) hp { nx := fun _ hp => Q .non hp, bk := fun _ _ => False, ct := fun _ _ => False, rt := Q, ex := fun c i _ hp => E c i hp }) := rfl
theorem call__law_entries (n : Nat) (ds : List D) (hp : Hq) (Q : QD) (E : QX) : wCall g (n + 1) 31 ds hp Q E = (ds.length = 1 ∧ wSs g (wCall g n) b__law_entries (ds.map some ++ List.replicate 4 none) hp { nx := fun _ hp => Q .non hp, bk := fun _ _ => False, ct := fun _ _ => False, rt := Q, ex := fun c i _ hp => E c i hp }) := rfl
theorem call_law (n : Nat) (ds : List D) (hp : Hq) (Q : QD) (E : QX) : wCall g (n + 1) 32 ds hp Q E = (ds.length = 1 ∧ wSs g (wCall g n) b_law (ds.map some ++ List.replicate 7 none) hp { nx := fun _ hp => Q .non hp, bk := fun _ _ => False, ct := fun _ _ => False, rt := Q, ex := fun c i _ hp => E c i hp }) := rfl
end T
end MI
set_option maxHeartbeats 4000000
namespace MI.T
open PySem L2 MI
/-! heaps that grow -/
def Grow (a b : Hq) : Prop := ∃ l, b = a ++ l
theorem Grow.refl (a : Hq) : Grow a a := ⟨[], by simp⟩
theorem Grow.app {a l : Hq} : Grow a (a ++ l) := ⟨l, rfl⟩
theorem Grow.trans {a b c : Hq} (h1 : Grow a b) (h2 : Grow b c) : Grow a c := by
  obtain ⟨l, rfl⟩ := h1
  obtain ⟨m, rfl⟩ := h2
  exact ⟨l ++ m, by simp⟩
theorem Grow.get {a b : Hq} (h : Grow a b) {i : Nat} {o : O} (e : a[i]? = some o) : b[i]? = some o := by
  obtain ⟨l, rfl⟩ := h
  exact app_old e
theorem Grow.keep {a b : Hq} {P : Nat → Prop} (h : Grow a b) : Keep P a b := by
  obtain ⟨l, rfl⟩ := h
  exact .app
theorem new_at {a : Hq} {o : O} : (a ++ [o])[a.length]? = some o := by simp
/-! kinds of data -/
def isI : D → Bool | .int _ => true | _ => false
def isB : D → Bool | .bl _ => true | _ => false
def isS : D → Bool | .str _ => true | _ => false
def isT : D → Bool | .tup _ => true | _ => false
inductive Ok (hp : Hq) : D → Prop
  | non : Ok hp .non
  | bl (b : Bool) : Ok hp (.bl b)
  | int (i : Int) (h : -(10 ^ 60) ≤ i ∧ i ≤ 10 ^ 60) : Ok hp (.int i)
  | str (x : Str) (h : x.length ≤ 1000) : Ok hp (.str x)
  | tup (xs : List D) (hl : xs.length < 50) (h : ∀ x ∈ xs, Ok hp x) : Ok hp (.tup xs)
  | lst (i : Nat) (xs : List D) (h : hp[i]? = some (.lst xs)) : Ok hp (.ref i)
  | dic (i : Nat) (kvs : List (L2.Key × D)) (h : hp[i]? = some (.dic kvs)) : Ok hp (.ref i)
theorem Ok.grow {a b : Hq} {d : D} (h : Ok a d) (g : Grow a b) : Ok b d := by
  induction h with
  | non => exact .non
  | bl b => exact .bl b
  | int i h => exact .int i h
  | str x h => exact .str x h
  | tup xs hl _ ih => exact .tup xs hl ih
  | lst i xs h => exact .lst i xs (g.get h)
  | dic i kvs h => exact .dic i kvs (g.get h)
theorem Ok.all {hp : Hq} {xs : List D} (h : Ok hp (.tup xs)) : ∀ x ∈ xs, Ok hp x := by cases h; assumption
theorem Ok.lt {hp : Hq} {xs : List D} (h : Ok hp (.tup xs)) : xs.length < 50 := by cases h; assumption
section
variable {n : Nat} {hp : Hq} {Q : QD} {E : QX} {d : D}
theorem isi_gen {a b : String} (h : tyOf hp d = some a) (hb : tyAll.contains b = true) : oBF .isi [d, .ty b] hp = .ok (.bl (isiB a b)) hp := by
  show (match tyOf hp d with | some a => if tyAll.contains b then OutD.ok (.bl (isiB a b)) hp else .no | none => .no) = _
  rw [h]
  show (if tyAll.contains b then OutD.ok (.bl (isiB a b)) hp else .no) = _
  rw [if_pos hb]
theorem Ok.ty (h : Ok hp d) : ∃ a, tyOf hp d = some a ∧ isiB a "int" = (isI d || isB d) ∧ isiB a "bool" = isB d ∧ isiB a "str" = isS d ∧ isiB a "tuple" = isT d := by
  cases h with
  | non => exact ⟨_, rfl, by simp only [isI, isB, isS, isT]; decide +kernel⟩
  | bl b => exact ⟨_, rfl, by simp only [isI, isB, isS, isT]; decide +kernel⟩
  | int i h => exact ⟨_, rfl, by simp only [isI, isB, isS, isT]; decide +kernel⟩
  | str x h => exact ⟨_, rfl, by simp only [isI, isB, isS, isT]; decide +kernel⟩
  | tup xs hl h => exact ⟨_, rfl, by simp only [isI, isB, isS, isT]; decide +kernel⟩
  | lst i xs h => exact ⟨"list", by simp only [tyOf, h], by simp only [isI, isB, isS, isT]; decide +kernel⟩
  | dic i kvs h => exact ⟨"dict", by simp only [tyOf, h], by simp only [isI, isB, isS, isT]; decide +kernel⟩
theorem isi_i (h : Ok hp d) : oBF .isi [d, .ty "int"] hp = .ok (.bl (isI d || isB d)) hp := by
  obtain ⟨a, h1, h2, h3, h4, h5⟩ := h.ty
  rw [isi_gen h1 (by decide +kernel), h2]
theorem isi_b (h : Ok hp d) : oBF .isi [d, .ty "bool"] hp = .ok (.bl (isB d)) hp := by
  obtain ⟨a, h1, h2, h3, h4, h5⟩ := h.ty
  rw [isi_gen h1 (by decide +kernel), h3]
theorem isi_s (h : Ok hp d) : oBF .isi [d, .ty "str"] hp = .ok (.bl (isS d)) hp := by
  obtain ⟨a, h1, h2, h3, h4, h5⟩ := h.ty
  rw [isi_gen h1 (by decide +kernel), h4]
theorem isi_t (h : Ok hp d) : oBF .isi [d, .ty "tuple"] hp = .ok (.bl (isT d)) hp := by
  obtain ⟨a, h1, h2, h3, h4, h5⟩ := h.ty
  rw [isi_gen h1 (by decide +kernel), h5]
/-! comprehensions over things that stand -/
theorem lc_fix {nx : Nat → Hq → Option (Option D)} {body : D → Hq → (Option D → Hq → Prop) → Prop} {kk : List D → Hq → Prop} {xs : List D} {f : D → Option D} (hx : ∀ j hp', Grow hp hp' → nx j hp' = some xs[j]?) (hl : xs.length < SZ)
    (step : ∀ x ∈ xs, ∀ hp' kn, Grow hp hp' → (∀ hp'', Grow hp' hp'' → kn (f x) hp'') → body x hp' kn) (k : ∀ hp', Grow hp hp' → kk (xs.filterMap f) hp') : ∃ N, lcLoop nx body N 0 [] hp kk := by
  refine lc_run xs.length (fun j acc hp' => Grow hp hp' ∧ acc = (xs.take j).filterMap f) ?_ ?_ ?_ ⟨.refl _, by simp⟩
  · intro j acc hp' kn hj ⟨gr, ea⟩ k0 k1
    refine ⟨xs[j], by rw [hx j hp' gr, List.getElem?_eq_getElem hj], ?_⟩
    refine step _ (List.getElem_mem hj) hp' kn gr fun hp'' g2 => ?_
    have et : (xs.take (j + 1)).filterMap f = acc ++ (f xs[j]).toList := by
      rw [List.take_add_one, List.filterMap_append, ea, List.getElem?_eq_getElem hj]
      cases hf : f xs[j] <;> simp [hf]
    cases hf : f xs[j] with
    | none => exact k0 _ ⟨gr.trans g2, by rw [et, hf]; simp⟩
    | some y => exact k1 y _ ⟨gr.trans g2, by rw [et, hf]; rfl⟩
  · intro j acc hp' ⟨_, ea⟩
    have h1 := List.length_filterMap_le f (xs.take j)
    have h2 : (xs.take j).length ≤ xs.length := by rw [List.length_take]; omega
    rw [ea]
    omega
  · intro acc hp' ⟨gr, ea⟩
    refine ⟨by rw [hx _ hp' gr, List.getElem?_eq_none (Nat.le_refl _)], ?_⟩
    rw [ea, List.take_length]
    exact k hp' gr
theorem all_bl {q : Nat} {bs : List Bool} (h : hp[q]? = some (.lst (bs.map D.bl))) : oBF .all1 [.ref q] hp = .ok (.bl (bs.all id)) hp := by
  have e : ∀ bs : List Bool, boolsOf (bs.map D.bl) = some bs := by
    intro bs
    induction bs with
    | nil => rfl
    | cons b r ih =>
      rw [List.map_cons]
      unfold boolsOf
      rw [ih]
  show (match (lsOf hp (.ref q)).bind boolsOf with | some bs => OutD.ok (.bl (bs.all id)) hp | none => .no) = _
  have e2 : lsOf hp (.ref q) = some (bs.map D.bl) := gtL_of h
  rw [e2, Option.bind_some, e]
theorem eq_nil {q r : Nat} {xs : List D} (h1 : hp[q]? = some (.lst xs)) (h2 : hp[r]? = some (.lst [])) : oCmp .eq (.ref q) (.ref r) hp = .ok (.bl xs.isEmpty) hp := by
  rw [c_eqr]
  have e0 : oEq0 (.ref q) (.ref r) hp = .ok xs.isEmpty := by
    show (match gtL hp q, gtL hp r with | some xs, some [] => OutB.ok xs.isEmpty | _, _ => .no) = _
    rw [gtL_of h1, gtL_of h2]
  have e1 : oEqG (.ref q) (.ref r) hp = .ok xs.isEmpty := by
    show (match gtD hp q, gtD hp r with | some ks, some ls => oEqK ks ls | _, _ => oEqP (.ref q) (.ref r) hp) = _
    have : gtD hp q = none := by unfold gtD; rw [h1]
    rw [this]
    show oEqP (.ref q) (.ref r) hp = _
    unfold oEqP
    rw [e0]
  rw [e1]
  rfl
theorem ne_nil {q r : Nat} {xs : List D} (h1 : hp[q]? = some (.lst xs)) (h2 : hp[r]? = some (.lst [])) : oCmp .ne (.ref q) (.ref r) hp = .ok (.bl (!xs.isEmpty)) hp := by
  rw [c_ner]
  have e0 : oEq0 (.ref q) (.ref r) hp = .ok xs.isEmpty := by
    show (match gtL hp q, gtL hp r with | some xs, some [] => OutB.ok xs.isEmpty | _, _ => .no) = _
    rw [gtL_of h1, gtL_of h2]
  have e1 : oEqG (.ref q) (.ref r) hp = .ok xs.isEmpty := by
    show (match gtD hp q, gtD hp r with | some ks, some ls => oEqK ks ls | _, _ => oEqP (.ref q) (.ref r) hp) = _
    have : gtD hp q = none := by unfold gtD; rw [h1]
    rw [this]
    show oEqP (.ref q) (.ref r) hp = _
    unfold oEqP
    rw [e0]
  rw [e1]
  rfl
theorem eq_t0 {xs : List D} : oCmp .eq (.tup xs) (.tup []) hp = .ok (.bl xs.isEmpty) hp := by
  rw [c_eqt]
  rfl
/-! what a tuple's things tell -/
/-- all([e for one in thing]) -/
theorem all_run {cl : Cl} {i j : Nat} {e : Ex} {env : Env} {xs : List D} {f : D → Bool} (he : env[j]? = some (some (.tup xs))) (hl : xs.length < 50)
    (step : ∀ x ∈ xs, ∀ (hp' : Hq) (Q' : QD) (E' : QX), Grow hp hp' → (∀ hp'', Grow hp' hp'' → Q' (.bl (f x)) hp'') → wE g cl e ((wipeE env [i]).set i (some x)) hp' Q' E')
    (k : ∀ hp', Grow hp hp' → Q (.bl (xs.all f)) hp') : wE g cl (.blt .all1 (.cons (.lc [i] (.nm i) (.vl (.var j)) .no e) .nil)) env hp Q E := by
  simp only [wE, wEs, wIt, he, itSeq]
  refine lc_fix (xs := xs) (f := fun x => some (.bl (f x))) (fun j hp' _ => rfl) (by show _ < 16777216; omega) (fun x hx hp' kn gr kk => ?_) fun hp' gr => ?_
  · simp only [wTg, wEo]
    exact step x hx hp' _ _ gr fun hp'' g2 => kk hp'' g2
  · have e1 : xs.filterMap (fun x => some (D.bl (f x))) = (xs.map f).map D.bl := by
      rw [List.map_map, ← List.filterMap_eq_map]
      rfl
    rw [e1]
    show (oBF .all1 [.ref hp'.length] (hp' ++ [.lst ((xs.map f).map D.bl)])).app Q
    rw [all_bl new_at, a_ok]
    have e2 : (xs.map f).all id = xs.all f := by
      rw [List.all_map]
      rfl
    rw [e2]
    exact k _ (gr.trans .app)
/-- [one for one in thing if not e] == [] -/
theorem none_run {cl : Cl} {i : Nat} {it : Ix} {c : Ex} {env : Env} {xs : List D} {f : D → Bool} (hit : ∀ k E, k (itFix xs) hp → wIt g cl it env hp k E) (hl : xs.length < 50) (hi : i < env.length)
    (step : ∀ x ∈ xs, ∀ (hp' : Hq) (Q' : QD) (E' : QX), Grow hp hp' → (∀ hp'', Grow hp' hp'' → Q' (.bl (!f x)) hp'') → wE g cl c ((wipeE env [i]).set i (some x)) hp' Q' E') {neg : Bool}
    (k : ∀ hp', Grow hp hp' → Q (.bl (if neg then !xs.all f else xs.all f)) hp') : wE g cl (.cmp (if neg then .ne else .eq) (.lc [i] (.nm i) it (.so c) (.var i)) (.lst .nil)) env hp Q E := by
  simp only [wE, wEs]
  refine hit _ _ ?_
  refine lc_fix (xs := xs) (f := fun x => if f x then none else some x) (fun j hp' _ => rfl) (by show _ < 16777216; omega) (fun x hx hp' kn gr kk => ?_) fun hp' gr => ?_
  · simp only [wTg, wEo]
    refine step x hx hp' _ _ gr fun hp'' g2 => ?_
    have k2 := kk hp'' g2
    show (oTru (.bl (!f x)) hp'').app _
    rw [t_bl, ab_okB]
    have e3 : ((wipeE env [i]).set i (some x))[i]? = some (some x) := List.getElem?_set_self (by simpa [wipeE] using hi)
    cases hf : f x with
    | true =>
      rw [if_neg (by simp)]
      rw [hf] at k2
      exact k2
    | false =>
      rw [if_pos (by simp)]
      rw [hf] at k2
      rw [e3]
      exact k2
  · show (oCmp (if neg then .ne else .eq) (.ref hp'.length) (.ref (hp' ++ [O.lst (xs.filterMap fun x => if f x then none else some x)]).length) (hp' ++ [O.lst (xs.filterMap fun x => if f x then none else some x)] ++ [.lst []])).app Q
    have e1 : (xs.filterMap fun x => if f x then none else some x).isEmpty = xs.all f := by
      clear hit step k hl
      induction xs with
      | nil => rfl
      | cons x r ih =>
        rw [List.filterMap_cons, List.all_cons]
        cases hf : f x with
        | true => simpa using ih
        | false => simp
    have a1 : (hp' ++ [O.lst (xs.filterMap fun x => if f x then none else some x)] ++ [O.lst []])[hp'.length]? = some (.lst (xs.filterMap fun x => if f x then none else some x)) := app_old new_at
    have g2 : Grow hp (hp' ++ [O.lst (xs.filterMap fun x => if f x then none else some x)] ++ [.lst []]) := gr.trans ⟨_, List.append_assoc _ _ _⟩
    cases neg with
    | false =>
      show (oCmp .eq _ _ _).app Q
      rw [eq_nil a1 new_at, a_ok, e1]
      exact k _ g2
    | true =>
      show (oCmp .ne _ _ _).app Q
      rw [ne_nil a1 new_at, a_ok, e1]
      exact k _ g2
end
end MI.T
set_option maxHeartbeats 4000000
local macro_rules | `(tactic| walk_at "k1") => `(tactic| simp only [MI.wSs, MI.wS, MI.wE, MI.wEs, MI.wEo, MI.wTg, MI.wTgs, MI.a_ok, MI.a_cd, MI.ab_okB, MI.ab_cd, MI.t_bl, MI.t_non, MI.t_int, MI.c_le, MI.c_lt, MI.c_ge, MI.c_gt, MI.c_eqi, MI.c_eqs, MI.c_nei, MI.c_nes, MI.c_is, MI.v_ok, List.map_cons, List.map_nil, List.cons_append, List.nil_append, List.replicate, List.getElem?_cons_zero, List.getElem?_cons_succ, List.set_cons_zero, List.set_cons_succ, Option.getD_some, if_true, Bool.false_eq_true, if_false, Bool.not_true, Bool.not_false, reduceCtorEq])
namespace MI.T
open PySem L2 MI
/-! what the looks tell -/
def inI (a b : Int) : D → Bool | .int i => decide (a ≤ i) && decide (i ≤ b) | _ => false
abbrev LET : Str := "abcdefghijklmnopqrstuvwxyz"
def l16 (a : Nat) (b : Int) : Bool := decide ((1 : Int) ≤ (a : Int)) && decide ((a : Int) ≤ b)
def letB (x : Str) : Bool := x.cps.toList.all fun c => inTx ⟨#[c]⟩ LET
def wordB : D → Bool | .str x => l16 x.length 8 && letB x | _ => false
abbrev worthB : D → Bool := inI (-1000000000) 1000000000
abbrev dealB : D → Bool := inI 0 9999
abbrev tableB : D → Bool := inI 0 9
def placeB : D → Bool | .int i => decide (0 ≤ i) | _ => false
def rowB : D → Bool | .tup xs => l16 xs.length 6 && xs.all worthB | _ => false
def distB (xs : List D) : Bool := match strsOf xs with | some ys => decide (((uq ys).length : Int) = (ys.length : Int)) | none => false
def fieldsB : D → Bool | .tup xs => l16 xs.length 6 && (xs.all wordB && distB xs) | _ => false
def mayB (d : D) : Bool := isNon d || wordB d
def ltB : D → D → Bool | .int i, .int j => decide (i < j) | _, _ => false
def chainB : List D → Bool | x :: y :: r => ltB x y && chainB (y :: r) | _ => true
def dealsB : D → Bool | .tup xs => xs.all dealB && chainB xs | _ => false
theorem con0 : g.consts[0]? = some (.int 8) := rfl
theorem con1 : g.consts[1]? = some (.str LET) := rfl
theorem con2 : g.consts[2]? = some (.int 1000000000) := rfl
theorem con3 : g.consts[3]? = some (.int 6) := rfl
theorem con4 : g.consts[4]? = some (.int 9) := rfl
theorem con5 : g.consts[5]? = some (.int 9999) := rfl
section
variable {n : Nat} {hp : Hq} {Q : QD} {E : QX} {d : D}
theorem whole_run (h : Ok hp d) (k : Q (.bl (isI d)) hp) : wCall g (n + 1) 0 [d] hp Q E := by
  rw [call_is_whole]
  refine ⟨rfl, ?_⟩
  unfold b_is_whole
  (try walk_at "k1")
  simp only [isi_i h, isi_b h]
  (try walk_at "k1")
  cases d <;> exact k
theorem whole0 (h : Ok hp d) (k : Q (.bl (isI d)) hp) : wCall g (n + 1) 0 [d] hp Q E := whole_run h k
theorem within_run {a b : Int} (h : Ok hp d) (k : Q (.bl (inI a b d)) hp) : wCall g (n + 2) 1 [d, .int a, .int b] hp Q E := by
  rw [call_is_within]
  refine ⟨rfl, ?_⟩
  unfold b_is_within
  (try walk_at "k1")
  refine whole_run h ?_
  cases d with
  | int i =>
    (try walk_at "k1")
    simp only [isI]
    (try walk_at "k1")
    by_cases q : a ≤ i
    · simp only [q, decide_true]
      (try walk_at "k1")
      simpa [inI, q] using k
    · simp only [q, decide_false]
      simpa [inI, q] using k
  | _ => (try walk_at "k1"); simp only [isI]; (try walk_at "k1"); exact k
theorem worth_run (h : Ok hp d) (k : Q (.bl (worthB d)) hp) : wCall g (n + 3) 3 [d] hp Q E := by
  rw [call_is_worth]
  refine ⟨rfl, ?_⟩
  unfold b_is_worth
  simp only [wSs, wS, wE, wEs, wEo, con2]
  (try walk_at "k1")
  exact within_run h k
theorem table_run (h : Ok hp d) (k : Q (.bl (tableB d)) hp) : wCall g (n + 3) 7 [d] hp Q E := by
  rw [call_is_table]
  refine ⟨rfl, ?_⟩
  unfold b_is_table
  simp only [wSs, wS, wE, wEs, wEo, con4]
  (try walk_at "k1")
  exact within_run h k
theorem deal_run (h : Ok hp d) (k : Q (.bl (dealB d)) hp) : wCall g (n + 3) 8 [d] hp Q E := by
  rw [call_is_dealing]
  refine ⟨rfl, ?_⟩
  unfold b_is_dealing
  simp only [wSs, wS, wE, wEs, wEo, con5]
  (try walk_at "k1")
  exact within_run h k
theorem place_run (h : Ok hp d) (k : Q (.bl (placeB d)) hp) : wCall g (n + 2) 6 [d] hp Q E := by
  rw [call_is_place]
  refine ⟨rfl, ?_⟩
  unfold b_is_place
  (try walk_at "k1")
  refine whole_run h ?_
  cases d <;> ((try walk_at "k1"); simp only [isI]; (try walk_at "k1"); exact k)
theorem len_s {x : Str} (h : x.length ≤ 1000) : oBF .len [.str x] hp = .cd (x.length ≤ SZ) (.int x.length) hp := rfl
theorem word_run (h : Ok hp d) (k : ∀ hp', Grow hp hp' → Q (.bl (wordB d)) hp') : wCall g (n + 1) 2 [d] hp Q E := by
  rw [call_is_word]
  refine ⟨rfl, ?_⟩
  unfold b_is_word
  generalize hA : (Ex.blt .all1 (.cons (.lc [1] (.nm 1) (.vl (.var 0)) .no (.cmp .isin (.var 1) (.glob 1))) .nil)) = A
  simp only [wSs, wS, wE, wEs, wEo, con0]
  (try walk_at "k1")
  simp only [isi_s h]
  (try walk_at "k1")
  cases d with
  | str x =>
    have hx : x.length ≤ 1000 := by cases h; assumption
    simp only [isS]
    (try walk_at "k1")
    rw [len_s hx]
    (try walk_at "k1")
    refine ⟨by show _ ≤ 16777216; omega, ?_⟩
    by_cases q1 : (1 : Int) ≤ (x.length : Int)
    · simp only [q1, decide_true]
      (try walk_at "k1")
      by_cases q2 : (x.length : Int) ≤ 8
      · simp only [q2, decide_true]
        (try walk_at "k1")
        rw [← hA]
        simp only [wE, wEs, wIt, itSeq, List.getElem?_cons_zero]
        refine lc_fix (xs := x.cps.toList.map fun c => D.str ⟨#[c]⟩) (f := fun y => match y with | .str z => some (.bl (inTx z LET)) | _ => none) (fun j hp' _ => by rw [List.getElem?_map, Array.getElem?_toList]) (by rw [List.length_map, Array.length_toList]; show _ < 16777216; have : x.length = x.cps.size := rfl; omega) (fun y hy hp' kn gr kk => ?_) fun hp' gr => ?_
        · obtain ⟨c, hc, rfl⟩ := List.mem_map.mp hy
          simp only [wTg, wEo, wE, wEs, con1, wipeE]
          (try walk_at "k1")
          show ((oIn (.str ⟨#[c]⟩) (.str LET) hp').val false hp').app _
          rw [show oIn (.str ⟨#[c]⟩) (.str LET) hp' = .ok (inTx ⟨#[c]⟩ LET) from rfl, v_ok, a_ok]
          exact kk hp' (.refl _)
        · have e1 : (x.cps.toList.map fun c => D.str ⟨#[c]⟩).filterMap (fun y => match y with | .str z => some (D.bl (inTx z LET)) | _ => none) = (x.cps.toList.map fun c => inTx ⟨#[c]⟩ LET).map D.bl := by
            rw [List.filterMap_map, List.map_map, ← List.filterMap_eq_map]
            rfl
          rw [e1]
          show (oBF .all1 [.ref hp'.length] (hp' ++ [.lst ((x.cps.toList.map fun c => inTx ⟨#[c]⟩ LET).map D.bl)])).app Q
          rw [all_bl new_at, a_ok]
          have e2 : ((x.cps.toList.map fun c => inTx ⟨#[c]⟩ LET).all id) = letB x := by
            rw [List.all_map]
            rfl
          rw [e2]
          have := k _ (gr.trans (@Grow.app hp' [.lst ((x.cps.toList.map fun c => inTx ⟨#[c]⟩ LET).map D.bl)]))
          simpa [wordB, l16, q1, q2] using this
      · simp only [q2, decide_false]
        (try walk_at "k1")
        have := k hp (.refl _)
        simpa [wordB, l16, q1, q2] using this
    · simp only [q1, decide_false]
      (try walk_at "k1")
      have := k hp (.refl _)
      simpa [wordB, l16, q1] using this
  | _ => simp only [isS]; (try walk_at "k1"); exact k hp (.refl _)
theorem row_run (h : Ok hp d) (k : ∀ hp', Grow hp hp' → Q (.bl (rowB d)) hp') : wCall g (n + 4) 4 [d] hp Q E := by
  rw [call_is_row]
  refine ⟨rfl, ?_⟩
  unfold b_is_row
  generalize hA : (Ex.blt .all1 (.cons (.lc [1] (.nm 1) (.vl (.var 0)) .no (.call 3 (.cons (.var 1) .nil))) .nil)) = A
  simp only [wSs, wS, wE, wEs, wEo, con3]
  (try walk_at "k1")
  simp only [isi_t h]
  (try walk_at "k1")
  cases d with
  | tup xs =>
    simp only [isT]
    (try walk_at "k1")
    rw [len_t]
    (try walk_at "k1")
    by_cases q1 : (1 : Int) ≤ (xs.length : Int)
    · simp only [q1, decide_true]
      (try walk_at "k1")
      by_cases q2 : (xs.length : Int) ≤ 6
      · simp only [q2, decide_true]
        (try walk_at "k1")
        rw [← hA]
        refine all_run (f := worthB) rfl h.lt (fun x hx hp' Q' E' gr kk => ?_) fun hp' gr => ?_
        · simp only [wE, wEs, wipeE]
          (try walk_at "k1")
          exact worth_run ((h.all x hx).grow gr) (kk _ (.refl _))
        · have := k _ gr
          simpa [rowB, l16, q1, q2] using this
      · simp only [q2, decide_false]
        (try walk_at "k1")
        have := k hp (.refl _)
        simpa [rowB, l16, q1, q2] using this
    · simp only [q1, decide_false]
      (try walk_at "k1")
      have := k hp (.refl _)
      simpa [rowB, l16, q1] using this
  | _ => simp only [isT]; (try walk_at "k1"); exact k hp (.refl _)
theorem may_run (h : Ok hp d) (k : ∀ hp', Grow hp hp' → Q (.bl (mayB d)) hp') : wCall g (n + 2) 9 [d] hp Q E := by
  rw [call_may_be_word]
  refine ⟨rfl, ?_⟩
  unfold b_may_be_word
  (try walk_at "k1")
  cases q : isNon d with
  | true => (try walk_at "k1"); have := k hp (.refl _); simpa [mayB, q] using this
  | false =>
    (try walk_at "k1")
    refine word_run h fun hp' gr => ?_
    have := k hp' gr
    simpa [mayB, q] using this
end
end MI.T
set_option maxHeartbeats 4000000
local macro_rules | `(tactic| walk_at "k1") => `(tactic| simp only [MI.wSs, MI.wS, MI.wE, MI.wEs, MI.wEo, MI.wTg, MI.wTgs, MI.a_ok, MI.a_cd, MI.ab_okB, MI.ab_cd, MI.t_bl, MI.t_non, MI.t_int, MI.c_le, MI.c_lt, MI.c_ge, MI.c_gt, MI.c_eqi, MI.c_eqs, MI.c_nei, MI.c_nes, MI.c_is, MI.v_ok, List.map_cons, List.map_nil, List.cons_append, List.nil_append, List.replicate, List.getElem?_cons_zero, List.getElem?_cons_succ, List.set_cons_zero, List.set_cons_succ, Option.getD_some, if_true, Bool.false_eq_true, if_false, Bool.not_true, Bool.not_false, reduceCtorEq])
namespace MI.T
open PySem L2 MI
theorem cut_from {α : Type} (xs : List α) (k : Nat) : cutD xs (some (k : Int)) none = xs.drop k := by
  unfold cutD
  rw [HT.sIx_none, HT.sIx_nat]
  by_cases h : k ≤ xs.length
  · rw [Nat.min_eq_left h]
    rw [List.take_of_length_le (by simp)]
  · rw [Nat.min_eq_right (by omega), List.drop_eq_nil_of_le (Nat.le_refl _), List.drop_eq_nil_of_le (by omega)]
    simp
theorem cut_1 (xs : List D) : cutD xs (some 1) none = xs.drop 1 := cut_from xs 1
theorem cut_2 (xs : List D) : cutD xs (some 2) none = xs.drop 2 := cut_from xs 2
theorem dput_k {α : Type} {kvs : List (L2.Key × α)} {k : L2.Key} {v : α} : (dput kvs k v).map (·.1) = uqS (kvs.map (·.1)) k := by
  unfold uqS
  by_cases h : k ∈ kvs.map (·.1)
  · rw [if_pos h]
    unfold dput
    rw [if_pos (any_key.mpr h), List.map_map]
    exact List.map_congr_left fun kv _ => by
      show (if kv.1 = k then (kv.1, v) else kv).1 = kv.1
      split <;> rfl
  · rw [if_neg h, dput_new h, List.map_append]
    rfl
theorem uqS_map {ys : List Str} {y : Str} : uqS (ys.map (Sum.inr : Str → L2.Key)) (.inr y) = (uqS ys y).map Sum.inr := by
  unfold uqS
  have e : ((Sum.inr y : L2.Key) ∈ ys.map (Sum.inr : Str → L2.Key)) ↔ y ∈ ys := by simp
  by_cases h : y ∈ ys
  · rw [if_pos h, if_pos (e.mpr h)]
  · rw [if_neg h, if_neg fun z => h (e.mp z), List.map_append]
    rfl
theorem dc_words {hp : Hq} {nx : Nat → Hq → Option (Option D)} {body : D → Hq → (Option (D × D) → Hq → Prop) → Prop} {kk : List (L2.Key × D) → Hq → Prop} {ys : List Str} (hx : ∀ j hp', nx j hp' = some (ys.map D.str)[j]?) (hl : ys.length < 50)
    (step : ∀ y ∈ ys, ∀ hp' kn, kn (some (.str y, .bl true)) hp' → body (.str y) hp' kn) (k : ∀ kvs, kvs.length = (uq ys).length → kk kvs hp) : ∃ N, dcLoop nx body N 0 [] hp kk := by
  have go : ∀ m j acc, m + j = ys.length → acc.map (·.1) = (uq (ys.take j)).map (Sum.inr : Str → L2.Key) → dcLoop nx body (m + 1) j acc hp kk := by
    intro m
    induction m with
    | zero =>
      intro j acc e ha
      have e : j = ys.length := by omega
      subst e
      unfold dcLoop
      rw [hx, List.getElem?_eq_none (by simp)]
      refine k acc ?_
      have := congrArg List.length ha
      simpa using this
    | succ m ih =>
      intro j acc e ha
      have hj : j < ys.length := by omega
      unfold dcLoop
      have e1 : (ys.map D.str)[j]? = some (.str ys[j]) := by rw [List.getElem?_map, List.getElem?_eq_getElem hj]; rfl
      rw [hx, e1]
      refine step _ (List.getElem_mem hj) hp _ ?_
      show acc.length < SZ ∧ dcLoop nx body (m + 1) (j + 1) (dput acc (.inr ys[j]) (.bl true)) hp kk
      have l1 : acc.length = (uq (ys.take j)).length := by
        have := congrArg List.length ha
        simpa using this
      have l2 := uq_le (ys.take j)
      have l3 : (ys.take j).length ≤ ys.length := by rw [List.length_take]; omega
      refine ⟨by show _ < 16777216; omega, ih (j + 1) _ (by omega) ?_⟩
      rw [dput_k, ha, uqS_map, uq_take (List.getElem?_eq_getElem hj)]
  exact ⟨ys.length + 1, go ys.length 0 [] rfl rfl⟩
theorem words_strs : ∀ xs : List D, xs.all wordB = true → ∃ ys, strsOf xs = some ys ∧ xs = ys.map D.str
  | [], _ => ⟨[], rfl, rfl⟩
  | x :: r, h => by
    rw [List.all_cons, Bool.and_eq_true] at h
    obtain ⟨ys, h1, h2⟩ := words_strs r h.2
    cases x with
    | str z =>
      refine ⟨z :: ys, ?_, ?_⟩
      · unfold strsOf
        rw [h1]
      · rw [h2]; rfl
    | _ => simp [wordB] at h
theorem deals_ints : ∀ (xs : List D) {a b : Int}, xs.all (inI a b) = true → ∃ ns : List Int, intsOf xs = some ns ∧ xs = ns.map D.int
  | [], _, _, _ => ⟨[], rfl, rfl⟩
  | x :: r, a, b, h => by
    rw [List.all_cons, Bool.and_eq_true] at h
    obtain ⟨ys, h1, h2⟩ := deals_ints r h.2
    cases x with
    | int z =>
      refine ⟨z :: ys, ?_, ?_⟩
      · unfold intsOf
        rw [h1]
      · rw [h2]; rfl
    | _ => simp [inI] at h
theorem len_d {hp : Hq} {p : Nat} {kvs : List (L2.Key × D)} (h : hp[p]? = some (.dic kvs)) : oBF .len [.ref p] hp = .ok (.int kvs.length) hp := by
  show (match hp[p]? with | some (.lst xs) => OutD.ok (.int xs.length) hp | some (.dic kvs) => .ok (.int kvs.length) hp | some (.fdic kvs) => .ok (.int kvs.length) hp | _ => .no) = _
  rw [h]
theorem chain_zip : ∀ ns : List Int, ((List.zipWith (fun x y => D.tup [x, y]) (ns.map D.int) ((ns.map D.int).drop 1)).map fun z => match z with | .tup [x, y] => ltB x y | _ => false).all id = chainB (ns.map D.int)
  | [] => rfl
  | [a] => rfl
  | a :: b :: r => by
    have ih := chain_zip (b :: r)
    simp only [List.map_cons, List.drop_succ_cons, List.drop_zero, List.zipWith_cons_cons, List.all_cons, chainB, id] at ih ⊢
    rw [ih]
section
variable {n : Nat} {hp : Hq} {Q : QD} {E : QX} {d : D}
theorem fields_run (h : Ok hp d) (k : ∀ hp', Grow hp hp' → Q (.bl (fieldsB d)) hp') : wCall g (n + 2) 5 [d] hp Q E := by
  rw [call_are_fields]
  refine ⟨rfl, ?_⟩
  unfold b_are_fields
  generalize hA : (Ex.blt .all1 (.cons (.lc [1] (.nm 1) (.vl (.var 0)) .no (.call 2 (.cons (.var 1) .nil))) .nil)) = A
  generalize hB : (Ex.dc [2] (.nm 2) (.vl (.var 0)) .no (.var 2) (.lit (.bl true))) = B
  simp only [wSs, wS, wE, wEs, wEo, con3]
  (try walk_at "k1")
  simp only [isi_t h]
  (try walk_at "k1")
  cases d with
  | tup xs =>
    simp only [isT]
    (try walk_at "k1")
    rw [len_t]
    (try walk_at "k1")
    by_cases q1 : (1 : Int) ≤ (xs.length : Int)
    · simp only [q1, decide_true]
      (try walk_at "k1")
      by_cases q2 : (xs.length : Int) ≤ 6
      · simp only [q2, decide_true]
        (try walk_at "k1")
        rw [← hA]
        refine all_run (f := wordB) rfl h.lt (fun x hx hp' Q' E' gr kk => ?_) fun hp' gr => ?_
        · simp only [wE, wEs, wipeE]
          (try walk_at "k1")
          exact word_run ((h.all x hx).grow gr) kk
        · (try walk_at "k1")
          cases ha : xs.all wordB with
          | false =>
            (try walk_at "k1")
            have := k hp' gr
            simpa [fieldsB, ha] using this
          | true =>
            (try walk_at "k1")
            obtain ⟨ys, h1, h2⟩ := words_strs xs ha
            have hlt := h.lt
            rw [← hB]
            simp only [wE, wIt, List.getElem?_cons_zero, itSeq]
            refine dc_words (ys := ys) (fun j hp'' => by rw [← h2]; rfl) (by rw [h2, List.length_map] at hlt; exact hlt) (fun y hy hp'' kn kk => ?_) fun kvs hk => ?_
            · simp only [wTg, wEo, wE, wipeE]
              (try walk_at "k1")
              exact kk
            · show (oBF .len [.ref hp'.length] (hp' ++ [.dic kvs])).app _
              rw [len_d new_at, a_ok]
              (try walk_at "k1")
              rw [len_t]
              (try walk_at "k1")
              have e3 : decide ((kvs.length : Int) = (xs.length : Int)) = distB xs := by
                unfold distB
                rw [h1, hk]
                have : xs.length = ys.length := by rw [h2, List.length_map]
                rw [this]
              rw [e3]
              have := k _ (gr.trans (@Grow.app hp' [.dic kvs]))
              simpa [fieldsB, ha, l16, q1, q2] using this
      · simp only [q2, decide_false]
        (try walk_at "k1")
        have := k hp (.refl _)
        simpa [fieldsB, l16, q1, q2] using this
    · simp only [q1, decide_false]
      (try walk_at "k1")
      have := k hp (.refl _)
      simpa [fieldsB, l16, q1] using this
  | _ => simp only [isT]; (try walk_at "k1"); exact k hp (.refl _)
end
end MI.T
set_option maxHeartbeats 4000000
local macro_rules | `(tactic| walk_at "k1") => `(tactic| simp only [MI.wSs, MI.wS, MI.wE, MI.wEs, MI.wEo, MI.wTg, MI.wTgs, MI.a_ok, MI.a_cd, MI.ab_okB, MI.ab_cd, MI.t_bl, MI.t_non, MI.t_int, MI.c_le, MI.c_lt, MI.c_ge, MI.c_gt, MI.c_eqi, MI.c_eqs, MI.c_nei, MI.c_nes, MI.c_is, MI.v_ok, List.map_cons, List.map_nil, List.cons_append, List.nil_append, List.replicate, List.getElem?_cons_zero, List.getElem?_cons_succ, List.set_cons_zero, List.set_cons_succ, Option.getD_some, if_true, Bool.false_eq_true, if_false, Bool.not_true, Bool.not_false, reduceCtorEq])
namespace MI.T
open PySem L2 MI
theorem zip_nx {xs ys : List D} {j : Nat} {hp : Hq} : (itZipT xs ys).nx j hp = some (List.zipWith (fun x y => D.tup [x, y]) xs ys)[j]? := by
  show (match xs[j]?, ys[j]? with | some x, some y => some (some (D.tup [x, y])) | _, _ => some none) = _
  rw [List.getElem?_zipWith]
  cases xs[j]? <;> cases ys[j]? <;> rfl
theorem zip_mem {xs ys : List D} {z : D} (h : z ∈ List.zipWith (fun x y => D.tup [x, y]) xs ys) : ∃ x ∈ xs, ∃ y ∈ ys, z = .tup [x, y] := by
  obtain ⟨i, hi⟩ := List.mem_iff_getElem?.mp h
  rw [List.getElem?_zipWith] at hi
  cases e1 : xs[i]? with
  | none => rw [e1] at hi; cases hi
  | some x =>
    cases e2 : ys[i]? with
    | none => rw [e1, e2] at hi; cases hi
    | some y =>
      rw [e1, e2] at hi
      cases hi
      exact ⟨x, List.mem_of_getElem? e1, y, List.mem_of_getElem? e2, rfl⟩
/-- all([e for one, other in zip(..)]) -/
theorem allz_run {n : Nat} {hp : Hq} {Q : QD} {E : QX} {cl : Cl} {a b : Nat} {it : Ix} {e : Ex} {env : Env} {xs ys : List D} {f : D → D → Bool} (hit : ∀ k E, k (itZipT xs ys) hp → wIt g cl it env hp k E) (hl : xs.length < 50)
    (step : ∀ x ∈ xs, ∀ y ∈ ys, ∀ (hp' : Hq) (Q' : QD) (E' : QX), Grow hp hp' → (∀ hp'', Grow hp' hp'' → Q' (.bl (f x y)) hp'') → wE g cl e (((wipeE env [a, b]).set a (some x)).set b (some y)) hp' Q' E')
    (k : ∀ hp', Grow hp hp' → Q (.bl ((List.zipWith f xs ys).all id)) hp') : wE g cl (.blt .all1 (.cons (.lc [a, b] (.tp (.cons (.nm a) (.cons (.nm b) .nil))) it .no e) .nil)) env hp Q E := by
  simp only [wE, wEs]
  refine hit _ _ ?_
  have hz : (List.zipWith (fun x y => D.tup [x, y]) xs ys).length < SZ := by
    rw [List.length_zipWith]
    show _ < 16777216
    omega
  refine lc_fix (xs := List.zipWith (fun x y => D.tup [x, y]) xs ys) (f := fun z => match z with | .tup [x, y] => some (.bl (f x y)) | _ => none) (fun j hp' _ => zip_nx) hz (fun z hz hp' kn gr kk => ?_) fun hp' gr => ?_
  · obtain ⟨x, hx, y, hy, rfl⟩ := zip_mem hz
    simp only [wTg, wTgs, wEo]
    exact ⟨rfl, step x hx y hy hp' _ _ gr fun hp'' g2 => kk hp'' g2⟩
  · have e1 : (List.zipWith (fun x y => D.tup [x, y]) xs ys).filterMap (fun z => match z with | .tup [x, y] => some (D.bl (f x y)) | _ => none) = (List.zipWith f xs ys).map D.bl := by
      clear hit step k hl hz gr
      induction xs generalizing ys with
      | nil => rfl
      | cons x r ih =>
        cases ys with
        | nil => rfl
        | cons y s =>
          simp only [List.zipWith_cons_cons, List.filterMap_cons, List.map_cons]
          rw [ih]
    rw [e1]
    show (oBF .all1 [.ref hp'.length] (hp' ++ [.lst ((List.zipWith f xs ys).map D.bl)])).app Q
    rw [all_bl new_at, a_ok]
    exact k _ (gr.trans .app)
theorem chain_zipB : ∀ xs : List D, (List.zipWith ltB xs (xs.drop 1)).all id = chainB xs
  | [] => rfl
  | [a] => rfl
  | a :: b :: r => by
    have ih := chain_zipB (b :: r)
    simp only [List.drop_succ_cons, List.drop_zero, List.zipWith_cons_cons, List.all_cons, chainB, id] at ih ⊢
    rw [← ih]
/-! the looks of the entries -/
def lk : Nat → D → Bool
  | 2, d => wordB d
  | 4, d => rowB d
  | 5, d => fieldsB d
  | 6, d => placeB d
  | 7, d => tableB d
  | 8, d => dealB d
  | 9, d => mayB d
  | 10, d => dealsB d
  | _, _ => false
def fKeys : List Str := ["within", "from", "form", "put", "change", "strike", "ready", "sure", "off", "running"]
def fLks : List (List Nat) := [[8, 8], [8, 2, 6], [8, 7, 2, 5], [8, 7, 4], [8, 7, 4, 4], [8, 7, 4], [8, 2], [8, 9], [8, 9], [10]]
def lget : List Str → List (List Nat) → Str → Option (List Nat)
  | k :: ks, d :: ds, x => if k = x then some d else lget ks ds x
  | _, _, _ => none
abbrev forms (w : Str) : Option (List Nat) := lget fKeys fLks w
theorem kget_map : ∀ (ks : List Str) (ls : List (List Nat)) (w : Str), kget ks (ls.map fun l => D.tup (l.map D.fn)) w = (lget ks ls w).map fun l => D.tup (l.map D.fn)
  | [], _, _ => rfl
  | _ :: _, [], _ => rfl
  | k :: ks, l :: ls, w => by
    rw [List.map_cons]
    unfold kget lget
    split
    · rfl
    · exact kget_map ks ls w
theorem con6 : g.consts[6]? = some (.kd fKeys (fLks.map fun l => D.tup (l.map D.fn))) := rfl
theorem lget_mem : ∀ (ks : List Str) (ls : List (List Nat)) (w : Str) (l : List Nat), lget ks ls w = some l → l ∈ ls
  | [], _, _, _, h => by cases h
  | _ :: _, [], _, _, h => by cases h
  | k :: ks, l :: ls, w, m, h => by
    unfold lget at h
    split at h
    · cases h; exact List.mem_cons_self
    · exact List.mem_cons_of_mem _ (lget_mem ks ls w m h)
def neB : D → D → Bool | .int i, .int j => !decide (i = j) | _, _ => true
def fitB (ls : List Nat) (r : List D) : Bool := decide ((ls.length : Int) = (r.length : Int)) && (List.zipWith lk ls r).all id
def apB (w : Str) (r : List D) : Bool := !decide (w = "within") || neB (r.getD 0 .non) (r.getD 1 .non)
def entB : D → Bool
  | .tup (.str w :: r) => match forms w with
    | some ls => fitB ls r && apB w r
    | none => false
  | _ => false
section
variable {n : Nat} {hp : Hq} {Q : QD} {E : QX} {d : D}
theorem deals_run (h : Ok hp d) (k : ∀ hp', Grow hp hp' → Q (.bl (dealsB d)) hp') : wCall g (n + 4) 10 [d] hp Q E := by
  rw [call_are_dealings]
  refine ⟨rfl, ?_⟩
  unfold b_are_dealings
  generalize hA : (Ex.blt .all1 (.cons (.lc [1] (.nm 1) (.vl (.var 0)) .no (.call 8 (.cons (.var 1) .nil))) .nil)) = A
  generalize hB : (Ex.blt .all1 (.cons (.lc [1, 2] (.tp (.cons (.nm 1) (.cons (.nm 2) .nil))) (.zip2 (.var 0) (.sl (.var 0) (.so (.lit (.int 1))) .no)) .no (.cmp .lt (.var 1) (.var 2))) .nil)) = B
  (try walk_at "k1")
  simp only [isi_t h]
  (try walk_at "k1")
  cases d with
  | tup xs =>
    simp only [isT]
    (try walk_at "k1")
    rw [← hA]
    refine all_run (f := dealB) rfl h.lt (fun x hx hp' Q' E' gr kk => ?_) fun hp' gr => ?_
    · simp only [wE, wEs, wipeE]
      (try walk_at "k1")
      exact deal_run ((h.all x hx).grow gr) (kk _ (.refl _))
    · (try walk_at "k1")
      cases ha : xs.all dealB with
      | false =>
        (try walk_at "k1")
        have := k hp' gr
        simpa [dealsB, ha] using this
      | true =>
        (try walk_at "k1")
        rw [← hB]
        obtain ⟨ns, h1, h2⟩ := deals_ints xs ha
        refine allz_run (n := n) (xs := xs) (ys := xs.drop 1) (f := ltB) (fun k E kk => ?_) h.lt (fun x hx y hy hp'' Q' E' g2 kk => ?_) fun hp'' g2 => ?_
        · simp only [wIt, wE, wEo, List.getElem?_cons_zero, bnd, sl_tup, a_ok, cut_1]
          exact kk
        · simp only [wE, wipeE]
          (try walk_at "k1")
          have iz : ∀ z ∈ xs, ∃ i, z = .int i := fun z hz => by
            rw [h2] at hz
            obtain ⟨i, _, e⟩ := List.mem_map.mp hz
            exact ⟨i, e.symm⟩
          obtain ⟨i, rfl⟩ := iz x hx
          obtain ⟨j, rfl⟩ := iz y (List.mem_of_mem_drop hy)
          (try walk_at "k1")
          exact kk _ (.refl _)
        · rw [chain_zipB]
          have := k _ (gr.trans g2)
          simpa [dealsB, ha] using this
  | _ => simp only [isT]; (try walk_at "k1"); exact k hp (.refl _)
theorem look_run (h : Ok hp d) {l : Nat} {ls : List Nat} (hm : ls ∈ fLks) (hl : l ∈ ls) (k : ∀ hp', Grow hp hp' → Q (.bl (lk l d)) hp') : wCall g (n + 4) l [d] hp Q E := by
  have : l = 2 ∨ l = 4 ∨ l = 5 ∨ l = 6 ∨ l = 7 ∨ l = 8 ∨ l = 9 ∨ l = 10 := by
    revert hl
    revert hm
    unfold fLks
    simp only [List.mem_cons, List.not_mem_nil, or_false]
    rintro (rfl | rfl | rfl | rfl | rfl | rfl | rfl | rfl | rfl | rfl) <;> simp only [List.mem_cons, List.not_mem_nil, or_false] <;> omega
  rcases this with rfl | rfl | rfl | rfl | rfl | rfl | rfl | rfl
  · exact word_run h k
  · exact row_run h k
  · exact fields_run h k
  · exact place_run h (k _ (.refl _))
  · exact table_run h (k _ (.refl _))
  · exact deal_run h (k _ (.refl _))
  · exact may_run h k
  · exact deals_run h k
theorem in_kd {w : Str} {neg : Bool} : (oIn (.str w) (.kd fKeys (fLks.map fun l => D.tup (l.map D.fn))) hp).val neg hp = .ok (.bl (if neg then !(forms w).isSome else (forms w).isSome)) hp := by
  show (OutB.ok (kget fKeys (fLks.map fun l => D.tup (l.map D.fn)) w).isSome).val neg hp = _
  rw [kget_map, v_ok]
  show _ = OutD.ok (D.bl (if neg then !(lget fKeys fLks w).isSome else (lget fKeys fLks w).isSome)) hp
  cases lget fKeys fLks w <;> rfl
theorem ix_kd {w : Str} {ls : List Nat} (e : forms w = some ls) : oIx (.kd fKeys (fLks.map fun l => D.tup (l.map D.fn))) (.str w) hp = .ok (.tup (ls.map D.fn)) hp := by
  show (match kget fKeys (fLks.map fun l => D.tup (l.map D.fn)) w with | some d => OutD.ok d hp | none => .no) = _
  have e : lget fKeys fLks w = some ls := e
  rw [kget_map, e]
  rfl
theorem zip_lk (ls : List Nat) (r : List D) (f : D → D → Bool) (hf : ∀ l x, f (.fn l) x = lk l x) : List.zipWith f (ls.map D.fn) r = List.zipWith lk ls r := by
  induction ls generalizing r with
  | nil => rfl
  | cons l ls ih =>
    cases r with
    | nil => rfl
    | cons x r => simp only [List.map_cons, List.zipWith_cons_cons, hf, ih]
theorem ent_run (h : Ok hp d) (k : ∀ hp', Grow hp hp' → Q (.bl (entB d)) hp') : wCall g (n + 5) 11 [d] hp Q E := by
  rw [call_is_entry]
  refine ⟨rfl, ?_⟩
  unfold b_is_entry
  generalize hA : (Ex.blt .all1 (.cons (.lc [2, 3] (.tp (.cons (.nm 2) (.cons (.nm 3) .nil))) (.zipS (.var 1) (.sl (.var 0) (.so (.lit (.int 1))) .no)) .no (.callL 2 (.cons (.var 3) .nil))) .nil)) = A
  simp only [wSs, wS, wE, wEs, wEo, con6]
  (try walk_at "k1")
  simp only [isi_t h]
  (try walk_at "k1")
  cases d with
  | tup xs =>
    simp only [isT]
    (try walk_at "k1")
    rw [eq_t0]
    (try walk_at "k1")
    cases xs with
    | nil => (try walk_at "k1"); exact k hp (.refl _)
    | cons x r =>
      simp only [List.isEmpty_cons, x_tup, at_0]
      (try walk_at "k1")
      have hx := h.all x List.mem_cons_self
      simp only [isi_s hx]
      (try walk_at "k1")
      cases x with
      | str w =>
        simp only [isS]
        (try walk_at "k1")
        rw [c_nin, in_kd]
        (try walk_at "k1")
        cases hw : forms w with
        | none =>
          (try walk_at "k1")
          have := k hp (.refl _)
          simpa [entB, hw] using this
        | some ls =>
          simp only [Option.isSome_some]
          (try walk_at "k1")
          simp only [x_tup, at_0, ix_kd hw]
          (try walk_at "k1")
          simp only [len_t]
          (try walk_at "k1")
          simp only [o_sub]
          (try walk_at "k1")
          have el : ((D.str w :: r).length : Int) - 1 = (r.length : Int) := by simp
          rw [el, List.length_map]
          by_cases q : (ls.length : Int) = (r.length : Int)
          · simp only [q, decide_true]
            (try walk_at "k1")
            rw [← hA]
            refine allz_run (n := n) (xs := ls.map D.fn) (ys := r) (f := fun l x => match l with | .fn l => lk l x | _ => false) (fun k E kk => ?_) ?_ (fun l hl y hy hp' Q' E' gr kk => ?_) fun hp' gr => ?_
            · simp only [wIt, wE, wEo]
              (try walk_at "k1")
              simp only [bnd, sl_tup, a_ok, cut_1]
              refine ⟨?_, kk⟩
              simp only [List.length_map, List.drop_succ_cons, List.drop_zero]
              omega
            · have := h.lt
              simp only [List.length_map, List.length_cons] at this ⊢
              omega
            · obtain ⟨l, hl2, rfl⟩ := List.mem_map.mp hl
              simp only [wE, wEs, wipeE]
              (try walk_at "k1")
              exact look_run ((h.all y (List.mem_cons_of_mem _ hy)).grow gr) (lget_mem _ _ _ _ hw) hl2 kk
            · (try walk_at "k1")
              rw [zip_lk _ _ _ fun _ _ => rfl]
              cases ha : (List.zipWith lk ls r).all id with
              | false =>
                (try walk_at "k1")
                have := k hp' gr
                simpa [entB, hw, fitB, ha] using this
              | true =>
                (try walk_at "k1")
                by_cases hq : w = "within"
                · subst hq
                  have e2 : ls = [8, 8] := by
                    have : forms "within" = some [8, 8] := by decide +kernel
                    rw [this] at hw
                    cases hw
                    rfl
                  subst e2
                  match r, q, ha with
                  | [a, b], q, ha =>
                    simp only [decide_true]
                    (try walk_at "k1")
                    simp only [at_1, at_2]
                    (try walk_at "k1")
                    have i1 : dealB a = true ∧ dealB b = true := by simpa [lk] using ha
                    cases a with
                    | int i =>
                      cases b with
                      | int j =>
                        (try walk_at "k1")
                        have := k hp' gr
                        have j1 : lk 8 (D.int i) = true := i1.1
                        have j2 : lk 8 (D.int j) = true := i1.2
                        simpa [entB, hw, fitB, ha, apB, neB, j1, j2] using this
                      | _ => simp [dealB, inI] at i1
                    | _ => simp [dealB, inI] at i1
                · simp only [hq, decide_false]
                  (try walk_at "k1")
                  have := k hp' gr
                  simpa [entB, hw, fitB, ha, apB, hq, q] using this
          · simp only [q, decide_false]
            (try walk_at "k1")
            have := k hp (.refl _)
            simpa [entB, hw, fitB, q] using this
      | _ => simp only [isS]; (try walk_at "k1"); exact k hp (.refl _)
  | _ => simp only [isT]; (try walk_at "k1"); exact k hp (.refl _)
end
end MI.T
set_option maxHeartbeats 4000000
local macro_rules | `(tactic| walk_at "k1") => `(tactic| simp only [MI.wSs, MI.wS, MI.wE, MI.wEs, MI.wEo, MI.wTg, MI.wTgs, MI.a_ok, MI.a_cd, MI.ab_okB, MI.ab_cd, MI.t_bl, MI.t_non, MI.t_int, MI.c_le, MI.c_lt, MI.c_ge, MI.c_gt, MI.c_eqi, MI.c_eqs, MI.c_nei, MI.c_nes, MI.c_is, MI.v_ok, List.map_cons, List.map_nil, List.cons_append, List.nil_append, List.replicate, List.getElem?_cons_zero, List.getElem?_cons_succ, List.set_cons_zero, List.set_cons_succ, Option.getD_some, if_true, Bool.false_eq_true, if_false, Bool.not_true, Bool.not_false, reduceCtorEq])
namespace MI.T
open PySem L2 MI
/-! rising ints -/
theorem chain_pw : ∀ ns : List Int, chainB (ns.map D.int) = true ↔ ns.Pairwise (· < ·)
  | [] => by simp [chainB]
  | [a] => by simp [chainB]
  | a :: b :: r => by
    have ih := chain_pw (b :: r)
    have e : chainB ((a :: b :: r).map D.int) = (decide (a < b) && chainB ((b :: r).map D.int)) := rfl
    rw [e, Bool.and_eq_true, ih, decide_eq_true_eq]
    constructor
    · rintro ⟨h1, h2⟩
      refine List.pairwise_cons.mpr ⟨fun x hx => ?_, h2⟩
      rcases List.mem_cons.mp hx with q | q
      · rw [q]; exact h1
      · exact Int.lt_trans h1 ((List.pairwise_cons.mp h2).1 x q)
    · intro h
      have h' := List.pairwise_cons.mp h
      exact ⟨h'.1 b List.mem_cons_self, h'.2⟩
theorem uq_id {α : Type} [DecidableEq α] (xs : List α) (h : xs.Nodup) : uq xs = xs := by
  have key : ∀ (l acc : List α), (acc ++ l).Nodup → l.foldl (fun acc x => if x ∈ acc then acc else acc ++ [x]) acc = acc ++ l := by
    intro l
    induction l with
    | nil => intro acc _; simp
    | cons a r ih =>
      intro acc h
      have hn : a ∉ acc := fun q => by
        rw [List.nodup_append] at h
        exact h.2.2 a q a List.mem_cons_self rfl
      rw [List.foldl_cons, if_neg hn, ih _ (by simpa using h)]
      simp
  exact key xs [] (by simpa using h)
theorem pw_lt : ∀ {l : List Int}, l.Pairwise (· ≤ ·) → l.Nodup → l.Pairwise (· < ·)
  | [], _, _ => .nil
  | x :: l, h, d => by
    obtain ⟨h1, h2⟩ := List.pairwise_cons.mp h
    obtain ⟨d1, d2⟩ := List.nodup_cons.mp d
    refine List.pairwise_cons.mpr ⟨fun y hy => ?_, pw_lt h2 d2⟩
    have a := h1 y hy
    have b : x ≠ y := fun z => d1 (z ▸ hy)
    omega
theorem chain_set (ns : List Int) : decide (ns = isort (uq ns)) = chainB (ns.map D.int) := by
  rw [Bool.eq_iff_iff, decide_eq_true_eq, chain_pw]
  constructor
  · intro h
    have h1 : (isort (uq ns)).Pairwise (· < ·) := pw_lt (isort_pw _) ((isort_perm (uq ns)).nodup_iff.mpr (uq_nodup ns))
    rw [h]
    exact h1
  · intro h
    have hd : ns.Nodup := h.imp fun q => Int.ne_of_lt q
    rw [uq_id ns hd]
    exact isort_uniq (List.Perm.refl _) (h.imp fun q => Int.le_of_lt q)
theorem eqv_ints : ∀ ns ms : List Int, PyData.eqvAll (ns.map .int) (ms.map .int) = decide (ns = ms)
  | [], [] => rfl
  | [], m :: r => by simp [PyData.eqvAll]
  | n :: r, [] => by simp [PyData.eqvAll]
  | n :: r, m :: s => by
    simp only [List.map_cons, PyData.eqvAll, PyData.eqv, eqv_ints r s]
    by_cases q : n = m <;> simp [q]
section
variable {n : Nat} {hp : Hq} {Q : QD} {E : QX} {d : D}
theorem eq_ints {p q : Nat} {ns ms : List Int} (h1 : hp[p]? = some (.lst (ns.map D.int))) (h2 : hp[q]? = some (.lst (ms.map D.int))) (k : Q (.bl (decide (ns = ms))) hp) : (oCmp .eq (.ref p) (.ref q) hp).app Q := by
  have e0 : oEqG (.ref p) (.ref q) hp = oEqP (.ref p) (.ref q) hp := by
    show (match gtD hp p, gtD hp q with | some ks, some ls => oEqK ks ls | _, _ => oEqP (.ref p) (.ref q) hp) = _
    rw [show gtD hp p = none from by unfold gtD; rw [h1]]
  rw [c_eqr, e0]
  have z : oEq0 (.ref p) (.ref q) hp = (match gtL hp p, gtL hp q with | some xs, some [] => OutB.ok xs.isEmpty | _, _ => .no) := rfl
  rw [gtL_of h1, gtL_of h2] at z
  cases ms with
  | nil =>
    have z : oEq0 (.ref p) (.ref q) hp = .ok (ns.map D.int).isEmpty := z
    unfold oEqP
    rw [z]
    show Q (.bl (ns.map D.int).isEmpty) hp
    have : (ns.map D.int).isEmpty = decide (ns = []) := by cases ns <;> simp
    rw [this]
    exact k
  | cons m r =>
    have z : oEq0 (.ref p) (.ref q) hp = .no := z
    have t : ∀ {a : Nat} {l : List Int}, hp[a]? = some (.lst (l.map D.int)) → toP 40 hp (.ref a) = some (.list (l.map .int)) := fun {a l} h => by
      show (match gtL hp a with | some ds => (mapO (toP 39 hp) ds).map PyData.list | none => none) = _
      rw [gtL_of h]
      show (mapO (toP 39 hp) (l.map D.int)).map PyData.list = _
      rw [mapO_ints 38 hp l]
      rfl
    unfold oEqP
    rw [z, t h1, t h2]
    refine ⟨⟨sh_ints _, sh_ints _⟩, ?_⟩
    show Q (.bl (PyData.eqv (.list (ns.map .int)) (.list ((m :: r).map .int)))) hp
    simp only [PyData.eqv]
    rw [eqv_ints]
    exact k
/-! the law's own looks -/
theorem lwhole_run {a b : Int} (h : Ok hp d) (k : Q (.bl (inI a b d)) hp) : wCall g (n + 1) 15 [d, .int a, .int b] hp Q E := by
  rw [call__law_whole]
  refine ⟨rfl, ?_⟩
  unfold b__law_whole
  (try walk_at "k1")
  simp only [isi_i h, isi_b h]
  (try walk_at "k1")
  cases d with
  | int i =>
    simp only [isI, isB, Bool.or_false, Bool.not_false, if_true]
    (try walk_at "k1")
    (try simp only [isi_b h, isB])
    (try walk_at "k1")
    by_cases q : a ≤ i
    · simp only [q, decide_true]
      (try walk_at "k1")
      simpa [inI, q] using k
    · simp only [q, decide_false]
      simpa [inI, q] using k
  | bl b => simp only [isI, isB]; (try walk_at "k1"); (try simp only [isi_b h, isB]); (try walk_at "k1"); exact k
  | _ => simp only [isI, isB]; (try walk_at "k1"); (try simp only [isi_b h, isB]); (try walk_at "k1"); exact k
theorem ldeal_run (h : Ok hp d) (k : Q (.bl (dealB d)) hp) : wCall g (n + 2) 23 [d] hp Q E := by
  rw [call__law_is_dealing]
  refine ⟨rfl, ?_⟩
  unfold b__law_is_dealing
  (try walk_at "k1")
  exact lwhole_run h k
theorem lword_run (h : Ok hp d) (k : ∀ hp', Grow hp hp' → Q (.bl (wordB d)) hp') : wCall g (n + 1) 16 [d] hp Q E := by
  rw [call__law_is_word]
  refine ⟨rfl, ?_⟩
  unfold b__law_is_word
  generalize hA : (Ex.cmp .eq (.lc [1] (.nm 1) (.vl (.var 0)) (.so (.cmp .nin (.var 1) (.lit (.str "abcdefghijklmnopqrstuvwxyz")))) (.var 1)) (.lst .nil)) = A
  (try walk_at "k1")
  simp only [isi_s h]
  (try walk_at "k1")
  cases d with
  | str x =>
    have hx : x.length ≤ 1000 := by cases h; assumption
    simp only [isS]
    (try walk_at "k1")
    rw [len_s hx]
    (try walk_at "k1")
    refine ⟨by show _ ≤ 16777216; omega, ?_⟩
    by_cases q1 : (1 : Int) ≤ (x.length : Int)
    · simp only [q1, decide_true]
      (try walk_at "k1")
      by_cases q2 : (x.length : Int) ≤ 8
      · simp only [q2, decide_true]
        (try walk_at "k1")
        rw [← hA]
        have hl : (x.cps.toList.map fun c => D.str ⟨#[c]⟩).length < 50 := by
          rw [List.length_map, Array.length_toList]
          have : x.length = x.cps.size := rfl
          omega
        refine none_run (neg := false) (xs := x.cps.toList.map fun c => D.str ⟨#[c]⟩) (f := fun y => match y with | .str z => inTx z LET | _ => true) (fun k E kk => ?_) hl (by simp) (fun y hy hp' Q' E' gr kk => ?_) fun hp' gr => ?_
        · simp only [wIt, wE, itSeq, List.getElem?_cons_zero]
          have e : (⟨fun j _ => some ((x.cps[j]?).map fun c => D.str ⟨#[c]⟩), id⟩ : Itr) = itFix (x.cps.toList.map fun c => D.str ⟨#[c]⟩) := by
            unfold itFix
            congr 1
            funext j _
            rw [List.getElem?_map, Array.getElem?_toList]
          rw [e]
          exact kk
        · obtain ⟨c, hc, rfl⟩ := List.mem_map.mp hy
          simp only [wE, wipeE]
          (try walk_at "k1")
          show ((oIn (.str ⟨#[c]⟩) (.str LET) hp').val true hp').app _
          rw [show oIn (.str ⟨#[c]⟩) (.str LET) hp' = .ok (inTx ⟨#[c]⟩ LET) from rfl, v_ok, a_ok]
          exact kk hp' (.refl _)
        · have e2 : ((x.cps.toList.map fun c => D.str ⟨#[c]⟩).all fun y => match y with | .str z => inTx z LET | _ => true) = letB x := by
            rw [List.all_map]
            rfl
          rw [e2]
          have := k _ gr
          simpa [wordB, l16, q1, q2] using this
      · simp only [q2, decide_false]
        (try walk_at "k1")
        have := k hp (.refl _)
        simpa [wordB, l16, q1, q2] using this
    · simp only [q1, decide_false]
      (try walk_at "k1")
      have := k hp (.refl _)
      simpa [wordB, l16, q1] using this
  | _ => simp only [isS]; (try walk_at "k1"); exact k hp (.refl _)
theorem lfields_run (h : Ok hp d) (k : ∀ hp', Grow hp hp' → Q (.bl (fieldsB d)) hp') : wCall g (n + 2) 17 [d] hp Q E := by
  rw [call__law_are_fields]
  refine ⟨rfl, ?_⟩
  unfold b__law_are_fields
  generalize hA : (Ex.cmp .eq (.lc [1] (.nm 1) (.vl (.var 0)) (.so (.not (.call 16 (.cons (.var 1) .nil)))) (.var 1)) (.lst .nil)) = A
  (try walk_at "k1")
  simp only [isi_t h]
  (try walk_at "k1")
  cases d with
  | tup xs =>
    simp only [isT]
    (try walk_at "k1")
    rw [len_t]
    (try walk_at "k1")
    by_cases q1 : (1 : Int) ≤ (xs.length : Int)
    · simp only [q1, decide_true]
      (try walk_at "k1")
      by_cases q2 : (xs.length : Int) ≤ 6
      · simp only [q2, decide_true]
        (try walk_at "k1")
        rw [← hA]
        refine none_run (neg := false) (xs := xs) (f := wordB) (fun k E kk => ?_) h.lt (by simp) (fun x hx hp' Q' E' gr kk => ?_) fun hp' gr => ?_
        · simp only [wIt, wE, itSeq, List.getElem?_cons_zero]
          exact kk
        · simp only [wE, wEs, wipeE]
          (try walk_at "k1")
          exact lword_run ((h.all x hx).grow gr) kk
        · show (oTru (.bl (xs.all wordB)) hp').app _
          (try walk_at "k1")
          cases ha : xs.all wordB with
          | false =>
            (try walk_at "k1")
            have := k hp' gr
            simpa [fieldsB, ha] using this
          | true =>
            (try walk_at "k1")
            obtain ⟨ys, h1, h2⟩ := words_strs xs ha
            have hlt := h.lt
            show (match strsOf xs with | some ys => OutD.cd (ys.length < 1000) (.int (uq ys).length) hp' | none => .no).app _
            rw [h1]
            (try walk_at "k1")
            rw [len_t]
            (try walk_at "k1")
            have e0 : xs.length = ys.length := by rw [h2, List.length_map]
            refine ⟨by omega, ?_⟩
            have e3 : decide (((uq ys).length : Int) = (xs.length : Int)) = distB xs := by
              unfold distB
              rw [h1, e0]
            rw [e3]
            have := k _ gr
            simpa [fieldsB, ha, l16, q1, q2] using this
      · simp only [q2, decide_false]
        (try walk_at "k1")
        have := k hp (.refl _)
        simpa [fieldsB, l16, q1, q2] using this
    · simp only [q1, decide_false]
      (try walk_at "k1")
      have := k hp (.refl _)
      simpa [fieldsB, l16, q1] using this
  | _ => simp only [isT]; (try walk_at "k1"); exact k hp (.refl _)
theorem lrow_run {xs : List D} (h : Ok hp (.tup xs)) (k : ∀ hp', Grow hp hp' → Q (.bl (xs.all worthB)) hp') : wCall g (n + 2) 18 [.tup xs, .int xs.length] hp Q E := by
  rw [call__law_is_row]
  refine ⟨rfl, ?_⟩
  unfold b__law_is_row
  generalize hA : (Ex.cmp .eq (.lc [2] (.nm 2) (.vl (.var 0)) (.so (.not (.call 15 (.cons (.var 2) (.cons (.neg (.bin .pow (.lit (.int 10)) (.lit (.int 9)))) (.cons (.bin .pow (.lit (.int 10)) (.lit (.int 9))) .nil)))))) (.var 2)) (.lst .nil)) = A
  (try walk_at "k1")
  simp only [isi_t h, isT]
  (try walk_at "k1")
  rw [len_t]
  (try walk_at "k1")
  simp only [decide_true]
  (try walk_at "k1")
  rw [← hA]
  refine none_run (neg := false) (xs := xs) (f := worthB) (fun k E kk => ?_) h.lt (by simp) (fun x hx hp' Q' E' gr kk => ?_) fun hp' gr => ?_
  · simp only [wIt, wE, itSeq, List.getElem?_cons_zero]
    exact kk
  · simp only [wE, wEs, wipeE]
    (try walk_at "k1")
    simp only [o_pow]
    (try walk_at "k1")
    refine ⟨by decide, ?_⟩
    refine ⟨by decide, ?_⟩
    exact lwhole_run ((h.all x hx).grow gr) (kk _ (.refl _))
  · exact k _ gr
theorem lsome_run (h : Ok hp d) (k : ∀ hp', Grow hp hp' → Q (.bl (rowB d)) hp') : wCall g (n + 3) 22 [d] hp Q E := by
  rw [call__law_is_some_row]
  refine ⟨rfl, ?_⟩
  unfold b__law_is_some_row
  (try walk_at "k1")
  simp only [isi_t h]
  (try walk_at "k1")
  cases d with
  | tup xs =>
    simp only [isT]
    (try walk_at "k1")
    simp only [len_t]
    (try walk_at "k1")
    by_cases q1 : (1 : Int) ≤ (xs.length : Int)
    · simp only [q1, decide_true]
      (try walk_at "k1")
      by_cases q2 : (xs.length : Int) ≤ 6
      · simp only [q2, decide_true]
        (try walk_at "k1")
        refine lrow_run h fun hp' gr => ?_
        have := k _ gr
        simpa [rowB, l16, q1, q2] using this
      · simp only [q2, decide_false]
        (try walk_at "k1")
        have := k hp (.refl _)
        simpa [rowB, l16, q1, q2] using this
    · simp only [q1, decide_false]
      (try walk_at "k1")
      have := k hp (.refl _)
      simpa [rowB, l16, q1] using this
  | _ => simp only [isT]; (try walk_at "k1"); exact k hp (.refl _)
end
end MI.T
set_option maxHeartbeats 4000000
local macro_rules | `(tactic| walk_at "k1") => `(tactic| simp only [MI.wSs, MI.wS, MI.wE, MI.wEs, MI.wEo, MI.wTg, MI.wTgs, MI.a_ok, MI.a_cd, MI.ab_okB, MI.ab_cd, MI.t_bl, MI.t_non, MI.t_int, MI.c_le, MI.c_lt, MI.c_ge, MI.c_gt, MI.c_eqi, MI.c_eqs, MI.c_nei, MI.c_nes, MI.c_is, MI.v_ok, List.map_cons, List.map_nil, List.cons_append, List.nil_append, List.replicate, List.getElem?_cons_zero, List.getElem?_cons_succ, List.set_cons_zero, List.set_cons_succ, Option.getD_some, if_true, Bool.false_eq_true, if_false, Bool.not_true, Bool.not_false, reduceCtorEq])
namespace MI.T
open PySem L2 MI
theorem d_within_within : decide (("within" : Str) = "within") = true := by decide +kernel
theorem d_within_from : decide (("within" : Str) = "from") = false := by decide +kernel
theorem d_within_form : decide (("within" : Str) = "form") = false := by decide +kernel
theorem d_within_ready : decide (("within" : Str) = "ready") = false := by decide +kernel
theorem d_within_running : decide (("within" : Str) = "running") = false := by decide +kernel
theorem d_from_within : decide (("from" : Str) = "within") = false := by decide +kernel
theorem d_from_from : decide (("from" : Str) = "from") = true := by decide +kernel
theorem d_from_form : decide (("from" : Str) = "form") = false := by decide +kernel
theorem d_from_ready : decide (("from" : Str) = "ready") = false := by decide +kernel
theorem d_from_running : decide (("from" : Str) = "running") = false := by decide +kernel
theorem d_form_within : decide (("form" : Str) = "within") = false := by decide +kernel
theorem d_form_from : decide (("form" : Str) = "from") = false := by decide +kernel
theorem d_form_form : decide (("form" : Str) = "form") = true := by decide +kernel
theorem d_form_ready : decide (("form" : Str) = "ready") = false := by decide +kernel
theorem d_form_running : decide (("form" : Str) = "running") = false := by decide +kernel
theorem d_put_within : decide (("put" : Str) = "within") = false := by decide +kernel
theorem d_put_from : decide (("put" : Str) = "from") = false := by decide +kernel
theorem d_put_form : decide (("put" : Str) = "form") = false := by decide +kernel
theorem d_put_ready : decide (("put" : Str) = "ready") = false := by decide +kernel
theorem d_put_running : decide (("put" : Str) = "running") = false := by decide +kernel
theorem d_change_within : decide (("change" : Str) = "within") = false := by decide +kernel
theorem d_change_from : decide (("change" : Str) = "from") = false := by decide +kernel
theorem d_change_form : decide (("change" : Str) = "form") = false := by decide +kernel
theorem d_change_ready : decide (("change" : Str) = "ready") = false := by decide +kernel
theorem d_change_running : decide (("change" : Str) = "running") = false := by decide +kernel
theorem d_strike_within : decide (("strike" : Str) = "within") = false := by decide +kernel
theorem d_strike_from : decide (("strike" : Str) = "from") = false := by decide +kernel
theorem d_strike_form : decide (("strike" : Str) = "form") = false := by decide +kernel
theorem d_strike_ready : decide (("strike" : Str) = "ready") = false := by decide +kernel
theorem d_strike_running : decide (("strike" : Str) = "running") = false := by decide +kernel
theorem d_ready_within : decide (("ready" : Str) = "within") = false := by decide +kernel
theorem d_ready_from : decide (("ready" : Str) = "from") = false := by decide +kernel
theorem d_ready_form : decide (("ready" : Str) = "form") = false := by decide +kernel
theorem d_ready_ready : decide (("ready" : Str) = "ready") = true := by decide +kernel
theorem d_ready_running : decide (("ready" : Str) = "running") = false := by decide +kernel
theorem d_sure_within : decide (("sure" : Str) = "within") = false := by decide +kernel
theorem d_sure_from : decide (("sure" : Str) = "from") = false := by decide +kernel
theorem d_sure_form : decide (("sure" : Str) = "form") = false := by decide +kernel
theorem d_sure_ready : decide (("sure" : Str) = "ready") = false := by decide +kernel
theorem d_sure_running : decide (("sure" : Str) = "running") = false := by decide +kernel
theorem d_off_within : decide (("off" : Str) = "within") = false := by decide +kernel
theorem d_off_from : decide (("off" : Str) = "from") = false := by decide +kernel
theorem d_off_form : decide (("off" : Str) = "form") = false := by decide +kernel
theorem d_off_ready : decide (("off" : Str) = "ready") = false := by decide +kernel
theorem d_off_running : decide (("off" : Str) = "running") = false := by decide +kernel
theorem d_running_within : decide (("running" : Str) = "within") = false := by decide +kernel
theorem d_running_from : decide (("running" : Str) = "from") = false := by decide +kernel
theorem d_running_form : decide (("running" : Str) = "form") = false := by decide +kernel
theorem d_running_ready : decide (("running" : Str) = "ready") = false := by decide +kernel
theorem d_running_running : decide (("running" : Str) = "running") = true := by decide +kernel
theorem forms_cases {w : Str} {ls : List Nat} (h : forms w = some ls) : (w = "within" ∧ ls = [8, 8]) ∨ (w = "from" ∧ ls = [8, 2, 6]) ∨ (w = "form" ∧ ls = [8, 7, 2, 5]) ∨ (w = "put" ∧ ls = [8, 7, 4]) ∨ (w = "change" ∧ ls = [8, 7, 4, 4]) ∨ (w = "strike" ∧ ls = [8, 7, 4]) ∨ (w = "ready" ∧ ls = [8, 2]) ∨ (w = "sure" ∧ ls = [8, 9]) ∨ (w = "off" ∧ ls = [8, 9]) ∨ (w = "running" ∧ ls = [10]) := by
  have key : ∀ (ks : List Str) (ms : List (List Nat)), lget ks ms w = some ls → (w, ls) ∈ ks.zip ms := by
    intro ks
    induction ks with
    | nil => intro ms h; cases h
    | cons k ks ih =>
      intro ms h
      cases ms with
      | nil => cases h
      | cons m ms =>
        unfold lget at h
        split at h
        · rename_i e
          cases h
          subst e
          exact List.mem_cons_self
        · exact List.mem_cons_of_mem _ (ih ms h)
  have := key fKeys fLks h
  unfold fKeys fLks at this
  simpa only [List.zip_cons_cons, List.zip_nil_right, List.mem_cons, Prod.mk.injEq, List.not_mem_nil, or_false] using this
/-! sizes -/
def SZS : List (L2.Key × D) := [(.inr "within", .int 3), (.inr "from", .int 4), (.inr "form", .int 5), (.inr "put", .int 4), (.inr "change", .int 5), (.inr "strike", .int 4), (.inr "ready", .int 3), (.inr "sure", .int 3), (.inr "off", .int 3)]
def szI (w : Str) : Int := if w = "running" then 0 else match forms w with | some ls => ls.length + 1 | none => 0
theorem sz_of (w : Str) : (dget SZS (.inr w)).getD (.int 0) = .int (szI w) := by
  by_cases h : ∃ ls, forms w = some ls
  · obtain ⟨ls, h⟩ := h
    rcases forms_cases h with ⟨rfl, rfl⟩ | ⟨rfl, rfl⟩ | ⟨rfl, rfl⟩ | ⟨rfl, rfl⟩ | ⟨rfl, rfl⟩ | ⟨rfl, rfl⟩ | ⟨rfl, rfl⟩ | ⟨rfl, rfl⟩ | ⟨rfl, rfl⟩ | ⟨rfl, rfl⟩ <;> rfl
  · have hn : forms w = none := by
      cases e : forms w with
      | none => rfl
      | some ls => exact absurd ⟨ls, e⟩ h
    have e2 : szI w = 0 := by
      unfold szI
      rw [hn]
      split <;> rfl
    rw [e2]
    have key : ∀ (ks : List Str) (ms : List (List Nat)), ks.length = ms.length → lget ks ms w = none → ∀ k ∈ ks, k ≠ w := by
      intro ks
      induction ks with
      | nil => intro ms _ _ k hk; cases hk
      | cons k0 ks ih =>
        intro ms hl h k hk
        cases ms with
        | nil => cases hl
        | cons m ms =>
          unfold lget at h
          split at h
          · cases h
          · rename_i e
            rcases List.mem_cons.mp hk with q | q
            · rw [q]; exact e
            · exact ih ms (by simpa using hl) h k q
    have kn := key fKeys fLks rfl hn
    have : dget SZS (.inr w) = none := dget_none fun kv hk e => by
      unfold SZS at hk
      simp only [List.mem_cons, List.not_mem_nil, or_false] at hk
      rcases hk with rfl | rfl | rfl | rfl | rfl | rfl | rfl | rfl | rfl <;> exact kn _ (by decide +kernel) (Sum.inr.inj e)
    rw [this]
    rfl
def runB : List D → Bool
  | [.tup ys] => ys.all dealB && chainB ys
  | _ => false
def restB (w : Str) (r : List D) : Bool :=
  if w = "within" then dealB (r.getD 1 .non) && neB (r.getD 0 .non) (r.getD 1 .non)
  else if w = "from" then wordB (r.getD 1 .non) && inI 0 (10 ^ 60) (r.getD 2 .non)
  else if w = "ready" ∨ w = "sure" ∨ w = "off" then wordB (r.getD 1 .non) || (isNon (r.getD 1 .non) && !decide (w = "ready"))
  else tableB (r.getD 1 .non) && (if w = "form" then wordB (r.getD 2 .non) && fieldsB (r.getD 3 .non) else (r.drop 2).all rowB)
def lentB : D → Bool
  | .tup (.str w :: r) => if w = "running" then runB r else decide (szI w = ((r.length + 1 : Nat) : Int)) && (dealB (r.getD 0 .non) && restB w r)
  | _ => false
theorem len1 {r : List D} (h : r.length = 1) : ∃ a, r = [a] := by
  match r, h with
  | [a], _ => exact ⟨a, rfl⟩
theorem len2 {r : List D} (h : r.length = 2) : ∃ a b, r = [a, b] := by
  match r, h with
  | [a, b], _ => exact ⟨a, b, rfl⟩
theorem len3 {r : List D} (h : r.length = 3) : ∃ a b c, r = [a, b, c] := by
  match r, h with
  | [a, b, c], _ => exact ⟨a, b, c, rfl⟩
theorem len4 {r : List D} (h : r.length = 4) : ∃ a b c d, r = [a, b, c, d] := by
  match r, h with
  | [a, b, c, d], _ => exact ⟨a, b, c, d, rfl⟩
theorem place_in {hp : Hq} {d : D} (h : Ok hp d) : placeB d = inI 0 (10 ^ 60) d := by
  cases h with
  | int i h =>
    show decide (0 ≤ i) = (decide (0 ≤ i) && decide (i ≤ 10 ^ 60))
    rw [decide_eq_true h.2, Bool.and_true]
  | _ => rfl
theorem same_ent {hp : Hq} {d : D} (h : Ok hp d) : lentB d = entB d := by
  cases d with
  | tup xs =>
    cases xs with
    | nil => rfl
    | cons x r =>
      cases x with
      | str w =>
        have hr : ∀ x ∈ r, Ok hp x := fun x hx => h.all x (List.mem_cons_of_mem _ hx)
        show (if w = "running" then runB r else decide (szI w = ((r.length + 1 : Nat) : Int)) && (dealB (r.getD 0 .non) && restB w r)) = (match forms w with | some ls => fitB ls r && apB w r | none => false)
        cases hw : forms w with
        | none =>
          have n1 : ¬ w = "running" := fun e => by
            subst e
            have : forms "running" = some [10] := by decide +kernel
            rw [this] at hw
            cases hw
          have n2 : szI w = 0 := by
            unfold szI
            rw [if_neg n1, hw]
          rw [if_neg n1, n2]
          have : ¬ ((0 : Int) = ((r.length + 1 : Nat) : Int)) := by omega
          rw [decide_eq_false this]
          rfl
        | some ls =>
          by_cases hn : ls.length = r.length
          · have fit : decide ((ls.length : Int) = (r.length : Int)) = true := decide_eq_true (by omega)
            rcases forms_cases hw with ⟨rfl, rfl⟩ | ⟨rfl, rfl⟩ | ⟨rfl, rfl⟩ | ⟨rfl, rfl⟩ | ⟨rfl, rfl⟩ | ⟨rfl, rfl⟩ | ⟨rfl, rfl⟩ | ⟨rfl, rfl⟩ | ⟨rfl, rfl⟩ | ⟨rfl, rfl⟩
            · obtain ⟨a, b, rfl⟩ := len2 hn.symm
              show (true && (dealB a && (dealB b && neB a b))) = ((true && (dealB a && (dealB b && true))) && (false || neB a b))
              cases dealB a <;> cases dealB b <;> cases neB a b <;> rfl
            · obtain ⟨a, b, c, rfl⟩ := len3 hn.symm
              have := place_in (hr c (by simp))
              show (true && (dealB a && (wordB b && inI 0 (10 ^ 60) c))) = ((true && (dealB a && (wordB b && (placeB c && true)))) && (true || neB a b))
              rw [this]
              cases dealB a <;> cases wordB b <;> cases inI 0 (10 ^ 60) c <;> rfl
            · obtain ⟨a, b, c, d, rfl⟩ := len4 hn.symm
              show (true && (dealB a && (tableB b && (wordB c && fieldsB d)))) = ((true && (dealB a && (tableB b && (wordB c && (fieldsB d && true))))) && (true || neB a b))
              cases dealB a <;> cases tableB b <;> cases wordB c <;> cases fieldsB d <;> rfl
            · obtain ⟨a, b, c, rfl⟩ := len3 hn.symm
              show (true && (dealB a && (tableB b && (rowB c && true)))) = ((true && (dealB a && (tableB b && (rowB c && true)))) && (true || neB a b))
              cases dealB a <;> cases tableB b <;> cases rowB c <;> rfl
            · obtain ⟨a, b, c, d, rfl⟩ := len4 hn.symm
              show (true && (dealB a && (tableB b && (rowB c && (rowB d && true))))) = ((true && (dealB a && (tableB b && (rowB c && (rowB d && true))))) && (true || neB a b))
              cases dealB a <;> cases tableB b <;> cases rowB c <;> cases rowB d <;> rfl
            · obtain ⟨a, b, c, rfl⟩ := len3 hn.symm
              show (true && (dealB a && (tableB b && (rowB c && true)))) = ((true && (dealB a && (tableB b && (rowB c && true)))) && (true || neB a b))
              cases dealB a <;> cases tableB b <;> cases rowB c <;> rfl
            · obtain ⟨a, b, rfl⟩ := len2 hn.symm
              show (true && (dealB a && (wordB b || (isNon b && false)))) = ((true && (dealB a && (wordB b && true))) && (true || neB a b))
              cases dealB a <;> cases wordB b <;> cases isNon b <;> rfl
            · obtain ⟨a, b, rfl⟩ := len2 hn.symm
              show (true && (dealB a && (wordB b || (isNon b && true)))) = ((true && (dealB a && ((isNon b || wordB b) && true))) && (true || neB a b))
              cases dealB a <;> cases wordB b <;> cases isNon b <;> rfl
            · obtain ⟨a, b, rfl⟩ := len2 hn.symm
              show (true && (dealB a && (wordB b || (isNon b && true)))) = ((true && (dealB a && ((isNon b || wordB b) && true))) && (true || neB a b))
              cases dealB a <;> cases wordB b <;> cases isNon b <;> rfl
            · obtain ⟨a, rfl⟩ := len1 hn.symm
              show runB [a] = ((true && (dealsB a && true)) && (true || neB a .non))
              have : runB [a] = dealsB a := by cases a <;> rfl
              rw [this]
              cases dealsB a <;> rfl
          · have nf : fitB ls r = false := by
              unfold fitB
              rw [decide_eq_false (by omega)]
              rfl
            show _ = (fitB ls r && apB w r)
            rw [nf, Bool.false_and]
            by_cases hq : w = "running"
            · rw [if_pos hq]
              have : ls = [10] := by
                subst hq
                have : forms "running" = some [10] := by decide +kernel
                rw [this] at hw
                cases hw
                rfl
              subst this
              unfold runB
              split
              · exact absurd rfl hn
              · rfl
            · rw [if_neg hq]
              have : szI w = (ls.length : Int) + 1 := by
                unfold szI
                rw [if_neg hq, hw]
              rw [this, decide_eq_false (by omega)]
              rfl
      | _ => rfl
  | _ => rfl
end MI.T
set_option maxHeartbeats 4000000
local macro_rules | `(tactic| walk_at "k1") => `(tactic| simp only [MI.wSs, MI.wS, MI.wE, MI.wEs, MI.wEo, MI.wTg, MI.wTgs, MI.a_ok, MI.a_cd, MI.ab_okB, MI.ab_cd, MI.t_bl, MI.t_non, MI.t_int, MI.c_le, MI.c_lt, MI.c_ge, MI.c_gt, MI.c_eqi, MI.c_eqs, MI.c_nei, MI.c_nes, MI.c_is, MI.v_ok, List.map_cons, List.map_nil, List.cons_append, List.nil_append, List.replicate, List.getElem?_cons_zero, List.getElem?_cons_succ, List.set_cons_zero, List.set_cons_succ, Option.getD_some, if_true, Bool.false_eq_true, if_false, Bool.not_true, Bool.not_false, reduceCtorEq])
namespace MI.T
open PySem L2 MI
section
variable {n : Nat} {hp : Hq} {Q : QD} {E : QX} {d : D}
theorem sizes_run (k : Q (.ref hp.length) (hp ++ [.dic SZS])) : wCall g (n + 1) 24 [] hp Q E := by
  rw [call__law_sizes]
  refine ⟨rfl, ?_⟩
  unfold b__law_sizes
  (try walk_at "k1")
  have e : pairsOf [.str "within", .int 3, .str "from", .int 4, .str "form", .int 5, .str "put", .int 4, .str "change", .int 5, .str "strike", .int 4, .str "ready", .int 3, .str "sure", .int 3, .str "off", .int 3] = some SZS := rfl
  rw [e]
  have f : SZS.foldl (fun acc kv => dput acc kv.1 kv.2) [] = SZS := fold_put SZS [] (by decide +kernel)
  show Q (.ref hp.length) (hp ++ [.dic (SZS.foldl (fun acc kv => dput acc kv.1 kv.2) [])])
  rw [f]
  exact k
theorem running_run {w : Str} {r : List D} (h : Ok hp (.tup (.str w :: r))) (k : ∀ hp', Grow hp hp' → Q (.bl (runB r)) hp') : wCall g (n + 3) 25 [.tup (.str w :: r)] hp Q E := by
  rw [call__law_is_running]
  refine ⟨rfl, ?_⟩
  unfold b__law_is_running
  generalize hA : (Ex.cmp .ne (.lc [1] (.nm 1) (.vl (.ix (.var 0) (.lit (.int 1)))) (.so (.not (.call 23 (.cons (.var 1) .nil)))) (.var 1)) (.lst .nil)) = A
  (try walk_at "k1")
  simp only [len_t]
  (try walk_at "k1")
  match r with
  | [x] =>
    have e1 : decide (((D.str w :: [x]).length : Int) = 2) = true := rfl
    rw [e1]
    (try walk_at "k1")
    simp only [x_tup, at_1]
    (try walk_at "k1")
    have hx := h.all x (by simp)
    simp only [isi_t hx]
    (try walk_at "k1")
    cases x with
    | tup ys =>
      simp only [isT]
      (try walk_at "k1")
      rw [← hA]
      refine none_run (neg := true) (xs := ys) (f := dealB) (fun k E kk => ?_) hx.lt (by simp) (fun x hx2 hp' Q' E' gr kk => ?_) fun hp' gr => ?_
      · simp only [wIt, wE]
        (try walk_at "k1")
        (try simp only [x_tup, at_1, itSeq])
        (try walk_at "k1")
        exact kk
      · simp only [wE, wEs, wipeE]
        (try walk_at "k1")
        exact ldeal_run ((hx.all x hx2).grow gr) (kk _ (.refl _))
      · (try walk_at "k1")
        cases ha : ys.all dealB with
        | false =>
          (try walk_at "k1")
          have := k hp' gr
          simpa [runB, ha] using this
        | true =>
          (try walk_at "k1")
          obtain ⟨ns, h1, h2⟩ := deals_ints ys ha
          (try simp only [x_tup, at_1])
          (try walk_at "k1")
          show (oNew hp' (.lst ys)).app _
          show (oSrtS (.tup ys) (hp' ++ [O.lst ys])).app _
          have e2 : oSrtS (.tup ys) (hp' ++ [O.lst ys]) = .cd (ns.length < 60) (.ref (hp' ++ [O.lst ys]).length) (hp' ++ [O.lst ys] ++ [.lst ((isort (uq ns)).map D.int)]) := by
            have z : sqOf (hp' ++ [O.lst ys]) (.tup ys) = some ys := rfl
            unfold oSrtS
            simp only [z, h1]
          rw [e2]
          have hl := hx.lt
          have el : ns.length = ys.length := by rw [h2, List.length_map]
          refine ⟨by omega, ?_⟩
          refine eq_ints (ns := ns) (ms := isort (uq ns)) (by rw [h2]; exact app_old new_at) new_at ?_
          rw [chain_set]
          have := k _ (gr.trans (⟨_, List.append_assoc _ _ _⟩ : Grow hp' (hp' ++ [O.lst ys] ++ [.lst ((isort (uq ns)).map D.int)])))
          have e3 : runB [.tup ys] = chainB (ns.map D.int) := by
            show (ys.all dealB && chainB ys) = _
            rw [ha, h2]
            rfl
          rw [e3] at this
          exact this
    | _ => simp only [isT]; (try walk_at "k1"); exact k hp (.refl _)
  | [] =>
    have e1 : decide (((D.str w :: ([] : List D)).length : Int) = 2) = false := rfl
    rw [e1]
    (try walk_at "k1")
    exact k hp (.refl _)
  | x :: y :: r =>
    have e1 : decide (((D.str w :: x :: y :: r).length : Int) = 2) = false := decide_eq_false (by simp only [List.length_cons]; omega)
    rw [e1]
    (try walk_at "k1")
    have := k hp (.refl _)
    have e2 : runB (x :: y :: r) = false := by cases x <;> rfl
    rw [e2] at this
    exact this
abbrev RSO : List D := [.str "ready", .str "sure", .str "off"]
theorem in_rso {w : Str} : oIn (.str w) (.tup RSO) hp = .cd (SeqAt.shaped (.str w) = true ∧ SeqAt.shaped (.list [.str "ready", .str "sure", .str "off"]) = true) (([.str "ready", .str "sure", .str "off"] : List PyData).any fun b => PyData.eqv b (.str w)) := rfl
theorem rest_run {w : Str} {r : List D} {ls : List Nat} (hw : forms w = some ls) (hn : ls.length = r.length) (hr : ¬ w = "running") (h : Ok hp (.tup r)) (hd : dealB (r.getD 0 .non) = true) (k : ∀ hp', Grow hp hp' → Q (.bl (restB w r)) hp') : wCall g (n + 4) 26 [.str w, .tup r] hp Q E := by
  rw [call__law_is_rest]
  refine ⟨rfl, ?_⟩
  unfold b__law_is_rest
  generalize hA : (Ex.cmp .eq (.lc [2] (.nm 2) (.vl (.sl (.var 1) (.so (.lit (.int 2))) .no)) (.so (.not (.call 22 (.cons (.var 2) .nil)))) (.var 2)) (.lst .nil)) = A
  have rows : ∀ {w : Str} {a b : D} {l : List D} {Q : QD}, (∀ x ∈ l, Ok hp x) → l.length < 50 → (∀ hp', Grow hp hp' → Q (.bl (l.all rowB)) hp') → wE g (wCall g (n + 3)) A [some (.str w), some (.tup (a :: b :: l)), none] hp Q (fun c i hp => E c i hp) := fun {w a b l Q} hl hz kk => by
    rw [← hA]
    refine none_run (neg := false) (xs := l) (f := rowB) (fun k E kk => ?_) hz (by simp) (fun x hx2 hp' Q' E' gr kk => ?_) fun hp' gr => ?_
    · simp only [wIt, wE, wEo]
      (try walk_at "k1")
      simp only [bnd, sl_tup, a_ok, cut_2, itSeq, List.drop_succ_cons, List.drop_zero]
      exact kk
    · simp only [wE, wEs, wipeE]
      (try walk_at "k1")
      exact lsome_run ((hl x hx2).grow gr) kk
    · exact kk _ gr
  have hlt := h.lt
  (try walk_at "k1")
  simp only [c_in, in_rso]
  (try walk_at "k1")
  rcases forms_cases hw with ⟨hq, rfl⟩ | ⟨hq, rfl⟩ | ⟨hq, rfl⟩ | ⟨hq, rfl⟩ | ⟨hq, rfl⟩ | ⟨hq, rfl⟩ | ⟨hq, rfl⟩ | ⟨hq, rfl⟩ | ⟨hq, rfl⟩ | ⟨hq, rfl⟩
  · obtain ⟨a, b, rfl⟩ := len2 hn.symm
    have q1 : decide (w = "within") = true := by rw [hq]; exact d_within_within
    have e : restB w [a, b] = (dealB b && neB a b) := by rw [hq]; rfl
    rw [e] at k
    clear e hq hw hr
    simp only [q1]
    (try walk_at "k1")
    simp only [x_tup, at_0, at_1]
    (try walk_at "k1")
    refine ldeal_run (h.all b (by simp)) ?_
    have hd : dealB a = true := hd
    (try walk_at "k1")
    cases hb : dealB b with
    | false =>
      (try walk_at "k1")
      have := k hp (.refl _)
      rw [hb] at this
      exact this
    | true =>
      (try walk_at "k1")
      cases a with
      | int i =>
        cases b with
        | int j =>
          (try walk_at "k1")
          have := k hp (.refl _)
          rw [hb] at this
          exact this
        | _ => simp [dealB, inI] at hb
      | _ => simp [dealB, inI] at hd
  · obtain ⟨a, b, c, rfl⟩ := len3 hn.symm
    have q1 : decide (w = "within") = false := by rw [hq]; exact d_from_within
    have q2 : decide (w = "from") = true := by rw [hq]; exact d_from_from
    have e : restB w [a, b, c] = (wordB b && inI 0 (10 ^ 60) c) := by rw [hq]; rfl
    rw [e] at k
    clear e hq hw hr
    simp only [q1, q2]
    (try walk_at "k1")
    simp only [x_tup, at_0, at_1, at_2]
    (try walk_at "k1")
    refine lword_run (h.all b (by simp)) fun hp' gr => ?_
    (try walk_at "k1")
    cases hb : wordB b with
    | false =>
      (try walk_at "k1")
      have := k hp' gr
      rw [hb] at this
      exact this
    | true =>
      (try walk_at "k1")
      simp only [o_pow]
      (try walk_at "k1")
      refine ⟨by decide, ?_⟩
      refine lwhole_run ((h.all c (by simp)).grow gr) ?_
      have := k hp' gr
      rw [hb] at this
      exact this
  · obtain ⟨a, b, c, d, rfl⟩ := len4 hn.symm
    have q1 : decide (w = "within") = false := by rw [hq]; exact d_form_within
    have q2 : decide (w = "from") = false := by rw [hq]; exact d_form_from
    have q3 : (([.str "ready", .str "sure", .str "off"] : List PyData).any fun b => PyData.eqv b (.str w)) = false := by rw [hq]; decide +kernel
    have q4 : SeqAt.shaped (.str w) = true ∧ SeqAt.shaped (.list [.str "ready", .str "sure", .str "off"]) = true := by rw [hq]; decide +kernel
    have q5 : decide (w = "form") = true := by rw [hq]; exact d_form_form
    have e : restB w [a, b, c, d] = (tableB b && (wordB c && fieldsB d)) := by rw [hq]; rfl
    rw [e] at k
    clear e hq hw hr
    simp only [q1, q2, q3, q5]
    (try walk_at "k1")
    refine ⟨q4, ?_⟩
    (try walk_at "k1")
    simp only [x_tup, at_0, at_1, at_2]
    (try walk_at "k1")
    refine lwhole_run (h.all b (by simp)) ?_
    have k : ∀ hp', Grow hp hp' → Q (.bl (inI 0 9 b && (wordB c && fieldsB d))) hp' := k
    (try walk_at "k1")
    cases hb : inI 0 9 b with
    | false =>
      (try walk_at "k1")
      have := k hp (.refl _)
      rw [hb] at this
      exact this
    | true =>
      (try walk_at "k1")
      rw [hb] at k
      refine lword_run (h.all c (by simp)) fun hp' gr => ?_
      (try walk_at "k1")
      cases hc : wordB c with
      | false =>
        (try walk_at "k1")
        have := k hp' gr
        rw [hc] at this
        exact this
      | true =>
        (try walk_at "k1")
        have e3 : oAtI [a, b, c, d] 3 hp' = .ok d hp' := oAt_nat 3
        simp only [e3]
        (try walk_at "k1")
        refine lfields_run ((h.all d (by simp)).grow gr) fun hp'' g2 => ?_
        have := k hp'' (gr.trans g2)
        rw [hc] at this
        exact this
  · obtain ⟨a, b, c, rfl⟩ := len3 hn.symm
    have q1 : decide (w = "within") = false := by rw [hq]; exact d_put_within
    have q2 : decide (w = "from") = false := by rw [hq]; exact d_put_from
    have q3 : (([.str "ready", .str "sure", .str "off"] : List PyData).any fun b => PyData.eqv b (.str w)) = false := by rw [hq]; decide +kernel
    have q4 : SeqAt.shaped (.str w) = true ∧ SeqAt.shaped (.list [.str "ready", .str "sure", .str "off"]) = true := by rw [hq]; decide +kernel
    have q5 : decide (w = "form") = false := by rw [hq]; exact d_put_form
    have e : restB w [a, b, c] = (tableB b && [c].all rowB) := by rw [hq]; rfl
    rw [e] at k
    clear e hq hw hr
    simp only [q1, q2, q3, q5]
    (try walk_at "k1")
    refine ⟨q4, ?_⟩
    (try walk_at "k1")
    simp only [x_tup, at_0, at_1, at_2]
    (try walk_at "k1")
    refine lwhole_run (h.all b (by simp)) ?_
    have k : ∀ hp', Grow hp hp' → Q (.bl (inI 0 9 b && [c].all rowB)) hp' := k
    (try walk_at "k1")
    cases hb : inI 0 9 b with
    | false =>
      (try walk_at "k1")
      have := k hp (.refl _)
      rw [hb] at this
      exact this
    | true =>
      (try walk_at "k1")
      rw [hb] at k
      refine rows (fun x hx => h.all x (List.mem_cons_of_mem _ (List.mem_cons_of_mem _ hx))) (by simp only [List.length_cons, List.length_nil]; omega) fun hp' gr => ?_
      exact k hp' gr
  · obtain ⟨a, b, c, d, rfl⟩ := len4 hn.symm
    have q1 : decide (w = "within") = false := by rw [hq]; exact d_change_within
    have q2 : decide (w = "from") = false := by rw [hq]; exact d_change_from
    have q3 : (([.str "ready", .str "sure", .str "off"] : List PyData).any fun b => PyData.eqv b (.str w)) = false := by rw [hq]; decide +kernel
    have q4 : SeqAt.shaped (.str w) = true ∧ SeqAt.shaped (.list [.str "ready", .str "sure", .str "off"]) = true := by rw [hq]; decide +kernel
    have q5 : decide (w = "form") = false := by rw [hq]; exact d_change_form
    have e : restB w [a, b, c, d] = (tableB b && [c, d].all rowB) := by rw [hq]; rfl
    rw [e] at k
    clear e hq hw hr
    simp only [q1, q2, q3, q5]
    (try walk_at "k1")
    refine ⟨q4, ?_⟩
    (try walk_at "k1")
    simp only [x_tup, at_0, at_1, at_2]
    (try walk_at "k1")
    refine lwhole_run (h.all b (by simp)) ?_
    have k : ∀ hp', Grow hp hp' → Q (.bl (inI 0 9 b && [c, d].all rowB)) hp' := k
    (try walk_at "k1")
    cases hb : inI 0 9 b with
    | false =>
      (try walk_at "k1")
      have := k hp (.refl _)
      rw [hb] at this
      exact this
    | true =>
      (try walk_at "k1")
      rw [hb] at k
      refine rows (fun x hx => h.all x (List.mem_cons_of_mem _ (List.mem_cons_of_mem _ hx))) (by simp only [List.length_cons, List.length_nil]; omega) fun hp' gr => ?_
      exact k hp' gr
  · obtain ⟨a, b, c, rfl⟩ := len3 hn.symm
    have q1 : decide (w = "within") = false := by rw [hq]; exact d_strike_within
    have q2 : decide (w = "from") = false := by rw [hq]; exact d_strike_from
    have q3 : (([.str "ready", .str "sure", .str "off"] : List PyData).any fun b => PyData.eqv b (.str w)) = false := by rw [hq]; decide +kernel
    have q4 : SeqAt.shaped (.str w) = true ∧ SeqAt.shaped (.list [.str "ready", .str "sure", .str "off"]) = true := by rw [hq]; decide +kernel
    have q5 : decide (w = "form") = false := by rw [hq]; exact d_strike_form
    have e : restB w [a, b, c] = (tableB b && [c].all rowB) := by rw [hq]; rfl
    rw [e] at k
    clear e hq hw hr
    simp only [q1, q2, q3, q5]
    (try walk_at "k1")
    refine ⟨q4, ?_⟩
    (try walk_at "k1")
    simp only [x_tup, at_0, at_1, at_2]
    (try walk_at "k1")
    refine lwhole_run (h.all b (by simp)) ?_
    have k : ∀ hp', Grow hp hp' → Q (.bl (inI 0 9 b && [c].all rowB)) hp' := k
    (try walk_at "k1")
    cases hb : inI 0 9 b with
    | false =>
      (try walk_at "k1")
      have := k hp (.refl _)
      rw [hb] at this
      exact this
    | true =>
      (try walk_at "k1")
      rw [hb] at k
      refine rows (fun x hx => h.all x (List.mem_cons_of_mem _ (List.mem_cons_of_mem _ hx))) (by simp only [List.length_cons, List.length_nil]; omega) fun hp' gr => ?_
      exact k hp' gr
  · obtain ⟨a, b, rfl⟩ := len2 hn.symm
    have q1 : decide (w = "within") = false := by rw [hq]; exact d_ready_within
    have q2 : decide (w = "from") = false := by rw [hq]; exact d_ready_from
    have q3 : (([.str "ready", .str "sure", .str "off"] : List PyData).any fun b => PyData.eqv b (.str w)) = true := by rw [hq]; decide +kernel
    have q4 : SeqAt.shaped (.str w) = true ∧ SeqAt.shaped (.list [.str "ready", .str "sure", .str "off"]) = true := by rw [hq]; decide +kernel
    have q6 : decide (w = "ready") = true := by rw [hq]; exact d_ready_ready
    have e : restB w [a, b] = (wordB b || (isNon b && !decide (w = "ready"))) := by rw [hq]; rfl
    rw [e] at k
    clear e hq hw hr
    rw [q6] at k
    simp only [q1, q2, q3, q6]
    (try walk_at "k1")
    refine ⟨q4, ?_⟩
    (try walk_at "k1")
    simp only [x_tup, at_0, at_1]
    (try walk_at "k1")
    refine lword_run (h.all b (by simp)) fun hp' gr => ?_
    (try walk_at "k1")
    cases hb : wordB b with
    | true =>
      (try walk_at "k1")
      have := k hp' gr
      rw [hb] at this
      exact this
    | false =>
      (try walk_at "k1")
      have := k hp' gr
      rw [hb] at this
      cases hc : isNon b with
      | true => rw [hc] at this; (try walk_at "k1"); exact this
      | false => rw [hc] at this; (try walk_at "k1"); exact this
  · obtain ⟨a, b, rfl⟩ := len2 hn.symm
    have q1 : decide (w = "within") = false := by rw [hq]; exact d_sure_within
    have q2 : decide (w = "from") = false := by rw [hq]; exact d_sure_from
    have q3 : (([.str "ready", .str "sure", .str "off"] : List PyData).any fun b => PyData.eqv b (.str w)) = true := by rw [hq]; decide +kernel
    have q4 : SeqAt.shaped (.str w) = true ∧ SeqAt.shaped (.list [.str "ready", .str "sure", .str "off"]) = true := by rw [hq]; decide +kernel
    have q6 : decide (w = "ready") = false := by rw [hq]; exact d_sure_ready
    have e : restB w [a, b] = (wordB b || (isNon b && !decide (w = "ready"))) := by rw [hq]; rfl
    rw [e] at k
    clear e hq hw hr
    rw [q6] at k
    simp only [q1, q2, q3, q6]
    (try walk_at "k1")
    refine ⟨q4, ?_⟩
    (try walk_at "k1")
    simp only [x_tup, at_0, at_1]
    (try walk_at "k1")
    refine lword_run (h.all b (by simp)) fun hp' gr => ?_
    (try walk_at "k1")
    cases hb : wordB b with
    | true =>
      (try walk_at "k1")
      have := k hp' gr
      rw [hb] at this
      exact this
    | false =>
      (try walk_at "k1")
      have := k hp' gr
      rw [hb] at this
      cases hc : isNon b with
      | true => rw [hc] at this; (try walk_at "k1"); exact this
      | false => rw [hc] at this; (try walk_at "k1"); exact this
  · obtain ⟨a, b, rfl⟩ := len2 hn.symm
    have q1 : decide (w = "within") = false := by rw [hq]; exact d_off_within
    have q2 : decide (w = "from") = false := by rw [hq]; exact d_off_from
    have q3 : (([.str "ready", .str "sure", .str "off"] : List PyData).any fun b => PyData.eqv b (.str w)) = true := by rw [hq]; decide +kernel
    have q4 : SeqAt.shaped (.str w) = true ∧ SeqAt.shaped (.list [.str "ready", .str "sure", .str "off"]) = true := by rw [hq]; decide +kernel
    have q6 : decide (w = "ready") = false := by rw [hq]; exact d_off_ready
    have e : restB w [a, b] = (wordB b || (isNon b && !decide (w = "ready"))) := by rw [hq]; rfl
    rw [e] at k
    clear e hq hw hr
    rw [q6] at k
    simp only [q1, q2, q3, q6]
    (try walk_at "k1")
    refine ⟨q4, ?_⟩
    (try walk_at "k1")
    simp only [x_tup, at_0, at_1]
    (try walk_at "k1")
    refine lword_run (h.all b (by simp)) fun hp' gr => ?_
    (try walk_at "k1")
    cases hb : wordB b with
    | true =>
      (try walk_at "k1")
      have := k hp' gr
      rw [hb] at this
      exact this
    | false =>
      (try walk_at "k1")
      have := k hp' gr
      rw [hb] at this
      cases hc : isNon b with
      | true => rw [hc] at this; (try walk_at "k1"); exact this
      | false => rw [hc] at this; (try walk_at "k1"); exact this
  · exact absurd hq hr
end
end MI.T
set_option maxHeartbeats 4000000
local macro_rules | `(tactic| walk_at "k1") => `(tactic| simp only [MI.wSs, MI.wS, MI.wE, MI.wEs, MI.wEo, MI.wTg, MI.wTgs, MI.a_ok, MI.a_cd, MI.ab_okB, MI.ab_cd, MI.t_bl, MI.t_non, MI.t_int, MI.c_le, MI.c_lt, MI.c_ge, MI.c_gt, MI.c_eqi, MI.c_eqs, MI.c_nei, MI.c_nes, MI.c_is, MI.v_ok, List.map_cons, List.map_nil, List.cons_append, List.nil_append, List.replicate, List.getElem?_cons_zero, List.getElem?_cons_succ, List.set_cons_zero, List.set_cons_succ, Option.getD_some, if_true, Bool.false_eq_true, if_false, Bool.not_true, Bool.not_false, reduceCtorEq])
namespace MI.T
open PySem L2 MI
section
variable {n : Nat} {hp : Hq} {Q : QD} {E : QX} {d : D}
theorem get_k {p : Nat} {kvs : List (L2.Key × D)} (h : hp[p]? = some (.dic kvs)) : bmK .get2 (.ref p) hp = some .dic := by
  unfold bmK
  simp only [h]
theorem get_w {p : Nat} {w : Str} (h : hp[p]? = some (.dic SZS)) : oBM .get2 .dic (.ref p) [.str w, .int 0] hp = .ok (.int (szI w)) hp := by
  show (match rdD hp p, kOf (.str w) with | some kvs, some k => OutD.ok ((dget kvs k).getD (.int 0)) hp | _, _ => .no) = _
  have : rdD hp p = some SZS := by unfold rdD; simp only [h]
  rw [this]
  show OutD.ok ((dget SZS (.inr w)).getD (.int 0)) hp = _
  rw [sz_of]
def tl2 : Sts → Sts
  | .cons _ (.cons _ r) => r
  | x => x
theorem b27_eq : b__law_is_entry = .cons (.ifs (.or (.not (.blt .isi (.cons (.var 0) (.cons (.bty "tuple") .nil)))) (.or (.cmp .eq (.var 0) (.tup .nil)) (.not (.blt .isi (.cons (.ix (.var 0) (.lit (.int 0))) (.cons (.bty "str") .nil)))))) (.cons (.ret (.so (.lit (.bl false)))) .nil) .nil) (.cons (.ifs (.cmp .eq (.ix (.var 0) (.lit (.int 0))) (.lit (.str "running"))) (.cons (.ret (.so (.call 25 (.cons (.var 0) .nil)))) .nil) .nil) (tl2 b__law_is_entry)) := rfl
theorem b27_tl : tl2 b__law_is_entry = .cons (.ifs (.or (.cmp .ne (.bm .get2 (.call 24 .nil) (.cons (.ix (.var 0) (.lit (.int 0))) (.cons (.lit (.int 0)) .nil))) (.blt .len (.cons (.var 0) .nil))) (.not (.call 23 (.cons (.ix (.var 0) (.lit (.int 1))) .nil)))) (.cons (.ret (.so (.lit (.bl false)))) .nil) .nil) (.cons (.ret (.so (.call 26 (.cons (.ix (.var 0) (.lit (.int 0))) (.cons (.sl (.var 0) (.so (.lit (.int 1))) .no) .nil))))) .nil) := rfl
theorem lent_run (h : Ok hp d) (k : ∀ hp', Grow hp hp' → Q (.bl (lentB d)) hp') : wCall g (n + 5) 27 [d] hp Q E := by
  rw [call__law_is_entry]
  refine ⟨rfl, ?_⟩
  rw [b27_eq]
  generalize hB : tl2 b__law_is_entry = B
  (try walk_at "k1")
  simp only [isi_t h]
  (try walk_at "k1")
  cases d with
  | tup xs =>
    simp only [isT]
    (try walk_at "k1")
    rw [eq_t0]
    (try walk_at "k1")
    cases xs with
    | nil => simp only [List.isEmpty_nil]; (try walk_at "k1"); exact k hp (.refl _)
    | cons x r =>
      simp only [List.isEmpty_cons, x_tup, at_0]
      (try walk_at "k1")
      have hx := h.all x List.mem_cons_self
      simp only [isi_s hx]
      (try walk_at "k1")
      cases x with
      | str w =>
        simp only [isS]
        (try walk_at "k1")
        by_cases hq : w = "running"
        · have q1 : decide (w = "running") = true := decide_eq_true hq
          have e : lentB (.tup (.str w :: r)) = runB r := if_pos hq
          rw [e] at k
          simp only [q1]
          (try walk_at "k1")
          exact running_run h k
        · have q1 : decide (w = "running") = false := decide_eq_false hq
          have e : lentB (.tup (.str w :: r)) = (decide (szI w = ((r.length + 1 : Nat) : Int)) && (dealB (r.getD 0 .non) && restB w r)) := if_neg hq
          rw [e] at k
          simp only [q1]
          (try walk_at "k1")
          rw [← hB, b27_tl]
          (try walk_at "k1")
          refine sizes_run ?_
          rw [get_k new_at]
          (try walk_at "k1")
          rw [x_tup, at_0]
          (try walk_at "k1")
          rw [get_w new_at]
          (try walk_at "k1")
          simp only [len_t]
          (try walk_at "k1")
          have el : ((D.str w :: r).length : Int) = ((r.length + 1 : Nat) : Int) := by simp
          rw [el]
          have g1 : Grow hp (hp ++ [.dic SZS]) := .app
          by_cases q2 : szI w = ((r.length + 1 : Nat) : Int)
          · have q3 : decide (szI w = ((r.length + 1 : Nat) : Int)) = true := decide_eq_true q2
            rw [q3] at k ⊢
            (try walk_at "k1")
            cases hw : forms w with
            | none =>
              have : szI w = 0 := by
                unfold szI
                rw [if_neg hq, hw]
              omega
            | some ls =>
              have hl : szI w = (ls.length : Int) + 1 := by
                unfold szI
                rw [if_neg hq, hw]
              have hn : ls.length = r.length := by omega
              cases r with
              | nil =>
                exfalso
                rcases forms_cases hw with ⟨_, rfl⟩ | ⟨_, rfl⟩ | ⟨_, rfl⟩ | ⟨_, rfl⟩ | ⟨_, rfl⟩ | ⟨_, rfl⟩ | ⟨_, rfl⟩ | ⟨_, rfl⟩ | ⟨_, rfl⟩ | ⟨_, rfl⟩ <;> cases hn
              | cons a r =>
                simp only [x_tup, at_1]
                (try walk_at "k1")
                have ha := h.all a (by simp)
                refine ldeal_run (ha.grow g1) ?_
                (try walk_at "k1")
                have k : ∀ hp', Grow hp hp' → Q (.bl (dealB a && restB w (a :: r))) hp' := k
                cases hd : dealB a with
                | false =>
                  (try walk_at "k1")
                  have := k _ g1
                  rw [hd] at this
                  exact this
                | true =>
                  (try walk_at "k1")
                  simp only [x_tup, at_0, bnd]
                  (try walk_at "k1")
                  simp only [sl_tup, cut_1, a_ok, List.drop_succ_cons, List.drop_zero]
                  refine rest_run hw hn hq ?_ hd fun hp' gr => ?_
                  · have hlt := h.lt
                    exact (Ok.tup (a :: r) (by simp only [List.length_cons] at hlt ⊢; omega) fun x hx => h.all x (List.mem_cons_of_mem _ hx)).grow g1
                  · have := k _ (g1.trans gr)
                    rw [hd] at this
                    exact this
          · have q3 : decide (szI w = ((r.length + 1 : Nat) : Int)) = false := decide_eq_false q2
            rw [q3] at k ⊢
            (try walk_at "k1")
            exact k _ g1
      | _ => simp only [isS]; (try walk_at "k1"); exact k hp (.refl _)
  | _ => simp only [isT]; (try walk_at "k1"); exact k hp (.refl _)
/-! the repr of a list of truths -/
theorem smal_bools : ∀ bs : List Bool, smalAll (bs.map .bool) = true
  | [] => by simp [smalAll]
  | b :: r => by simp [smalAll, smal, smal_bools r]
theorem bulk_bools : ∀ bs : List Bool, PyData.bulkAll (bs.map .bool) = bs.length
  | [] => rfl
  | n :: r => by
    have := bulk_bools r
    simp only [List.map_cons, PyData.bulkAll, PyData.bulk, List.length_cons]
    omega
theorem toP_bools {p : Nat} {bs : List Bool} (h : hp[p]? = some (.lst (bs.map D.bl))) : toP 40 hp (.ref p) = some (.list (bs.map .bool)) := by
  show (match gtL hp p with | some ds => (mapO (toP 39 hp) ds).map PyData.list | none => none) = _
  rw [gtL_of h]
  show (mapO (toP 39 hp) (bs.map D.bl)).map PyData.list = _
  have e : mapO (toP 39 hp) (bs.map D.bl) = some (bs.map PyData.bool) := mapO_map bs fun _ _ => rfl
  rw [e]
  rfl
theorem repr_bools {p : Nat} {bs : List Bool} (hl : bs.length < 1000) (hd : (PyData.list (bs.map .bool)).depth ≤ 64) (h : hp[p]? = some (.lst (bs.map D.bl))) (k : Q (.str (PyData.list (bs.map .bool)).shown) hp) : (oBF .repr [.ref p] hp).app Q := by
  rw [repr_at (toP_bools h), a_cd]
  refine ⟨rp_of (by simpa [smal] using smal_bools bs) hd ?_, k⟩
  have := bulk_bools bs
  show PyData.bulkAll (bs.map .bool) ≤ _
  omega
end
end MI.T
set_option maxHeartbeats 4000000
local macro_rules | `(tactic| walk_at "k1") => `(tactic| simp only [MI.wSs, MI.wS, MI.wE, MI.wEs, MI.wEo, MI.wTg, MI.wTgs, MI.a_ok, MI.a_cd, MI.ab_okB, MI.ab_cd, MI.t_bl, MI.t_non, MI.t_int, MI.c_le, MI.c_lt, MI.c_ge, MI.c_gt, MI.c_eqi, MI.c_eqs, MI.c_nei, MI.c_nes, MI.c_is, MI.v_ok, List.map_cons, List.map_nil, List.cons_append, List.nil_append, List.replicate, List.getElem?_cons_zero, List.getElem?_cons_succ, List.set_cons_zero, List.set_cons_succ, Option.getD_some, if_true, Bool.false_eq_true, if_false, Bool.not_true, Bool.not_false, reduceCtorEq])
namespace MI.T
open PySem L2 MI
def S1 : Exs := .cons (.call 15 (.cons (.var 0) (.cons (.bin .sub (.lit (.int 0)) (.var 1)) (.cons (.var 1) .nil)))) (.cons (.call 16 (.cons (.var 0) .nil)) (.cons (.call 15 (.cons (.var 0) (.cons (.bin .sub (.lit (.int 0)) (.bin .pow (.lit (.int 10)) (.lit (.int 9)))) (.cons (.bin .pow (.lit (.int 10)) (.lit (.int 9))) .nil)))) .nil))
def S2 : Exs := .cons (.call 22 (.cons (.var 0) .nil)) (.cons (.call 17 (.cons (.var 0) .nil)) (.cons (.call 15 (.cons (.var 0) (.cons (.lit (.int 0)) (.cons (.var 1) .nil)))) (.cons (.call 27 (.cons (.var 0) .nil)) .nil)))
def S3 : Exs := .cons (.call 0 (.cons (.var 0) .nil)) (.cons (.call 2 (.cons (.var 0) .nil)) (.cons (.call 3 (.cons (.var 0) .nil)) (.cons (.call 4 (.cons (.var 0) .nil)) (.cons (.call 5 (.cons (.var 0) .nil)) (.cons (.call 6 (.cons (.var 0) .nil)) .nil)))))
def S4 : Exs := .cons (.call 11 (.cons (.var 0) .nil)) .nil
theorem b30_eq : b__law_plain_right = .cons (.asg (.nm 1) (.bin .pow (.lit (.int 10)) (.lit (.int 60)))) (.cons (.asg (.nm 2) (.lst S1)) (.cons (.asg (.nm 2) (.bin .add (.var 2) (.lst S2))) (.cons (.asg (.nm 3) (.lst S3)) (.cons (.ret (.so (.cmp .eq (.blt .repr (.cons (.bin .add (.var 3) (.lst S4)) .nil)) (.blt .repr (.cons (.var 2) .nil))))) .nil)))) := rfl
section
variable {n : Nat} {hp : Hq} {Q : List D → Hq → Prop} {E : QX} {d : D} {env : Env} {F : Int}
theorem s1_run (h : Ok hp d) (h0 : env[0]? = some (some d)) (h1 : env[1]? = some (some (.int F))) (k : ∀ hp', Grow hp hp' → Q [.bl (inI (0 - F) F d), .bl (wordB d), .bl (worthB d)] hp') : wEs g (wCall g (n + 5)) S1 env hp Q E := by
  unfold S1
  simp only [wEs, wE, h0, h1]
  (try walk_at "k1")
  simp only [o_sub]
  (try walk_at "k1")
  refine lwhole_run h ?_
  refine lword_run h fun h1 g1 => ?_
  simp only [o_pow]
  (try walk_at "k1")
  refine ⟨by decide, ?_⟩
  simp only [o_sub, o_pow]
  (try walk_at "k1")
  refine ⟨by decide, ?_⟩
  exact lwhole_run (h.grow g1) (k _ g1)
theorem s2_run (h : Ok hp d) (h0 : env[0]? = some (some d)) (h1 : env[1]? = some (some (.int F))) (k : ∀ hp', Grow hp hp' → Q [.bl (rowB d), .bl (fieldsB d), .bl (inI 0 F d), .bl (lentB d)] hp') : wEs g (wCall g (n + 5)) S2 env hp Q E := by
  unfold S2
  simp only [wEs, wE, h0, h1]
  (try walk_at "k1")
  refine lsome_run h fun h1 g1 => ?_
  refine lfields_run (h.grow g1) fun h2 g2 => ?_
  have G2 := g1.trans g2
  refine lwhole_run (h.grow G2) ?_
  refine lent_run (h.grow G2) fun h3 g3 => ?_
  exact k _ (G2.trans g3)
theorem s3_run (h : Ok hp d) (h0 : env[0]? = some (some d)) (k : ∀ hp', Grow hp hp' → Q [.bl (isI d), .bl (wordB d), .bl (worthB d), .bl (rowB d), .bl (fieldsB d), .bl (placeB d)] hp') : wEs g (wCall g (n + 5)) S3 env hp Q E := by
  unfold S3
  simp only [wEs, wE, h0]
  refine whole_run h ?_
  refine word_run h fun h1 g1 => ?_
  refine worth_run (h.grow g1) ?_
  refine row_run (h.grow g1) fun h2 g2 => ?_
  have G2 := g1.trans g2
  refine fields_run (h.grow G2) fun h3 g3 => ?_
  have G3 := G2.trans g3
  exact place_run (h.grow G3) (k _ G3)
theorem s4_run (h : Ok hp d) (h0 : env[0]? = some (some d)) (k : ∀ hp', Grow hp hp' → Q [.bl (entB d)] hp') : wEs g (wCall g (n + 5)) S4 env hp Q E := by
  unfold S4
  simp only [wEs, wE, h0]
  exact ent_run h k
end
theorem add_at {hp : Hq} {p q : Nat} {xs ys : List D} {Q : QD} (h1 : hp[p]? = some (.lst xs)) (h2 : hp[q]? = some (.lst ys)) (hz : xs.length + ys.length ≤ 1000) (k : Q (.ref hp.length) (hp ++ [.lst (xs ++ ys)])) : (oBin .add (.ref p) (.ref q) hp).app Q := by
  rw [o_addl]
  simp only [gtL_of h1, gtL_of h2, a_cd]
  exact ⟨by show _ ≤ 16777216; omega, k⟩
section
variable {n : Nat} {hp : Hq} {Q : QD} {E : QX} {d : D}
theorem plain_run (h : Ok hp d) (k : ∀ hp', Grow hp hp' → Q (.bl true) hp') : wCall g (n + 6) 30 [d] hp Q E := by
  rw [call__law_plain_right]
  refine ⟨rfl, ?_⟩
  rw [b30_eq]
  generalize e1 : S1 = A1
  generalize e2 : S2 = A2
  generalize e3 : S3 = A3
  generalize e4 : S4 = A4
  (try walk_at "k1")
  simp only [o_pow]
  (try walk_at "k1")
  refine ⟨by decide, ?_⟩
  generalize eF : (10 : Int) ^ (60 : Int).toNat = F
  rw [← e1]
  refine s1_run h rfl rfl fun h1 g1 => ?_
  (try walk_at "k1")
  rw [← e2]
  have G1 : Grow hp (h1 ++ [O.lst [.bl (inI (0 - F) F d), .bl (wordB d), .bl (worthB d)]]) := g1.trans .app
  refine s2_run (h.grow G1) rfl rfl fun h2 g2 => ?_
  have G2 := G1.trans g2
  have m1 : (h2 ++ [O.lst [.bl (rowB d), .bl (fieldsB d), .bl (inI 0 F d), .bl (lentB d)]])[h1.length]? = some (.lst [.bl (inI (0 - F) F d), .bl (wordB d), .bl (worthB d)]) := app_old (g2.get new_at)
  refine add_at m1 new_at (by simp) ?_
  simp only [List.cons_append, List.nil_append]
  (try walk_at "k1")
  generalize e6 : h2 ++ [O.lst [.bl (rowB d), .bl (fieldsB d), .bl (inI 0 F d), .bl (lentB d)]] = h3
  have G3 : Grow hp h3 := by rw [← e6]; exact G2.trans .app
  generalize e7 : h3 ++ [O.lst [.bl (inI (0 - F) F d), .bl (wordB d), .bl (worthB d), .bl (rowB d), .bl (fieldsB d), .bl (inI 0 F d), .bl (lentB d)]] = h4
  have G4 : Grow hp h4 := by rw [← e7]; exact G3.trans .app
  have due : h4[h3.length]? = some (.lst [.bl (inI (0 - F) F d), .bl (wordB d), .bl (worthB d), .bl (rowB d), .bl (fieldsB d), .bl (inI 0 F d), .bl (lentB d)]) := by rw [← e7]; exact new_at
  rw [← e3]
  refine s3_run (h.grow G4) rfl fun h5 g5 => ?_
  (try walk_at "k1")
  have G5 := G4.trans g5
  have due5 := g5.get due
  rw [← e4]
  have G6 : Grow hp (h5 ++ [O.lst [.bl (isI d), .bl (wordB d), .bl (worthB d), .bl (rowB d), .bl (fieldsB d), .bl (placeB d)]]) := G5.trans .app
  refine s4_run (h.grow G6) rfl fun h7 g7 => ?_
  have m2 : (h7 ++ [O.lst [.bl (entB d)]])[h5.length]? = some (.lst [.bl (isI d), .bl (wordB d), .bl (worthB d), .bl (rowB d), .bl (fieldsB d), .bl (placeB d)]) := app_old (g7.get new_at)
  refine add_at m2 new_at (by simp) ?_
  simp only [List.cons_append, List.nil_append]
  have G8 : Grow hp (h7 ++ [O.lst [.bl (entB d)]] ++ [O.lst [.bl (isI d), .bl (wordB d), .bl (worthB d), .bl (rowB d), .bl (fieldsB d), .bl (placeB d), .bl (entB d)]]) := (G6.trans g7).trans ⟨_, List.append_assoc _ _ _⟩
  have due8 : (h7 ++ [O.lst [.bl (entB d)]] ++ [O.lst [.bl (isI d), .bl (wordB d), .bl (worthB d), .bl (rowB d), .bl (fieldsB d), .bl (placeB d), .bl (entB d)]])[h3.length]? = some (.lst [.bl (inI (0 - F) F d), .bl (wordB d), .bl (worthB d), .bl (rowB d), .bl (fieldsB d), .bl (inI 0 F d), .bl (lentB d)]) := app_old (app_old (g7.get (app_old due5)))
  have dep : ∀ a b c x y z w : Bool, (PyData.list ([a, b, c, x, y, z, w].map .bool)).depth ≤ 64 := fun a b c x y z w => by
    simp [PyData.depth, PyData.depthAll]
  refine repr_bools (bs := [isI d, wordB d, worthB d, rowB d, fieldsB d, placeB d, entB d]) (by simp) (dep _ _ _ _ _ _ _) new_at ?_
  (try walk_at "k1")
  refine repr_bools (bs := [inI (0 - F) F d, wordB d, worthB d, rowB d, fieldsB d, inI 0 F d, lentB d]) (by simp) (dep _ _ _ _ _ _ _) due8 ?_
  (try walk_at "k1")
  have f1 : inI (0 - F) F d = isI d := by
    cases h with
    | int i hi =>
      show (decide (0 - F ≤ i) && decide (i ≤ F)) = true
      have : F = 10 ^ 60 := by rw [← eF]; decide +kernel
      rw [decide_eq_true (by omega), decide_eq_true (by omega)]
      rfl
    | _ => rfl
  have f2 : inI 0 F d = placeB d := by
    rw [place_in h]
    have : F = 10 ^ 60 := by rw [← eF]; decide +kernel
    rw [this]
  rw [f1, f2, same_ent h]
  simp only [decide_true]
  exact k _ G8
end
end MI.T
set_option maxHeartbeats 4000000
local macro_rules | `(tactic| walk_at "k1") => `(tactic| simp only [MI.wSs, MI.wS, MI.wE, MI.wEs, MI.wEo, MI.wTg, MI.wTgs, MI.a_ok, MI.a_cd, MI.ab_okB, MI.ab_cd, MI.t_bl, MI.t_non, MI.t_int, MI.c_le, MI.c_lt, MI.c_ge, MI.c_gt, MI.c_eqi, MI.c_eqs, MI.c_nei, MI.c_nes, MI.c_is, MI.c_nis, MI.v_ok, List.map_cons, List.map_nil, List.cons_append, List.nil_append, List.replicate, List.getElem?_cons_zero, List.getElem?_cons_succ, List.set_cons_zero, List.set_cons_succ, Option.getD_some, if_true, Bool.false_eq_true, if_false, Bool.not_true, Bool.not_false, reduceCtorEq])
namespace MI.T
open PySem L2 MI
theorem hf_take : g.fns[14]? = some ⟨2, 3, bTake⟩ := rfl
theorem hf_pool : g.fns[13]? = some ⟨2, 4, bPool 12⟩ := rfl
theorem hf_cell : g.fns[12]? = some ⟨2, 2, bCell⟩ := rfl
/-! behind draws: all but the pool stays, and the pool is one -/
structure Pst (i : Nat) (a b : Hq) : Prop where
  keep : Keep (· = i) a b
  pool : PoolAt b i
section
variable {i : Nat} {a b c : Hq}
theorem Pst.refl (h : PoolAt a i) : Pst i a a := ⟨.refl _ _, h⟩
theorem Pst.trans (h : Pst i a b) (k : Pst i b c) : Pst i a c := ⟨h.keep.trans k.keep, k.pool⟩
theorem pool_grow (h : PoolAt a i) (k : Grow a b) : PoolAt b i := by
  obtain ⟨c, s, h, h2⟩ := h
  exact ⟨c, s, k.get h, h2⟩
theorem Pst.grow (h : PoolAt a i) (k : Grow a b) : Pst i a b := ⟨k.keep, pool_grow h k⟩
theorem pool_lt (h : PoolAt a i) : i < a.length := by
  obtain ⟨c, s, h, _⟩ := h
  exact lt_of h
theorem Pst.get (h : Pst i a b) {j : Nat} {o : O} (e : a[j]? = some o) (hn : j ≠ i) : b[j]? = some o := h.keep.get e hn
theorem Ok.pst {d : D} (h : Ok a d) (p0 : PoolAt a i) (p : Pst i a b) : Ok b d := by
  induction h with
  | non => exact .non
  | bl b => exact .bl b
  | int i h => exact .int i h
  | str x h => exact .str x h
  | tup xs hl _ ih => exact .tup xs hl ih
  | lst j xs h =>
    by_cases e : j = i
    · obtain ⟨c, s, q, _⟩ := p.pool
      exact .lst j _ (e ▸ q)
    · exact .lst j _ (p.get h e)
  | dic j kvs h =>
    by_cases e : j = i
    · obtain ⟨c, s, q, _⟩ := p0
      rw [← e, h] at q
      cases q
    · exact .dic j _ (p.get h e)
end
theorem pick {xs : List D} {r : Int} {hp : Hq} (h0 : 0 ≤ r) (h1 : r < (xs.length : Int)) : ∃ d, d ∈ xs ∧ oAtI xs r hp = .ok d hp := by
  obtain ⟨k, rfl⟩ := Int.eq_ofNat_of_zero_le h0
  have hk : k < xs.length := by exact_mod_cast h1
  refine ⟨xs[k], List.getElem_mem hk, ?_⟩
  show oAtI xs (k : Int) hp = _
  rw [oAt_nat, List.getElem?_eq_getElem hk]
theorem ix_pick {xs : List D} {r : Int} {hp : Hq} {p : Nat} {Q : QD} (h : hp[p]? = some (.lst xs)) (h0 : 0 ≤ r) (h1 : r < (xs.length : Int)) (k : ∀ d ∈ xs, Q d hp) : (oIx (.ref p) (.int r) hp).app Q := by
  obtain ⟨d, hd, e⟩ := pick (hp := hp) h0 h1
  rw [x_refi, h]
  show (oAtI xs r hp).app Q
  rw [e, a_ok]
  exact k d hd
theorem tup_l {xs : List D} {p : Nat} {hp : Hq} (e : hp[p]? = some (.lst xs)) : oBF .tuple1 [.ref p] hp = .ok (.tup xs) hp := by
  show (match gtL hp p with | some xs => OutD.ok (.tup xs) hp | none => _) = _
  rw [gtL_of e]
section
variable {n i : Nat} {hp : Hq} {Q : QD} {E : QX}
theorem dworth_run (h : PoolAt hp i) (k : ∀ (v : Int) hp', -1 ≤ v → v ≤ 1000000000 → Pst i hp hp' → Q (.int v) hp') : wCall g (n + 2) 20 [.ref i] hp Q E := by
  rw [call__law_worth]
  refine ⟨rfl, ?_⟩
  unfold b__law_worth
  (try walk_at "k1")
  simp only [o_pow]
  (try walk_at "k1")
  refine ⟨by decide, ?_⟩
  refine take_run hf_take h (by decide) (by decide) fun r1 h1 a1 b1 k1 _ p1 => ?_
  simp only [o_sub]
  (try walk_at "k1")
  have hi := pool_lt p1
  refine take_run hf_take (pool_grow p1 .app) (by decide) (by decide) fun r2 h2 a2 b2 k2 _ p2 => ?_
  refine ix_pick (k2.get new_at (by omega)) a2 (by simpa using b2) fun d hd => ?_
  have P : Pst i hp h2 := ⟨(k1.trans .app).trans k2, p2⟩
  have e9 : (10 : Int) ^ (9 : Int).toNat = 1000000000 := by decide
  rw [e9] at hd
  simp only [List.mem_cons, List.not_mem_nil, or_false] at hd
  rcases hd with rfl | rfl | rfl | rfl | rfl | rfl | rfl | rfl <;> exact k _ _ (by omega) (by omega) P
/-- a row: so many numbers in bounds -/
def RowI (m : Nat) (ns : List Int) : Prop := ns.length = m ∧ ∀ x ∈ ns, -1 ≤ x ∧ x ≤ 1000000000
theorem drow_run {m : Nat} (hm : 1 ≤ m ∧ m ≤ 6) (h : PoolAt hp i) (k : ∀ ns hp', RowI m ns → Pst i hp hp' → Q (.tup (ns.map D.int)) hp') : wCall g (n + 3) 21 [.ref i, .int (m : Int)] hp Q E := by
  rw [call__law_row]
  refine ⟨rfl, ?_⟩
  unfold b__law_row
  simp only [wSs, wS, wEo, wE, wEs, wIt, List.map_cons, List.map_nil, List.cons_append, List.nil_append, List.replicate, List.getElem?_cons_zero, List.getElem?_cons_succ]
  refine take_run hf_take h (by decide) (by decide) fun r1 h1 a1 b1 k1 _ p1 => ?_
  simp only [o_sub, a_ok]
  refine ⟨⟨by omega, by omega⟩, ?_⟩
  have hi := pool_lt p1
  have P1 : Pst i hp (h1 ++ [O.lst [.int r1]]) := ⟨k1.trans .app, pool_grow p1 .app⟩
  refine lc_run (m - 1) (fun j acc h' => j ≤ 6 ∧ Pst i (h1 ++ [O.lst [.int r1]]) h' ∧ ∃ ns, acc = ns.map D.int ∧ RowI j ns) (fun j acc h' kn hj hI h0 hs => ?_) (fun j acc h' hI => ?_) (fun acc h' hI => ?_) ⟨by omega, .refl P1.pool, [], rfl, rfl, by simp⟩
  · obtain ⟨hj6, P, ns, rfl, hn, hb⟩ := hI
    refine ⟨.int (0 + (j : Int)), ?_, ?_⟩
    · show some (if (j : Int) < (m : Int) - 1 - 0 then _ else _) = _
      rw [if_pos (by omega)]
    · simp only [wTg, wEo, wE, wEs, wipeE, List.set_cons_zero, List.set_cons_succ, List.getElem?_cons_zero, List.getElem?_cons_succ]
      refine dworth_run P.pool fun v h2 v1 v2 P2 => ?_
      refine hs (.int v) h2 ⟨by omega, P.trans P2, ns ++ [v], by simp, by simp [hn], fun x hx => ?_⟩
      rcases List.mem_append.mp hx with q | q
      · exact hb x q
      · have : x = v := by simpa using q
        rw [this]
        exact ⟨v1, v2⟩
  · obtain ⟨hj6, P, ns, rfl, hn, hb⟩ := hI
    rw [List.length_map, hn]
    show _ < 16777216
    omega
  · obtain ⟨hj6, P, ns, rfl, hn, hb⟩ := hI
    refine ⟨?_, ?_⟩
    · show some (if ((m - 1 : Nat) : Int) < (m : Int) - 1 - 0 then _ else _) = _
      rw [if_neg (by omega)]
    · refine add_at (app_old (P.get new_at (by omega))) new_at (by simp [hn]; omega) ?_
      show (oBF .tuple1 [.ref _] _).app Q
      rw [tup_l new_at, a_ok]
      have := k (r1 :: ns) (h' ++ [.lst (ns.map D.int)] ++ [.lst ([.int r1] ++ ns.map D.int)]) ⟨by simp [hn]; omega, fun x hx => ?_⟩ ?_
      · exact this
      · rcases List.mem_cons.mp hx with q | q
        · rw [q]; omega
        · exact hb x q
      · exact (P1.trans P).trans (.grow P.pool ⟨_, List.append_assoc _ _ _⟩)
/-! fields -/
theorem er_map {α β : Type} (f : α → β) : ∀ (l : List α) (q : Nat), (l.map f).eraseIdx q = (l.eraseIdx q).map f
  | [], _ => by simp
  | a :: r, 0 => rfl
  | a :: r, q + 1 => by simp [er_map f r q]
def N7 : List Str := ["a", "b", "name", "far", "c", "key", "id"]
theorem n7_ok : ∀ x ∈ N7, PyData.strOk x = true ∧ x.length ≤ 8 ∧ wordB (.str x) = true ∧ (x.cps.toList.all fun c => decide (c < 16 ^ 8)) = true := by decide +kernel
theorem any_strs (y : Str) : ∀ ns : List Str, ((ns.map PyData.str).any fun b => PyData.eqv b (.str y)) = decide (y ∈ ns)
  | [] => rfl
  | k :: r => by
    rw [List.map_cons, List.any_cons, any_strs y r]
    simp only [PyData.eqv, List.mem_cons]
    by_cases h : k = y
    · subst h; simp
    · simp [h, Ne.symm h]
theorem sh_strs (ns : List Str) (h : ∀ x ∈ ns, x ∈ N7) : SeqAt.shaped (.list (ns.map PyData.str)) = true := by
  have h1 : ∀ ns : List Str, (∀ x ∈ ns, x ∈ N7) → PyData.canLayAll0 (ns.map PyData.str) = true ∧ PyData.depthAll (ns.map PyData.str) = 0 := by
    intro ns
    induction ns with
    | nil => intro _; exact ⟨rfl, rfl⟩
    | cons k r ih =>
      intro h
      have q := ih fun x hx => h x (List.mem_cons_of_mem _ hx)
      have q2 := (n7_ok k (h k List.mem_cons_self)).1
      simp [PyData.canLayAll0, PyData.canLay0, PyData.depthAll, PyData.depth, q, q2]
  have h3 : (PyData.list (ns.map PyData.str)).depth ≤ 64 := by
    simp only [PyData.depth]
    have := (h1 ns h).2
    omega
  unfold SeqAt.shaped
  rw [Bool.and_eq_true]
  exact ⟨by simpa [PyData.canLay0] using (h1 ns h).1, decide_eq_true h3⟩
theorem nin_strs {p : Nat} {ns : List Str} {y : Str} {Q : QD} (e : hp[p]? = some (.lst (ns.map D.str))) (h : ∀ x ∈ ns, x ∈ N7) (hy : y ∈ N7) (k : Q (.bl (!decide (y ∈ ns))) hp) : (oCmp .nin (.str y) (.ref p) hp).app Q := by
  have h1 : oIn (.str y) (.ref p) hp = oInS (.str y) (ns.map D.str) hp := by
    unfold oIn
    simp only [e]
  rw [c_nin, h1]
  unfold oInS
  have e1 : mapO (toP 40 hp) (ns.map D.str) = some (ns.map PyData.str) := mapO_map ns fun _ _ => rfl
  rw [e1, show toP 40 hp (.str y) = some (.str y) from rfl]
  simp only [any_strs, v_cd, a_cd, if_true]
  refine ⟨⟨?_, sh_strs ns h⟩, k⟩
  unfold SeqAt.shaped
  simp [PyData.canLay0, PyData.depth, (n7_ok y hy).1]
structure FieldsI (fs : List Str) : Prop where
  nd : fs.Nodup
  mem : ∀ x ∈ fs, x ∈ N7
  len : 1 ≤ fs.length ∧ fs.length ≤ 4
abbrev sPop : MI.St := .asg (.nm 4) (.bm .pop1 (.var 1) (.cons (.call 14 (.cons (.var 0) (.cons (.blt .len (.cons (.var 1) .nil)) .nil))) .nil))
abbrev sApp : MI.St := .ifs (.cmp .nin (.var 4) (.var 2)) (.cons (.expr (.bm .append (.var 2) (.cons (.var 4) .nil))) .nil) .nil
theorem _root_.MI.Keep.late {P : Nat → Prop} {a b : Hq} {j : Nat} {o : O} (h : Keep P a b) (hj : a.length ≤ j) : Keep P a (b.set j o) :=
  ⟨by simpa using h.len, fun q hq hn => by rw [List.getElem?_set_ne (by omega)]; exact h.at_ q hq hn⟩
theorem pool_set {j : Nat} {o : O} (h : PoolAt hp i) (hj : j ≠ i) : PoolAt (hp.set j o) i := by
  obtain ⟨c, s, h, h2⟩ := h
  exact ⟨c, s, by rw [List.getElem?_set_ne hj]; exact h, h2⟩
structure FI (i a b : Nat) (hp0 : Hq) (j : Nat) (h' : Hq) (ls fs : List Str) : Prop where
  P : Pst i hp0 h'
  la : h'[a]? = some (.lst (ls.map D.str))
  lb : h'[b]? = some (.lst (fs.map D.str))
  ll : ls.length + j = 5
  lm : ∀ x ∈ ls, x ∈ N7
  nd : fs.Nodup
  fm : ∀ x ∈ fs, x ∈ N7
  fl : 1 ≤ fs.length ∧ fs.length ≤ j + 1
theorem turn_fields {a b j : Nat} {hp0 : Hq} {ls fs : List Str} {x3 x4 : Option D} {K : KS} (ha : hp0.length ≤ a) (hb : hp0.length ≤ b) (hab : a ≠ b) (hi : i < hp0.length) (hj : j < 3) (I : FI i a b hp0 j hp ls fs)
    (k : ∀ h' ls fs y4, FI i a b hp0 (j + 1) h' ls fs → K.nx [some (.ref i), some (.ref a), some (.ref b), x3, y4] h') :
    wSs g (wCall g (n + 1)) (.cons sPop (.cons sApp .nil)) [some (.ref i), some (.ref a), some (.ref b), x3, x4] hp K := by
  have hl := I.ll
  have hz : ls ≠ [] := by rintro rfl; simp at hl; omega
  simp only [sPop, sApp, wSs, wS, wE, wEs, wTg, List.getElem?_cons_zero, List.getElem?_cons_succ]
  have bk : bmK .pop1 (.ref a) hp = some .lst := by
    unfold bmK
    simp only [I.la]
  simp only [bk]
  have e1 : oBF .len [.ref a] hp = .ok (.int (ls.map D.str).length) hp := by
    show (match hp[a]? with | some (.lst xs) => OutD.ok (.int xs.length) hp | some (.dic kvs) => OutD.ok (.int kvs.length) hp | some (.fdic kvs) => OutD.ok (.int kvs.length) hp | _ => .no) = _
    rw [I.la]
  rw [e1, a_ok, List.length_map]
  refine take_run hf_take I.P.pool (by omega) (by omega) fun r h1 r1 r2 k1 _ p1 => ?_
  obtain ⟨q, rfl⟩ := Int.eq_ofNat_of_zero_le r1
  have hq : q < ls.length := by omega
  have la1 : h1[a]? = some (.lst (ls.map D.str)) := k1.get I.la (by omega)
  have lb1 : h1[b]? = some (.lst (fs.map D.str)) := k1.get I.lb (by omega)
  have e2 : oBM .pop1 .lst (.ref a) [.int (q : Int)] h1 = .cd (-(2 ^ 63) ≤ (q : Int) ∧ (q : Int) < 2 ^ 63) (.str ls[q]) (h1.set a (.lst ((ls.eraseIdx q).map D.str))) := by
    show (match gtL h1 a with | some xs => (match L2.ixN xs.length (q : Int) with | some j => (match xs[j]? with | some d => OutD.cd (-(2 ^ 63) ≤ (q : Int) ∧ (q : Int) < 2 ^ 63) d (h1.set a (.lst (xs.eraseIdx j))) | none => .no) | none => .no) | none => .no) = _
    rw [gtL_of la1]
    simp only [ixN_nat (n := (ls.map D.str).length) (k := q) (by simpa using hq)]
    rw [List.getElem?_map, List.getElem?_eq_getElem hq]
    simp only [Option.map_some]
    rw [er_map]
  show (oBM .pop1 .lst (.ref a) [.int (q : Int)] h1).app _
  rw [e2, a_cd]
  refine ⟨⟨by omega, by omega⟩, ?_⟩
  have hm : ls[q] ∈ N7 := I.lm _ (List.getElem_mem hq)
  have P1 : Pst i hp0 h1 := I.P.trans ⟨k1, p1⟩
  have P2 : Pst i hp0 (h1.set a (.lst ((ls.eraseIdx q).map D.str))) := ⟨P1.keep.late ha, pool_set P1.pool (by omega)⟩
  have la2 : (h1.set a (.lst ((ls.eraseIdx q).map D.str)))[a]? = some (.lst ((ls.eraseIdx q).map D.str)) := set_same la1
  have lb2 : (h1.set a (.lst ((ls.eraseIdx q).map D.str)))[b]? = some (.lst (fs.map D.str)) := by rw [set_other hab]; exact lb1
  generalize h1.set a (.lst ((ls.eraseIdx q).map D.str)) = h2 at P2 la2 lb2 ⊢
  have ll2 : (ls.eraseIdx q).length + (j + 1) = 5 := by rw [List.length_eraseIdx_of_lt hq]; omega
  have lm2 : ∀ x ∈ ls.eraseIdx q, x ∈ N7 := fun x hx => I.lm x (List.mem_of_mem_eraseIdx hx)
  generalize ls[q] = y at hm ⊢
  simp only [List.set_cons_zero, List.set_cons_succ, List.getElem?_cons_zero, List.getElem?_cons_succ]
  refine nin_strs lb2 I.fm hm ?_
  rw [t_bl, ab_okB]
  have fl := I.fl
  by_cases hy : y ∈ fs
  · rw [decide_eq_true hy]
    simp only [Bool.not_true, Bool.false_eq_true, if_false]
    exact k _ _ _ _ ⟨P2, la2, lb2, ll2, lm2, I.nd, I.fm, by omega⟩
  · rw [decide_eq_false hy]
    simp only [Bool.not_false, if_true]
    simp only [app_k lb2, app_l lb2, a_cd, List.length_map]
    refine ⟨by show _ < 16777216; omega, ?_⟩
    refine k _ (ls.eraseIdx q) (fs ++ [y]) _ ⟨⟨P2.keep.late hb, pool_set P2.pool (by omega)⟩, ?_, ?_, ll2, lm2, ?_, fun x hx => ?_, by simp; omega⟩
    · rw [set_other (Ne.symm hab)]; exact la2
    · rw [set_same lb2]; simp
    · rw [List.nodup_append]
      exact ⟨I.nd, by simp, fun u hu v hv => by
        have : v = y := by simpa using hv
        subst this
        exact fun z => hy (z ▸ hu)⟩
    · rcases List.mem_append.mp hx with z | z
      · exact I.fm x z
      · have : x = y := by simpa using z
        rw [this]; exact hm
theorem dfields_run (h : PoolAt hp i) (k : ∀ fs hp', FieldsI fs → Pst i hp hp' → Q (.tup (fs.map D.str)) hp') : wCall g (n + 2) 19 [.ref i] hp Q E := by
  rw [call__law_fields]
  refine ⟨rfl, ?_⟩
  have eb : b__law_fields = (.cons (.asg (.nm 1) (.lst (.cons (.lit (.str "a")) (.cons (.lit (.str "b")) (.cons (.lit (.str "name")) (.cons (.lit (.str "far")) (.cons (.lit (.str "c")) .nil))))))) (.cons (.asg (.nm 2) (.lst (.cons (.ix (.lst (.cons (.lit (.str "key")) (.cons (.lit (.str "a")) (.cons (.lit (.str "id")) .nil)))) (.call 14 (.cons (.var 0) (.cons (.lit (.int 3)) .nil)))) .nil))) (.cons (.for_ (.nm 3) (.rng1 (.call 14 (.cons (.var 0) (.cons (.lit (.int 4)) .nil)))) (.cons sPop (.cons sApp .nil))) (.cons (.ret (.so (.blt .tuple1 (.cons (.var 2) .nil)))) .nil)))) := rfl
  rw [eb]
  generalize hB : Sts.cons sPop (.cons sApp .nil) = B
  (try walk_at "k1")
  have hi := pool_lt h
  generalize ea : O.lst [D.str "a", .str "b", .str "name", .str "far", .str "c"] = oa
  have g1 : Grow hp (hp ++ [oa] ++ [O.lst [D.str "key", .str "a", .str "id"]]) := ⟨_, List.append_assoc _ _ _⟩
  refine take_run hf_take (pool_grow h g1) (by decide) (by decide) fun r1 h1 a1 b1 k1 _ p1 => ?_
  have sa : h1[hp.length]? = some oa := k1.get (app_old new_at) (by omega)
  refine ix_pick (k1.get new_at (by simp; omega)) a1 (by simpa using b1) fun d hd => ?_
  have P1 : Pst i hp h1 := ⟨(g1.keep).trans k1, p1⟩
  obtain ⟨y, rfl, hy⟩ : ∃ y, d = .str y ∧ y ∈ N7 := by
    simp only [List.mem_cons, List.not_mem_nil, or_false] at hd
    rcases hd with rfl | rfl | rfl
    · exact ⟨_, rfl, by decide +kernel⟩
    · exact ⟨_, rfl, by decide +kernel⟩
    · exact ⟨_, rfl, by decide +kernel⟩
  (try walk_at "k1")
  simp only [wIt]
  (try walk_at "k1")
  have P2 : Pst i hp (h1 ++ [O.lst [.str y]]) := P1.trans (.grow P1.pool .app)
  refine take_run hf_take P2.pool (by decide) (by decide) fun r2 h2 a2 b2 k2 _ p2 => ?_
  refine ⟨⟨by omega, by omega⟩, ?_⟩
  obtain ⟨M, rfl⟩ := Int.eq_ofNat_of_zero_le a2
  have hle := P1.keep.len
  have I0 : FI i hp.length h1.length hp 0 h2 ["a", "b", "name", "far", "c"] [y] :=
    ⟨P2.trans ⟨k2, p2⟩, by rw [k2.get (app_old sa) (by omega), ← ea]; rfl, k2.get new_at (by omega), rfl, by decide +kernel, by simp, by simpa using hy, by simp⟩
  have hlt : hp.length < h1.length := lt_of sa
  refine for_run M (fun j env h' => j ≤ 3 ∧ ∃ x3 x4 ls fs, env = [some (.ref i), some (.ref hp.length), some (.ref h1.length), x3, x4] ∧ FI i hp.length h1.length hp j h' ls fs) (fun j env h' kn hj hI hk => ?_) (fun env h' hI => ?_) ⟨by omega, _, _, _, _, rfl, I0⟩
  · obtain ⟨hj3, x3, x4, ls, fs, rfl, I⟩ := hI
    refine ⟨.int (0 + (j : Int)), ?_, ?_⟩
    · show some (if (j : Int) < (M : Int) - 0 then _ else _) = _
      rw [if_pos (by omega)]
    · simp only [wTg, List.set_cons_zero, List.set_cons_succ]
      rw [← hB]
      exact turn_fields (Nat.le_refl _) (by omega) (by omega) hi (by omega) I fun h' ls fs y4 I' => hk _ _ ⟨by omega, _, _, _, _, rfl, I'⟩
  · obtain ⟨hj3, x3, x4, ls, fs, rfl, I⟩ := hI
    refine ⟨?_, ?_⟩
    · show some (if (M : Int) < (M : Int) - 0 then _ else _) = _
      rw [if_neg (by omega)]
    · show (oBF .tuple1 [.ref h1.length] h').app _
      rw [tup_l I.lb, a_ok]
      have := I.fl
      exact k fs _ ⟨I.nd, I.fm, by omega⟩ I.P
end
end MI.T
set_option maxHeartbeats 4000000
local macro_rules | `(tactic| walk_at "k1") => `(tactic| simp only [MI.wSs, MI.wS, MI.wE, MI.wEs, MI.wEo, MI.wTg, MI.wTgs, MI.a_ok, MI.a_cd, MI.ab_okB, MI.ab_cd, MI.t_bl, MI.t_non, MI.t_int, MI.c_le, MI.c_lt, MI.c_ge, MI.c_gt, MI.c_eqi, MI.c_eqs, MI.c_nei, MI.c_nes, MI.c_is, MI.c_nis, MI.v_ok, List.map_cons, List.map_nil, List.cons_append, List.nil_append, List.replicate, List.getElem?_cons_zero, List.getElem?_cons_succ, List.set_cons_zero, List.set_cons_succ, Option.getD_some, if_true, Bool.false_eq_true, if_false, Bool.not_true, Bool.not_false, reduceCtorEq])
namespace MI.T
open PySem L2 MI
/-! data without lists and dicts -/
mutual
def ofP : PyData → D
  | .none => .non
  | .bool b => .bl b
  | .int i => .int i
  | .str x => .str x
  | .tuple xs => .tup (ofPs xs)
  | .list _ => .non
  | .dict _ => .non
def ofPs : List PyData → List D
  | [] => []
  | x :: xs => ofP x :: ofPs xs
end
mutual
def plB : PyData → Bool
  | .none => true
  | .bool _ => true
  | .int i => decide (-999999999999 ≤ i) && decide (i ≤ 999999999999)
  | .str x => decide (x.length ≤ 1000) && (PyData.strOk x && x.cps.toList.all fun c => decide (c < 16 ^ 8))
  | .tuple xs => decide (xs.length < 50) && plAll xs
  | .list _ => false
  | .dict _ => false
def plAll : List PyData → Bool
  | [] => true
  | x :: xs => plB x && plAll xs
end
theorem ofPs_len : ∀ xs, (ofPs xs).length = xs.length
  | [] => rfl
  | x :: xs => by simp [ofPs, ofPs_len xs]
theorem ofPs_ints : ∀ ns : List Int, ofPs (ns.map .int) = ns.map D.int
  | [] => rfl
  | n :: r => by simp [ofPs, ofP, ofPs_ints r]
theorem ofPs_strs : ∀ ns : List Str, ofPs (ns.map .str) = ns.map D.str
  | [] => rfl
  | n :: r => by simp [ofPs, ofP, ofPs_strs r]
theorem ofPs_app : ∀ xs ys, ofPs (xs ++ ys) = ofPs xs ++ ofPs ys
  | [], _ => rfl
  | x :: xs, ys => by simp [ofPs, ofPs_app xs ys]
theorem ofPs_take : ∀ (xs : List PyData) (k : Nat), (ofPs xs).take k = ofPs (xs.take k)
  | [], k => by simp [ofPs]
  | x :: xs, 0 => rfl
  | x :: xs, k + 1 => by simp [ofPs, ofPs_take xs k]
theorem ofPs_drop : ∀ (xs : List PyData) (k : Nat), (ofPs xs).drop k = ofPs (xs.drop k)
  | [], k => by simp [ofPs]
  | x :: xs, 0 => rfl
  | x :: xs, k + 1 => by simp [ofPs, ofPs_drop xs k]
theorem plAll_app : ∀ xs ys, plAll (xs ++ ys) = (plAll xs && plAll ys)
  | [], _ => by simp [plAll]
  | x :: xs, ys => by simp [plAll, plAll_app xs ys, Bool.and_assoc]
theorem plAll_mem {xs : List PyData} : plAll xs = true ↔ ∀ x ∈ xs, plB x = true := by
  induction xs with
  | nil => simp [plAll]
  | cons a r ih => simp [plAll, ih]
theorem depthAll_mem {xs : List PyData} {n : Nat} : PyData.depthAll xs ≤ n ↔ ∀ x ∈ xs, x.depth ≤ n := by
  induction xs with
  | nil => simp [PyData.depthAll]
  | cons a r ih =>
    simp only [PyData.depthAll, List.mem_cons, forall_eq_or_imp, ← ih]
    omega
mutual
theorem pl_smal : ∀ a, plB a = true → smal a = true
  | .none, _ => rfl
  | .bool _, _ => rfl
  | .int i, h => by simpa [plB, smal] using h
  | .str x, h => by
    have : x.length ≤ 1000 ∧ PyData.strOk x = true ∧ (x.cps.toList.all fun c => decide (c < 16 ^ 8)) = true := by simpa [plB] using h
    unfold smal
    rw [this.2.1, this.2.2]
    rfl
  | .tuple xs, h => by
    have : xs.length < 50 ∧ plAll xs = true := by simpa [plB] using h
    simpa [smal] using plAll_smal xs this.2
  | .list _, h => by simp [plB] at h
  | .dict _, h => by simp [plB] at h
theorem plAll_smal : ∀ xs, plAll xs = true → smalAll xs = true
  | [], _ => rfl
  | x :: xs, h => by
    have : plB x = true ∧ plAll xs = true := by simpa [plAll] using h
    simp [smalAll, pl_smal x this.1, plAll_smal xs this.2]
end
mutual
theorem toP_of (hp : Hq) : ∀ (a : PyData) (n : Nat), plB a = true → a.depth + 1 ≤ n → toP n hp (ofP a) = some a
  | a, 0, _, hn => by omega
  | .none, n + 1, _, _ => rfl
  | .bool _, n + 1, _, _ => rfl
  | .int i, n + 1, _, _ => rfl
  | .str x, n + 1, _, _ => rfl
  | .tuple xs, n + 1, h, hn => by
    have h : xs.length < 50 ∧ plAll xs = true := by simpa [plB] using h
    have hn : PyData.depthAll xs + 1 ≤ n := by simp only [PyData.depth] at hn; omega
    show (mapO (toP n hp) (ofPs xs)).map PyData.tuple = _
    rw [toPs_of hp xs n h.2 hn]
    rfl
  | .list _, n + 1, h, _ => by simp [plB] at h
  | .dict _, n + 1, h, _ => by simp [plB] at h
theorem toPs_of (hp : Hq) : ∀ (xs : List PyData) (n : Nat), plAll xs = true → PyData.depthAll xs + 1 ≤ n → mapO (toP n hp) (ofPs xs) = some xs
  | [], n, _, _ => rfl
  | x :: xs, n, h, hn => by
    have h : plB x = true ∧ plAll xs = true := by simpa [plAll] using h
    have hn : x.depth + 1 ≤ n ∧ PyData.depthAll xs + 1 ≤ n := by simp only [PyData.depthAll] at hn; omega
    unfold ofPs mapO
    rw [toP_of hp x n h.1 hn.1]
    simp only
    rw [toPs_of hp xs n h.2 hn.2]
end
mutual
theorem ok_pl (hp : Hq) : ∀ a, plB a = true → Ok hp (ofP a)
  | .none, _ => .non
  | .bool b, _ => .bl b
  | .int i, h => .int i (by
    have : -999999999999 ≤ i ∧ i ≤ 999999999999 := by simpa [plB] using h
    omega)
  | .str x, h => .str x (by
    have : x.length ≤ 1000 ∧ PyData.strOk x = true ∧ (x.cps.toList.all fun c => decide (c < 16 ^ 8)) = true := by simpa [plB] using h
    exact this.1)
  | .tuple xs, h => by
    have h : xs.length < 50 ∧ plAll xs = true := by simpa [plB] using h
    exact .tup _ (by rw [ofPs_len]; exact h.1) (oks_pl hp xs h.2)
  | .list _, h => by simp [plB] at h
  | .dict _, h => by simp [plB] at h
theorem oks_pl (hp : Hq) : ∀ xs, plAll xs = true → ∀ d ∈ ofPs xs, Ok hp d
  | [], _, d, hd => by cases hd
  | x :: xs, h, d, hd => by
    have h : plB x = true ∧ plAll xs = true := by simpa [plAll] using h
    rcases List.mem_cons.mp hd with q | q
    · rw [q]; exact ok_pl hp x h.1
    · exact oks_pl hp xs h.2 d q
end
/-- an entry that is drawn -/
structure Goo (d : D) (ps : List PyData) : Prop where
  eq : d = .tup (ofPs ps)
  pl : plAll ps = true
  len : 1 ≤ ps.length ∧ ps.length ≤ 10
  dep : PyData.depthAll ps ≤ 3
  bulk : PyData.bulkAll ps ≤ 1000
  ent : entB d = true
theorem cut_to {α : Type} (xs : List α) (k : Nat) : cutD xs none (some (k : Int)) = xs.take k := by
  unfold cutD
  rw [HT.sIx_none, HT.sIx_nat, List.drop_zero]
  by_cases h : k ≤ xs.length
  · rw [Nat.min_eq_left h]; rfl
  · rw [Nat.min_eq_right (by omega), List.take_of_length_le (by omega), List.take_of_length_le (by omega)]
theorem cut_to1 (xs : List D) : cutD xs none (some 1) = xs.take 1 := cut_to xs 1
/-! the entries -/
theorem uq_mem {α : Type} [DecidableEq α] {xs : List α} {x : α} : x ∈ uq xs → x ∈ xs := by
  have key : ∀ (l acc : List α), x ∈ l.foldl (fun acc x => if x ∈ acc then acc else acc ++ [x]) acc → x ∈ acc ∨ x ∈ l := by
    intro l
    induction l with
    | nil => intro acc h; exact .inl h
    | cons a r ih =>
      intro acc h
      rw [List.foldl_cons] at h
      rcases ih _ h with q | q
      · split at q
        · exact .inl q
        · rcases List.mem_append.mp q with z | z
          · exact .inl z
          · exact .inr (by simp at z; simp [z])
      · exact .inr (List.mem_cons_of_mem _ q)
  intro h
  rcases key xs [] h with q | q
  · cases q
  · exact q
theorem f_within : forms "within" = some [8, 8] := by decide +kernel
theorem f_from : forms "from" = some [8, 2, 6] := by decide +kernel
theorem f_form : forms "form" = some [8, 7, 2, 5] := by decide +kernel
theorem f_put : forms "put" = some [8, 7, 4] := by decide +kernel
theorem f_change : forms "change" = some [8, 7, 4, 4] := by decide +kernel
theorem f_strike : forms "strike" = some [8, 7, 4] := by decide +kernel
theorem f_ready : forms "ready" = some [8, 2] := by decide +kernel
theorem f_sure : forms "sure" = some [8, 9] := by decide +kernel
theorem f_off : forms "off" = some [8, 9] := by decide +kernel
theorem f_running : forms "running" = some [10] := by decide +kernel
theorem w_in : decide (("within" : Str) = "within") = true := by decide +kernel
theorem w_ne : decide (("from" : Str) = "within") = false ∧ decide (("form" : Str) = "within") = false ∧ decide (("put" : Str) = "within") = false ∧ decide (("change" : Str) = "within") = false ∧ decide (("strike" : Str) = "within") = false ∧ decide (("ready" : Str) = "within") = false ∧ decide (("sure" : Str) = "within") = false ∧ decide (("off" : Str) = "within") = false ∧ decide (("running" : Str) = "within") = false := by decide +kernel
theorem ent_of {w : Str} {r : List D} {ls : List Nat} (h : forms w = some ls) (hw : decide (w = "within") = false) (hl : ls.length = r.length) (ha : (List.zipWith lk ls r).all id = true) : entB (.tup (.str w :: r)) = true := by
  show (match forms w with | some ls => fitB ls r && apB w r | none => false) = true
  rw [h]
  show (fitB ls r && apB w r) = true
  unfold fitB apB
  rw [ha, hw, hl]
  simp
theorem ent_within {a b : Int} (ha : dealB (.int a) = true) (hb : dealB (.int b) = true) (hn : a ≠ b) : entB (.tup [.str "within", .int a, .int b]) = true := by
  show (match forms "within" with | some ls => fitB ls [.int a, .int b] && apB "within" [.int a, .int b] | none => false) = true
  rw [f_within]
  show (fitB [8, 8] [.int a, .int b] && apB "within" [.int a, .int b]) = true
  unfold fitB apB
  simp [lk, ha, hb, neB, hn]
theorem st_pl : plB (.str "within") = true ∧ plB (.str "from") = true ∧ plB (.str "form") = true ∧ plB (.str "put") = true ∧ plB (.str "change") = true ∧ plB (.str "strike") = true ∧ plB (.str "ready") = true ∧ plB (.str "sure") = true ∧ plB (.str "off") = true ∧ plB (.str "running") = true ∧ plB (.str "home") = true ∧ plB (.str "tall") = true ∧ plB (.str "one") = true ∧ plB (.str "x") = true := by decide +kernel
theorem wd : wordB (.str "home") = true ∧ wordB (.str "tall") = true ∧ wordB (.str "one") = true ∧ wordB (.str "x") = true := by decide +kernel
theorem pl_int {i : Int} (h : -999999999999 ≤ i ∧ i ≤ 999999999999) : plB (.int i) = true := by
  simp [plB, h.1, h.2]
theorem in_of {a b i : Int} (h : a ≤ i ∧ i ≤ b) : inI a b (.int i) = true := by
  simp [inI, h.1, h.2]
theorem deal_of {i : Int} (h : 0 ≤ i ∧ i < 10000) : dealB (.int i) = true := in_of ⟨h.1, by omega⟩
theorem row_pl {m : Nat} {ns : List Int} (h : RowI m ns) (hm : m ≤ 6) : plB (.tuple (ns.map .int)) = true := by
  have : plAll (ns.map .int) = true := plAll_mem.mpr fun x hx => by
    obtain ⟨v, hv, rfl⟩ := List.mem_map.mp hx
    have := h.2 v hv
    exact pl_int (by omega)
  simp [plB, this, h.1]
  omega
theorem row_B {m : Nat} {ns : List Int} (h : RowI m ns) (hm : 1 ≤ m ∧ m ≤ 6) : rowB (.tup (ns.map D.int)) = true := by
  have : (ns.map D.int).all worthB = true := List.all_eq_true.mpr fun x hx => by
    obtain ⟨v, hv, rfl⟩ := List.mem_map.mp hx
    have := h.2 v hv
    exact in_of (by omega)
  show (l16 (ns.map D.int).length 6 && (ns.map D.int).all worthB) = true
  rw [this, List.length_map, h.1]
  unfold l16
  simp
  omega
theorem row_one {m : Nat} {ns : List Int} (h : RowI m ns) (hm : 1 ≤ m) : RowI 1 (ns.take 1) := ⟨by rw [List.length_take, h.1]; omega, fun x hx => h.2 x (List.mem_of_mem_take hx)⟩
theorem row_dep (ns : List Int) : PyData.depthAll (ns.map PyData.int) ≤ 0 := depthAll_mem.mpr fun x hx => by
  obtain ⟨v, _, rfl⟩ := List.mem_map.mp hx
  exact Nat.le_refl _
theorem strs_dep (ns : List Str) : PyData.depthAll (ns.map PyData.str) ≤ 0 := depthAll_mem.mpr fun x hx => by
  obtain ⟨v, _, rfl⟩ := List.mem_map.mp hx
  exact Nat.le_refl _
theorem bulk_strs : ∀ ns : List Str, (∀ x ∈ ns, x ∈ N7) → PyData.bulkAll (ns.map .str) ≤ 100 * ns.length
  | [], _ => Nat.le_refl _
  | n :: r, h => by
    have := bulk_strs r fun x hx => h x (List.mem_cons_of_mem _ hx)
    have q : ∀ x ∈ N7, (PyData.str x).bulk ≤ 99 := by decide +kernel
    have q := q n (h n List.mem_cons_self)
    simp only [List.map_cons, PyData.bulkAll, List.length_cons]
    omega
theorem fields_pl {fs : List Str} (h : FieldsI fs) : plB (.tuple (fs.map .str)) = true := by
  have : plAll (fs.map .str) = true := plAll_mem.mpr fun x hx => by
    obtain ⟨v, hv, rfl⟩ := List.mem_map.mp hx
    have q := n7_ok v (h.mem v hv)
    show (decide (v.length ≤ 1000) && (PyData.strOk v && v.cps.toList.all fun c => decide (c < 16 ^ 8))) = true
    rw [q.1, q.2.2.2, decide_eq_true (by omega)]
    rfl
  have hl := h.len
  simp [plB, this]
  omega
theorem strsOf_map : ∀ fs : List Str, strsOf (fs.map D.str) = some fs
  | [] => rfl
  | f :: r => by
    rw [List.map_cons]
    unfold strsOf
    rw [strsOf_map r]
theorem fields_B {fs : List Str} (h : FieldsI fs) : fieldsB (.tup (fs.map D.str)) = true := by
  have a : (fs.map D.str).all wordB = true := List.all_eq_true.mpr fun x hx => by
    obtain ⟨v, hv, rfl⟩ := List.mem_map.mp hx
    exact (n7_ok v (h.mem v hv)).2.2.1
  have b : distB (fs.map D.str) = true := by
    unfold distB
    rw [strsOf_map]
    show decide (((uq fs).length : Int) = (fs.length : Int)) = true
    rw [uq_id fs h.nd]
    simp
  show (l16 (fs.map D.str).length 6 && ((fs.map D.str).all wordB && distB (fs.map D.str))) = true
  rw [a, b, List.length_map]
  have := h.len
  unfold l16
  simp
  omega
section
variable {dd t : Int} {m : Nat} {ns : List Int} {fs : List Str}
theorem go_within (hd : 0 ≤ dd ∧ dd < 10000) : ∃ ps, Goo (.tup [.str "within", .int dd, .int ((dd + 1) % 10000)]) ps := by
  have h1 := Int.emod_nonneg (dd + 1) (b := 10000) (by decide)
  have h2 := Int.emod_lt_of_pos (dd + 1) (b := 10000) (by decide)
  refine ⟨[.str "within", .int dd, .int ((dd + 1) % 10000)], rfl, ?_, by simp, by simp [PyData.depthAll, PyData.depth], ?_, ent_within (deal_of hd) (deal_of ⟨h1, h2⟩) (by omega)⟩
  · simp [plAll, st_pl, pl_int (show -999999999999 ≤ dd ∧ dd ≤ 999999999999 by omega), pl_int (show -999999999999 ≤ (dd + 1) % 10000 ∧ (dd + 1) % 10000 ≤ 999999999999 by omega)]
  · have : (PyData.str "within").bulk ≤ 100 := by decide +kernel
    simp [PyData.bulkAll, PyData.bulk] at this ⊢
    omega
theorem go_from {r : Int} (hd : 0 ≤ dd ∧ dd < 10000) (hr : 0 ≤ r ∧ r < 1000000000) : ∃ ps, Goo (.tup [.str "from", .int dd, .str "home", .int r]) ps := by
  refine ⟨[.str "from", .int dd, .str "home", .int r], rfl, ?_, by simp, by simp [PyData.depthAll, PyData.depth], ?_, ent_of f_from w_ne.1 rfl ?_⟩
  · simp [plAll, st_pl, pl_int (show -999999999999 ≤ dd ∧ dd ≤ 999999999999 by omega), pl_int (show -999999999999 ≤ r ∧ r ≤ 999999999999 by omega)]
  · have : (PyData.str "from").bulk ≤ 100 ∧ (PyData.str "home").bulk ≤ 100 := by decide +kernel
    simp [PyData.bulkAll, PyData.bulk] at this ⊢
    omega
  · simp [lk, deal_of hd, wd, placeB, hr.1]
theorem go_end {w : Str} {x : PyData} {l : Nat} (hf : forms w = some [8, l]) (hw : decide (w = "within") = false) (hp : plB (.str w) = true) (hb : (PyData.str w).bulk ≤ 100) (hd : 0 ≤ dd ∧ dd < 10000) (hx : lk l (ofP x) = true) (hx2 : plB x = true) (hx3 : x.depth ≤ 1 ∧ x.bulk ≤ 200) :
    ∃ ps, Goo (.tup [.str w, .int dd, ofP x]) ps := by
  refine ⟨[.str w, .int dd, x], rfl, ?_, by simp, ?_, ?_, ent_of hf hw rfl ?_⟩
  · simp [plAll, hp, hx2, pl_int (show -999999999999 ≤ dd ∧ dd ≤ 999999999999 by omega)]
  · simp only [PyData.depthAll, PyData.depth]
    omega
  · simp only [PyData.bulkAll, PyData.bulk] at hb ⊢
    omega
  · have e : lk 8 (.int dd) = true := deal_of hd
    simp [e, hx]
theorem go_row {w : Str} (hf : forms w = some [8, 7, 4]) (hw : decide (w = "within") = false) (hp : plB (.str w) = true) (hb : (PyData.str w).bulk ≤ 100) (hd : 0 ≤ dd ∧ dd < 10000) (ht : 0 ≤ t ∧ t < 10) (hm : 1 ≤ m ∧ m ≤ 6) (hr : RowI m ns) :
    ∃ ps, Goo (.tup [.str w, .int dd, .int t, .tup (ns.map D.int)]) ps := by
  refine ⟨[.str w, .int dd, .int t, .tuple (ns.map .int)], by rw [← ofPs_ints]; rfl, ?_, by simp, ?_, ?_, ent_of hf hw rfl ?_⟩
  · simp [plAll, hp, row_pl hr hm.2, pl_int (show -999999999999 ≤ dd ∧ dd ≤ 999999999999 by omega), pl_int (show -999999999999 ≤ t ∧ t ≤ 999999999999 by omega)]
  · have := row_dep ns
    simp only [PyData.depthAll, PyData.depth]
    omega
  · have e := bulk_ints ns
    have := hr.1
    simp only [PyData.bulkAll, PyData.bulk] at hb ⊢
    omega
  · have e1 : lk 8 (.int dd) = true := deal_of hd
    have e2 : lk 7 (.int t) = true := in_of (by omega)
    have e3 : lk 4 (.tup (ns.map D.int)) = true := row_B hr hm
    simp [e1, e2, e3]
theorem go_change (hd : 0 ≤ dd ∧ dd < 10000) (ht : 0 ≤ t ∧ t < 10) (hm : 1 ≤ m ∧ m ≤ 6) (hr : RowI m ns) :
    ∃ ps, Goo (.tup [.str "change", .int dd, .int t, .tup (ns.map D.int), .tup ((ns.take 1).map D.int)]) ps := by
  have r1 := row_one hr hm.1
  refine ⟨[.str "change", .int dd, .int t, .tuple (ns.map .int), .tuple ((ns.take 1).map .int)], by rw [← ofPs_ints, ← ofPs_ints]; rfl, ?_, by simp, ?_, ?_, ent_of f_change w_ne.2.2.2.1 rfl ?_⟩
  · simp only [plAll, st_pl, row_pl hr hm.2, row_pl r1 (by omega), pl_int (show -999999999999 ≤ dd ∧ dd ≤ 999999999999 by omega), pl_int (show -999999999999 ≤ t ∧ t ≤ 999999999999 by omega)]
    rfl
  · have := row_dep ns
    have := row_dep (ns.take 1)
    simp only [PyData.depthAll, PyData.depth]
    omega
  · have hb : (PyData.str "change").bulk ≤ 100 := by decide +kernel
    have e := bulk_ints ns
    have e1 := bulk_ints (ns.take 1)
    have := hr.1
    have := r1.1
    simp only [PyData.bulkAll, PyData.bulk] at hb ⊢
    omega
  · have e1 : lk 8 (.int dd) = true := deal_of hd
    have e2 : lk 7 (.int t) = true := in_of (by omega)
    have e3 : lk 4 (.tup (ns.map D.int)) = true := row_B hr hm
    have e4 : lk 4 (.tup ((ns.take 1).map D.int)) = true := row_B r1 (by omega)
    simp only [List.zipWith_cons_cons, List.zipWith_nil_left, List.all_cons, List.all_nil, e1, e2, e3, e4]
    rfl
theorem go_form (hd : 0 ≤ dd ∧ dd < 10000) (ht : 0 ≤ t ∧ t < 10) (hf : FieldsI fs) :
    ∃ ps, Goo (.tup [.str "form", .int dd, .int t, .str "tall", .tup (fs.map D.str)]) ps := by
  refine ⟨[.str "form", .int dd, .int t, .str "tall", .tuple (fs.map .str)], by rw [← ofPs_strs]; rfl, ?_, by simp, ?_, ?_, ent_of f_form w_ne.2.1 rfl ?_⟩
  · simp only [plAll, st_pl, fields_pl hf, pl_int (show -999999999999 ≤ dd ∧ dd ≤ 999999999999 by omega), pl_int (show -999999999999 ≤ t ∧ t ≤ 999999999999 by omega)]
    rfl
  · have := strs_dep fs
    simp only [PyData.depthAll, PyData.depth]
    omega
  · have hb : (PyData.str "form").bulk ≤ 100 ∧ (PyData.str "tall").bulk ≤ 100 := by decide +kernel
    have e := bulk_strs fs hf.mem
    have := hf.len
    simp only [PyData.bulkAll, PyData.bulk] at hb ⊢
    omega
  · have e1 : lk 8 (.int dd) = true := deal_of hd
    have e2 : lk 7 (.int t) = true := in_of (by omega)
    have e3 : lk 5 (.tup (fs.map D.str)) = true := fields_B hf
    have e4 : lk 2 (.str "tall") = true := wd.2.1
    simp only [List.zipWith_cons_cons, List.zipWith_nil_left, List.all_cons, List.all_nil, e1, e2, e3, e4]
    rfl
theorem go_running {ms : List Int} (h : ∀ x ∈ ms, 0 ≤ x ∧ x < 10000) (hl : ms.length < 40) : ∃ ps, Goo (.tup [.str "running", .tup ((isort (uq ms)).map D.int)]) ps := by
  have hmem : ∀ x ∈ isort (uq ms), 0 ≤ x ∧ x < 10000 := fun x hx => h x (uq_mem ((isort_perm _).mem_iff.mp hx))
  have hlen : (isort (uq ms)).length < 40 := by
    rw [(isort_perm _).length_eq]
    have := uq_le ms
    omega
  refine ⟨[.str "running", .tuple ((isort (uq ms)).map .int)], by rw [← ofPs_ints]; rfl, ?_, by simp, ?_, ?_, ent_of f_running w_ne.2.2.2.2.2.2.2.2 rfl ?_⟩
  · have a : plAll ((isort (uq ms)).map .int) = true := plAll_mem.mpr fun x hx => by
      obtain ⟨v, hv, rfl⟩ := List.mem_map.mp hx
      have := hmem v hv
      exact pl_int (by omega)
    have b : plB (.tuple ((isort (uq ms)).map .int)) = true := by
      simp [plB, a]
      omega
    simp [plAll, st_pl, b]
  · have := row_dep (isort (uq ms))
    simp only [PyData.depthAll, PyData.depth]
    omega
  · have hb : (PyData.str "running").bulk ≤ 100 := by decide +kernel
    have e := bulk_ints (isort (uq ms))
    simp only [PyData.bulkAll, PyData.bulk] at hb ⊢
    omega
  · have e : lk 10 (.tup ((isort (uq ms)).map D.int)) = true := by
      show (((isort (uq ms)).map D.int).all dealB && chainB ((isort (uq ms)).map D.int)) = true
      have a : ((isort (uq ms)).map D.int).all dealB = true := List.all_eq_true.mpr fun x hx => by
        obtain ⟨v, hv, rfl⟩ := List.mem_map.mp hx
        exact deal_of (hmem v hv)
      have b : chainB ((isort (uq ms)).map D.int) = true := (chain_pw _).mpr (pw_lt (isort_pw _) ((isort_perm (uq ms)).nodup_iff.mpr (uq_nodup ms)))
      rw [a, b]
      rfl
    simp [e]
end
end MI.T
set_option maxHeartbeats 4000000
local macro_rules | `(tactic| walk_at "k1") => `(tactic| simp only [MI.wSs, MI.wS, MI.wE, MI.wEs, MI.wEo, MI.wTg, MI.wTgs, MI.a_ok, MI.a_cd, MI.ab_okB, MI.ab_cd, MI.t_bl, MI.t_non, MI.t_int, MI.c_le, MI.c_lt, MI.c_ge, MI.c_gt, MI.c_eqi, MI.c_eqs, MI.c_nei, MI.c_nes, MI.c_is, MI.c_nis, MI.v_ok, List.map_cons, List.map_nil, List.cons_append, List.nil_append, List.replicate, List.getElem?_cons_zero, List.getElem?_cons_succ, List.set_cons_zero, List.set_cons_succ, Option.getD_some, if_true, Bool.false_eq_true, if_false, Bool.not_true, Bool.not_false, reduceCtorEq])
namespace MI.T
open PySem L2 MI
/-! what repr shows, twice alike -/
def Sh (hp : Hq) (d : D) : Prop := ∃ s, ∀ hp', Grow hp hp' → ∀ Q : QD, Q (.str s) hp' → (oBF .repr [d] hp').app Q
theorem sh_of {hp : Hq} {d : D} {a : PyData} (h : ∀ hp', Grow hp hp' → toP 40 hp' d = some a) (hs : smal a = true) (hd : a.depth ≤ 64) (hb : a.bulk ≤ 100000) : Sh hp d := by
  refine ⟨a.shown, fun hp' g Q k => ?_⟩
  rw [repr_at (h hp' g), a_cd]
  exact ⟨rp_of hs hd hb, k⟩
theorem sh_pl {hp : Hq} {a : PyData} (h : plB a = true) (hd : a.depth ≤ 10) (hb : a.bulk ≤ 100000) : Sh hp (ofP a) :=
  sh_of (fun hp' _ => toP_of hp' a 40 h (by omega)) (pl_smal a h) (by omega) hb
mutual
theorem toR_of (hp : Hq) : ∀ (a : PyData) (n : Nat), plB a = true → a.depth + 1 ≤ n → toR n hp (ofP a) = some a
  | a, 0, _, hn => by omega
  | .none, n + 1, _, _ => rfl
  | .bool _, n + 1, _, _ => rfl
  | .int i, n + 1, _, _ => rfl
  | .str x, n + 1, _, _ => rfl
  | .tuple xs, n + 1, h, hn => by
    have h : xs.length < 50 ∧ plAll xs = true := by simpa [plB] using h
    have hn : PyData.depthAll xs + 1 ≤ n := by simp only [PyData.depth] at hn; omega
    show (mapO (toR n hp) (ofPs xs)).map PyData.tuple = _
    rw [toRs_of hp xs n h.2 hn]
    rfl
  | .list _, n + 1, h, _ => by simp [plB] at h
  | .dict _, n + 1, h, _ => by simp [plB] at h
theorem toRs_of (hp : Hq) : ∀ (xs : List PyData) (n : Nat), plAll xs = true → PyData.depthAll xs + 1 ≤ n → mapO (toR n hp) (ofPs xs) = some xs
  | [], n, _, _ => rfl
  | x :: xs, n, h, hn => by
    have h : plB x = true ∧ plAll xs = true := by simpa [plAll] using h
    have hn : x.depth + 1 ≤ n ∧ PyData.depthAll xs + 1 ≤ n := by simp only [PyData.depthAll] at hn; omega
    unfold ofPs mapO
    rw [toR_of hp x n h.1 hn.1]
    simp only
    rw [toRs_of hp xs n h.2 hn.2]
end
theorem mapO_app {α β : Type} {f : α → Option β} : ∀ {xs ys : List α} {us vs : List β}, mapO f xs = some us → mapO f ys = some vs → mapO f (xs ++ ys) = some (us ++ vs)
  | [], ys, us, vs, h1, h2 => by
    cases h1
    exact h2
  | x :: xs, ys, us, vs, h1, h2 => by
    unfold mapO at h1
    cases hx : f x with
    | none => rw [hx] at h1; cases h1
    | some u =>
      rw [hx] at h1
      cases hr : mapO f xs with
      | none => rw [hr] at h1; cases h1
      | some r =>
        rw [hr] at h1
        cases h1
        rw [List.cons_append]
        unfold mapO
        rw [hx, mapO_app hr h2]
        rfl
theorem mapO_non {α β : Type} {f : α → Option β} {x : α} (hx : f x = none) : ∀ xs ys : List α, mapO f (xs ++ x :: ys) = none
  | [], ys => by
    rw [List.nil_append]
    unfold mapO
    rw [hx]
  | a :: xs, ys => by
    rw [List.cons_append]
    unfold mapO
    rw [mapO_non hx xs ys]
    cases f a <;> rfl
theorem smalAll_app : ∀ xs ys, smalAll (xs ++ ys) = (smalAll xs && smalAll ys)
  | [], _ => by simp [smalAll]
  | x :: xs, ys => by simp [smalAll, smalAll_app xs ys, Bool.and_assoc]
theorem depthAll_app : ∀ xs ys, PyData.depthAll (xs ++ ys) = max (PyData.depthAll xs) (PyData.depthAll ys)
  | [], _ => by simp [PyData.depthAll]
  | x :: xs, ys => by simp [PyData.depthAll, depthAll_app xs ys, Nat.max_assoc]
theorem bulkAll_app : ∀ xs ys, PyData.bulkAll (xs ++ ys) = PyData.bulkAll xs + PyData.bulkAll ys
  | [], _ => by simp [PyData.bulkAll]
  | x :: xs, ys => by simp [PyData.bulkAll, bulkAll_app xs ys, Nat.add_assoc]
theorem leavesAll_app : ∀ xs ys, PyData.leavesShortAll 13 (xs ++ ys) = (PyData.leavesShortAll 13 xs && PyData.leavesShortAll 13 ys)
  | [], _ => by simp [PyData.leavesShortAll]
  | x :: xs, ys => by simp [PyData.leavesShortAll, leavesAll_app xs ys, Bool.and_assoc]
theorem showAll_app : ∀ xs ys, PyData.showableAll (xs ++ ys) = (PyData.showableAll xs && PyData.showableAll ys)
  | [], _ => by simp [PyData.showableAll]
  | x :: xs, ys => by simp [PyData.showableAll, showAll_app xs ys, Bool.and_assoc]
/-- an odd thing -/
inductive Odd (hp : Hq) : D → Prop
  | pl (a : PyData) (h : plB a = true) (hd : a.depth ≤ 2) (hb : a.bulk ≤ 200) : Odd hp (ofP a)
  | lst (r : Nat) (h : hp[r]? = some (.lst [.int 0])) : Odd hp (.ref r)
  | dic (r : Nat) (h : hp[r]? = some (.dic [])) : Odd hp (.ref r)
theorem Odd.ok {hp : Hq} {d : D} (h : Odd hp d) : Ok hp d := by
  cases h with
  | pl a h => exact ok_pl hp a h
  | lst r h => exact .lst r _ h
  | dic r h => exact .dic r _ h
theorem Odd.pst {a b : Hq} {i : Nat} {d : D} (h : Odd a d) (p0 : PoolAt a i) (p : Pst i a b) : Odd b d := by
  cases h with
  | pl a h h2 h3 => exact .pl a h h2 h3
  | lst r h =>
    refine .lst r (p.get h fun e => ?_)
    obtain ⟨c, s, q, _⟩ := p0
    rw [← e, h] at q
    cases q
  | dic r h =>
    refine .dic r (p.get h fun e => ?_)
    obtain ⟨c, s, q, _⟩ := p0
    rw [← e, h] at q
    cases q
theorem toP_l0 {hp : Hq} {r n : Nat} (h : hp[r]? = some (.lst [.int 0])) : toP (n + 2) hp (.ref r) = some (.list [.int 0]) := by
  show (match gtL hp r with | some ds => (mapO (toP (n + 1) hp) ds).map PyData.list | none => none) = _
  rw [gtL_of h]
  rfl
theorem toP_d0 {hp : Hq} {r n : Nat} (h : hp[r]? = some (.dic [])) : toP n hp (.ref r) = none := by
  cases n with
  | zero => rfl
  | succ n =>
    show (match gtL hp r with | some ds => (mapO (toP n hp) ds).map PyData.list | none => none) = _
    unfold gtL
    rw [h]
theorem toR_d0 {hp : Hq} {r n : Nat} (h : hp[r]? = some (.dic [])) : toR (n + 1) hp (.ref r) = some (.dict []) := by
  show (match hp[r]? with | some (.dic []) => some (PyData.dict []) | _ => none) = _
  rw [h]
theorem shR {hp : Hq} {d : D} {a : PyData} (h0 : ∀ hp', Grow hp hp' → toP 40 hp' d = none) (h : ∀ hp', Grow hp hp' → toR 40 hp' d = some a) (hd : a.depth ≤ 64) (hs : a.showable = true) (hl : a.leavesShort 13 = true) (hb : a.bulk ≤ 100000) : Sh hp d := by
  refine ⟨a.shown, fun hp' g Q k => ?_⟩
  rw [repr_atR (h0 hp' g) (h hp' g), a_cd]
  refine ⟨⟨hd, hs, ?_⟩, k⟩
  have := PyData.shown_le_bulk 13 (by decide) a hl
  show _ ≤ 16777216
  omega
theorem odd_sh {hp : Hq} {d : D} (h : Odd hp d) : Sh hp d := by
  cases h with
  | pl a h h2 h3 => exact sh_pl h (by omega) (by omega)
  | lst r h => exact sh_of (a := .list [.int 0]) (fun hp' g => toP_l0 (g.get h)) (by decide +kernel) (by decide +kernel) (by decide +kernel)
  | dic r h => exact shR (a := .dict []) (fun hp' g => toP_d0 (g.get h)) (fun hp' g => toR_d0 (g.get h)) (by decide +kernel) (by decide +kernel) (by decide +kernel) (by decide +kernel)
theorem odd_tup {hp : Hq} {d : D} {as bs : List PyData} (h : Odd hp d) (ha : plAll as = true) (hb : plAll bs = true) (la : as.length ≤ 10) (lb : bs.length ≤ 10) (da : PyData.depthAll as ≤ 3) (db : PyData.depthAll bs ≤ 3) (ba : PyData.bulkAll as ≤ 1000) (bb : PyData.bulkAll bs ≤ 1000) :
    Ok hp (.tup (ofPs as ++ d :: ofPs bs)) ∧ Sh hp (.tup (ofPs as ++ d :: ofPs bs)) := by
  refine ⟨.tup _ (by simp [ofPs_len]; omega) fun x hx => ?_, ?_⟩
  · rcases List.mem_append.mp hx with q | q
    · exact oks_pl hp as ha x q
    · rcases List.mem_cons.mp q with q | q
      · rw [q]; exact h.ok
      · exact oks_pl hp bs hb x q
  · have sm := plAll_smal as ha
    have sn := plAll_smal bs hb
    cases h with
    | pl a h h2 h3 =>
      have e : D.tup (ofPs as ++ ofP a :: ofPs bs) = ofP (.tuple (as ++ a :: bs)) := by
        show _ = D.tup (ofPs (as ++ a :: bs))
        rw [ofPs_app]
        rfl
      rw [e]
      refine sh_pl ?_ ?_ ?_
      · show (decide ((as ++ a :: bs).length < 50) && plAll (as ++ a :: bs)) = true
        rw [plAll_app, ha, decide_eq_true (by simp; omega)]
        simp [plAll, h, hb]
      · show PyData.depthAll (as ++ a :: bs) + 1 ≤ _
        rw [depthAll_app]
        simp only [PyData.depthAll]
        omega
      · show PyData.bulkAll (as ++ a :: bs) ≤ _
        rw [bulkAll_app]
        simp only [PyData.bulkAll]
        omega
    | lst r h =>
      refine sh_of (a := .tuple (as ++ .list [.int 0] :: bs)) (fun hp' g => ?_) ?_ ?_ ?_
      · show (mapO (toP 39 hp') (ofPs as ++ D.ref r :: ofPs bs)).map PyData.tuple = _
        have e2 : mapO (toP 39 hp') (D.ref r :: ofPs bs) = some (.list [.int 0] :: bs) := by
          unfold mapO
          rw [toP_l0 (g.get h), toPs_of hp' bs 39 hb (by omega)]
        rw [mapO_app (toPs_of hp' as 39 ha (by omega)) e2]
        rfl
      · show smalAll (as ++ .list [.int 0] :: bs) = true
        rw [smalAll_app, sm]
        have : smal (.list [.int 0]) = true := by decide +kernel
        simp [smalAll, this, sn]
      · show PyData.depthAll (as ++ .list [.int 0] :: bs) + 1 ≤ _
        rw [depthAll_app]
        have : (PyData.list [.int 0]).depth ≤ 1 := by decide +kernel
        simp only [PyData.depthAll]
        omega
      · show PyData.bulkAll (as ++ .list [.int 0] :: bs) ≤ _
        rw [bulkAll_app]
        have : (PyData.list [.int 0]).bulk ≤ 10 := by decide +kernel
        simp only [PyData.bulkAll]
        omega
    | dic r h =>
      have q1 := smal_ok (.tuple as) (by simpa [smal] using sm)
      have q2 := smal_ok (.tuple bs) (by simpa [smal] using sn)
      simp only [PyData.leavesShort, PyData.showable] at q1 q2
      refine shR (a := .tuple (as ++ .dict [] :: bs)) (fun hp' g => ?_) (fun hp' g => ?_) ?_ ?_ ?_ ?_
      · show (mapO (toP 39 hp') (ofPs as ++ D.ref r :: ofPs bs)).map PyData.tuple = _
        rw [mapO_non (toP_d0 (g.get h))]
        rfl
      · show (mapO (toR 39 hp') (ofPs as ++ D.ref r :: ofPs bs)).map PyData.tuple = _
        have e2 : mapO (toR 39 hp') (D.ref r :: ofPs bs) = some (.dict [] :: bs) := by
          unfold mapO
          rw [toR_d0 (g.get h), toRs_of hp' bs 39 hb (by omega)]
        rw [mapO_app (toRs_of hp' as 39 ha (by omega)) e2]
        rfl
      · show PyData.depthAll (as ++ .dict [] :: bs) + 1 ≤ _
        rw [depthAll_app]
        have : (PyData.dict []).depth ≤ 1 := by decide +kernel
        simp only [PyData.depthAll]
        omega
      · show PyData.showableAll (as ++ .dict [] :: bs) = true
        rw [showAll_app, q1.2.1]
        have : (PyData.dict []).showable = true := by decide +kernel
        simp [PyData.showableAll, this, q2.2.1]
      · show PyData.leavesShortAll 13 (as ++ .dict [] :: bs) = true
        rw [leavesAll_app, q1.1]
        have : (PyData.dict []).leavesShort 13 = true := by decide +kernel
        simp [PyData.leavesShortAll, this, q2.1]
      · show PyData.bulkAll (as ++ .dict [] :: bs) ≤ _
        rw [bulkAll_app]
        have : (PyData.dict []).bulk ≤ 10 := by decide +kernel
        simp only [PyData.bulkAll]
        omega
/-! the entries, drawn -/
abbrev E1 : Exs := .cons (.tup (.cons (.lit (.str "within")) (.cons (.var 1) (.cons (.bin .mod (.bin .add (.var 1) (.lit (.int 1))) (.lit (.int 10000))) .nil)))) (.cons (.tup (.cons (.lit (.str "from")) (.cons (.var 1) (.cons (.lit (.str "home")) (.cons (.call 14 (.cons (.var 0) (.cons (.bin .pow (.lit (.int 10)) (.lit (.int 9))) .nil))) .nil))))) (.cons (.tup (.cons (.lit (.str "sure")) (.cons (.var 1) (.cons (.lit .non) .nil)))) .nil))
abbrev E2 : Exs := .cons (.tup (.cons (.lit (.str "form")) (.cons (.var 1) (.cons (.var 2) (.cons (.lit (.str "tall")) (.cons (.call 19 (.cons (.var 0) .nil)) .nil)))))) (.cons (.tup (.cons (.lit (.str "put")) (.cons (.var 1) (.cons (.var 2) (.cons (.var 3) .nil))))) (.cons (.tup (.cons (.lit (.str "change")) (.cons (.var 1) (.cons (.var 2) (.cons (.var 3) (.cons (.sl (.var 3) .no (.so (.lit (.int 1)))) .nil)))))) .nil))
abbrev E3 : Exs := .cons (.tup (.cons (.lit (.str "strike")) (.cons (.var 1) (.cons (.var 2) (.cons (.var 3) .nil))))) (.cons (.tup (.cons (.lit (.str "ready")) (.cons (.var 1) (.cons (.lit (.str "one")) .nil)))) (.cons (.tup (.cons (.lit (.str "sure")) (.cons (.var 1) (.cons (.lit (.str "one")) .nil)))) (.cons (.tup (.cons (.lit (.str "off")) (.cons (.var 1) (.cons (.ix (.lst (.cons (.lit .non) (.cons (.lit (.str "x")) .nil))) (.bin .mod (.var 2) (.lit (.int 2)))) .nil)))) .nil)))
abbrev E4 : Exs := .cons (.tup (.cons (.lit (.str "running")) (.cons (.blt .tuple1 (.cons (.srtS (.lst (.cons (.var 1) (.cons (.var 2) (.cons (.call 14 (.cons (.var 0) (.cons (.lit (.int 10000)) .nil))) .nil))))) .nil)) .nil))) .nil
theorem b31_eq : b__law_entries = .cons (.asg (.nm 1) (.call 14 (.cons (.var 0) (.cons (.lit (.int 10000)) .nil)))) (.cons (.asg (.nm 2) (.call 14 (.cons (.var 0) (.cons (.lit (.int 10)) .nil)))) (.cons (.asg (.nm 3) (.call 21 (.cons (.var 0) (.cons (.bin .add (.lit (.int 1)) (.call 14 (.cons (.var 0) (.cons (.lit (.int 6)) .nil)))) .nil)))) (.cons (.asg (.nm 4) (.lst E1)) (.cons (.asg (.nm 4) (.bin .add (.var 4) (.lst E2))) (.cons (.asg (.nm 4) (.bin .add (.var 4) (.lst E3))) (.cons (.ret (.so (.bin .add (.var 4) (.lst E4)))) .nil)))))) := rfl
section
variable {n i : Nat} {hp : Hq} {Q : QD} {E : QX} {QL : List D → Hq → Prop} {dd t : Int} {m : Nat} {ns : List Int} {env : Env}
theorem e1_run (h : PoolAt hp i) (hd : 0 ≤ dd ∧ dd < 10000) (h0 : env[0]? = some (some (.ref i))) (h1 : env[1]? = some (some (.int dd)))
    (k : ∀ es hp', es.length = 3 → (∀ e ∈ es, ∃ ps, Goo e ps) → Pst i hp hp' → QL es hp') : wEs g (wCall g (n + 3)) E1 env hp QL E := by
  simp only [E1, wEs, wE, h0, h1, o_add, o_mod, o_pow, a_ok, a_cd]
  refine ⟨by decide, by decide, ?_⟩
  have e9 : (10 : Int) ^ (9 : Int).toNat = 1000000000 := by decide
  rw [e9]
  refine take_run hf_take h (by decide) (by decide) fun r h1 a1 b1 k1 _ p1 => ?_
  refine k _ _ rfl (fun e he => ?_) ⟨k1, p1⟩
  simp only [List.mem_cons, List.not_mem_nil, or_false] at he
  rcases he with rfl | rfl | rfl
  · exact go_within hd
  · exact go_from hd ⟨a1, b1⟩
  · exact go_end (x := .none) f_sure w_ne.2.2.2.2.2.2.1 (by decide +kernel) (by decide +kernel) hd (by decide +kernel) rfl (by decide +kernel)
theorem e2_run (h : PoolAt hp i) (hd : 0 ≤ dd ∧ dd < 10000) (ht : 0 ≤ t ∧ t < 10) (hm : 1 ≤ m ∧ m ≤ 6) (hr : RowI m ns) (h0 : env[0]? = some (some (.ref i))) (h1 : env[1]? = some (some (.int dd))) (h2 : env[2]? = some (some (.int t))) (h3 : env[3]? = some (some (.tup (ns.map D.int))))
    (k : ∀ es hp', es.length = 3 → (∀ e ∈ es, ∃ ps, Goo e ps) → Pst i hp hp' → QL es hp') : wEs g (wCall g (n + 3)) E2 env hp QL E := by
  simp only [E2, wEs, wE, wEo, h0, h1, h2, h3, bnd, sl_tup, a_ok, cut_to1]
  refine dfields_run h fun fs hp1 hf p1 => ?_
  refine k _ _ rfl (fun e he => ?_) p1
  simp only [List.mem_cons, List.not_mem_nil, or_false] at he
  rcases he with rfl | rfl | rfl
  · exact go_form hd ht hf
  · exact go_row f_put w_ne.2.2.1 (by decide +kernel) (by decide +kernel) hd ht hm hr
  · rw [← List.map_take]
    exact go_change hd ht hm hr
theorem e3_run (h : PoolAt hp i) (hd : 0 ≤ dd ∧ dd < 10000) (ht : 0 ≤ t ∧ t < 10) (hm : 1 ≤ m ∧ m ≤ 6) (hr : RowI m ns) (h0 : env[0]? = some (some (.ref i))) (h1 : env[1]? = some (some (.int dd))) (h2 : env[2]? = some (some (.int t))) (h3 : env[3]? = some (some (.tup (ns.map D.int))))
    (k : ∀ es hp', es.length = 4 → (∀ e ∈ es, ∃ ps, Goo e ps) → Pst i hp hp' → QL es hp') : wEs g (wCall g (n + 3)) E3 env hp QL E := by
  simp only [E3, wEs, wE, wEo, h0, h1, h2, h3, o_mod, a_cd]
  refine ⟨by decide, ?_⟩
  refine ix_pick new_at (Int.emod_nonneg _ (by decide)) (by simpa using Int.emod_lt_of_pos t (b := 2) (by decide)) fun x hx => ?_
  refine k _ _ rfl (fun e he => ?_) (.grow h .app)
  simp only [List.mem_cons, List.not_mem_nil, or_false] at he hx
  rcases he with rfl | rfl | rfl | rfl
  · exact go_row f_strike w_ne.2.2.2.2.1 (by decide +kernel) (by decide +kernel) hd ht hm hr
  · exact go_end (x := .str "one") f_ready w_ne.2.2.2.2.2.1 (by decide +kernel) (by decide +kernel) hd (by decide +kernel) (by decide +kernel) (by decide +kernel)
  · exact go_end (x := .str "one") f_sure w_ne.2.2.2.2.2.2.1 (by decide +kernel) (by decide +kernel) hd (by decide +kernel) (by decide +kernel) (by decide +kernel)
  · rcases hx with rfl | rfl
    · exact go_end (x := .none) f_off w_ne.2.2.2.2.2.2.2.1 (by decide +kernel) (by decide +kernel) hd (by decide +kernel) rfl (by decide +kernel)
    · exact go_end (x := .str "x") f_off w_ne.2.2.2.2.2.2.2.1 (by decide +kernel) (by decide +kernel) hd (by decide +kernel) (by decide +kernel) (by decide +kernel)
theorem srt_l {p : Nat} {ms : List Int} (h : hp[p]? = some (.lst (ms.map D.int))) (hl : ms.length < 60) : oSrtS (.ref p) hp = .cd (ms.length < 60) (.ref hp.length) (hp ++ [.lst ((isort (uq ms)).map D.int)]) := by
  have e : intsOf (ms.map D.int) = some ms := by
    clear h hl
    induction ms with
    | nil => rfl
    | cons a r ih =>
      rw [List.map_cons]
      unfold intsOf
      rw [ih]
  show (match gtL hp p with | some xs => (match intsOf xs with | some ns => OutD.cd (ns.length < 60) (.ref hp.length) (hp ++ [O.lst ((isort (uq ns)).map D.int)]) | none => .no) | none => .no) = _
  rw [gtL_of h]
  simp only [e]
theorem e4_run (h : PoolAt hp i) (hd : 0 ≤ dd ∧ dd < 10000) (ht : 0 ≤ t ∧ t < 10) (h0 : env[0]? = some (some (.ref i))) (h1 : env[1]? = some (some (.int dd))) (h2 : env[2]? = some (some (.int t)))
    (k : ∀ es hp', es.length = 1 → (∀ e ∈ es, ∃ ps, Goo e ps) → Pst i hp hp' → QL es hp') : wEs g (wCall g (n + 3)) E4 env hp QL E := by
  simp only [E4, wEs, wE, wEo, h0, h1, h2]
  refine take_run hf_take h (by decide) (by decide) fun r hp1 a1 b1 k1 _ p1 => ?_
  have e : (hp1 ++ [O.lst [.int dd, .int t, .int r]])[hp1.length]? = some (.lst ([dd, t, r].map D.int)) := new_at
  show (oSrtS (.ref hp1.length) (hp1 ++ [O.lst [.int dd, .int t, .int r]])).app _
  rw [srt_l e (by simp), a_cd]
  refine ⟨by simp, ?_⟩
  rw [tup_l new_at, a_ok]
  refine k _ _ rfl (fun e he => ?_) ?_
  · simp only [List.mem_cons, List.not_mem_nil, or_false] at he
    rw [he]
    refine go_running (fun x hx => ?_) (by simp)
    simp only [List.mem_cons, List.not_mem_nil, or_false] at hx
    rcases hx with rfl | rfl | rfl <;> omega
  · exact (Pst.mk k1 p1).trans (.grow p1 ⟨_, List.append_assoc _ _ _⟩)
theorem ents_run (h : PoolAt hp i) (k : ∀ es p hp', es.length ≤ 20 → (∀ e ∈ es, ∃ ps, Goo e ps) → Pst i hp hp' → hp'[p]? = some (.lst es) → p ≠ i → Q (.ref p) hp') : wCall g (n + 4) 31 [.ref i] hp Q E := by
  rw [call__law_entries]
  refine ⟨rfl, ?_⟩
  rw [b31_eq]
  generalize h1 : E1 = e1
  generalize h2 : E2 = e2
  generalize h3 : E3 = e3
  generalize h4 : E4 = e4
  (try walk_at "k1")
  have hi := pool_lt h
  refine take_run hf_take h (by decide) (by decide) fun dd hp1 a1 b1 k1 _ p1 => ?_
  (try walk_at "k1")
  refine take_run hf_take p1 (by decide) (by decide) fun t hp2 a2 b2 k2 _ p2 => ?_
  (try walk_at "k1")
  refine take_run hf_take p2 (by decide) (by decide) fun q hp3 a3 b3 k3 _ p3 => ?_
  simp only [o_add]
  (try walk_at "k1")
  obtain ⟨m, rfl⟩ := Int.eq_ofNat_of_zero_le a3
  have em : (1 : Int) + (m : Int) = ((m + 1 : Nat) : Int) := by omega
  show wCall g (n + 3) 21 [.ref i, .int (1 + (m : Int))] hp3 _ _
  rw [em]
  have hm : 1 ≤ m + 1 ∧ m + 1 ≤ 6 := by omega
  refine drow_run hm p3 fun ns hp4 hr p4 => ?_
  (try walk_at "k1")
  have P4 : Pst i hp hp4 := ((Pst.mk k1 p1).trans ⟨k2, p2⟩).trans (Pst.trans ⟨k3, p3⟩ p4)
  rw [← h1]
  refine e1_run P4.pool ⟨a1, b1⟩ rfl rfl fun es1 hp5 l1 g1 q5 => ?_
  (try walk_at "k1")
  have P5 : Pst i hp (hp5 ++ [O.lst es1]) := (P4.trans q5).trans (.grow q5.pool .app)
  rw [← h2]
  refine e2_run P5.pool ⟨a1, b1⟩ ⟨a2, b2⟩ hm hr rfl rfl rfl rfl fun es2 hp6 l2 g2 q6 => ?_
  have n5 := pool_lt q5.pool
  refine add_at (app_old (q6.get new_at (by omega))) new_at (by omega) ?_
  (try walk_at "k1")
  have P6 : Pst i hp (hp6 ++ [O.lst es2] ++ [O.lst (es1 ++ es2)]) := (P5.trans q6).trans (.grow q6.pool ⟨_, List.append_assoc _ _ _⟩)
  have n6 := pool_lt q6.pool
  rw [← h3]
  refine e3_run P6.pool ⟨a1, b1⟩ ⟨a2, b2⟩ hm hr rfl rfl rfl rfl fun es3 hp7 l3 g3 q7 => ?_
  refine add_at (app_old (q7.get new_at (by simp; omega))) new_at (by simp; omega) ?_
  (try walk_at "k1")
  have P7 : Pst i hp (hp7 ++ [O.lst es3] ++ [O.lst (es1 ++ es2 ++ es3)]) := (P6.trans q7).trans (.grow q7.pool ⟨_, List.append_assoc _ _ _⟩)
  have n7 := pool_lt q7.pool
  rw [← h4]
  refine e4_run P7.pool ⟨a1, b1⟩ ⟨a2, b2⟩ rfl rfl rfl fun es4 hp8 l4 g4 q8 => ?_
  refine add_at (app_old (q8.get new_at (by simp; omega))) new_at (by simp; omega) ?_
  have n8 := pool_lt q8.pool
  refine k _ _ _ ?_ (fun e he => ?_) ((P7.trans q8).trans (.grow q8.pool ⟨_, List.append_assoc _ _ _⟩)) new_at (by simp; omega)
  · simp; omega
  · simp only [List.mem_append] at he
    rcases he with ((q | q) | q) | q
    · exact g1 e q
    · exact g2 e q
    · exact g3 e q
    · exact g4 e q
end
end MI.T
set_option maxHeartbeats 4000000
local macro_rules | `(tactic| walk_at "k1") => `(tactic| simp only [MI.wSs, MI.wS, MI.wE, MI.wEs, MI.wEo, MI.wTg, MI.wTgs, MI.a_ok, MI.a_cd, MI.ab_okB, MI.ab_cd, MI.t_bl, MI.t_non, MI.t_int, MI.c_le, MI.c_lt, MI.c_ge, MI.c_gt, MI.c_eqi, MI.c_eqs, MI.c_nei, MI.c_nes, MI.c_is, MI.c_nis, MI.v_ok, List.map_cons, List.map_nil, List.cons_append, List.nil_append, List.replicate, List.getElem?_cons_zero, List.getElem?_cons_succ, List.set_cons_zero, List.set_cons_succ, Option.getD_some, if_true, Bool.false_eq_true, if_false, Bool.not_true, Bool.not_false, reduceCtorEq])
namespace MI.T
open PySem L2 MI
abbrev O1 : Exs := (.cons (.lit .non) (.cons (.lit (.bl true)) (.cons (.neg (.lit (.int 1))) (.cons (.lit (.str "")) (.cons (.lit (.str "X")) (.cons (.lit (.str "ninesigns")) (.cons (.tup .nil) (.cons (.tup (.cons (.lit (.int 1)) (.cons (.lit (.int 1)) .nil))) (.cons (.tup (.cons (.lit (.str "a")) (.cons (.lit (.str "a")) .nil))) (.cons (.lit (.int 10000)) (.cons (.lst (.cons (.lit (.int 0)) .nil)) (.cons (.bin .add (.bin .pow (.lit (.int 10)) (.lit (.int 9))) (.lit (.int 1))) (.cons (.tup (.cons (.bin .add (.bin .pow (.lit (.int 10)) (.lit (.int 9))) (.lit (.int 1))) .nil)) (.cons (.dic .nil) .nil))))))))))))))
abbrev O2 : Exs := (.cons (.lit (.str "put")) (.cons (.lit (.str "off")) (.cons (.bin .mul (.tup (.cons (.lit (.int 0)) .nil)) (.lit (.int 7))) (.cons (.tup (.cons (.lit (.str "a")) (.cons (.lit (.str "b\n")) .nil))) (.cons (.lit (.int 10)) (.cons (.lit (.int 0)) .nil))))))
abbrev R1 : Exs := (.cons (.bin .add (.bin .add (.sl (.var 1) .no (.so (.var 2))) (.tup (.cons (.var 4) .nil))) (.sl (.var 1) (.so (.bin .add (.var 2) (.lit (.int 1)))) .no)) (.cons (.bin .add (.bin .add (.sl (.var 1) .no (.so (.var 2))) (.tup (.cons (.var 4) .nil))) (.sl (.var 1) (.so (.bin .add (.var 2) (.lit (.int 1)))) .no)) (.cons (.bin .add (.sl (.var 1) .no (.so (.var 2))) (.sl (.var 1) (.so (.bin .add (.var 2) (.lit (.int 1)))) .no)) .nil)))
abbrev R2 : Exs := (.cons (.bin .add (.var 1) (.tup (.cons (.var 4) .nil))) (.cons (.blt .list1 (.cons (.var 1) .nil)) (.cons (.tup (.cons (.var 1) .nil)) (.cons (.var 4) .nil))))
theorem b28_eq : b__law_bent_entry = .cons (.asg (.nm 2) (.call 14 (.cons (.var 0) (.cons (.blt .len (.cons (.var 1) .nil)) .nil)))) (.cons (.asg (.nm 3) (.lst O1)) (.cons (.asg (.nm 3) (.bin .add (.var 3) (.lst O2))) (.cons (.asg (.nm 4) (.ix (.var 3) (.call 14 (.cons (.var 0) (.cons (.lit (.int 20)) .nil))))) (.cons (.asg (.nm 5) (.lst R1)) (.cons (.ret (.so (.ix (.bin .add (.var 5) (.lst R2)) (.call 14 (.cons (.var 0) (.cons (.lit (.int 7)) .nil)))))) .nil))))) := rfl
theorem o_mult {xs : List D} {i : Int} {hp : Hq} : oBin .mul (.tup xs) (.int i) hp = .cd (xs ≠ [] ∧ 2 ≤ i ∧ i ≤ 1000 ∧ xs.length ≤ 1000) (.tup (List.replicate i.toNat xs).flatten) hp := rfl
theorem Odd.grow {a b : Hq} {d : D} (h : Odd a d) (k : Grow a b) : Odd b d := by
  cases h with
  | pl a h h2 h3 => exact .pl a h h2 h3
  | lst r h => exact .lst r (k.get h)
  | dic r h => exact .dic r (k.get h)
theorem oddP {hp : Hq} (a : PyData) (h : (plB a && decide (a.depth ≤ 2) && decide (a.bulk ≤ 200)) = true) : Odd hp (ofP a) := by
  simp only [Bool.and_eq_true, decide_eq_true_eq] at h
  exact .pl a h.1.1 h.1.2 h.2
/-- what comes of an entry put otherwise -/
structure Bnt (hp : Hq) (d : D) : Prop where
  ok : Ok hp d
  sh : Sh hp d
section
variable {n i : Nat} {hp : Hq} {Q : QD} {E : QX} {QL : List D → Hq → Prop} {env : Env} {d : D} {ps : List PyData}
theorem o1_run (k : ∀ es hp', es.length = 14 → (∀ e ∈ es, Odd hp' e) → Grow hp hp' → QL es hp') : wEs g (wCall g n) O1 env hp QL E := by
  have p0 : pairsOf [] = some [] := rfl
  have e9 : (10 : Int) ^ (9 : Int).toNat = 1000000000 := by decide
  simp only [O1, wEs, wE, o_pow, o_add, a_cd, a_ok, p0, List.foldl_nil, e9]
  refine ⟨by decide, by decide, ?_⟩
  refine k _ _ rfl (fun e he => ?_) ⟨_, List.append_assoc _ _ _⟩
  simp only [List.mem_cons, List.not_mem_nil, or_false] at he
  rcases he with rfl | rfl | rfl | rfl | rfl | rfl | rfl | rfl | rfl | rfl | rfl | rfl | rfl | rfl
  · exact oddP .none (by decide +kernel)
  · exact oddP (.bool true) (by decide +kernel)
  · exact oddP (.int (-1)) (by decide +kernel)
  · exact oddP (.str "") (by decide +kernel)
  · exact oddP (.str "X") (by decide +kernel)
  · exact oddP (.str "ninesigns") (by decide +kernel)
  · exact oddP (.tuple []) (by decide +kernel)
  · exact oddP (.tuple [.int 1, .int 1]) (by decide +kernel)
  · exact oddP (.tuple [.str "a", .str "a"]) (by decide +kernel)
  · exact oddP (.int 10000) (by decide +kernel)
  · exact .lst _ (app_old new_at)
  · exact oddP (.int 1000000001) (by decide +kernel)
  · exact oddP (.tuple [.int 1000000001]) (by decide +kernel)
  · exact .dic _ new_at
theorem o2_run (k : ∀ es, es.length = 6 → (∀ e ∈ es, Odd hp e) → QL es hp) : wEs g (wCall g n) O2 env hp QL E := by
  simp only [O2, wEs, wE, o_mult, a_cd, a_ok]
  refine ⟨⟨by simp, by decide, by decide, by simp⟩, ?_⟩
  refine k _ rfl (fun e he => ?_)
  simp only [List.mem_cons, List.not_mem_nil, or_false] at he
  rcases he with rfl | rfl | rfl | rfl | rfl | rfl
  · exact oddP (.str "put") (by decide +kernel)
  · exact oddP (.str "off") (by decide +kernel)
  · exact oddP (.tuple [.int 0, .int 0, .int 0, .int 0, .int 0, .int 0, .int 0]) (by decide +kernel)
  · exact oddP (.tuple [.str "a", .str "b\n"]) (by decide +kernel)
  · exact oddP (.int 10) (by decide +kernel)
  · exact oddP (.int 0) (by decide +kernel)
theorem sub_pl {xs ys : List PyData} (h : plAll xs = true) (hs : ∀ y ∈ ys, y ∈ xs) : plAll ys = true := plAll_mem.mpr fun y hy => plAll_mem.mp h y (hs y hy)
theorem sub_dep {xs ys : List PyData} {n : Nat} (h : PyData.depthAll xs ≤ n) (hs : ∀ y ∈ ys, y ∈ xs) : PyData.depthAll ys ≤ n := depthAll_mem.mpr fun y hy => depthAll_mem.mp h y (hs y hy)
theorem bulk_split (xs : List PyData) (k : Nat) : PyData.bulkAll (xs.take k) + PyData.bulkAll (xs.drop k) = PyData.bulkAll xs := by
  rw [← bulkAll_app, List.take_append_drop]
/-- parts of an entry -/
structure Prt (as : List PyData) : Prop where
  pl : plAll as = true
  len : as.length ≤ 10
  dep : PyData.depthAll as ≤ 3
  bulk : PyData.bulkAll as ≤ 1000
theorem Prt.take {as : List PyData} (h : Prt as) (k : Nat) : Prt (as.take k) :=
  ⟨sub_pl h.pl fun y hy => List.mem_of_mem_take hy, by have := h.len; rw [List.length_take]; omega, sub_dep h.dep fun y hy => List.mem_of_mem_take hy, by have := bulk_split as k; have := h.bulk; omega⟩
theorem Prt.drop {as : List PyData} (h : Prt as) (k : Nat) : Prt (as.drop k) :=
  ⟨sub_pl h.pl fun y hy => List.mem_of_mem_drop hy, by have := h.len; rw [List.length_drop]; omega, sub_dep h.dep fun y hy => List.mem_of_mem_drop hy, by have := bulk_split as k; have := h.bulk; omega⟩
theorem Goo.prt (h : Goo d ps) : Prt ps := ⟨h.pl, h.len.2, h.dep, h.bulk⟩
theorem b_mid {as bs : List PyData} (h : Odd hp d) (ha : Prt as) (hb : Prt bs) : Bnt hp (.tup (ofPs as ++ d :: ofPs bs)) := by
  obtain ⟨h1, h2⟩ := odd_tup h ha.pl hb.pl ha.len hb.len ha.dep hb.dep ha.bulk hb.bulk
  exact ⟨h1, h2⟩
theorem b_odd (h : Odd hp d) : Bnt hp d := ⟨h.ok, odd_sh h⟩
theorem pl_tup {as : List PyData} (h : plAll as = true) (hl : as.length < 50) : plB (.tuple as) = true := by
  simp [plB, h, hl]
theorem b_tup {as bs : List PyData} (ha : Prt as) (hb : Prt bs) : Bnt hp (.tup (ofPs as ++ ofPs bs)) := by
  have e : D.tup (ofPs as ++ ofPs bs) = ofP (.tuple (as ++ bs)) := by
    show _ = D.tup (ofPs (as ++ bs))
    rw [ofPs_app]
  have p : plB (.tuple (as ++ bs)) = true := pl_tup (by rw [plAll_app, ha.pl, hb.pl]; rfl) (by have := ha.len; have := hb.len; simp; omega)
  rw [e]
  refine ⟨ok_pl hp _ p, sh_pl p ?_ ?_⟩
  · show PyData.depthAll (as ++ bs) + 1 ≤ _
    rw [depthAll_app]
    have := ha.dep
    have := hb.dep
    omega
  · show PyData.bulkAll (as ++ bs) ≤ _
    rw [bulkAll_app]
    have := ha.bulk
    have := hb.bulk
    omega
theorem b_list {p : Nat} {as : List PyData} (ha : Prt as) (h : hp[p]? = some (.lst (ofPs as))) : Bnt hp (.ref p) := by
  refine ⟨.lst _ _ h, sh_of (a := .list as) (fun hp' g => ?_) ?_ ?_ ?_⟩
  · show (match gtL hp' p with | some ds => (mapO (toP 39 hp') ds).map PyData.list | none => none) = _
    rw [gtL_of (g.get h)]
    show (mapO (toP 39 hp') (ofPs as)).map PyData.list = _
    have := ha.dep
    rw [toPs_of hp' as 39 ha.pl (by omega)]
    rfl
  · show smalAll as = true
    exact plAll_smal as ha.pl
  · show PyData.depthAll as + 1 ≤ _
    have := ha.dep
    omega
  · show PyData.bulkAll as ≤ _
    have := ha.bulk
    omega
theorem b_in {as : List PyData} (ha : Prt as) : Bnt hp (.tup [.tup (ofPs as)]) := by
  have e : D.tup [.tup (ofPs as)] = ofP (.tuple [.tuple as]) := rfl
  have p : plB (.tuple [.tuple as]) = true := pl_tup (by simp [plAll, pl_tup ha.pl (by have := ha.len; omega)]) (by simp)
  rw [e]
  refine ⟨ok_pl hp _ p, sh_pl p ?_ ?_⟩
  · have := ha.dep
    simp only [PyData.depth, PyData.depthAll]
    omega
  · have := ha.bulk
    simp only [PyData.bulk, PyData.bulkAll]
    omega
theorem Bnt.grow {b : Hq} (h : Bnt hp d) (k : Grow hp b) : Bnt b d := by
  obtain ⟨s, hs⟩ := h.sh
  exact ⟨h.ok.grow k, s, fun hp' g => hs hp' (k.trans g)⟩
theorem addt {xs ys : List D} (h : xs.length + ys.length ≤ 1000) (k : Q (.tup (xs ++ ys)) hp) : (oBin .add (.tup xs) (.tup ys) hp).app Q := by
  rw [o_addt, a_cd]
  exact ⟨by show _ ≤ 16777216; omega, k⟩
theorem sl_to {xs : List D} {k : Nat} (h : Q (.tup (xs.take k)) hp) : (oSl (.tup xs) none (some (k : Int)) hp).app Q := by
  rw [sl_tup, a_ok, cut_to]
  exact h
theorem sl_from {xs : List D} {k : Nat} (h : Q (.tup (xs.drop k)) hp) : (oSl (.tup xs) (some (k : Int)) none hp).app Q := by
  rw [sl_tup, a_ok, cut_from]
  exact h
/-- .. whatever is drawn behind -/
def Bn (i : Nat) (hp : Hq) (d : D) : Prop := ∀ b, Pst i hp b → Bnt b d
theorem Bn.pst {a b : Hq} (h : Bn i a d) (p : Pst i a b) : Bn i b d := fun c q => h c (p.trans q)
theorem r1_run {q : Nat} (hp0 : PoolAt hp i) (hp1 : Prt ps) (ho : Odd hp d) (h1 : env[1]? = some (some (.tup (ofPs ps)))) (h2 : env[2]? = some (some (.int (q : Int)))) (h4 : env[4]? = some (some d))
    (k : ∀ es, es.length = 3 → (∀ e ∈ es, Bn i hp e) → QL es hp) : wEs g (wCall g n) R1 env hp QL E := by
  have hl := hp1.len
  have hl2 := ofPs_len ps
  have eq1 : (q : Int) + 1 = ((q + 1 : Nat) : Int) := by omega
  have t1 : ((ofPs ps).take q).length ≤ 10 := by rw [List.length_take]; omega
  have t2 : ((ofPs ps).drop (q + 1)).length ≤ 10 := by rw [List.length_drop]; omega
  simp only [R1, wEs, wE, wEo, h1, h2, h4, o_add, a_ok, bnd, eq1]
  refine sl_to (addt (by simp only [List.length_cons, List.length_nil]; omega) (sl_from (addt (by simp only [List.length_append, List.length_cons, List.length_nil]; omega) ?_)))
  refine sl_to (addt (by simp only [List.length_cons, List.length_nil]; omega) (sl_from (addt (by simp only [List.length_append, List.length_cons, List.length_nil]; omega) ?_)))
  refine sl_to (sl_from (addt (by omega) ?_))
  have m : Bn i hp (.tup ((ofPs ps).take q ++ [d] ++ (ofPs ps).drop (q + 1))) := fun b pb => by
    rw [ofPs_take, ofPs_drop, List.append_assoc]
    exact b_mid (ho.pst hp0 pb) (hp1.take q) (hp1.drop (q + 1))
  refine k _ rfl fun e he => ?_
  simp only [List.mem_cons, List.not_mem_nil, or_false] at he
  rcases he with rfl | rfl | rfl
  · exact m
  · exact m
  · rw [ofPs_take, ofPs_drop]
    exact fun b pb => b_tup (hp1.take q) (hp1.drop (q + 1))
theorem r2_run (hp0 : PoolAt hp i) (hp1 : Prt ps) (ho : Odd hp d) (h1 : env[1]? = some (some (.tup (ofPs ps)))) (h4 : env[4]? = some (some d))
    (k : ∀ es hp', es.length = 4 → (∀ e ∈ es, Bn i hp' e) → Grow hp hp' → QL es hp') : wEs g (wCall g n) R2 env hp QL E := by
  have hl := hp1.len
  have hl2 := ofPs_len ps
  have e1 : oBF .list1 [.tup (ofPs ps)] hp = .ok (.ref hp.length) (hp ++ [.lst (ofPs ps)]) := rfl
  simp only [R2, wEs, wE, h1, h4]
  refine addt (by simp only [List.length_cons, List.length_nil]; omega) ?_
  rw [e1, a_ok]
  have p1 : PoolAt (hp ++ [O.lst (ofPs ps)]) i := pool_grow hp0 .app
  refine k _ _ rfl (fun e he => ?_) .app
  simp only [List.mem_cons, List.not_mem_nil, or_false] at he
  rcases he with rfl | rfl | rfl | rfl
  · exact fun b pb => b_mid ((ho.grow .app).pst p1 pb) hp1 (bs := []) ⟨rfl, by simp, by simp [PyData.depthAll], by simp [PyData.bulkAll]⟩
  · have := pool_lt hp0
    exact fun b pb => b_list hp1 (pb.get new_at (by omega))
  · exact fun b pb => b_in hp1
  · exact fun b pb => b_odd ((ho.grow .app).pst p1 pb)
theorem bent_run (h : PoolAt hp i) (hg : Goo d ps) (k : ∀ d' hp', Bnt hp' d' → Pst i hp hp' → Q d' hp') : wCall g (n + 2) 28 [.ref i, d] hp Q E := by
  rw [call__law_bent_entry]
  refine ⟨rfl, ?_⟩
  rw [b28_eq, hg.eq]
  generalize h1 : O1 = e1
  generalize h2 : O2 = e2
  generalize h3 : R1 = e3
  generalize h4 : R2 = e4
  (try walk_at "k1")
  have pr := hg.prt
  have hl := ofPs_len ps
  have hlen := hg.len
  rw [len_t, a_ok]
  refine take_run hf_take h (by omega) (by omega) fun r hp1 a1 b1 k1 _ p1 => ?_
  obtain ⟨q, rfl⟩ := Int.eq_ofNat_of_zero_le a1
  (try walk_at "k1")
  rw [← h1]
  refine o1_run fun es1 hp2 l1 o1 g2 => ?_
  (try walk_at "k1")
  have p2 := pool_grow p1 g2
  rw [← h2]
  refine o2_run fun es2 l2 o2 => ?_
  refine add_at (app_old new_at) new_at (by omega) ?_
  (try walk_at "k1")
  generalize e5 : hp2 ++ [O.lst es1] ++ [O.lst es2] = hp3
  have g3 : Grow hp2 hp3 := by rw [← e5]; exact ⟨_, List.append_assoc _ _ _⟩
  have p3 := pool_grow p2 (g3.trans (.app (l := [O.lst (es1 ++ es2)])))
  refine take_run hf_take p3 (by decide) (by decide) fun r2 hp4 a2 b2 k4 _ p4 => ?_
  have n3 := pool_lt (pool_grow p2 g3)
  refine ix_pick (k4.get new_at (by omega)) a2 (by simp only [List.length_append]; omega) fun one h1 => ?_
  have P4 : Pst i hp hp4 := (Pst.mk k1 p1).trans ((Pst.grow p1 (g2.trans (g3.trans .app))).trans ⟨k4, p4⟩)
  have ho : Odd hp4 one := by
    have q1 : Odd hp3 one := by
      rcases List.mem_append.mp h1 with q | q
      · exact (o1 _ q).grow g3
      · exact (o2 _ q).grow (by rw [← e5]; exact .app)
    exact (q1.grow .app).pst p3 ⟨k4, p4⟩
  (try walk_at "k1")
  rw [← h3]
  refine r1_run p4 pr ho rfl rfl rfl fun es3 l3 b3 => ?_
  (try walk_at "k1")
  rw [← h4]
  refine r2_run (pool_grow p4 .app) pr (ho.grow .app) rfl rfl fun es4 hp5 l4 b4 g5 => ?_
  refine add_at (app_old (g5.get new_at)) new_at (by omega) ?_
  generalize e6 : hp5 ++ [O.lst es4] = hp6
  have g6 : Grow hp4 hp6 := by rw [← e6]; exact .trans .app (g5.trans .app)
  have p7 := pool_grow p4 (g6.trans (.app (l := [O.lst (es3 ++ es4)])))
  refine take_run hf_take p7 (by decide) (by decide) fun r3 hp7 a3 b3' k7 _ p7' => ?_
  have n6 := pool_lt (pool_grow p4 g6)
  refine ix_pick (k7.get new_at (by omega)) a3 (by simp only [List.length_append]; omega) fun x hx => ?_
  have p6 := pool_grow p4 g6
  have q7 : Pst i hp6 hp7 := (Pst.grow p6 .app).trans ⟨k7, p7'⟩
  have bx : Bn i hp6 x := by
    rcases List.mem_append.mp hx with q | q
    · exact (b3 _ q).pst (.grow p4 g6)
    · refine (b4 _ q).pst (.grow ?_ (by rw [← e6]; exact .app))
      exact pool_grow p4 (.trans .app g5)
  exact k x hp7 (bx hp7 q7) (P4.trans ((Pst.grow p4 g6).trans q7))
end
end MI.T
set_option maxHeartbeats 4000000
local macro_rules | `(tactic| walk_at "k1") => `(tactic| simp only [MI.wSs, MI.wS, MI.wE, MI.wEs, MI.wEo, MI.wTg, MI.wTgs, MI.a_ok, MI.a_cd, MI.ab_okB, MI.ab_cd, MI.t_bl, MI.t_non, MI.t_int, MI.c_le, MI.c_lt, MI.c_ge, MI.c_gt, MI.c_eqi, MI.c_eqs, MI.c_nei, MI.c_nes, MI.c_is, MI.c_nis, MI.v_ok, List.map_cons, List.map_nil, List.cons_append, List.nil_append, List.replicate, List.getElem?_cons_zero, List.getElem?_cons_succ, List.set_cons_zero, List.set_cons_succ, Option.getD_some, if_true, Bool.false_eq_true, if_false, Bool.not_true, Bool.not_false, reduceCtorEq])
namespace MI.T
open PySem L2 MI
abbrev I1 : Exs := (.cons (.lit .non) (.cons (.lit (.bl true)) (.cons (.lit (.bl false)) (.cons (.lit (.int 0)) (.cons (.lit (.int 1)) (.cons (.neg (.lit (.int 1))) (.cons (.lit (.int 9)) (.cons (.lit (.int 10)) (.cons (.lit (.int 9999)) (.cons (.bin .pow (.lit (.int 10)) (.lit (.int 9))) (.cons (.bin .add (.bin .pow (.lit (.int 10)) (.lit (.int 9))) (.lit (.int 1))) (.cons (.bin .sub (.lit (.int 0)) (.bin .pow (.lit (.int 10)) (.lit (.int 9)))) (.cons (.bin .sub (.neg (.lit (.int 1))) (.bin .pow (.lit (.int 10)) (.lit (.int 9)))) (.cons (.bin .pow (.lit (.int 10)) (.lit (.int 59))) (.cons (.lit (.str "")) .nil)))))))))))))))
abbrev I2 : Exs := (.cons (.lit (.str "a")) (.cons (.lit (.str "abcdefgh")) (.cons (.lit (.str "abcdefghi")) (.cons (.lit (.str "A")) (.cons (.lit (.str "a b")) (.cons (.lit (.str "a\n")) (.cons (.lst .nil) (.cons (.lst (.cons (.lit (.int 1)) .nil)) (.cons (.tup .nil) (.cons (.tup (.cons (.lit (.int 1)) .nil)) (.cons (.bin .mul (.tup (.cons (.lit (.int 1)) .nil)) (.lit (.int 6))) (.cons (.bin .mul (.tup (.cons (.lit (.int 1)) .nil)) (.lit (.int 7))) (.cons (.tup (.cons (.lit (.int 1)) (.cons (.lit (.bl true)) .nil))) .nil)))))))))))))
abbrev I3 : Exs := (.cons (.tup (.cons (.lit (.str "a")) .nil)) (.cons (.tup (.cons (.lit (.str "a")) (.cons (.lit (.str "b")) .nil))) (.cons (.tup (.cons (.lit (.str "a")) (.cons (.lit (.str "a")) .nil))) (.cons (.tup (.cons (.lit (.str "a")) (.cons (.lit (.str "")) .nil))) (.cons (.blt .tuple1 (.cons (.lit (.str "abcdef")) .nil)) (.cons (.blt .tuple1 (.cons (.lit (.str "abcdefg")) .nil)) (.cons (.dic .nil) (.cons (.tup (.cons (.lit .non) .nil)) (.cons (.tup (.cons (.tup (.cons (.lit (.int 1)) .nil)) .nil)) .nil)))))))))
theorem b29_eq : b__law_items = .cons (.asg (.nm 0) (.lst I1)) (.cons (.asg (.nm 0) (.bin .add (.var 0) (.lst I2))) (.cons (.ret (.so (.bin .add (.var 0) (.lst I3)))) .nil)) := rfl
section
variable {n i : Nat} {hp : Hq} {Q : QD} {E : QX} {QL : List D → Hq → Prop} {env : Env} {d : D} {ps : List PyData}
theorem i1_run (k : ∀ es, es.length = 15 → (∀ e ∈ es, Ok hp e) → QL es hp) : wEs g (wCall g n) I1 env hp QL E := by
  have e9 : (10 : Int) ^ (9 : Int).toNat = 1000000000 := by decide
  have e59 : (10 : Int) ^ (59 : Int).toNat = 100000000000000000000000000000000000000000000000000000000000 := by decide +kernel
  simp only [I1, wEs, wE, o_pow, o_add, o_sub, a_cd, a_ok, e9, e59]
  refine ⟨by decide, by decide, by decide, by decide, by decide, ?_⟩
  refine k _ rfl (fun e he => ?_)
  simp only [List.mem_cons, List.not_mem_nil, or_false] at he
  rcases he with rfl | rfl | rfl | rfl | rfl | rfl | rfl | rfl | rfl | rfl | rfl | rfl | rfl | rfl | rfl <;>
    first
    | exact .non
    | exact .bl _
    | exact .int _ (by decide +kernel)
    | exact .str _ (by decide +kernel)
theorem i2_run (k : ∀ es hp', es.length = 13 → (∀ e ∈ es, Ok hp' e) → Grow hp hp' → QL es hp') : wEs g (wCall g n) I2 env hp QL E := by
  simp only [I2, wEs, wE, o_mult, a_cd, a_ok]
  refine ⟨⟨by simp, by decide, by decide, by simp⟩, ⟨by simp, by decide, by decide, by simp⟩, ?_⟩
  refine k _ _ rfl (fun e he => ?_) ⟨_, List.append_assoc _ _ _⟩
  simp only [List.mem_cons, List.not_mem_nil, or_false] at he
  rcases he with rfl | rfl | rfl | rfl | rfl | rfl | rfl | rfl | rfl | rfl | rfl | rfl | rfl <;>
    first
    | exact .str _ (by decide +kernel)
    | exact .lst _ _ (app_old new_at)
    | exact .lst _ _ new_at
    | exact ok_pl _ (.tuple []) (by decide +kernel)
    | exact ok_pl _ (.tuple [.int 1]) (by decide +kernel)
    | exact ok_pl _ (.tuple [.int 1, .bool true]) (by decide +kernel)
    | exact ok_pl _ (.tuple [.int 1, .int 1, .int 1, .int 1, .int 1, .int 1]) (by decide +kernel)
    | exact ok_pl _ (.tuple [.int 1, .int 1, .int 1, .int 1, .int 1, .int 1, .int 1]) (by decide +kernel)
theorem tup_s {s : Str} (h : s.cps.size ≤ 49) (k : ∀ xs, (∀ b, Ok b (.tup xs)) → Q (.tup xs) hp) : (oBF .tuple1 [.str s] hp).app Q := by
  show (OutD.cd (s.cps.size ≤ 1000) (.tup (s.cps.toList.map fun c => .str ⟨#[c]⟩)) hp).app Q
  rw [a_cd]
  refine ⟨by omega, k _ fun b => .tup _ (by simp; omega) fun x hx => ?_⟩
  obtain ⟨c, _, rfl⟩ := List.mem_map.mp hx
  exact .str _ (by show (#[c] : Array Nat).size ≤ 1000; simp)
theorem i3_run (k : ∀ es hp', es.length = 9 → (∀ e ∈ es, Ok hp' e) → Grow hp hp' → QL es hp') : wEs g (wCall g n) I3 env hp QL E := by
  have p0 : pairsOf [] = some [] := rfl
  simp only [I3, wEs, wE, p0, List.foldl_nil]
  refine tup_s (by decide +kernel) fun xs hx => ?_
  refine tup_s (by decide +kernel) fun ys hy => ?_
  refine k _ _ rfl (fun e he => ?_) .app
  simp only [List.mem_cons, List.not_mem_nil, or_false] at he
  rcases he with rfl | rfl | rfl | rfl | rfl | rfl | rfl | rfl | rfl
  · exact ok_pl _ (.tuple [.str "a"]) (by decide +kernel)
  · exact ok_pl _ (.tuple [.str "a", .str "b"]) (by decide +kernel)
  · exact ok_pl _ (.tuple [.str "a", .str "a"]) (by decide +kernel)
  · exact ok_pl _ (.tuple [.str "a", .str ""]) (by decide +kernel)
  · exact hx _
  · exact hy _
  · exact .dic _ _ new_at
  · exact ok_pl _ (.tuple [.none]) (by decide +kernel)
  · exact ok_pl _ (.tuple [.tuple [.int 1]]) (by decide +kernel)
theorem items_run (k : ∀ es p hp', es.length ≤ 60 → (∀ e ∈ es, Ok hp' e) → Grow hp hp' → hp'[p]? = some (.lst es) → Q (.ref p) hp') : wCall g (n + 1) 29 [] hp Q E := by
  rw [call__law_items]
  refine ⟨rfl, ?_⟩
  rw [b29_eq]
  generalize h1 : I1 = e1
  generalize h2 : I2 = e2
  generalize h3 : I3 = e3
  (try walk_at "k1")
  rw [← h1]
  refine i1_run fun es1 l1 o1 => ?_
  (try walk_at "k1")
  rw [← h2]
  refine i2_run fun es2 hp2 l2 o2 g2 => ?_
  refine add_at (app_old (g2.get new_at)) new_at (by omega) ?_
  (try walk_at "k1")
  rw [← h3]
  refine i3_run fun es3 hp3 l3 o3 g3 => ?_
  refine add_at (app_old (g3.get new_at)) new_at (by simp; omega) ?_
  have G3 : Grow hp2 hp3 := Grow.trans ⟨_, List.append_assoc _ _ _⟩ g3
  have G4 : Grow hp3 (hp3 ++ [O.lst es3] ++ [O.lst (es1 ++ es2 ++ es3)]) := ⟨_, List.append_assoc _ _ _⟩
  have G1 : Grow hp hp2 := Grow.trans .app g2
  refine k _ _ _ (by simp; omega) (fun e he => ?_) ((G1.trans G3).trans G4) new_at
  simp only [List.mem_append] at he
  rcases he with (q | q) | q
  · exact (o1 e q).grow ((G1.trans G3).trans G4)
  · exact (o2 e q).grow (G3.trans G4)
  · exact (o3 e q).grow G4
/-! the law -/
abbrev B2 : Sts := .cons (.ifs (.or (.not (.call 30 (.cons (.tup (.cons (.var 2) (.cons (.lit (.int 0)) (.cons (.var 1) .nil)))) .nil))) (.not (.call 30 (.cons (.tup (.cons (.var 2) (.cons (.var 1) .nil))) .nil)))) (.cons (.ret (.so (.lit (.bl false)))) .nil) .nil) .nil
abbrev B1 : Sts := .cons (.ifs (.or (.not (.call 30 (.cons (.var 1) .nil))) (.not (.call 30 (.cons (.tup (.cons (.lit (.str "strike")) (.cons (.lit (.int 0)) (.cons (.lit (.int 0)) (.cons (.var 1) .nil))))) .nil)))) (.cons (.ret (.so (.lit (.bl false)))) .nil) .nil) (.cons (.for_ (.nm 2) (.vl (.lst (.cons (.lit (.str "sure")) (.cons (.lit (.str "ready")) (.cons (.lit (.str "running")) .nil))))) B2) .nil)
abbrev B5 : Sts := .cons (.asg (.nm 6) (.call 28 (.cons (.var 4) (.cons (.var 5) .nil)))) (.cons (.asg (.nm 7) (.blt .repr (.cons (.var 6) .nil))) (.cons (.ifs (.or (.cmp .nis (.call 11 (.cons (.var 5) .nil)) (.lit (.bl true))) (.or (.not (.call 30 (.cons (.var 5) .nil))) (.not (.call 30 (.cons (.var 6) .nil))))) (.cons (.ret (.so (.lit (.bl false)))) .nil) .nil) (.cons (.ifs (.cmp .ne (.blt .repr (.cons (.var 6) .nil)) (.var 7)) (.cons (.ret (.so (.lit (.bl false)))) .nil) .nil) .nil)))
abbrev B3 : Sts := .cons (.asg (.nm 4) (.call 13 (.cons (.var 0) (.cons (.var 3) .nil)))) (.cons (.for_ (.nm 5) (.vl (.call 31 (.cons (.var 4) .nil))) B5) .nil)
abbrev F1 : MI.St := .for_ (.nm 1) (.vl (.call 29 .nil)) B1
abbrev F2 : MI.St := .for_ (.nm 3) (.rng1 (.blt .max2 (.cons (.lit (.int 1)) (.cons (.blt .min2 (.cons (.blt .len (.cons (.var 0) .nil)) (.cons (.lit (.int 10)) .nil))) .nil)))) B3
abbrev F3 : MI.St := .ret (.so (.callK 11 (.cons (.tup (.cons (.lit (.str "running")) (.cons (.tup .nil) .nil))) .nil) [.inl 0]))
theorem b_law_eq : b_law = .cons F1 (.cons F2 (.cons F3 .nil)) := rfl
theorem lst_nx {p j : Nat} {xs : List D} {x : D} (h : hp[p]? = some (.lst xs)) (e : xs[j]? = some x) : (itLst p).nx j hp = some (some x) := by
  show (gtL hp p).map (fun xs => xs[j]?) = _
  rw [gtL_of h, Option.map_some, e]
theorem lst_end {p j : Nat} {xs : List D} (h : hp[p]? = some (.lst xs)) (e : xs.length ≤ j) : (itLst p).nx j hp = some none := by
  show (gtL hp p).map (fun xs => xs[j]?) = _
  rw [gtL_of h, Option.map_some, List.getElem?_eq_none e]
theorem ok_str {s : Str} (h : s.length ≤ 1000) : Ok hp (.str s) := .str s h
variable {K : KS} {e0 x1 x2 x3 x4 x5 x6 x7 : Option D}
theorem turn2 {w : Str} (hw : w.length ≤ 1000) (h : Ok hp d) (k : ∀ hp', Grow hp hp' → K.nx [e0, some d, some (.str w), x3, x4, x5, x6, x7] hp') : wSs g (wCall g (n + 6)) B2 [e0, some d, some (.str w), x3, x4, x5, x6, x7] hp K := by
  simp only [B2, wSs, wS, wE, wEs, List.getElem?_cons_zero, List.getElem?_cons_succ]
  refine plain_run (.tup _ (by simp) fun x hx => ?_) fun hp1 g1 => ?_
  · simp only [List.mem_cons, List.not_mem_nil, or_false] at hx
    rcases hx with rfl | rfl | rfl
    · exact .str _ hw
    · exact .int _ (by decide)
    · exact h
  (try walk_at "k1")
  refine plain_run (.tup _ (by simp) fun x hx => ?_) fun hp2 g2 => ?_
  · simp only [List.mem_cons, List.not_mem_nil, or_false] at hx
    rcases hx with rfl | rfl
    · exact .str _ hw
    · exact h.grow g1
  (try walk_at "k1")
  exact k _ (g1.trans g2)
theorem turn1 (h : Ok hp d) (k : ∀ hp' y2, Grow hp hp' → K.nx [e0, some d, y2, x3, x4, x5, x6, x7] hp') : wSs g (wCall g (n + 6)) B1 [e0, some d, x2, x3, x4, x5, x6, x7] hp K := by
  simp only [B1]
  generalize hB : B2 = b2
  simp only [wSs, wS, wE, wEs, wIt, List.getElem?_cons_zero, List.getElem?_cons_succ]
  refine plain_run h fun hp1 g1 => ?_
  (try walk_at "k1")
  refine plain_run (.tup _ (by simp) fun x hx => ?_) fun hp2 g2 => ?_
  · simp only [List.mem_cons, List.not_mem_nil, or_false] at hx
    rcases hx with rfl | rfl | rfl | rfl
    · exact .str _ (by decide +kernel)
    · exact .int _ (by decide)
    · exact .int _ (by decide)
    · exact h.grow g1
  (try walk_at "k1")
  rw [seq_lst new_at]
  generalize e3 : hp2 ++ [O.lst [D.str "sure", .str "ready", .str "running"]] = hp3
  have at3 : hp3[hp2.length]? = some (.lst [D.str "sure", .str "ready", .str "running"]) := by rw [← e3]; exact new_at
  have G3 : Grow hp hp3 := (g1.trans g2).trans (by rw [← e3]; exact .app)
  refine for_run 3 (fun j env hp' => Grow hp3 hp' ∧ ∃ y, env = [e0, some d, y, x3, x4, x5, x6, x7]) (fun j env hp' kn hj hI hk => ?_) (fun env hp' hI => ?_) ⟨.refl _, _, rfl⟩
  · obtain ⟨gr, y, rfl⟩ := hI
    have go : ∀ w : Str, w.length ≤ 1000 → ([D.str "sure", .str "ready", .str "running"] : List D)[j]? = some (.str w) → ∃ d', (itLst hp2.length).nx j hp' = some (some d') ∧ wTg g (wCall g (n + 6)) (.nm 2) d' [e0, some d, y, x3, x4, x5, x6, x7] hp' fun env hp => wSs g (wCall g (n + 6)) b2 env hp { nx := kn, ct := kn, bk := fun env hp => K.nx env hp, rt := fun d hp => K.rt d hp, ex := K.ex } := fun w hw hd => by
      refine ⟨_, lst_nx (gr.get at3) hd, ?_⟩
      simp only [wTg, List.set_cons_zero, List.set_cons_succ]
      rw [← hB]
      exact turn2 hw (h.grow (G3.trans gr)) fun hp'' g'' => hk _ _ ⟨gr.trans g'', _, rfl⟩
    have : j = 0 ∨ j = 1 ∨ j = 2 := by omega
    rcases this with rfl | rfl | rfl
    · exact go "sure" (by decide +kernel) rfl
    · exact go "ready" (by decide +kernel) rfl
    · exact go "running" (by decide +kernel) rfl
  · obtain ⟨gr, y, rfl⟩ := hI
    exact ⟨lst_end (gr.get at3) (Nat.le_refl _), k _ _ (G3.trans gr)⟩
theorem f1_run (k : ∀ hp' y1 y2, K.nx [e0, y1, y2, x3, x4, x5, x6, x7] hp') : wS g (wCall g (n + 6)) F1 [e0, x1, x2, x3, x4, x5, x6, x7] hp K := by
  simp only [F1]
  generalize hB : B1 = b1
  simp only [wS, wIt, wE, wEs]
  refine items_run fun es p hp1 hl ho g1 hp => ?_
  rw [seq_lst hp]
  refine for_run es.length (fun j env hp' => Grow hp1 hp' ∧ ∃ y1 y2, env = [e0, y1, y2, x3, x4, x5, x6, x7]) (fun j env hp' kn hj hI hk => ?_) (fun env hp' hI => ?_) ⟨.refl _, _, _, rfl⟩
  · obtain ⟨gr, y1, y2, rfl⟩ := hI
    refine ⟨es[j], lst_nx (gr.get hp) (List.getElem?_eq_getElem hj), ?_⟩
    simp only [wTg, List.set_cons_zero, List.set_cons_succ]
    rw [← hB]
    exact turn1 ((ho _ (List.getElem_mem hj)).grow gr) fun hp'' y2 g'' => hk _ _ ⟨gr.trans g'', _, _, rfl⟩
  · obtain ⟨gr, y1, y2, rfl⟩ := hI
    exact ⟨lst_end (gr.get hp) (Nat.le_refl _), k _ _ _⟩
theorem nis_b {a b : Bool} : oCmp .nis (.bl a) (.bl b) hp = .ok (.bl (!(a == b))) hp := rfl
theorem turn5 (h : PoolAt hp i) (hg : Goo d ps) (k : ∀ hp' y6 y7, Pst i hp hp' → K.nx [e0, x1, x2, x3, some (.ref i), some d, y6, y7] hp') : wSs g (wCall g (n + 6)) B5 [e0, x1, x2, x3, some (.ref i), some d, x6, x7] hp K := by
  have okd : ∀ b, Ok b d := fun b => by
    rw [hg.eq]
    have := hg.len
    exact ok_pl b (.tuple ps) (pl_tup hg.pl (by omega))
  simp only [B5, wSs, wS, wE, wEs, wTg, List.getElem?_cons_zero, List.getElem?_cons_succ]
  refine bent_run h hg fun d' hp1 hb p1 => ?_
  (try walk_at "k1")
  obtain ⟨s, hs⟩ := hb.sh
  refine hs hp1 (.refl _) _ ?_
  (try walk_at "k1")
  refine ent_run (okd _) fun hp2 g2 => ?_
  rw [hg.ent, nis_b]
  (try walk_at "k1")
  have e1 : (!(true == true)) = false := rfl
  rw [e1]
  (try walk_at "k1")
  refine plain_run (okd _) fun hp3 g3 => ?_
  (try walk_at "k1")
  refine plain_run (hb.ok.grow (g2.trans g3)) fun hp4 g4 => ?_
  (try walk_at "k1")
  refine hs hp4 ((g2.trans g3).trans g4) _ ?_
  (try walk_at "k1")
  simp only [decide_true]
  (try walk_at "k1")
  exact k _ _ _ (p1.trans (.grow p1.pool ((g2.trans g3).trans g4)))
theorem turn3 {ns : List Int} {j : Nat} (hj : j < 1000) (k : ∀ hp' y4 y5 y6 y7, K.nx [some (.kl (ns.map D.int)), x1, x2, some (.int (j : Int)), y4, y5, y6, y7] hp') : wSs g (wCall g (n + 6)) B3 [some (.kl (ns.map D.int)), x1, x2, some (.int (j : Int)), x4, x5, x6, x7] hp K := by
  simp only [B3]
  generalize hB : B5 = b5
  simp only [wSs, wS, wE, wEs, wIt, wTg, List.getElem?_cons_zero, List.getElem?_cons_succ]
  refine pool_run hf_pool hf_cell hj fun hp1 eh pp => ?_
  (try walk_at "k1")
  generalize hp.length = i at pp
  refine ents_run pp fun es p hp2 hl ho p2 ha hn => ?_
  rw [seq_lst ha]
  refine for_run es.length (fun q env hp' => Pst i hp2 hp' ∧ ∃ y5 y6 y7, env = [some (.kl (ns.map D.int)), x1, x2, some (.int (j : Int)), some (.ref i), y5, y6, y7]) (fun q env hp' kn hj hI hk => ?_) (fun env hp' hI => ?_) ⟨.refl p2.pool, _, _, _, rfl⟩
  · obtain ⟨gr, y5, y6, y7, rfl⟩ := hI
    refine ⟨es[q], lst_nx (gr.get ha hn) (List.getElem?_eq_getElem hj), ?_⟩
    simp only [wTg, List.set_cons_zero, List.set_cons_succ]
    rw [← hB]
    obtain ⟨ps, hg⟩ := ho _ (List.getElem_mem hj)
    exact turn5 gr.pool hg fun hp'' y6 y7 g'' => hk _ _ ⟨gr.trans g'', _, _, _, rfl⟩
  · obtain ⟨gr, y5, y6, y7, rfl⟩ := hI
    exact ⟨lst_end (gr.get ha hn) (Nat.le_refl _), k _ _ _ _ _⟩
end
theorem law_run : ∀ ns : List Int, ns.length ≤ 63 → wCall g 7 32 [.kl (ns.map D.int)] [] (fun d _ => d = .bl true) fun _ _ _ => False := by
  intro ns hns
  rw [call_law]
  refine ⟨rfl, ?_⟩
  rw [b_law_eq]
  generalize h1 : F1 = f1
  generalize h3 : F3 = f3
  simp only [wSs, List.map_cons, List.map_nil, List.cons_append, List.nil_append, List.replicate]
  rw [← h1]
  refine f1_run fun hp1 y1 y2 => ?_
  generalize hB : B3 = b3
  simp only [F2, hB, wS, wE, wEo, wEs, wIt, List.getElem?_cons_zero, List.getElem?_cons_succ, len_k, min_2, max_2, a_ok, List.length_map]
  obtain ⟨M, hM, hM2⟩ : ∃ M : Nat, (if (if (10 : Int) < (ns.length : Int) then 10 else (ns.length : Int)) > 1 then (if (10 : Int) < (ns.length : Int) then 10 else (ns.length : Int)) else 1) = (M : Int) ∧ M ≤ 10 := by
    by_cases h1 : (10 : Int) < (ns.length : Int)
    · exact ⟨10, by rw [if_pos h1, if_pos (by decide)]; rfl, Nat.le_refl _⟩
    · by_cases h2 : (ns.length : Int) > 1
      · exact ⟨ns.length, by rw [if_neg h1, if_pos h2], by omega⟩
      · exact ⟨1, by rw [if_neg h1, if_neg h2]; rfl, by decide⟩
  rw [hM]
  refine ⟨⟨by omega, by omega⟩, ?_⟩
  refine for_run M (fun j env hp => ∃ y3 y4 y5 y6 y7, env = [some (.kl (ns.map D.int)), y1, y2, y3, y4, y5, y6, y7]) (fun j env hp kn hj hI hk => ?_) (fun env hp hI => ?_) ⟨_, _, _, _, _, rfl⟩
  · obtain ⟨y3, y4, y5, y6, y7, rfl⟩ := hI
    refine ⟨.int (0 + (j : Int)), ?_, ?_⟩
    · show some (if (j : Int) < (M : Int) - 0 then _ else _) = _
      rw [if_pos (by omega)]
    · simp only [wTg, List.set_cons_zero, List.set_cons_succ]
      rw [← hB, show (0 : Int) + (j : Int) = (j : Int) by omega]
      exact turn3 (by omega) fun hp' y4 y5 y6 y7 => hk _ _ ⟨_, _, _, _, _, rfl⟩
  · obtain ⟨y3, y4, y5, y6, y7, rfl⟩ := hI
    refine ⟨?_, ?_⟩
    · show some (if (M : Int) < (M : Int) - 0 then _ else _) = _
      rw [if_neg (by omega)]
    · rw [← h3]
      simp only [F3, wS, wE, wEo, wEs]
      have e : perm [.inl 0] [D.tup [.str "running", .tup []]] = some [D.tup [.str "running", .tup []]] := rfl
      simp only [e]
      refine ent_run (ok_pl _ (.tuple [.str "running", .tuple []]) (by decide +kernel)) fun hp' _ => ?_
      have e : entB (.tup [.str "running", .tup []]) = true := by decide +kernel
      rw [e]
      rfl
end MI.T
open PySem PySem.W PyProof.Rows
set_option maxRecDepth 100000 in
set_option maxHeartbeats 0 in
theorem PySem.Challenge.cw_rowstold_k01_words_rows_and_entries_holds : PySem.Challenge.rw_rowstold_k01_words_rows_and_entries.Holds := by
  w_on; o_law; k_head; (case hw => w_witness2)
  k_fill
  refine MI.walk_mi (l := PySem.Challenge.rw_rowstold_k01_words_rows_and_entries) (n := 63) (N := 7) (S := MI.T.S) (g := MI.T.g) (lf := 32) rfl (by decide) rfl ⟨rfl, by decide, by decide⟩ (fun w h Y => PySem.W.kIn_of Y) ?F MI.T.law_run
  case F =>
    intro w mg fa h KX G hmg
    refine' MI.T.tfs KX G hmg ?ya0 ?yl0 ?yc0 ?yk0 ?ya1 ?yl1 ?yc1 ?yk1 ?ya2 ?yl2 ?yc2 ?yk2 ?ya3 ?yl3 ?yc3 ?yk3 ?ya4 ?yl4 ?yc4 ?yk4 ?ya5 ?yl5 ?yc5 ?yk5 ?ya6 ?yl6 ?yc6 ?yk6 ?ya7 ?yl7 ?yc7 ?yk7 ?ya8 ?yl8 ?yc8 ?yk8 ?ya9 ?yl9 ?yc9 ?yk9 ?ya10 ?yl10 ?yc10 ?yk10 ?ya11 ?yl11 ?yc11 ?yk11 ?ya12 ?yl12 ?yc12 ?yk12 ?ya13 ?yl13 ?yc13 ?yk13 ?ya14 ?yl14 ?yc14 ?yk14 ?ya15 ?yl15 ?yc15 ?yk15 ?ya16 ?yl16 ?yc16 ?yk16 ?ya17 ?yl17 ?yc17 ?yk17 ?ya18 ?yl18 ?yc18 ?yk18 ?ya19 ?yl19 ?yc19 ?yk19 ?ya20 ?yl20 ?yc20 ?yk20 ?ya21 ?yl21 ?yc21 ?yk21 ?ya22 ?yl22 ?yc22 ?yk22 ?ya23 ?yl23 ?yc23 ?yk23 ?ya24 ?yl24 ?yc24 ?yk24 ?ya25 ?yl25 ?yc25 ?yk25 ?ya26 ?yl26 ?yc26 ?yk26 ?ya27 ?yl27 ?yc27 ?yk27 ?ya28 ?yl28 ?yc28 ?yk28 ?ya29 ?yl29 ?yc29 ?yk29 ?ya30 ?yl30 ?yc30 ?yk30 ?ya31 ?yl31 ?yc31 ?yk31 ?ya32 ?yl32 ?yc32 ?yk32 ?yz0 ?yz1 ?yz2 ?yz3 ?yz4 ?yz5 ?yz6 ?yz7 ?yz8 ?yz9 ?yz10 ?yz11 ?yz12 ?yz13 ?yz14 ?yg0 ?yg1 ?yg2 ?yg3 ?yg4 ?yg5 ?yg6 ?yh6 ?yhs6 ?yh6_0 ?yh6_1 ?yh6_2 ?yh6_3 ?yh6_4 ?yh6_5 ?yh6_6 ?yh6_7 ?yh6_8 ?yh6_9
    (case ya0 => k_is); (case yl0 => k_is); (case yc0 => k_is); (case yk0 => k_is); (case ya1 => k_is); (case yl1 => k_is); (case yc1 => k_is); (case yk1 => k_is); (case ya2 => k_is); (case yl2 => k_is); (case yc2 => k_is); (case yk2 => k_is)
    (case ya3 => k_is); (case yl3 => k_is); (case yc3 => k_is); (case yk3 => k_is); (case ya4 => k_is); (case yl4 => k_is); (case yc4 => k_is); (case yk4 => k_is); (case ya5 => k_is); (case yl5 => k_is); (case yc5 => k_is); (case yk5 => k_is)
    (case ya6 => k_is); (case yl6 => k_is); (case yc6 => k_is); (case yk6 => k_is); (case ya7 => k_is); (case yl7 => k_is); (case yc7 => k_is); (case yk7 => k_is); (case ya8 => k_is); (case yl8 => k_is); (case yc8 => k_is); (case yk8 => k_is)
    (case ya9 => k_is); (case yl9 => k_is); (case yc9 => k_is); (case yk9 => k_is); (case ya10 => k_is); (case yl10 => k_is); (case yc10 => k_is); (case yk10 => k_is); (case ya11 => k_is); (case yl11 => k_is); (case yc11 => k_is); (case yk11 => k_is)
    (case ya12 => k_is); (case yl12 => k_is); (case yc12 => k_is); (case yk12 => k_is); (case ya13 => k_is); (case yl13 => k_is); (case yc13 => k_is); (case yk13 => k_is); (case ya14 => k_is); (case yl14 => k_is); (case yc14 => k_is); (case yk14 => k_is)
    (case ya15 => k_is); (case yl15 => k_is); (case yc15 => k_is); (case yk15 => k_is); (case ya16 => k_is); (case yl16 => k_is); (case yc16 => k_is); (case yk16 => k_is); (case ya17 => k_is); (case yl17 => k_is); (case yc17 => k_is); (case yk17 => k_is)
    (case ya18 => k_is); (case yl18 => k_is); (case yc18 => k_is); (case yk18 => k_is); (case ya19 => k_is); (case yl19 => k_is); (case yc19 => k_is); (case yk19 => k_is); (case ya20 => k_is); (case yl20 => k_is); (case yc20 => k_is); (case yk20 => k_is)
    (case ya21 => k_is); (case yl21 => k_is); (case yc21 => k_is); (case yk21 => k_is); (case ya22 => k_is); (case yl22 => k_is); (case yc22 => k_is); (case yk22 => k_is); (case ya23 => k_is); (case yl23 => k_is); (case yc23 => k_is); (case yk23 => k_is)
    (case ya24 => k_is); (case yl24 => k_is); (case yc24 => k_is); (case yk24 => k_is); (case ya25 => k_is); (case yl25 => k_is); (case yc25 => k_is); (case yk25 => k_is); (case ya26 => k_is); (case yl26 => k_is); (case yc26 => k_is); (case yk26 => k_is)
    (case ya27 => k_is); (case yl27 => k_is); (case yc27 => k_is); (case yk27 => k_is); (case ya28 => k_is); (case yl28 => k_is); (case yc28 => k_is); (case yk28 => k_is); (case ya29 => k_is); (case yl29 => k_is); (case yc29 => k_is); (case yk29 => k_is)
    (case ya30 => k_is); (case yl30 => k_is); (case yc30 => k_is); (case yk30 => k_is); (case ya31 => k_is); (case yl31 => k_is); (case yc31 => k_is); (case yk31 => k_is); (case ya32 => k_is); (case yl32 => k_is); (case yc32 => k_is); (case yk32 => k_is)
    (case yz0 => k_is); (case yz1 => k_is); (case yz2 => k_is); (case yz3 => k_is); (case yz4 => k_is); (case yz5 => k_is); (case yz6 => k_is); (case yz7 => k_is); (case yz8 => k_is); (case yz9 => k_is); (case yz10 => k_is); (case yz11 => k_is)
    (case yz12 => k_is); (case yz13 => k_is); (case yz14 => k_is); (case yg0 => k_is); (case yg1 => k_is); (case yg2 => k_is); (case yg3 => k_is); (case yg4 => k_is); (case yg5 => k_is); (case yg6 => k_is); (case yh6 => k_is); (case yhs6 => decide)
    (case yh6_0 => k_is); (case yh6_1 => k_is); (case yh6_2 => k_is); (case yh6_3 => k_is); (case yh6_4 => k_is); (case yh6_5 => k_is); (case yh6_6 => k_is); (case yh6_7 => k_is); (case yh6_8 => k_is); (case yh6_9 => k_is)
