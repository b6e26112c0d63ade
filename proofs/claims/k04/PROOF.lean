import PyProof.Rows.All
import Wide.All
import OpenK.AllK
import Wide.FinOn
import HandS.ForMost
import HandS.Exc
import HandS.TupAny
import HandS.Deep
import HandS.TupMul
import HandS.Flow
import HandS.ForExc
import HandS.DictComp
import HandS.IsInst
import HandS.SortKw
import HandS.SortInts
import KE.DataMinMax
import HandS.SetKeys
import HandS.ExcInit
import HandS.ExcIs
import HandS.ExcField
import PyProof.ExcBaseAll.IndexError
import PyProof.ExcBaseAll.LookupError
import PyProof.ExcBaseAll.OverflowError
import PyProof.ExcBaseAll.RuntimeError
import PyProof.ExcBaseAll.Exception
import PyProof.ExcBaseAll.ValueError
import PyProof.FactsTree
import HandS.ClsMeth
import HandS.WordsExc
import HandS.ExcOwn
import HandS.ExcValue
import HandS.EndBits
import PyProof.ReprBulk
import PyProof.Rows.ReprShort
import PySem.Challenge.RW_rowstold_k04_refusals_apart
set_option Elab.async false
set_option linter.all false
set_option maxRecDepth 100000
/-! MI, part 1: values, heap objects, the small language, and what a run of it comes to (predicate transformers). -/
namespace MI
open PySem

abbrev SZ : Nat := 16777216

/-- a value: tuples and the script stand inline, what may change is a place in the heap -/
inductive D where
  | non
  | bl (b : Bool)
  | int (i : Int)
  | str (x : Str)
  | tup (xs : List D)
  | kl (xs : List D)
  | ref (i : Nat)
  | fn (k : Nat)
  | cls (k : Nat)
  | ty (n : String)
  | kd (k : Nat)
  | exv (c i : Nat)

/-- what stands at a place (fdic: a dict while it is walked) -/
inductive O where
  | lst (xs : List D)
  | dic (kvs : List (L2.Key × D))
  | fdic (kvs : List (L2.Key × D))
  | ins (c : Nat) (fs : List (Nat × D))
  | xd (c : Nat) (fs : List (Nat × D))
  | xob (c me j : Nat)
  | xo0 (c me : Nat)

abbrev Hq := List O
abbrev Env := List (Option D)

/-- outcomes: a value and a heap, a truth, a heap; under a condition -/
inductive OutD | no | ok (d : D) (hp : Hq) | cd (C : Prop) (d : D) (hp : Hq)
inductive OutB | no | ok (b : Bool) | cd (C : Prop) (b : Bool)
inductive OutH | no | ok (hp : Hq) | cd (C : Prop) (hp : Hq)
abbrev QD := D → Hq → Prop
abbrev QX := Nat → Nat → Hq → Prop
def OutD.app : OutD → QD → Prop
  | .no, _ => False
  | .ok d hp, Q => Q d hp
  | .cd C d hp, Q => C ∧ Q d hp
def OutB.app : OutB → (Bool → Prop) → Prop
  | .no, _ => False
  | .ok b, k => k b
  | .cd C b, k => C ∧ k b
def OutH.app : OutH → (Hq → Prop) → Prop
  | .no, _ => False
  | .ok hp, k => k hp
  | .cd C hp, k => C ∧ k hp
def OutB.val (neg : Bool) (hp : Hq) : OutB → OutD
  | .no => .no
  | .ok b => .ok (.bl (if neg then !b else b)) hp
  | .cd C b => .cd C (.bl (if neg then !b else b)) hp

/-! ### dicts, attributes -/
def dget {α : Type} : List (L2.Key × α) → L2.Key → Option α
  | [], _ => none
  | (k', v) :: r, k => if k' = k then some v else dget r k
def dput {α : Type} (kvs : List (L2.Key × α)) (k : L2.Key) (v : α) : List (L2.Key × α) :=
  if (kvs.any fun kv => decide (kv.1 = k)) = true then kvs.map (fun kv => if kv.1 = k then (kv.1, v) else kv) else kvs ++ [(k, v)]
def ddrop {α : Type} (kvs : List (L2.Key × α)) (k : L2.Key) : List (L2.Key × α) := kvs.filter fun kv => decide (kv.1 ≠ k)
def fget : List (Nat × D) → Nat → Option D
  | [], _ => none
  | (g, x) :: r, f => if g = f then some x else fget r f
def fput : List (Nat × D) → Nat → D → List (Nat × D)
  | [], f, v => [(f, v)]
  | (g, x) :: r, f, v => if g = f then (g, v) :: r else (g, x) :: fput r f v
def kOf : D → Option L2.Key
  | .int i => some (.inl i)
  | .str x => some (.inr x)
  | _ => none
def keyD : L2.Key → D
  | .inl i => .int i
  | .inr x => .str x

/-! ### reading the heap -/
def gtL (hp : Hq) (i : Nat) : Option (List D) := match hp[i]? with
  | some (.lst xs) => some xs
  | _ => none
def gtD (hp : Hq) (i : Nat) : Option (List (L2.Key × D)) := match hp[i]? with
  | some (.dic kvs) => some kvs
  | _ => none
def rdD (hp : Hq) (i : Nat) : Option (List (L2.Key × D)) := match hp[i]? with
  | some (.dic kvs) => some kvs
  | some (.fdic kvs) => some kvs
  | _ => none
def gtI (hp : Hq) (i : Nat) : Option (Nat × List (Nat × D)) := match hp[i]? with
  | some (.ins c fs) => some (c, fs)
  | _ => none
/-- a list's items -/
def lsOf (hp : Hq) : D → Option (List D)
  | .kl xs => some xs
  | .ref i => gtL hp i
  | _ => none
/-- a list's or tuple's -/
def sqOf (hp : Hq) : D → Option (List D)
  | .tup xs => some xs
  | .kl xs => some xs
  | .ref i => gtL hp i
  | _ => none

def mapO {α β : Type} (f : α → Option β) : List α → Option (List β)
  | [] => some []
  | x :: xs => match f x with
    | none => none
    | some y => match mapO f xs with
      | none => none
      | some ys => some (y :: ys)

/-- a value as plain data, lists read from the heap -/
def toP : Nat → Hq → D → Option PyData
  | 0, _, _ => none
  | n + 1, hp, d => match d with
    | .non => some .none
    | .bl b => some (.bool b)
    | .int i => some (.int i)
    | .str x => some (.str x)
    | .tup ds => (mapO (toP n hp) ds).map .tuple
    | .kl ds => (mapO (toP n hp) ds).map .list
    | .ref i => match gtL hp i with
      | some ds => (mapO (toP n hp) ds).map .list
      | none => none
    | _ => none

/-- .. or with empty dicts, no lists: for repr alone -/
def toR : Nat → Hq → D → Option PyData
  | 0, _, _ => none
  | n + 1, hp, d => match d with
    | .non => some .none
    | .bl b => some (.bool b)
    | .int i => some (.int i)
    | .str x => some (.str x)
    | .tup ds => (mapO (toR n hp) ds).map .tuple
    | .ref i => match hp[i]? with
      | some (.dic []) => some (.dict [])
      | _ => none
    | _ => none

/-! ### the language -/
inductive BOp | add | sub | mul | fdiv | mod | pow
  deriving DecidableEq
inductive COp | eq | ne | lt | le | gt | ge | is | nis | isin | nin
  deriving DecidableEq
/-- built-in functions of evaluated arguments -/
inductive BF | len | list1 | tuple1 | dict1 | dict0 | int1 | str1 | repr | sum1 | max1 | min1 | max2 | min2 | sorted1 | all1 | any1 | isi
  deriving DecidableEq
/-- methods of built-in types -/
inductive BM | append | extend | pop0 | pop1 | pop2 | get1 | get2 | setdef | clear
  deriving DecidableEq

mutual
inductive Ex where
  | var (i : Nat)
  | lit (d : D)
  | glob (g : Nat)
  | bin (o : BOp) (a b : Ex)
  | neg (a : Ex)
  | cmp (o : COp) (a b : Ex)
  | cmp2 (o p : COp) (a b c : Ex)
  | and (a b : Ex)
  | or (a b : Ex)
  | not (a : Ex)
  | ite (c a b : Ex)
  | tup (es : Exs)
  | lst (es : Exs)
  | dic (es : Exs)
  | bty (n : String)
  | mmd (mx : Bool) (a d : Ex)
  | ix (a i : Ex)
  | sl (a : Ex) (lo hi : Exo)
  | fld (a : Ex) (f : Nat)
  | call (f : Nat) (es : Exs)
  | callK (f : Nat) (es : Exs) (pm : List (Sum Nat D))
  | make (c : Nat) (es : Exs)
  | makeK (c : Nat) (es : Exs) (pm : List (Sum Nat D))
  | meth (a : Ex) (m : Nat) (es : Exs)
  | methK (a : Ex) (m : Nat) (es : Exs) (pm : List (Sum Nat D))
  | blt (b : BF) (es : Exs)
  | bm (m : BM) (a : Ex) (es : Exs)
  | lc (own : List Nat) (t : Tg) (it : Ix) (c : Exo) (e : Ex)
  | dc (own : List Nat) (t : Tg) (it : Ix) (c : Exo) (k e : Ex)
  | lc2 (own own1 : List Nat) (t : Tg) (it : Ix) (t1 : Tg) (a e : Ex)
  | lenD (a : Ex) (m : Nat)
  | isx (a : Ex) (bs : List Bool)
  | xfd (a : Ex) (f : Nat)
  | xnew (k f : Nat) (a : Ex)
  | xnw0 (k : Nat)
inductive Exs where
  | nil
  | cons (e : Ex) (r : Exs)
inductive Exo where
  | no
  | so (e : Ex)
/-- targets -/
inductive Tg where
  | nm (i : Nat)
  | tp (ts : Tgs)
  | at (o : Ex) (f : Nat)
  | sb (o i : Ex)
inductive Tgs where
  | nil
  | cons (t : Tg) (r : Tgs)
/-- what is walked -/
inductive Ix where
  | vl (e : Ex)
  | rng1 (e : Ex)
  | rng2 (a b : Ex)
  | enum (e : Ex)
  | zip2 (a b : Ex)
  | items (e : Ex)
  | vals (e : Ex)
end

mutual
inductive St where
  | pass
  | brk
  | cont
  | expr (e : Ex)
  | ret (e : Exo)
  | asg (t : Tg) (e : Ex)
  | augn (i : Nat) (o : BOp) (e : Ex)
  | augf (o : Ex) (f : Nat) (p : BOp) (e : Ex)
  | ifs (c : Ex) (a b : Sts)
  | whl (c : Ex) (b : Sts)
  | for_ (t : Tg) (it : Ix) (b : Sts)
  | raise (c f : Nat) (e : Ex)
  | tryK (b : Sts) (bs : List Bool) (n k : Nat)
  | never
inductive Sts where
  | nil
  | cons (s : St) (r : Sts)
end

def Exs.len : Exs → Nat
  | .nil => 0
  | .cons _ r => r.len + 1
def Tgs.len : Tgs → Nat
  | .nil => 0
  | .cons _ r => r.len + 1

structure FnI where
  np : Nat
  ns : Nat
  body : Sts
structure ClsI where
  init : Nat
  meths : List (Nat × Nat)
structure Glob where
  fns : List FnI
  clss : List ClsI
  consts : List D

abbrev Cl := Nat → List D → Hq → QD → QX → Prop

def nfind : List (Nat × Nat) → Nat → Option Nat
  | [], _ => none
  | (k, v) :: r, m => if k = m then some v else nfind r m
def Glob.meth (g : Glob) (c m : Nat) : Option Nat := match g.clss[c]? with
  | some ci => nfind ci.meths m
  | none => none
def Glob.init (g : Glob) (c : Nat) : Option Nat := match g.clss[c]? with
  | some ci => some ci.init
  | none => none

/-! ### operations by values -/
def oNew (hp : Hq) (o : O) : OutD := .ok (.ref hp.length) (hp ++ [o])

def oBin : BOp → D → D → Hq → OutD
  | .add, .int i, .int j, hp => .ok (.int (i + j)) hp
  | .add, .str x, .str y, hp => .cd (x.length + y.length ≤ SZ) (.str (x ++ y)) hp
  | .add, .tup xs, .tup ys, hp => .cd (xs.length + ys.length ≤ SZ) (.tup (xs ++ ys)) hp
  | .add, .ref a, .ref b, hp => match gtL hp a, gtL hp b with
    | some xs, some ys => .cd (xs.length + ys.length ≤ SZ) (.ref hp.length) (hp ++ [.lst (xs ++ ys)])
    | _, _ => .no
  | .sub, .int i, .int j, hp => .ok (.int (i - j)) hp
  | .mul, .int i, .int j, hp => .cd ((-(2 ^ 64) < i ∧ i < 2 ^ 64) ∨ (-(2 ^ 64) < j ∧ j < 2 ^ 64)) (.int (i * j)) hp
  | .mul, .str x, .int k, hp => .cd (MulOk x k) (.str (Txt.mul x k)) hp
  | .mul, .ref a, .int k, hp => match gtL hp a with
    | some xs => .cd (-(2 ^ 63) ≤ k ∧ k < 2 ^ 63 ∧ xs.length * k.toNat ≤ SZ) (.ref hp.length) (hp ++ [.lst (List.replicate k.toNat xs).flatten])
    | none => .no
  | .fdiv, .int i, .int j, hp => .cd (0 < j ∧ j < 1073741824) (.int (i / j)) hp
  | .mod, .int i, .int j, hp => .cd (0 < j) (.int (i % j)) hp
  | .pow, .int i, .int j, hp => .cd (0 ≤ j ∧ j ≤ 1000000 ∧ i.natAbs < 2 ^ 64) (.int (i ^ j.toNat)) hp
  | _, _, _, _ => .no

def oTru : D → Hq → OutB
  | .non, _ => .ok false
  | .bl b, _ => .ok b
  | .int i, _ => .ok (i != 0)
  | .str y, _ => .cd (y.length ≤ SZ) ((y.length : Int) != 0)
  | .tup xs, _ => .ok (!xs.isEmpty)
  | .kl xs, _ => .ok (!xs.isEmpty)
  | .ref i, hp => match hp[i]? with
    | some (.lst xs) => .ok (!xs.isEmpty)
    | some (.dic kvs) => .ok (!kvs.isEmpty)
    | _ => .no
  | _, _ => .no

/-- what is alike just by its own look -/
def flD : D → Bool
  | .non => true | .bl _ => true | .int _ => true | .str _ => true
  | _ => false
/-- two dicts that are alike -/
def oEqK (ks ls : List (L2.Key × D)) : OutB := .cd (ks.length = ls.length ∧ ∀ p ∈ ks, dget ls p.1 = some p.2 ∧ flD p.2 = true) true
def oEqP (x y : D) (hp : Hq) : OutB := match toP 40 hp x, toP 40 hp y with
  | some a, some b => .cd (SeqAt.shaped a = true ∧ SeqAt.shaped b = true) (PyData.eqv a b)
  | _, _ => .no
def oEqG (x y : D) (hp : Hq) : OutB := match x, y with
  | .ref i, .ref j => match gtD hp i, gtD hp j with
    | some ks, some ls => oEqK ks ls
    | _, _ => oEqP x y hp
  | _, _ => oEqP x y hp
def oEq : D → D → Hq → OutB
  | .int i, .int j, _ => .ok (decide (i = j))
  | .str x, .str y, _ => .ok (decide (x = y))
  | .bl a, .bl b, _ => .ok (decide (a = b))
  | .non, .non, _ => .ok true
  | x, y, hp => oEqG x y hp

def isNon : D → Bool
  | .non => true
  | _ => false

def oInS (x : D) (ys : List D) (hp : Hq) : OutB := match toP 40 hp x, mapO (toP 40 hp) ys with
  | some a, some bs => .cd (SeqAt.shaped a = true ∧ SeqAt.shaped (.list bs) = true) (bs.any fun b => PyData.eqv b a)
  | _, _ => .no
def oInD (x : D) (kvs : List (L2.Key × D)) : OutB := match kOf x with
  | some key => .ok (dget kvs key).isSome
  | none => .no
def oIn : D → D → Hq → OutB
  | x, .ref i, hp => match hp[i]? with
    | some (.dic kvs) => oInD x kvs
    | some (.fdic kvs) => oInD x kvs
    | some (.lst ys) => oInS x ys hp
    | _ => .no
  | x, .tup ys, hp => oInS x ys hp
  | x, .kl ys, hp => oInS x ys hp
  | _, _, _ => .no

def oCmp : COp → D → D → Hq → OutD
  | .eq, x, y, hp => (oEq x y hp).val false hp
  | .ne, x, y, hp => (oEq x y hp).val true hp
  | .lt, .int i, .int j, hp => .ok (.bl (decide (i < j))) hp
  | .le, .int i, .int j, hp => .ok (.bl (decide (i ≤ j))) hp
  | .gt, .int i, .int j, hp => .ok (.bl (decide (j < i))) hp
  | .ge, .int i, .int j, hp => .ok (.bl (decide (j ≤ i))) hp
  | .is, x, .non, hp => .ok (.bl (isNon x)) hp
  | .nis, x, .non, hp => .ok (.bl (!isNon x)) hp
  | .isin, x, y, hp => (oIn x y hp).val false hp
  | .nin, x, y, hp => (oIn x y hp).val true hp
  | _, _, _, _ => .no

def oAtI (xs : List D) (i : Int) (hp : Hq) : OutD := match L2.atI xs i with
  | some d => .ok d hp
  | none => .no
def oAtK (kvs : List (L2.Key × D)) (x : D) (hp : Hq) : OutD := match kOf x with
  | some key => match dget kvs key with
    | some d => .ok d hp
    | none => .no
  | none => .no
def oIx : D → D → Hq → OutD
  | .tup xs, .int i, hp => oAtI xs i hp
  | .kl xs, .int i, hp => oAtI xs i hp
  | .ref a, x, hp => match hp[a]? with
    | some (.dic kvs) => oAtK kvs x hp
    | some (.fdic kvs) => oAtK kvs x hp
    | some (.lst xs) => match x with
      | .int i => oAtI xs i hp
      | _ => .no
    | _ => .no
  | _, _, _ => .no

def cutD {α : Type} (xs : List α) (lo hi : Option Int) : List α := (xs.drop (HT.sIx xs.length 0 lo)).take (HT.sIx xs.length xs.length hi - HT.sIx xs.length 0 lo)
def bnd : Option D → Option (Option Int)
  | none => some none
  | some (.int i) => some (some i)
  | _ => none
def oSl (x : D) (l h : Option Int) (hp : Hq) : OutD := match x with
  | .tup xs => .ok (.tup (cutD xs l h)) hp
  | .ref a => match gtL hp a with
    | some xs => oNew hp (.lst (cutD xs l h))
    | none => .no
  | _ => .no

def intsOf : List D → Option (List Int)
  | [] => some []
  | .int i :: r => match intsOf r with
    | some ns => some (i :: ns)
    | none => none
  | _ => none
def boolsOf : List D → Option (List Bool)
  | [] => some []
  | .bl b :: r => match boolsOf r with
    | some bs => some (b :: bs)
    | none => none
  | _ => none
def imax : Int → List Int → Int
  | m, [] => m
  | m, n :: r => imax (if n > m then n else m) r
def imin : Int → List Int → Int
  | m, [] => m
  | m, n :: r => imin (if n < m then n else m) r

/-- the built-in type of a value -/
def tyOf (hp : Hq) : D → Option String
  | .non => some "NoneType"
  | .bl _ => some "bool"
  | .int _ => some "int"
  | .str _ => some "str"
  | .tup _ => some "tuple"
  | .kl _ => some "list"
  | .ref i => match hp[i]? with
    | some (.lst _) => some "list"
    | some (.dic _) => some "dict"
    | some (.fdic _) => some "dict"
    | _ => none
  | _ => none
def tyAll : List String := ["int", "str", "bool", "tuple", "list", "dict"]
def isiB (a b : String) : Bool := a == b || (a == "bool" && b == "int")
def oMmd (mx : Bool) (x y : D) (hp : Hq) : OutD := match (lsOf hp x).bind intsOf with
  | some [] => .ok y hp
  | some (n :: ns) => .ok (.int (if mx then imax n ns else imin n ns)) hp
  | none => .no
def pairsOf : List D → Option (List (L2.Key × D))
  | [] => some []
  | k :: v :: r => match kOf k, pairsOf r with
    | some k, some kvs => some ((k, v) :: kvs)
    | _, _ => none
  | _ => none

/-- a list of pairs, the keys ints or texts -/
def prsOf : List D → Option (List (L2.Key × D))
  | [] => some []
  | .tup [k, v] :: r => match kOf k, prsOf r with
    | some k, some kvs => some ((k, v) :: kvs)
    | _, _ => none
  | _ => none
def iins (i : Int) : List Int → List Int
  | [] => [i]
  | j :: r => if i ≤ j then i :: j :: r else j :: iins i r
def isort : List Int → List Int
  | [] => []
  | i :: r => iins i (isort r)
def keysI : List (L2.Key × D) → Option (List Int)
  | [] => some []
  | (.inl i, _) :: r => match keysI r with
    | some ns => some (i :: ns)
    | none => none
  | _ => none
def oBF : BF → List D → Hq → OutD
  | .sorted1, [x], hp => match lsOf hp x with
    | some xs => match intsOf xs with
      | some ns => oNew hp (.lst ((isort ns).map D.int))
      | none => .no
    | none => match x with
      | .ref i => match rdD hp i with
        | some kvs => match keysI kvs with
          | some ns => .cd (ns.length < 64) (.ref hp.length) (hp ++ [.lst ((isort ns).map D.int)])
          | none => .no
        | none => .no
      | _ => .no
  | .len, [.str x], hp => .cd (x.length ≤ SZ) (.int x.length) hp
  | .len, [.tup xs], hp => .ok (.int xs.length) hp
  | .len, [.kl xs], hp => .ok (.int xs.length) hp
  | .len, [.ref i], hp => match hp[i]? with
    | some (.lst xs) => .ok (.int xs.length) hp
    | some (.dic kvs) => .ok (.int kvs.length) hp
    | some (.fdic kvs) => .ok (.int kvs.length) hp
    | _ => .no
  | .list1, [x], hp => match sqOf hp x with
    | some xs => oNew hp (.lst xs)
    | none => .no
  | .tuple1, [x], hp => match sqOf hp x with
    | some xs => .ok (.tup xs) hp
    | none => .no
  | .dict1, [x], hp => match lsOf hp x with
    | some xs => match prsOf xs with
      | some kvs => oNew hp (.dic (kvs.foldl (fun acc kv => dput acc kv.1 kv.2) []))
      | none => .no
    | none => match x with
      | .ref i => match rdD hp i with
        | some kvs => oNew hp (.dic kvs)
        | none => .no
      | _ => .no
  | .int1, [.int i], hp => .ok (.int i) hp
  | .int1, [.bl b], hp => .ok (.int (if b then 1 else 0)) hp
  | .repr, [x], hp => match toP 40 hp x with
    | some a => .cd (SeqAt.shaped a = true ∧ a.showable = true ∧ a.shown.length ≤ SZ) (.str a.shown) hp
    | none => match toR 40 hp x with
      | some a => .cd (a.depth ≤ 64 ∧ a.showable = true ∧ a.shown.length ≤ SZ) (.str a.shown) hp
      | none => .no
  | .sum1, [x], hp => match (lsOf hp x).bind intsOf with
    | some ns => .ok (.int ns.sum) hp
    | none => .no
  | .max2, [.int i, .int j], hp => .ok (.int (if j > i then j else i)) hp
  | .min2, [.int i, .int j], hp => .ok (.int (if j < i then j else i)) hp
  | .max1, [x], hp => match (lsOf hp x).bind intsOf with
    | some (n :: ns) => .ok (.int (imax n ns)) hp
    | _ => .no
  | .min1, [x], hp => match (lsOf hp x).bind intsOf with
    | some (n :: ns) => .ok (.int (imin n ns)) hp
    | _ => .no
  | .all1, [x], hp => match (lsOf hp x).bind boolsOf with
    | some bs => .ok (.bl (bs.all id)) hp
    | none => .no
  | .any1, [x], hp => match (lsOf hp x).bind boolsOf with
    | some bs => .ok (.bl (bs.any id)) hp
    | none => .no
  | .isi, [x, .ty b], hp => match tyOf hp x with
    | some a => if tyAll.contains b then .ok (.bl (isiB a b)) hp else .no
    | none => .no
  | _, _, _ => .no

/-- the kind of a receiver that has such a method -/
inductive BK | lst | dic | str
  deriving DecidableEq
def bmK : BM → D → Hq → Option BK
  | .append, .ref i, hp => match hp[i]? with
    | some (.lst _) => some .lst
    | _ => none
  | .extend, .ref i, hp => match hp[i]? with
    | some (.lst _) => some .lst
    | _ => none
  | .setdef, .ref i, hp => match hp[i]? with
    | some (.dic _) => some .dic
    | _ => none
  | .get1, .ref i, hp => match hp[i]? with
    | some (.dic _) => some .dic
    | some (.fdic _) => some .dic
    | _ => none
  | .get2, .ref i, hp => match hp[i]? with
    | some (.dic _) => some .dic
    | some (.fdic _) => some .dic
    | _ => none
  | .pop1, .ref i, hp => match hp[i]? with
    | some (.dic _) => some .dic
    | some (.lst _) => some .lst
    | _ => none
  | .pop2, .ref i, hp => match hp[i]? with
    | some (.dic _) => some .dic
    | _ => none
  | .clear, .ref i, hp => match hp[i]? with
    | some (.lst _) => some .lst
    | some (.dic _) => some .dic
    | _ => none
  | _, _, _ => none
def oBM : BM → BK → D → List D → Hq → OutD
  | .append, .lst, .ref i, [d], hp => match gtL hp i with
    | some xs => .cd (xs.length < SZ) .non (hp.set i (.lst (xs ++ [d])))
    | none => .no
  | .extend, .lst, .ref i, [.ref j], hp => match gtL hp i, gtL hp j with
    | some xs, some ys => .cd (xs.length + ys.length ≤ SZ) .non (hp.set i (.lst (xs ++ ys)))
    | _, _ => .no
  | .setdef, .dic, .ref i, [x, y], hp => match gtD hp i, kOf x with
    | some kvs, some k => match dget kvs k with
      | some d => .cd (kvs.length < SZ) d hp
      | none => .cd (kvs.length < SZ) y (hp.set i (.dic (dput kvs k y)))
    | _, _ => .no
  | .get1, .dic, .ref i, [x], hp => match rdD hp i, kOf x with
    | some kvs, some k => .ok ((dget kvs k).getD .non) hp
    | _, _ => .no
  | .get2, .dic, .ref i, [x, y], hp => match rdD hp i, kOf x with
    | some kvs, some k => .ok ((dget kvs k).getD y) hp
    | _, _ => .no
  | .pop2, .dic, .ref i, [x, y], hp => match gtD hp i, kOf x with
    | some kvs, some k => match dget kvs k with
      | some d => .ok d (hp.set i (.dic (ddrop kvs k)))
      | none => .ok y hp
    | _, _ => .no
  | .pop1, .dic, .ref i, [x], hp => match gtD hp i, kOf x with
    | some kvs, some k => match dget kvs k with
      | some d => .ok d (hp.set i (.dic (ddrop kvs k)))
      | none => .no
    | _, _ => .no
  | .pop1, .lst, .ref i, [.int z], hp => match gtL hp i with
    | some xs => match L2.ixN xs.length z with
      | some j => match xs[j]? with
        | some d => .cd (-(2 ^ 63) ≤ z ∧ z < 2 ^ 63) d (hp.set i (.lst (xs.eraseIdx j)))
        | none => .no
      | none => .no
    | none => .no
  | .clear, .lst, .ref i, [], hp => match gtL hp i with
    | some _ => .ok .non (hp.set i (.lst []))
    | none => .no
  | .clear, .dic, .ref i, [], hp => match gtD hp i with
    | some _ => .ok .non (hp.set i (.dic []))
    | none => .no
  | _, _, _, _, _ => .no

def oSet : D → D → D → Hq → OutH
  | .ref a, x, v, hp => match hp[a]? with
    | some (.dic kvs) => match kOf x with
      | some key => .cd (kvs.length < SZ) (hp.set a (.dic (dput kvs key v)))
      | none => .no
    | some (.lst xs) => match x with
      | .int i => match L2.ixN xs.length i with
        | some j => .ok (hp.set a (.lst (xs.set j v)))
        | none => .no
      | _ => .no
    | _ => .no
  | _, _, _, _ => .no

def oGetF : D → Nat → Hq → OutD
  | .ref i, f, hp => match gtI hp i with
    | some (_, fs) => match fget fs f with
      | some d => .ok d hp
      | none => .no
    | none => .no
  | _, _, _ => .no
/-- a kept exception: is it of the classes that bs tells; its field -/
def gtX (hp : Hq) (i : Nat) : Option (Nat × Nat) := match hp[i]? with
  | some (.xob c me j) => if me = i then some (c, j) else none
  | _ => none
def gtX0 (hp : Hq) (i : Nat) : Option Nat := match hp[i]? with
  | some (.xo0 c me) => if me = i then some c else none
  | _ => none
def oIsX (bs : List Bool) : D → Hq → OutD
  | .ref i, hp => match gtX hp i with
    | some (c, j) => match hp[j]?, bs[c]? with
      | some (.xd _ _), some b => .ok (.bl b) hp
      | _, _ => .no
    | none => match gtX0 hp i with
      | some c => match bs[c]? with
        | some b => .ok (.bl b) hp
        | none => .no
      | none => .no
  | _, _ => .no
def oXF : D → Nat → Hq → OutD
  | .ref i, f, hp => match gtX hp i with
    | some (_, j) => match hp[j]? with
      | some (.xd _ [(g, d)]) => if g = f then .ok d hp else .no
      | _ => .no
    | none => .no
  | _, _, _ => .no
def oSetF : D → Nat → D → Hq → OutH
  | .ref i, f, v, hp => match gtI hp i with
    | some (c, fs) => .cd (fs.length < 900) (hp.set i (.ins c (fput fs f v)))
    | none => .no
  | _, _, _, _ => .no
def oAug : BOp → D → D → Hq → OutD
  | .add, .int i, .int j, hp => .ok (.int (i + j)) hp
  | .sub, .int i, .int j, hp => .ok (.int (i - j)) hp
  | _, _, _, _ => .no

/-! ### loops -/
structure Itr where
  nx : Nat → Hq → Option (Option D)
  un : Hq → Hq

/-- a comprehension: body hands on an item, or none where the test fails -/
def lcLoop (nx : Nat → Hq → Option (Option D)) (body : D → Hq → (Option D → Hq → Prop) → Prop) : Nat → Nat → List D → Hq → (List D → Hq → Prop) → Prop
  | 0, _, _, _, _ => False
  | N + 1, j, acc, hp, k => match nx j hp with
    | none => False
    | some none => k acc hp
    | some (some d) => body d hp fun r hp' => match r with
      | none => lcLoop nx body N (j + 1) acc hp' k
      | some y => acc.length < SZ ∧ lcLoop nx body N (j + 1) (acc ++ [y]) hp' k

/-- a dict comprehension: body hands on a key and a value -/
def dcLoop (nx : Nat → Hq → Option (Option D)) (body : D → Hq → (Option (D × D) → Hq → Prop) → Prop) : Nat → Nat → List (L2.Key × D) → Hq → (List (L2.Key × D) → Hq → Prop) → Prop
  | 0, _, _, _, _ => False
  | N + 1, j, acc, hp, k => match nx j hp with
    | none => False
    | some none => k acc hp
    | some (some d) => body d hp fun r hp' => match r with
      | none => dcLoop nx body N (j + 1) acc hp' k
      | some (y, z) => match kOf y with
        | some key => acc.length < SZ ∧ dcLoop nx body N (j + 1) (dput acc key z) hp' k
        | none => False
/-- a comprehension whose turns hand on what stands so far -/
def acLoop (nx : Nat → Hq → Option (Option D)) (body : D → List D → Hq → (List D → Hq → Prop) → Prop) : Nat → Nat → List D → Hq → (List D → Hq → Prop) → Prop
  | 0, _, _, _, _ => False
  | N + 1, j, acc, hp, k => match nx j hp with
    | none => False
    | some none => k acc hp
    | some (some d) => body d acc hp fun acc' hp' => acLoop nx body N (j + 1) acc' hp' k

def forLoop (nx : Nat → Hq → Option (Option D)) (body : D → Env → Hq → (Env → Hq → Prop) → Prop) : Nat → Nat → Env → Hq → (Env → Hq → Prop) → Prop
  | 0, _, _, _, _ => False
  | N + 1, j, env, hp, k => match nx j hp with
    | none => False
    | some none => k env hp
    | some (some d) => body d env hp fun env' hp' => forLoop nx body N (j + 1) env' hp' k

def whLoop (body : Env → Hq → (Env → Hq → Prop) → (Env → Hq → Prop) → Prop) : Nat → Env → Hq → (Env → Hq → Prop) → Prop
  | 0, _, _, _ => False
  | N + 1, env, hp, k => body env hp (fun env' hp' => whLoop body N env' hp' k) k

def wipeE (env : Env) : List Nat → Env
  | [] => env
  | i :: r => (wipeE env r).set i none

def perm (pm : List (Sum Nat D)) (ds : List D) : Option (List D) := mapO (fun p => match p with
  | .inl j => ds[j]?
  | .inr d => some d) pm

def itFix (xs : List D) : Itr := ⟨fun j _ => some xs[j]?, id⟩
def itLst (i : Nat) : Itr := ⟨fun j h => (gtL h i).map fun xs => xs[j]?, id⟩
def itSeq (hp : Hq) : D → Option (Itr × Hq)
  | .tup ds => some (itFix ds, hp)
  | .kl ds => some (itFix ds, hp)
  | .ref i => match hp[i]? with
    | some (.lst _) => some (itLst i, hp)
    | some (.dic kvs) => some (⟨fun j _ => some ((kvs.map fun kv => keyD kv.1)[j]?), fun h => h.set i (.dic kvs)⟩, hp.set i (.fdic kvs))
    | some (.fdic kvs) => some (itFix (kvs.map fun kv => keyD kv.1), hp)
    | _ => none
  | .str x => some (⟨fun j _ => some ((x.cps[j]?).map fun c => .str ⟨#[c]⟩), id⟩, hp)
  | _ => none
/-- .. of lists and tuples alone -/
def itSq (hp : Hq) : D → Option Itr
  | .tup ds => some (itFix ds)
  | .kl ds => some (itFix ds)
  | .ref i => match hp[i]? with
    | some (.lst _) => some (itLst i)
    | _ => none
  | _ => none
def itDic (f : L2.Key × D → D) (hp : Hq) : D → Option (Itr × Hq)
  | .ref i => match hp[i]? with
    | some (.dic kvs) => some (⟨fun j _ => some ((kvs.map f)[j]?), fun h => h.set i (.dic kvs)⟩, hp.set i (.fdic kvs))
    | some (.fdic kvs) => some (itFix (kvs.map f), hp)
    | _ => none
  | _ => none
def itRng (lo hi : Int) : Itr := ⟨fun j _ => some (if (j : Int) < hi - lo then some (.int (lo + j)) else none), id⟩
def rngOk (lo hi : Int) : Prop := (-(2 ^ 62) ≤ lo ∧ lo < 2 ^ 62) ∧ -(2 ^ 62) ≤ hi ∧ hi < 2 ^ 62
def itEnum (i : Nat) : Itr := ⟨fun j h => (gtL h i).map fun xs => (xs[j]?).map fun d => .tup [.int j, d], id⟩
def itZip (a b : Nat) : Itr := ⟨fun j h => match gtL h a, gtL h b with
  | some xs, some ys => match xs[j]?, ys[j]? with
    | some x, some y => some (some (.tup [x, y]))
    | none, _ => some none
    | _, none => some none
  | _, _ => none, id⟩

/-! ### runs -/
structure KS where
  nx : Env → Hq → Prop
  bk : Env → Hq → Prop
  ct : Env → Hq → Prop
  rt : QD
  ex : Nat → Nat → Env → Hq → Prop

section
variable (g : Glob) (cl : Cl)
mutual
def wE : Ex → Env → Hq → QD → QX → Prop
  | .var i, env, hp, Q, _ => match env[i]? with
    | some (some d) => Q d hp
    | _ => False
  | .lit d, _, hp, Q, _ => Q d hp
  | .glob k, _, hp, Q, _ => match g.consts[k]? with
    | some d => Q d hp
    | none => False
  | .bin o a b, env, hp, Q, E => wE a env hp (fun x hp => wE b env hp (fun y hp => (oBin o x y hp).app Q) E) E
  | .neg a, env, hp, Q, E => wE a env hp (fun x hp => match x with
    | .int i => Q (.int (-i)) hp
    | _ => False) E
  | .cmp o a b, env, hp, Q, E => wE a env hp (fun x hp => wE b env hp (fun y hp => (oCmp o x y hp).app Q) E) E
  | .cmp2 o p a b c, env, hp, Q, E => wE a env hp (fun x hp => wE b env hp (fun y hp => (oCmp o x y hp).app fun r hp => match r with
    | .bl true => wE c env hp (fun z hp => (oCmp p y z hp).app Q) E
    | .bl false => Q (.bl false) hp
    | _ => False) E) E
  | .and a b, env, hp, Q, E => wE a env hp (fun x hp => (oTru x hp).app fun t => if t = true then wE b env hp Q E else Q x hp) E
  | .or a b, env, hp, Q, E => wE a env hp (fun x hp => (oTru x hp).app fun t => if t = true then Q x hp else wE b env hp Q E) E
  | .not a, env, hp, Q, E => wE a env hp (fun x hp => (oTru x hp).app fun t => Q (.bl (!t)) hp) E
  | .ite c a b, env, hp, Q, E => wE c env hp (fun x hp => (oTru x hp).app fun t => if t = true then wE a env hp Q E else wE b env hp Q E) E
  | .tup es, env, hp, Q, E => wEs es env hp (fun ds hp => Q (.tup ds) hp) E
  | .lst es, env, hp, Q, E => wEs es env hp (fun ds hp => Q (.ref hp.length) (hp ++ [.lst ds])) E
  | .dic es, env, hp, Q, E => wEs es env hp (fun ds hp => match pairsOf ds with
    | some kvs => Q (.ref hp.length) (hp ++ [.dic (kvs.foldl (fun acc kv => dput acc kv.1 kv.2) [])])
    | none => False) E
  | .bty n, _, hp, Q, _ => Q (.ty n) hp
  | .mmd mx a d, env, hp, Q, E => wE a env hp (fun x hp => wE d env hp (fun y hp => (oMmd mx x y hp).app Q) E) E
  | .ix a i, env, hp, Q, E => wE a env hp (fun x hp => wE i env hp (fun y hp => (oIx x y hp).app Q) E) E
  | .sl a lo hi, env, hp, Q, E => wE a env hp (fun x hp => wEo lo env hp (fun l hp => match bnd l with
    | some l => wEo hi env hp (fun h hp => match bnd h with
      | some h => (oSl x l h hp).app Q
      | none => False) E
    | none => False) E) E
  | .fld a f, env, hp, Q, E => wE a env hp (fun x hp => (oGetF x f hp).app Q) E
  | .call f es, env, hp, Q, E => wEs es env hp (fun ds hp => cl f ds hp Q E) E
  | .callK f es pm, env, hp, Q, E => wEs es env hp (fun ds hp => match perm pm ds with
    | some vs => cl f vs hp Q E
    | none => False) E
  | .make c es, env, hp, Q, E => wEs es env hp (fun ds hp => match g.init c with
    | some f => cl f (.ref hp.length :: ds) (hp ++ [.ins c []]) (fun v hp' => match v with
      | .non => Q (.ref hp.length) hp'
      | _ => False) E
    | none => False) E
  | .makeK c es pm, env, hp, Q, E => wEs es env hp (fun ds hp => match g.init c, perm pm ds with
    | some f, some vs => cl f (.ref hp.length :: vs) (hp ++ [.ins c []]) (fun v hp' => match v with
      | .non => Q (.ref hp.length) hp'
      | _ => False) E
    | _, _ => False) E
  | .meth a m es, env, hp, Q, E => wE a env hp (fun x hp => match x with
    | .ref i => match gtI hp i with
      | some (c, _) => match g.meth c m with
        | some f => wEs es env hp (fun ds hp => cl f (.ref i :: ds) hp Q E) E
        | none => False
      | none => False
    | _ => False) E
  | .methK a m es pm, env, hp, Q, E => wE a env hp (fun x hp => match x with
    | .ref i => match gtI hp i with
      | some (c, _) => match g.meth c m with
        | some f => wEs es env hp (fun ds hp => match perm pm ds with
          | some vs => cl f (.ref i :: vs) hp Q E
          | none => False) E
        | none => False
      | none => False
    | _ => False) E
  | .blt b es, env, hp, Q, E => wEs es env hp (fun ds hp => (oBF b ds hp).app Q) E
  | .bm m a es, env, hp, Q, E => wE a env hp (fun x hp => match bmK m x hp with
    | some k => wEs es env hp (fun ds hp => (oBM m k x ds hp).app Q) E
    | none => False) E
  | .lc own t it c e, env, hp, Q, E => wIt it env hp (fun itr hp => ∃ N, lcLoop itr.nx (fun d hp k => wTg t d (wipeE env own) hp fun env2 hp =>
      wEo c env2 hp (fun r hp => match r with
        | none => wE e env2 hp (fun y hp => k (some y) hp) fun _ _ _ => False
        | some x => (oTru x hp).app fun b => if b = true then wE e env2 hp (fun y hp => k (some y) hp) fun _ _ _ => False else k none hp) fun _ _ _ => False)
      N 0 [] hp fun ds hp => Q (.ref (itr.un hp).length) (itr.un hp ++ [.lst ds])) E
  | .dc own t it c k e, env, hp, Q, E => wIt it env hp (fun itr hp => ∃ N, dcLoop itr.nx (fun d hp kk => wTg t d (wipeE env own) hp fun env2 hp =>
      wEo c env2 hp (fun r hp => match r with
        | none => wE k env2 hp (fun y hp => wE e env2 hp (fun z hp => kk (some (y, z)) hp) fun _ _ _ => False) fun _ _ _ => False
        | some x => (oTru x hp).app fun b => if b = true then wE k env2 hp (fun y hp => wE e env2 hp (fun z hp => kk (some (y, z)) hp) fun _ _ _ => False) fun _ _ _ => False else kk none hp) fun _ _ _ => False)
      N 0 [] hp fun ds hp => Q (.ref (itr.un hp).length) (itr.un hp ++ [.dic ds])) E
  | .lc2 own own1 t it t1 a e, env, hp, Q, E => wIt it env hp (fun itr hp => ∃ N, acLoop itr.nx (fun d acc hp k => wTg t d (wipeE env own) hp fun env2 hp =>
      wE a env2 hp (fun x hp => match itSq hp x with
        | some it1 => ∃ M, lcLoop it1.nx (fun d hp k1 => wTg t1 d (wipeE env2 own1) hp fun env3 hp => wE e env3 hp (fun y hp => k1 (some y) hp) fun _ _ _ => False) M 0 acc hp k
        | none => False) fun _ _ _ => False)
      N 0 [] hp fun ds hp => Q (.ref (itr.un hp).length) (itr.un hp ++ [.lst ds])) E
  | .lenD a m, env, hp, Q, E => wE a env hp (fun x hp => match x with
    | .ref i => match gtI hp i with
      | some (c, _) => match g.meth c m with
        | some f => cl f [.ref i] hp (fun v hp => match v with
          | .int n => (0 ≤ n ∧ n < 2 ^ 62) ∧ Q (.int n) hp
          | _ => False) fun _ _ _ => False
        | none => False
      | none => (oBF .len [x] hp).app Q
    | _ => (oBF .len [x] hp).app Q) E
  | .isx a bs, env, hp, Q, E => wE a env hp (fun x hp => (oIsX bs x hp).app Q) E
  | .xfd a f, env, hp, Q, E => wE a env hp (fun x hp => (oXF x f hp).app Q) E
  | .xnew k f a, env, hp, Q, E => wE a env hp (fun d hp => Q (.ref (hp.length + 1)) (hp ++ [.xd k [(f, d)]] ++ [.xob k (hp.length + 1) hp.length])) E
  | .xnw0 k, _, hp, Q, _ => Q (.ref hp.length) (hp ++ [.xo0 k hp.length])
def wEs : Exs → Env → Hq → (List D → Hq → Prop) → QX → Prop
  | .nil, _, hp, Q, _ => Q [] hp
  | .cons e r, env, hp, Q, E => wE e env hp (fun d hp => wEs r env hp (fun ds hp => Q (d :: ds) hp) E) E
def wEo : Exo → Env → Hq → (Option D → Hq → Prop) → QX → Prop
  | .no, _, hp, Q, _ => Q none hp
  | .so e, env, hp, Q, E => wE e env hp (fun d hp => Q (some d) hp) E
def wTg : Tg → D → Env → Hq → (Env → Hq → Prop) → Prop
  | .nm i, d, env, hp, k => k (env.set i (some d)) hp
  | .tp ts, d, env, hp, k => match d with
    | .tup ds => ds.length = ts.len ∧ wTgs ts ds env hp k
    | _ => False
  | .at o f, d, env, hp, k => wE o env hp (fun x hp => (oSetF x f d hp).app (k env)) fun _ _ _ => False
  | .sb o i, d, env, hp, k => wE o env hp (fun x hp => wE i env hp (fun y hp => (oSet x y d hp).app (k env)) fun _ _ _ => False) fun _ _ _ => False
def wTgs : Tgs → List D → Env → Hq → (Env → Hq → Prop) → Prop
  | .nil, ds, env, hp, k => match ds with
    | [] => k env hp
    | _ => False
  | .cons t r, ds, env, hp, k => match ds with
    | d :: ds => wTg t d env hp fun env hp => wTgs r ds env hp k
    | [] => False
def wIt : Ix → Env → Hq → (Itr → Hq → Prop) → QX → Prop
  | .vl e, env, hp, k, E => wE e env hp (fun x hp => match itSeq hp x with
    | some (itr, hp) => k itr hp
    | none => False) E
  | .rng1 e, env, hp, k, E => wE e env hp (fun x hp => match x with
    | .int j => (-(2 ^ 62) ≤ j ∧ j < 2 ^ 62) ∧ k (itRng 0 j) hp
    | _ => False) E
  | .rng2 a b, env, hp, k, E => wE a env hp (fun x hp => wE b env hp (fun y hp => match x, y with
    | .int i, .int j => rngOk i j ∧ k (itRng i j) hp
    | _, _ => False) E) E
  | .enum e, env, hp, k, E => wE e env hp (fun x hp => match x with
    | .ref i => match gtL hp i with
      | some _ => k (itEnum i) hp
      | none => False
    | _ => False) E
  | .zip2 a b, env, hp, k, E => wE a env hp (fun x hp => wE b env hp (fun y hp => match x, y with
    | .ref i, .ref j => match gtL hp i, gtL hp j with
      | some _, some _ => k (itZip i j) hp
      | _, _ => False
    | _, _ => False) E) E
  | .items e, env, hp, k, E => wE e env hp (fun x hp => match itDic (fun kv => .tup [keyD kv.1, kv.2]) hp x with
    | some (itr, hp) => k itr hp
    | none => False) E
  | .vals e, env, hp, k, E => wE e env hp (fun x hp => match itDic (fun kv => kv.2) hp x with
    | some (itr, hp) => k itr hp
    | none => False) E
end

mutual
def wS : St → Env → Hq → KS → Prop
  | .pass, env, hp, K => K.nx env hp
  | .brk, env, hp, K => K.bk env hp
  | .cont, env, hp, K => K.ct env hp
  | .expr e, env, hp, K => wE g cl e env hp (fun _ hp => K.nx env hp) fun c i hp => K.ex c i env hp
  | .ret e, env, hp, K => wEo g cl e env hp (fun d hp => K.rt (d.getD .non) hp) fun c i hp => K.ex c i env hp
  | .asg t e, env, hp, K => wE g cl e env hp (fun d hp => wTg g cl t d env hp K.nx) fun c i hp => K.ex c i env hp
  | .augn i o e, env, hp, K => match env[i]? with
    | some (some x) => wE g cl e env hp (fun y hp => (oAug o x y hp).app fun z hp => K.nx (env.set i (some z)) hp) fun c i hp => K.ex c i env hp
    | _ => False
  | .augf a f o e, env, hp, K => wE g cl a env hp (fun r hp => (oGetF r f hp).app fun x hp => wE g cl e env hp (fun y hp => (oAug o x y hp).app fun z hp => (oSetF r f z hp).app (K.nx env)) fun c i hp => K.ex c i env hp) fun c i hp => K.ex c i env hp
  | .ifs c a b, env, hp, K => wE g cl c env hp (fun x hp => (oTru x hp).app fun t => if t = true then wSs a env hp K else wSs b env hp K) fun c i hp => K.ex c i env hp
  | .whl c b, env, hp, K => ∃ N, whLoop (fun env hp kn ke => wE g cl c env hp (fun x hp => (oTru x hp).app fun t => if t = true then wSs b env hp { K with nx := kn, ct := kn, bk := K.nx } else ke env hp) fun c i hp => K.ex c i env hp) N env hp K.nx
  | .for_ t it b, env, hp, K => wIt g cl it env hp (fun itr hp => ∃ N, forLoop itr.nx (fun d env hp kn => wTg g cl t d env hp fun env hp =>
      wSs b env hp { nx := kn, ct := kn, bk := fun env hp => K.nx env (itr.un hp), rt := fun d hp => K.rt d (itr.un hp), ex := K.ex }) N 0 env hp fun env hp => K.nx env (itr.un hp)) fun c i hp => K.ex c i env hp
  | .raise c f e, env, hp, K => wE g cl e env hp (fun d hp => K.ex c hp.length env (hp ++ [.xd c [(f, d)]])) fun c i hp => K.ex c i env hp
  | .tryK b bs n k, env, hp, K => wSs b env hp { K with ex := fun c i env hp => match bs[c]? with
    | some true => K.nx ((env.set k (some (.ref hp.length))).set n none) (hp ++ [.xob c hp.length i])
    | some false => K.ex c i env hp
    | none => False }
  | .never, _, _, _ => False
def wSs : Sts → Env → Hq → KS → Prop
  | .nil, env, hp, K => K.nx env hp
  | .cons s r, env, hp, K => wS s env hp { K with nx := fun env hp => wSs r env hp K }
end
end

def wCall (g : Glob) : Nat → Cl
  | 0, _, _, _, _, _ => False
  | n + 1, f, ds, hp, Q, E => match g.fns[f]? with
    | none => False
    | some fi => ds.length = fi.np ∧ wSs g (wCall g n) fi.body (ds.map some ++ List.replicate (fi.ns - fi.np) none) hp
        { nx := fun _ hp => Q .non hp, bk := fun _ _ => False, ct := fun _ _ => False, rt := Q, ex := fun c i _ hp => E c i hp }
end MI
/-! MI, part 2: what holds of less holds of more. -/
namespace MI
open PySem

theorem OutD.mono {o : OutD} {Q Q' : QD} (h : ∀ d hp, Q d hp → Q' d hp) (q : o.app Q) : o.app Q' := by
  cases o with
  | no => exact q
  | ok d hp => exact h _ _ q
  | cd C d hp => exact ⟨q.1, h _ _ q.2⟩
theorem OutB.mono {o : OutB} {k k' : Bool → Prop} (h : ∀ b, k b → k' b) (q : o.app k) : o.app k' := by
  cases o with
  | no => exact q
  | ok b => exact h _ q
  | cd C b => exact ⟨q.1, h _ q.2⟩
theorem OutH.mono {o : OutH} {k k' : Hq → Prop} (h : ∀ hp, k hp → k' hp) (q : o.app k) : o.app k' := by
  cases o with
  | no => exact q
  | ok b => exact h _ q
  | cd C b => exact ⟨q.1, h _ q.2⟩

def ClMono (cl : Cl) : Prop := ∀ f ds hp (Q Q' : QD) (E E' : QX), (∀ d h, Q d h → Q' d h) → (∀ c i h, E c i h → E' c i h) → cl f ds hp Q E → cl f ds hp Q' E'

theorem lcLoop_mono {nx : Nat → Hq → Option (Option D)} {body body' : D → Hq → (Option D → Hq → Prop) → Prop}
    (hb : ∀ d hp (k k' : Option D → Hq → Prop), (∀ r h, k r h → k' r h) → body d hp k → body' d hp k') :
    ∀ N j acc hp (k k' : List D → Hq → Prop), (∀ r h, k r h → k' r h) → lcLoop nx body N j acc hp k → lcLoop nx body' N j acc hp k' := by
  intro N
  induction N with
  | zero => intro j acc hp k k' _ h; exact h
  | succ N ih =>
    intro j acc hp k k' hk h
    unfold lcLoop at h ⊢
    cases e : nx j hp with
    | none => rw [e] at h; exact h
    | some o =>
      rw [e] at h
      cases o with
      | none => exact hk _ _ h
      | some d =>
        refine hb d hp _ _ (fun r h1 q => ?_) h
        cases r with
        | none => exact ih _ _ _ _ _ hk q
        | some y => exact ⟨q.1, ih _ _ _ _ _ hk q.2⟩
theorem dcLoop_mono {nx : Nat → Hq → Option (Option D)} {body body' : D → Hq → (Option (D × D) → Hq → Prop) → Prop}
    (hb : ∀ d hp (k k' : Option (D × D) → Hq → Prop), (∀ r h, k r h → k' r h) → body d hp k → body' d hp k') :
    ∀ N j acc hp (k k' : List (L2.Key × D) → Hq → Prop), (∀ r h, k r h → k' r h) → dcLoop nx body N j acc hp k → dcLoop nx body' N j acc hp k' := by
  intro N
  induction N with
  | zero => intro j acc hp k k' _ h; exact h
  | succ N ih =>
    intro j acc hp k k' hk h
    unfold dcLoop at h ⊢
    cases e : nx j hp with
    | none => rw [e] at h; exact h
    | some o =>
      rw [e] at h
      cases o with
      | none => exact hk _ _ h
      | some d =>
        refine hb d hp _ _ (fun r h1 q => ?_) h
        cases r with
        | none => exact ih _ _ _ _ _ hk q
        | some p =>
          obtain ⟨y, z⟩ := p
          simp only at q ⊢
          cases e2 : kOf y with
          | none => simp only [e2] at q
          | some key =>
            simp only [e2] at q
            exact ⟨q.1, ih _ _ _ _ _ hk q.2⟩
theorem acLoop_mono {nx : Nat → Hq → Option (Option D)} {body body' : D → List D → Hq → (List D → Hq → Prop) → Prop}
    (hb : ∀ d acc hp (k k' : List D → Hq → Prop), (∀ r h, k r h → k' r h) → body d acc hp k → body' d acc hp k') :
    ∀ N j acc hp (k k' : List D → Hq → Prop), (∀ r h, k r h → k' r h) → acLoop nx body N j acc hp k → acLoop nx body' N j acc hp k' := by
  intro N
  induction N with
  | zero => intro j acc hp k k' _ h; exact h
  | succ N ih =>
    intro j acc hp k k' hk h
    unfold acLoop at h ⊢
    cases e : nx j hp with
    | none => rw [e] at h; exact h
    | some o =>
      rw [e] at h
      cases o with
      | none => exact hk _ _ h
      | some d => exact hb d acc hp _ _ (fun r h1 q => ih _ _ _ _ _ hk q) h
theorem forLoop_mono {nx : Nat → Hq → Option (Option D)} {body body' : D → Env → Hq → (Env → Hq → Prop) → Prop}
    (hb : ∀ d env hp (k k' : Env → Hq → Prop), (∀ r h, k r h → k' r h) → body d env hp k → body' d env hp k') :
    ∀ N j env hp (k k' : Env → Hq → Prop), (∀ r h, k r h → k' r h) → forLoop nx body N j env hp k → forLoop nx body' N j env hp k' := by
  intro N
  induction N with
  | zero => intro j env hp k k' _ h; exact h
  | succ N ih =>
    intro j env hp k k' hk h
    unfold forLoop at h ⊢
    cases e : nx j hp with
    | none => rw [e] at h; exact h
    | some o =>
      rw [e] at h
      cases o with
      | none => exact hk _ _ h
      | some d => exact hb d env hp _ _ (fun r h1 q => ih _ _ _ _ _ hk q) h
theorem whLoop_mono {body body' : Env → Hq → (Env → Hq → Prop) → (Env → Hq → Prop) → Prop}
    (hb : ∀ env hp (k k' l l' : Env → Hq → Prop), (∀ r h, k r h → k' r h) → (∀ r h, l r h → l' r h) → body env hp k l → body' env hp k' l') :
    ∀ N env hp (k k' : Env → Hq → Prop), (∀ r h, k r h → k' r h) → whLoop body N env hp k → whLoop body' N env hp k' := by
  intro N
  induction N with
  | zero => intro env hp k k' _ h; exact h
  | succ N ih =>
    intro env hp k k' hk h
    exact hb env hp _ _ _ _ (fun r h1 q => ih _ _ _ _ hk q) hk h

section
variable {g : Glob} {cl : Cl}
mutual
theorem wE_mono (hc : ClMono cl) : ∀ (e : Ex) (env : Env) (hp : Hq) (Q Q' : QD) (E E' : QX), (∀ d h, Q d h → Q' d h) → (∀ c i h, E c i h → E' c i h) → wE g cl e env hp Q E → wE g cl e env hp Q' E'
  | .var i, env, hp, Q, Q', E, E', hq, he, h => by
    unfold wE at h ⊢
    split at h
    · exact hq _ _ h
    · exact h
  | .lit d, env, hp, Q, Q', E, E', hq, he, h => hq _ _ h
  | .glob k, env, hp, Q, Q', E, E', hq, he, h => by
    unfold wE at h ⊢
    split at h
    · exact hq _ _ h
    · exact h
  | .bin o a b, env, hp, Q, Q', E, E', hq, he, h => by
    unfold wE at h ⊢
    exact wE_mono hc a env hp _ _ E E' (fun x h1 q1 => wE_mono hc b env h1 _ _ E E' (fun y h2 q2 => OutD.mono hq q2) he q1) he h
  | .neg a, env, hp, Q, Q', E, E', hq, he, h => by
    unfold wE at h ⊢
    refine wE_mono hc a env hp _ _ E E' (fun x h1 q1 => ?_) he h
    split at q1
    · exact hq _ _ q1
    · exact q1
  | .cmp o a b, env, hp, Q, Q', E, E', hq, he, h => by
    unfold wE at h ⊢
    exact wE_mono hc a env hp _ _ E E' (fun x h1 q1 => wE_mono hc b env h1 _ _ E E' (fun y h2 q2 => OutD.mono hq q2) he q1) he h
  | .cmp2 o p a b c, env, hp, Q, Q', E, E', hq, he, h => by
    unfold wE at h ⊢
    refine wE_mono hc a env hp _ _ E E' (fun x h1 q1 => wE_mono hc b env h1 _ _ E E' (fun y h2 q2 => OutD.mono (fun r h3 q3 => ?_) q2) he q1) he h
    split at q3
    · exact wE_mono hc c env h3 _ _ E E' (fun z h4 q4 => OutD.mono hq q4) he q3
    · exact hq _ _ q3
    · exact q3
  | .and a b, env, hp, Q, Q', E, E', hq, he, h => by
    unfold wE at h ⊢
    refine wE_mono hc a env hp _ _ E E' (fun x h1 q1 => OutB.mono (fun t q2 => ?_) q1) he h
    cases t with
    | true => exact wE_mono hc b env h1 _ _ E E' hq he q2
    | false => exact hq _ _ q2
  | .or a b, env, hp, Q, Q', E, E', hq, he, h => by
    unfold wE at h ⊢
    refine wE_mono hc a env hp _ _ E E' (fun x h1 q1 => OutB.mono (fun t q2 => ?_) q1) he h
    cases t with
    | true => exact hq _ _ q2
    | false => exact wE_mono hc b env h1 _ _ E E' hq he q2
  | .not a, env, hp, Q, Q', E, E', hq, he, h => by
    unfold wE at h ⊢
    exact wE_mono hc a env hp _ _ E E' (fun x h1 q1 => OutB.mono (fun t q2 => hq _ _ q2) q1) he h
  | .ite c a b, env, hp, Q, Q', E, E', hq, he, h => by
    unfold wE at h ⊢
    refine wE_mono hc c env hp _ _ E E' (fun x h1 q1 => OutB.mono (fun t q2 => ?_) q1) he h
    cases t with
    | true => exact wE_mono hc a env h1 _ _ E E' hq he q2
    | false => exact wE_mono hc b env h1 _ _ E E' hq he q2
  | .tup es, env, hp, Q, Q', E, E', hq, he, h => by
    unfold wE at h ⊢
    exact wEs_mono hc es env hp _ _ E E' (fun ds h1 q1 => hq _ _ q1) he h
  | .lst es, env, hp, Q, Q', E, E', hq, he, h => by
    unfold wE at h ⊢
    exact wEs_mono hc es env hp _ _ E E' (fun ds h1 q1 => hq _ _ q1) he h
  | .dic es, env, hp, Q, Q', E, E', hq, he, h => by
    unfold wE at h ⊢
    refine wEs_mono hc es env hp _ _ E E' (fun xs h1 q1 => ?_) he h
    split at q1
    · exact hq _ _ q1
    · exact q1
  | .bty n, env, hp, Q, Q', E, E', hq, he, h => hq _ _ h
  | .mmd mx a d, env, hp, Q, Q', E, E', hq, he, h => by
    unfold wE at h ⊢
    exact wE_mono hc a env hp _ _ E E' (fun x h1 q1 => wE_mono hc d env h1 _ _ E E' (fun y h2 q2 => OutD.mono hq q2) he q1) he h
  | .ix a i, env, hp, Q, Q', E, E', hq, he, h => by
    unfold wE at h ⊢
    exact wE_mono hc a env hp _ _ E E' (fun x h1 q1 => wE_mono hc i env h1 _ _ E E' (fun y h2 q2 => OutD.mono hq q2) he q1) he h
  | .sl a lo hi, env, hp, Q, Q', E, E', hq, he, h => by
    unfold wE at h ⊢
    refine wE_mono hc a env hp _ _ E E' (fun x h1 q1 => wEo_mono hc lo env h1 _ _ E E' (fun l h2 q2 => ?_) he q1) he h
    split at q2
    · refine wEo_mono hc hi env h2 _ _ E E' (fun u h3 q3 => ?_) he q2
      split at q3
      · exact OutD.mono hq q3
      · exact q3
    · exact q2
  | .fld a f, env, hp, Q, Q', E, E', hq, he, h => by
    unfold wE at h ⊢
    exact wE_mono hc a env hp _ _ E E' (fun x h1 q1 => OutD.mono hq q1) he h
  | .call f es, env, hp, Q, Q', E, E', hq, he, h => by
    unfold wE at h ⊢
    exact wEs_mono hc es env hp _ _ E E' (fun ds h1 q1 => hc _ _ _ _ _ _ _ hq he q1) he h
  | .callK f es pm, env, hp, Q, Q', E, E', hq, he, h => by
    unfold wE at h ⊢
    refine wEs_mono hc es env hp _ _ E E' (fun ds h1 q1 => ?_) he h
    split at q1
    · exact hc _ _ _ _ _ _ _ hq he q1
    · exact q1
  | .make c es, env, hp, Q, Q', E, E', hq, he, h => by
    unfold wE at h ⊢
    refine wEs_mono hc es env hp _ _ E E' (fun ds h1 q1 => ?_) he h
    split at q1
    · refine hc _ _ _ _ _ _ _ (fun d h2 q2 => ?_) he q1
      split at q2
      · exact hq _ _ q2
      · exact q2
    · exact q1
  | .makeK c es pm, env, hp, Q, Q', E, E', hq, he, h => by
    unfold wE at h ⊢
    refine wEs_mono hc es env hp _ _ E E' (fun ds h1 q1 => ?_) he h
    split at q1
    · refine hc _ _ _ _ _ _ _ (fun d h2 q2 => ?_) he q1
      split at q2
      · exact hq _ _ q2
      · exact q2
    · exact q1
  | .meth a m es, env, hp, Q, Q', E, E', hq, he, h => by
    unfold wE at h ⊢
    refine wE_mono hc a env hp _ _ E E' (fun x h1 q1 => ?_) he h
    split at q1
    · split at q1
      · split at q1
        · exact wEs_mono hc es env h1 _ _ E E' (fun ds h2 q2 => hc _ _ _ _ _ _ _ hq he q2) he q1
        · exact q1
      · exact q1
    · exact q1
  | .methK a m es pm, env, hp, Q, Q', E, E', hq, he, h => by
    unfold wE at h ⊢
    refine wE_mono hc a env hp _ _ E E' (fun x h1 q1 => ?_) he h
    split at q1
    · split at q1
      · split at q1
        · refine wEs_mono hc es env h1 _ _ E E' (fun ds h2 q2 => ?_) he q1
          split at q2
          · exact hc _ _ _ _ _ _ _ hq he q2
          · exact q2
        · exact q1
      · exact q1
    · exact q1
  | .blt b es, env, hp, Q, Q', E, E', hq, he, h => by
    unfold wE at h ⊢
    exact wEs_mono hc es env hp _ _ E E' (fun ds h1 q1 => OutD.mono hq q1) he h
  | .bm m a es, env, hp, Q, Q', E, E', hq, he, h => by
    unfold wE at h ⊢
    refine wE_mono hc a env hp _ _ E E' (fun x h1 q1 => ?_) he h
    split at q1
    · exact wEs_mono hc es env h1 _ _ E E' (fun ds h2 q2 => OutD.mono hq q2) he q1
    · exact q1
  | .lc own t it c e, env, hp, Q, Q', E, E', hq, he, h => by
    unfold wE at h ⊢
    refine wIt_mono hc it env hp _ _ E E' (fun itr h1 q1 => ?_) he h
    obtain ⟨N, q1⟩ := q1
    refine ⟨N, lcLoop_mono (fun d h2 k k' hk q2 => ?_) N 0 [] h1 _ _ (fun r h3 q3 => hq _ _ q3) q1⟩
    refine wTg_mono hc t d _ _ _ _ (fun env2 h3 q3 => ?_) q2
    refine wEo_mono hc c env2 h3 _ _ _ _ (fun r h4 q4 => ?_) (fun _ _ _ z => z) q3
    cases r with
    | none => exact wE_mono hc e env2 h4 _ _ _ _ (fun y h5 q5 => hk _ _ q5) (fun _ _ _ z => z) q4
    | some x =>
      refine OutB.mono (fun t q5 => ?_) q4
      cases t with
      | true => exact wE_mono hc e env2 h4 _ _ _ _ (fun y h5 q5 => hk _ _ q5) (fun _ _ _ z => z) q5
      | false => exact hk _ _ q5
  | .dc own t it c kx e, env, hp, Q, Q', E, E', hq, he, h => by
    unfold wE at h ⊢
    refine wIt_mono hc it env hp _ _ E E' (fun itr h1 q1 => ?_) he h
    obtain ⟨N, q1⟩ := q1
    refine ⟨N, dcLoop_mono (fun d h2 k k' hk q2 => ?_) N 0 [] h1 _ _ (fun r h3 q3 => hq _ _ q3) q1⟩
    refine wTg_mono hc t d _ _ _ _ (fun env2 h3 q3 => ?_) q2
    refine wEo_mono hc c env2 h3 _ _ _ _ (fun r h4 q4 => ?_) (fun _ _ _ z => z) q3
    cases r with
    | none => exact wE_mono hc kx env2 h4 _ _ _ _ (fun y h5 q5 => wE_mono hc e env2 h5 _ _ _ _ (fun z h6 q6 => hk _ _ q6) (fun _ _ _ z => z) q5) (fun _ _ _ z => z) q4
    | some x =>
      refine OutB.mono (fun t q5 => ?_) q4
      cases t with
      | true => exact wE_mono hc kx env2 h4 _ _ _ _ (fun y h5 q5 => wE_mono hc e env2 h5 _ _ _ _ (fun z h6 q6 => hk _ _ q6) (fun _ _ _ z => z) q5) (fun _ _ _ z => z) q5
      | false => exact hk _ _ q5
  | .lc2 own own1 t it t1 a e, env, hp, Q, Q', E, E', hq, he, h => by
    unfold wE at h ⊢
    refine wIt_mono hc it env hp _ _ E E' (fun itr h1 q1 => ?_) he h
    obtain ⟨N, q1⟩ := q1
    refine ⟨N, acLoop_mono (fun d acc h2 k k' hk q2 => ?_) N 0 [] h1 _ _ (fun r h3 q3 => hq _ _ q3) q1⟩
    refine wTg_mono hc t d _ _ _ _ (fun env2 h3 q3 => ?_) q2
    refine wE_mono hc a env2 h3 _ _ _ _ (fun x h4 q4 => ?_) (fun _ _ _ z => z) q3
    split at q4
    · obtain ⟨M, q4⟩ := q4
      refine ⟨M, lcLoop_mono (fun d h5 k1 k1' hk1 q5 => ?_) M 0 acc h4 _ _ hk q4⟩
      exact wTg_mono hc t1 d _ _ _ _ (fun env3 h6 q6 => wE_mono hc e env3 h6 _ _ _ _ (fun y h7 q7 => hk1 _ _ q7) (fun _ _ _ z => z) q6) q5
    · exact q4
  | .lenD a m, env, hp, Q, Q', E, E', hq, he, h => by
    unfold wE at h ⊢
    refine wE_mono hc a env hp _ _ E E' (fun x h1 q1 => ?_) he h
    split at q1
    · split at q1
      · split at q1
        · refine hc _ _ _ _ _ _ _ (fun v h2 q2 => ?_) (fun _ _ _ z => z) q1
          split at q2
          · exact ⟨q2.1, hq _ _ q2.2⟩
          · exact q2
        · exact q1
      · exact OutD.mono hq q1
    · exact OutD.mono hq q1
  | .isx a bs, env, hp, Q, Q', E, E', hq, he, h => by
    unfold wE at h ⊢
    exact wE_mono hc a env hp _ _ E E' (fun x h1 q1 => OutD.mono hq q1) he h
  | .xfd a f, env, hp, Q, Q', E, E', hq, he, h => by
    unfold wE at h ⊢
    exact wE_mono hc a env hp _ _ E E' (fun x h1 q1 => OutD.mono hq q1) he h
  | .xnew k f a, env, hp, Q, Q', E, E', hq, he, h => by
    unfold wE at h ⊢
    exact wE_mono hc a env hp _ _ E E' (fun x h1 q1 => hq _ _ q1) he h
  | .xnw0 k, env, hp, Q, Q', E, E', hq, he, h => by
    unfold wE at h ⊢
    exact hq _ _ h
theorem wEs_mono (hc : ClMono cl) : ∀ (es : Exs) (env : Env) (hp : Hq) (Q Q' : List D → Hq → Prop) (E E' : QX), (∀ d h, Q d h → Q' d h) → (∀ c i h, E c i h → E' c i h) → wEs g cl es env hp Q E → wEs g cl es env hp Q' E'
  | .nil, env, hp, Q, Q', E, E', hq, he, h => hq _ _ h
  | .cons e r, env, hp, Q, Q', E, E', hq, he, h => by
    unfold wEs at h ⊢
    exact wE_mono hc e env hp _ _ E E' (fun d h1 q1 => wEs_mono hc r env h1 _ _ E E' (fun ds h2 q2 => hq _ _ q2) he q1) he h
theorem wEo_mono (hc : ClMono cl) : ∀ (eo : Exo) (env : Env) (hp : Hq) (Q Q' : Option D → Hq → Prop) (E E' : QX), (∀ d h, Q d h → Q' d h) → (∀ c i h, E c i h → E' c i h) → wEo g cl eo env hp Q E → wEo g cl eo env hp Q' E'
  | .no, env, hp, Q, Q', E, E', hq, he, h => hq _ _ h
  | .so e, env, hp, Q, Q', E, E', hq, he, h => by
    unfold wEo at h ⊢
    exact wE_mono hc e env hp _ _ E E' (fun d h1 q1 => hq _ _ q1) he h
theorem wTg_mono (hc : ClMono cl) : ∀ (t : Tg) (d : D) (env : Env) (hp : Hq) (k k' : Env → Hq → Prop), (∀ r h, k r h → k' r h) → wTg g cl t d env hp k → wTg g cl t d env hp k'
  | .nm i, d, env, hp, k, k', hk, h => hk _ _ h
  | .tp ts, d, env, hp, k, k', hk, h => by
    unfold wTg at h ⊢
    cases d <;> first | exact False.elim h | skip
    exact ⟨h.1, wTgs_mono hc ts _ env hp k k' hk h.2⟩
  | .at o f, d, env, hp, k, k', hk, h => by
    unfold wTg at h ⊢
    exact wE_mono hc o env hp _ _ _ _ (fun x h1 q1 => OutH.mono (fun h2 q2 => hk _ _ q2) q1) (fun _ _ _ z => z) h
  | .sb o i, d, env, hp, k, k', hk, h => by
    unfold wTg at h ⊢
    exact wE_mono hc o env hp _ _ _ _ (fun x h1 q1 => wE_mono hc i env h1 _ _ _ _ (fun y h2 q2 => OutH.mono (fun h3 q3 => hk _ _ q3) q2) (fun _ _ _ z => z) q1) (fun _ _ _ z => z) h
theorem wTgs_mono (hc : ClMono cl) : ∀ (ts : Tgs) (ds : List D) (env : Env) (hp : Hq) (k k' : Env → Hq → Prop), (∀ r h, k r h → k' r h) → wTgs g cl ts ds env hp k → wTgs g cl ts ds env hp k'
  | .nil, ds, env, hp, k, k', hk, h => by
    cases ds with
    | nil => exact hk _ _ h
    | cons _ _ => exact h
  | .cons t r, ds, env, hp, k, k', hk, h => by
    cases ds with
    | nil => exact h
    | cons d ds =>
      unfold wTgs at h ⊢
      exact wTg_mono hc t d env hp _ _ (fun env1 h1 q1 => wTgs_mono hc r ds env1 h1 k k' hk q1) h
theorem wIt_mono (hc : ClMono cl) : ∀ (it : Ix) (env : Env) (hp : Hq) (k k' : Itr → Hq → Prop) (E E' : QX), (∀ d h, k d h → k' d h) → (∀ c i h, E c i h → E' c i h) → wIt g cl it env hp k E → wIt g cl it env hp k' E'
  | .vl e, env, hp, k, k', E, E', hk, he, h => by
    unfold wIt at h ⊢
    refine wE_mono hc e env hp _ _ E E' (fun x h1 q1 => ?_) he h
    split at q1
    · exact hk _ _ q1
    · exact q1
  | .rng1 e, env, hp, k, k', E, E', hk, he, h => by
    unfold wIt at h ⊢
    refine wE_mono hc e env hp _ _ E E' (fun x h1 q1 => ?_) he h
    split at q1
    · exact ⟨q1.1, hk _ _ q1.2⟩
    · exact q1
  | .rng2 a b, env, hp, k, k', E, E', hk, he, h => by
    unfold wIt at h ⊢
    refine wE_mono hc a env hp _ _ E E' (fun x h1 q1 => wE_mono hc b env h1 _ _ E E' (fun y h2 q2 => ?_) he q1) he h
    split at q2
    · exact ⟨q2.1, hk _ _ q2.2⟩
    · exact q2
  | .enum e, env, hp, k, k', E, E', hk, he, h => by
    unfold wIt at h ⊢
    refine wE_mono hc e env hp _ _ E E' (fun x h1 q1 => ?_) he h
    split at q1
    · split at q1
      · exact hk _ _ q1
      · exact q1
    · exact q1
  | .zip2 a b, env, hp, k, k', E, E', hk, he, h => by
    unfold wIt at h ⊢
    refine wE_mono hc a env hp _ _ E E' (fun x h1 q1 => wE_mono hc b env h1 _ _ E E' (fun y h2 q2 => ?_) he q1) he h
    split at q2
    · split at q2
      · exact hk _ _ q2
      · exact q2
    · exact q2
  | .items e, env, hp, k, k', E, E', hk, he, h => by
    unfold wIt at h ⊢
    refine wE_mono hc e env hp _ _ E E' (fun x h1 q1 => ?_) he h
    split at q1
    · exact hk _ _ q1
    · exact q1
  | .vals e, env, hp, k, k', E, E', hk, he, h => by
    unfold wIt at h ⊢
    refine wE_mono hc e env hp _ _ E E' (fun x h1 q1 => ?_) he h
    split at q1
    · exact hk _ _ q1
    · exact q1
end

structure KS.le (K K' : KS) : Prop where
  nx : ∀ e h, K.nx e h → K'.nx e h
  bk : ∀ e h, K.bk e h → K'.bk e h
  ct : ∀ e h, K.ct e h → K'.ct e h
  rt : ∀ d h, K.rt d h → K'.rt d h
  ex : ∀ c i e h, K.ex c i e h → K'.ex c i e h
mutual
theorem wS_mono (hc : ClMono cl) : ∀ (s : St) (env : Env) (hp : Hq) (K K' : KS), K.le K' → wS g cl s env hp K → wS g cl s env hp K'
  | .pass, env, hp, K, K', l, h => l.nx _ _ h
  | .brk, env, hp, K, K', l, h => l.bk _ _ h
  | .cont, env, hp, K, K', l, h => l.ct _ _ h
  | .expr e, env, hp, K, K', l, h => by
    unfold wS at h ⊢
    exact wE_mono hc e env hp _ _ _ _ (fun d h1 q1 => l.nx _ _ q1) (fun c i h1 q1 => l.ex _ _ _ _ q1) h
  | .ret e, env, hp, K, K', l, h => by
    unfold wS at h ⊢
    exact wEo_mono hc e env hp _ _ _ _ (fun d h1 q1 => l.rt _ _ q1) (fun c i h1 q1 => l.ex _ _ _ _ q1) h
  | .asg t e, env, hp, K, K', l, h => by
    unfold wS at h ⊢
    exact wE_mono hc e env hp _ _ _ _ (fun d h1 q1 => wTg_mono hc t d env h1 _ _ l.nx q1) (fun c i h1 q1 => l.ex _ _ _ _ q1) h
  | .augn i o e, env, hp, K, K', l, h => by
    unfold wS at h ⊢
    split at h
    · exact wE_mono hc e env hp _ _ _ _ (fun d h1 q1 => OutD.mono (fun z h2 q2 => l.nx _ _ q2) q1) (fun c i h1 q1 => l.ex _ _ _ _ q1) h
    · exact h
  | .augf a f o e, env, hp, K, K', l, h => by
    unfold wS at h ⊢
    refine wE_mono hc a env hp _ _ _ _ (fun r h1 q1 => OutD.mono (fun x h2 q2 => ?_) q1) (fun c i h1 q1 => l.ex _ _ _ _ q1) h
    exact wE_mono hc e env h2 _ _ _ _ (fun y h3 q3 => OutD.mono (fun z h4 q4 => OutH.mono (fun h5 q5 => l.nx _ _ q5) q4) q3) (fun c i h1 q1 => l.ex _ _ _ _ q1) q2
  | .ifs c a b, env, hp, K, K', l, h => by
    unfold wS at h ⊢
    refine wE_mono hc c env hp _ _ _ _ (fun x h1 q1 => OutB.mono (fun t q2 => ?_) q1) (fun c i h1 q1 => l.ex _ _ _ _ q1) h
    cases t with
    | true => exact wSs_mono hc a env h1 _ _ l q2
    | false => exact wSs_mono hc b env h1 _ _ l q2
  | .whl c b, env, hp, K, K', l, h => by
    unfold wS at h ⊢
    obtain ⟨N, h⟩ := h
    refine ⟨N, whLoop_mono (fun env h1 k k' m m' hk hm q => ?_) N env hp _ _ l.nx h⟩
    refine wE_mono hc c env h1 _ _ _ _ (fun x h1 q1 => OutB.mono (fun t q2 => ?_) q1) (fun c i h1 q1 => l.ex _ _ _ _ q1) q
    cases t with
    | true =>
      refine wSs_mono hc b env h1 _ _ ?_ q2
      exact ⟨hk, l.nx, hk, l.rt, l.ex⟩
    | false => exact hm _ _ q2
  | .for_ t it b, env, hp, K, K', l, h => by
    unfold wS at h ⊢
    refine wIt_mono hc it env hp _ _ _ _ (fun itr h1 q1 => ?_) (fun c i h1 q1 => l.ex _ _ _ _ q1) h
    obtain ⟨N, q1⟩ := q1
    refine ⟨N, forLoop_mono (fun d env h2 k k' hk q2 => ?_) N 0 env h1 _ _ (fun e h q => l.nx _ _ q) q1⟩
    refine wTg_mono hc t d env h2 _ _ (fun env3 h3 q3 => wSs_mono hc b env3 h3 _ _ ?_ q3) q2
    exact ⟨hk, fun e h q => l.nx _ _ q, hk, fun d h q => l.rt _ _ q, l.ex⟩
  | .raise c f e, env, hp, K, K', l, h => by
    unfold wS at h ⊢
    exact wE_mono hc e env hp _ _ _ _ (fun d h1 q1 => l.ex _ _ _ _ q1) (fun c i h1 q1 => l.ex _ _ _ _ q1) h
  | .tryK b bs n k, env, hp, K, K', l, h => by
    unfold wS at h ⊢
    refine wSs_mono hc b env hp _ _ ?_ h
    refine ⟨l.nx, l.bk, l.ct, l.rt, fun c i e h1 q => ?_⟩
    show (match bs[c]? with
      | some true => K'.nx ((e.set k (some (.ref h1.length))).set n none) (h1 ++ [.xob c h1.length i])
      | some false => K'.ex c i e h1
      | none => False)
    have q : (match bs[c]? with
      | some true => K.nx ((e.set k (some (.ref h1.length))).set n none) (h1 ++ [.xob c h1.length i])
      | some false => K.ex c i e h1
      | none => False) := q
    cases z : bs[c]? with
    | none => rw [z] at q; exact q
    | some b =>
      rw [z] at q
      cases b with
      | true => exact l.nx _ _ q
      | false => exact l.ex _ _ _ _ q
  | .never, env, hp, K, K', l, h => h
theorem wSs_mono (hc : ClMono cl) : ∀ (s : Sts) (env : Env) (hp : Hq) (K K' : KS), K.le K' → wSs g cl s env hp K → wSs g cl s env hp K'
  | .nil, env, hp, K, K', l, h => l.nx _ _ h
  | .cons s r, env, hp, K, K', l, h => by
    unfold wSs at h ⊢
    refine wS_mono hc s env hp _ _ ?_ h
    exact ⟨fun e h1 q => wSs_mono hc r e h1 _ _ l q, l.bk, l.ct, l.rt, l.ex⟩
end
end
theorem wCall_mono (g : Glob) : ∀ n, ClMono (wCall g n) := by
  intro n
  induction n with
  | zero => intro f ds hp Q Q' E E' _ _ h; exact h
  | succ n ih =>
    intro f ds hp Q Q' E E' hq he h
    unfold wCall at h ⊢
    split at h
    · exact h
    · refine ⟨h.1, wSs_mono ih _ _ _ _ _ ?_ h.2⟩
      exact ⟨fun e h q => hq _ _ q, fun _ _ z => z, fun _ _ z => z, hq, fun c i e h q => he _ _ _ q⟩
end MI
/-! MI, part 3: how the small heap stands in the layer's heap. -/
namespace MI
open PySem PySem.Spec L2

/-- a kept exception: of the class at C, its dict at d -/
def kx (a C d : Addr) : HO := .ext fun h => ∃ (ob : Obj) (ws : Array Value), h.get? a = some ob ∧ Zc (.ref C) (some d) ob ∧ ob.data = .fields ws
section
variable {P : Program} {w : World} {H : Hp} {h : Heap} {a C d : Addr}
theorem kx_ok {ob : Obj} {ws : Array Value} (e : h.get? a = some ob) (z : Zc (.ref C) (some d) ob) (q : ob.data = .fields ws) : ObjOk P w H h a (kx a C d) :=
  ⟨⟨ob, ws, e, z, q⟩, ⟨ob, e⟩, fun h1 h2 x k => by
    obtain ⟨o', w', e1, z1, q1⟩ := x
    exact ⟨o', w', k _ e1, z1, q1⟩⟩
theorem kx_at (ok : HOk P w H h) (e : H a = some (kx a C d)) : ∃ (ob : Obj) (ws : Array Value), h.get? a = some ob ∧ Zc (.ref C) (some d) ob ∧ ob.data = .fields ws := by
  have x : ObjOk P w H h a (.ext fun h => ∃ (ob : Obj) (ws : Array Value), h.get? a = some ob ∧ Zc (.ref C) (some d) ob ∧ ob.data = .fields ws) := ok a _ e
  exact x.1
end

/-- an exception without a dict -/
def kx0 (a C : Addr) : HO := .ext fun h => ∃ (ob : Obj) (ws : Array Value), h.get? a = some ob ∧ Zc (.ref C) none ob ∧ ob.data = .fields ws
section
variable {P : Program} {w : World} {H : Hp} {h : Heap} {a C : Addr}
theorem kx0_ok {ob : Obj} {ws : Array Value} (e : h.get? a = some ob) (z : Zc (.ref C) none ob) (q : ob.data = .fields ws) : ObjOk P w H h a (kx0 a C) :=
  ⟨⟨ob, ws, e, z, q⟩, ⟨ob, e⟩, fun h1 h2 x k => by
    obtain ⟨o', w', e1, z1, q1⟩ := x
    exact ⟨o', w', k _ e1, z1, q1⟩⟩
theorem kx0_at (ok : HOk P w H h) (e : H a = some (kx0 a C)) : ∃ (ob : Obj) (ws : Array Value), h.get? a = some ob ∧ Zc (.ref C) none ob ∧ ob.data = .fields ws := by
  have x : ObjOk P w H h a (.ext fun h => ∃ (ob : Obj) (ws : Array Value), h.get? a = some ob ∧ Zc (.ref C) none ob ∧ ob.data = .fields ws) := ok a _ e
  exact x.1
end

theorem nodup_at {α : Type} {l : List α} (hN : l.Nodup) {i j : Nat} {x : α} (a : l[i]? = some x) (b : l[j]? = some x) : i = j := by
  obtain ⟨h1, e1⟩ := List.getElem?_eq_some_iff.mp a
  obtain ⟨h2, e2⟩ := List.getElem?_eq_some_iff.mp b
  exact (List.getElem_inj hN).mp (e1.trans e2.symm)

/-- where the text's own things stand; the attributes' names -/
structure Lay where
  fns : List Addr
  clss : List Addr
  exs : List Addr
  kds : List Addr
  attrs : List Str

/-- a list that stands still: locked, or of the written part -/
def KlL (K : PySem.W.Frag) (H : Hp) (a : Addr) (xs : List V) : Prop :=
  (∃ o, H a = some (.frz o (.lst xs))) ∨
    ∃ (o : Obj) (its : Array Value) (n : Nat), K.lookup a = some o ∧ o.cls = .type "list" ∧ o.dict = none ∧ o.data = .seq its n ∧ its.size ≤ sizeLine ∧ Vals xs its.toList
theorem KlL.sq {K : PySem.W.Frag} {H : Hp} {a : Addr} {xs : List V} (h : KlL K H a xs) : SqL K H a xs := by
  rcases h with h | h
  · exact .inl (.inr h)
  · exact .inr h

mutual
inductive RD (K : PySem.W.Frag) (L : Lay) (ρ : List Addr) (H : Hp) : D → V → Prop
  | non : RD K L ρ H .non .non
  | bl (b : Bool) : RD K L ρ H (.bl b) (.bl b)
  | int (i : Int) : RD K L ρ H (.int i) (.int i)
  | str (x : Str) : RD K L ρ H (.str x) (.str x)
  | tup {a : Addr} {xs : List V} {ds : List D} : SqT K H a xs → RDs K L ρ H ds xs → RD K L ρ H (.tup ds) (.ref a)
  | kl {a : Addr} {xs : List V} {ds : List D} : KlL K H a xs → RDs K L ρ H ds xs → RD K L ρ H (.kl ds) (.ref a)
  | ref {i : Nat} {a : Addr} : ρ[i]? = some a → RD K L ρ H (.ref i) (.ref a)
  | fn {k : Nat} {a : Addr} : L.fns[k]? = some a → RD K L ρ H (.fn k) (.ref a)
  | cls {k : Nat} {a : Addr} : L.clss[k]? = some a → RD K L ρ H (.cls k) (.ref a)
  | kd {k : Nat} {a : Addr} : L.kds[k]? = some a → RD K L ρ H (.kd k) (.ref a)
  | ty (n : String) : RD K L ρ H (.ty n) (.ty n)
inductive RDs (K : PySem.W.Frag) (L : Lay) (ρ : List Addr) (H : Hp) : List D → List V → Prop
  | nil : RDs K L ρ H [] []
  | cons {d : D} {v : V} {ds : List D} {vs : List V} : RD K L ρ H d v → RDs K L ρ H ds vs → RDs K L ρ H (d :: ds) (v :: vs)
end

def RFs (K : PySem.W.Frag) (L : Lay) (ρ : List Addr) (H : Hp) : List (Nat × D) → List (Str × V) → Prop := Paired fun p q => L.attrs[p.1]? = some q.1 ∧ RD K L ρ H p.2 q.2
def RKs (K : PySem.W.Frag) (L : Lay) (ρ : List Addr) (H : Hp) : List (Key × D) → List (Key × V) → Prop := Paired fun p q => p.1 = q.1 ∧ RD K L ρ H p.2 q.2

inductive RHO (K : PySem.W.Frag) (L : Lay) (ρ : List Addr) (H : Hp) : O → HO → Prop
  | lst {xs : List D} {vs : List V} : RDs K L ρ H xs vs → RHO K L ρ H (.lst xs) (.lst vs)
  | dic {kvs : List (Key × D)} {vs : List (Key × V)} : RKs K L ρ H kvs vs → RHO K L ρ H (.dic kvs) (.dK vs)
  | fdic {kvs : List (Key × D)} {vs : List (Key × V)} {ob : Obj} : RKs K L ρ H kvs vs → RHO K L ρ H (.fdic kvs) (.frz ob (.dK vs))
  | ins {c : Nat} {C dx : Addr} {fs : List (Nat × D)} {vs : List (Str × V)} : L.clss[c]? = some C → RFs K L ρ H fs vs → RHO K L ρ H (.ins c fs) (.ins C dx vs)
  | xd {c : Nat} {fs : List (Nat × D)} {vs : List (Str × V)} : RFs K L ρ H fs vs → RHO K L ρ H (.xd c fs) (.xd vs)
  | xob {c me j : Nat} {a C d : Addr} : ρ[me]? = some a → L.exs[c]? = some C → ρ[j]? = some d → RHO K L ρ H (.xob c me j) (kx a C d)
  | xo0 {c me : Nat} {a C : Addr} : ρ[me]? = some a → L.exs[c]? = some C → RHO K L ρ H (.xo0 c me) (kx0 a C)

/-- tuples, locked lists -/
inductive Stb : HO → Prop
  | tup (xs : List V) : Stb (.tup xs)
  | flst (o : Obj) (xs : List V) : Stb (.frz o (.lst xs))
  | ftup (o : Obj) (xs : List V) : Stb (.frz o (.tup xs))
theorem RHO.nst {K : PySem.W.Frag} {L : Lay} {ρ : List Addr} {H : Hp} {o : O} {u : HO} (r : RHO K L ρ H o u) : ¬ Stb u := by
  intro s
  cases r <;> cases s

structure RelH (K : PySem.W.Frag) (L : Lay) (ρ : List Addr) (hp : Hq) (H : Hp) : Prop where
  nd : ρ.Nodup
  len : ρ.length = hp.length
  at_ : ∀ (i : Nat) (o : O), hp[i]? = some o → ∃ a u, ρ[i]? = some a ∧ H a = some u ∧ RHO K L ρ H o u

structure Ext (ρ : List Addr) (H : Hp) (ρ' : List Addr) (H' : Hp) : Prop where
  pre : ∃ more, ρ' = ρ ++ more
  new : ∀ a, a ∈ ρ' → a ∈ ρ ∨ H a = none
  out : ∀ a o, H a = some o → a ∉ ρ → H' a = some o
  st : ∀ a o, H a = some o → Stb o → H' a = some o
  fz : ∀ a o kvs, H a = some (.frz o (.dK kvs)) → H' a = some (.frz o (.dK kvs))
theorem Ext.refl (ρ : List Addr) (H : Hp) : Ext ρ H ρ H := ⟨⟨[], by simp⟩, fun _ h => .inl h, fun _ _ h _ => h, fun _ _ h _ => h, fun _ _ _ h => h⟩
/-- what a value's reading needs -/
structure ExtW (ρ : List Addr) (H : Hp) (ρ' : List Addr) (H' : Hp) : Prop where
  pre : ∃ more, ρ' = ρ ++ more
  st : ∀ a o, H a = some o → Stb o → H' a = some o
theorem Ext.w {ρ ρ' : List Addr} {H H' : Hp} (e : Ext ρ H ρ' H') : ExtW ρ H ρ' H' := ⟨e.pre, e.st⟩
theorem Ext.trans {ρ ρ1 ρ2 : List Addr} {H H1 H2 : Hp} (a : Ext ρ H ρ1 H1) (b : Ext ρ1 H1 ρ2 H2) : Ext ρ H ρ2 H2 := by
  obtain ⟨m1, e1⟩ := a.pre
  obtain ⟨m2, e2⟩ := b.pre
  refine ⟨⟨m1 ++ m2, by rw [e2, e1, List.append_assoc]⟩, fun x hx => ?_, fun x o h n => ?_, fun x o h s => b.st x o (a.st x o h s) s, fun x o k h => b.fz x o k (a.fz x o k h)⟩
  · rcases b.new x hx with h | h
    · exact a.new x h
    · by_cases hm : x ∈ ρ
      · exact .inl hm
      · right
        cases q : H x with
        | none => rfl
        | some o => rw [a.out x o q hm] at h; cases h
  · refine b.out x o (a.out x o h n) fun hm => ?_
    rcases a.new x hm with q | q
    · exact n q
    · rw [q] at h; cases h
theorem ExtW.ix {ρ ρ' : List Addr} {H H' : Hp} (e : ExtW ρ H ρ' H') {i : Nat} {a : Addr} (h : ρ[i]? = some a) : ρ'[i]? = some a := by
  obtain ⟨m, rfl⟩ := e.pre
  have hl := (List.getElem?_eq_some_iff.mp h).1
  rw [List.getElem?_append_left hl]
  exact h

theorem Ext.ix {ρ ρ' : List Addr} {H H' : Hp} (e : Ext ρ H ρ' H') {i : Nat} {a : Addr} (h : ρ[i]? = some a) : ρ'[i]? = some a := e.w.ix h
section
variable {K : PySem.W.Frag} {L : Lay} {ρ ρ' : List Addr} {H H' : Hp}
theorem SqT.monoW {a : Addr} {xs : List V} (e : ExtW ρ H ρ' H') (h : SqT K H a xs) : SqT K H' a xs := by
  rcases h with (h | ⟨o, h⟩) | h
  · exact .inl (.inl (e.st _ _ h (.tup xs)))
  · exact .inl (.inr ⟨o, e.st _ _ h (.ftup o xs)⟩)
  · exact .inr h
theorem KlL.monoW {a : Addr} {xs : List V} (e : ExtW ρ H ρ' H') (h : KlL K H a xs) : KlL K H' a xs := by
  rcases h with ⟨o, h⟩ | h
  · exact .inl ⟨o, e.st _ _ h (.flst o xs)⟩
  · exact .inr h
mutual
theorem RD.monoW (e : ExtW ρ H ρ' H') : ∀ {d : D} {v : V}, RD K L ρ H d v → RD K L ρ' H' d v
  | _, _, .non => .non
  | _, _, .bl b => .bl b
  | _, _, .int i => .int i
  | _, _, .str x => .str x
  | _, _, .tup h r => .tup (SqT.monoW e h) (RDs.monoW e r)
  | _, _, .kl h r => .kl (KlL.monoW e h) (RDs.monoW e r)
  | _, _, .ref h => .ref (e.ix h)
  | _, _, .fn h => .fn h
  | _, _, .cls h => .cls h
  | _, _, .kd h => .kd h
  | _, _, .ty n => .ty n
theorem RDs.monoW (e : ExtW ρ H ρ' H') : ∀ {d : List D} {v : List V}, RDs K L ρ H d v → RDs K L ρ' H' d v
  | _, _, .nil => .nil
  | _, _, .cons r t => .cons (RD.monoW e r) (RDs.monoW e t)
end
theorem Paired.imp' {α β : Type} {F G : α → β → Prop} (f : ∀ a b, F a b → G a b) : ∀ {l₁ : List α} {l₂ : List β}, Paired F l₁ l₂ → Paired G l₁ l₂
  | _, _, .nil => .nil
  | _, _, .cons r t => .cons (f _ _ r) (Paired.imp' f t)
theorem RFs.monoW (e : ExtW ρ H ρ' H') {fs : List (Nat × D)} {vs : List (Str × V)} (h : RFs K L ρ H fs vs) : RFs K L ρ' H' fs vs := Paired.imp' (fun _ _ q => ⟨q.1, q.2.monoW e⟩) h
theorem RKs.monoW (e : ExtW ρ H ρ' H') {fs : List (Key × D)} {vs : List (Key × V)} (h : RKs K L ρ H fs vs) : RKs K L ρ' H' fs vs := Paired.imp' (fun _ _ q => ⟨q.1, q.2.monoW e⟩) h
theorem RHO.monoW (e : ExtW ρ H ρ' H') {o : O} {u : HO} (h : RHO K L ρ H o u) : RHO K L ρ' H' o u := by
  cases h with
  | lst r => exact .lst (r.monoW e)
  | dic r => exact .dic (r.monoW e)
  | fdic r => exact .fdic (r.monoW e)
  | ins c r => exact .ins c (r.monoW e)
  | xd r => exact .xd (r.monoW e)
  | xob h1 h2 h3 => exact .xob (e.ix h1) h2 (e.ix h3)
  | xo0 h1 h2 => exact .xo0 (e.ix h1) h2

theorem SqT.mono {a : Addr} {xs : List V} (e : Ext ρ H ρ' H') (h : SqT K H a xs) : SqT K H' a xs := SqT.monoW e.w h
theorem KlL.mono {a : Addr} {xs : List V} (e : Ext ρ H ρ' H') (h : KlL K H a xs) : KlL K H' a xs := KlL.monoW e.w h
theorem RD.mono (e : Ext ρ H ρ' H') {d : D} {v : V} (h : RD K L ρ H d v) : RD K L ρ' H' d v := RD.monoW e.w h
theorem RDs.mono (e : Ext ρ H ρ' H') {d : List D} {v : List V} (h : RDs K L ρ H d v) : RDs K L ρ' H' d v := RDs.monoW e.w h
theorem RFs.mono (e : Ext ρ H ρ' H') {fs : List (Nat × D)} {vs : List (Str × V)} (h : RFs K L ρ H fs vs) : RFs K L ρ' H' fs vs := RFs.monoW e.w h
theorem RKs.mono (e : Ext ρ H ρ' H') {fs : List (Key × D)} {vs : List (Key × V)} (h : RKs K L ρ H fs vs) : RKs K L ρ' H' fs vs := RKs.monoW e.w h
theorem RHO.mono (e : Ext ρ H ρ' H') {o : O} {u : HO} (h : RHO K L ρ H o u) : RHO K L ρ' H' o u := RHO.monoW e.w h

theorem RelH.at2 {hp : Hq} (r : RelH K L ρ hp H) {i : Nat} {a : Addr} (h : ρ[i]? = some a) : ∃ o u, hp[i]? = some o ∧ H a = some u ∧ RHO K L ρ H o u := by
  have hl := (List.getElem?_eq_some_iff.mp h).1
  have hl2 : i < hp.length := by rw [← r.len]; exact hl
  obtain ⟨a', u, h1, h2, h3⟩ := r.at_ i hp[i] (List.getElem?_eq_getElem hl2)
  rw [h] at h1
  cases h1
  exact ⟨_, u, List.getElem?_eq_getElem hl2, h2, h3⟩
theorem RelH.mem {hp : Hq} (r : RelH K L ρ hp H) {a : Addr} (h : a ∈ ρ) : ∃ (i : Nat) (o : O) (u : HO), ρ[i]? = some a ∧ hp[i]? = some o ∧ H a = some u ∧ RHO K L ρ H o u := by
  obtain ⟨i, hi, e⟩ := List.mem_iff_getElem.mp h
  have e' : ρ[i]? = some a := by rw [List.getElem?_eq_getElem hi, e]
  obtain ⟨o, u, h1, h2, h3⟩ := r.at2 e'
  exact ⟨i, o, u, e', h1, h2, h3⟩
theorem RelH.notin {hp : Hq} (r : RelH K L ρ hp H) {p : Addr} (h : H p = none) : p ∉ ρ := fun hm => by
  obtain ⟨_, _, u, _, _, e, _⟩ := r.mem hm
  rw [h] at e; cases e
theorem RelH.stnot {hp : Hq} (r : RelH K L ρ hp H) {p : Addr} {u : HO} (h : H p = some u) (s : Stb u) : p ∉ ρ := fun hm => by
  obtain ⟨_, _, u', _, _, e, q⟩ := r.mem hm
  rw [h] at e; cases e
  exact q.nst s

/-- a new thing, told in the small heap too -/
theorem RelH.push {hp : Hq} {p : Addr} {o : O} {u : HO} (r : RelH K L ρ hp H) (hn : H p = none) (q : RHO K L ρ H o u) :
    RelH K L (ρ ++ [p]) (hp ++ [o]) (upd H p u) ∧ Ext ρ H (ρ ++ [p]) (upd H p u) := by
  have e : Ext ρ H (ρ ++ [p]) (upd H p u) := by
    refine ⟨⟨[p], rfl⟩, fun a ha => ?_, fun a o' h _ => ?_, fun a o' h _ => ?_, fun a o' k h => ?_⟩
    · rcases List.mem_append.mp ha with h | h
      · exact .inl h
      · have : a = p := by simpa using h
        subst this
        exact .inr hn
    · rw [upd_ne (ne_of_none h hn)]; exact h
    · rw [upd_ne (ne_of_none h hn)]; exact h
    · rw [upd_ne (ne_of_none h hn)]; exact h
  refine ⟨⟨?_, by simp [r.len], fun i o' h => ?_⟩, e⟩
  · rw [List.nodup_append]
    refine ⟨r.nd, by simp, fun a ha b hb => ?_⟩
    have : b = p := by simpa using hb
    subst this
    exact fun z => r.notin hn (z ▸ ha)
  · by_cases hi : i < hp.length
    · rw [List.getElem?_append_left hi] at h
      obtain ⟨a, u', h1, h2, h3⟩ := r.at_ i o' h
      exact ⟨a, u', e.ix h1, by rw [upd_ne (ne_of_none h2 hn)]; exact h2, h3.mono e⟩
    · have hl : i < (hp ++ [o]).length := (List.getElem?_eq_some_iff.mp h).1
      have hi2 : i = hp.length := by
        rw [List.length_append, List.length_singleton] at hl
        omega
      subst hi2
      rw [List.getElem?_append_right (Nat.le_refl _)] at h
      have : o = o' := by simpa using h
      subst this
      refine ⟨p, u, ?_, upd_same, q.mono e⟩
      rw [← r.len, List.getElem?_append_right (Nat.le_refl _)]
      simp
/-- a new thing, not told -/
theorem RelH.tmp {hp : Hq} {p : Addr} {u : HO} (r : RelH K L ρ hp H) (hn : H p = none) : RelH K L ρ hp (upd H p u) ∧ Ext ρ H ρ (upd H p u) := by
  have e : Ext ρ H ρ (upd H p u) := ⟨⟨[], by simp⟩, fun _ h => .inl h, fun a o' h _ => by rw [upd_ne (ne_of_none h hn)]; exact h, fun a o' h _ => by rw [upd_ne (ne_of_none h hn)]; exact h, fun a o' k h => by rw [upd_ne (ne_of_none h hn)]; exact h⟩
  refine ⟨⟨r.nd, r.len, fun i o' h => ?_⟩, e⟩
  obtain ⟨a, u', h1, h2, h3⟩ := r.at_ i o' h
  exact ⟨a, u', h1, by rw [upd_ne (ne_of_none h2 hn)]; exact h2, h3.mono e⟩
/-- a change -/
theorem RelH.put {hp : Hq} {i : Nat} {a : Addr} {o : O} {u : HO} (r : RelH K L ρ hp H) (ha : ρ[i]? = some a) (q : RHO K L ρ H o u) (hu : ∀ o' k, H a ≠ some (.frz o' (.dK k))) :
    RelH K L ρ (hp.set i o) (upd H a u) ∧ Ext ρ H ρ (upd H a u) := by
  obtain ⟨o0, u0, g1, g2, g3⟩ := r.at2 ha
  have e : Ext ρ H ρ (upd H a u) := by
    refine ⟨⟨[], by simp⟩, fun _ h => .inl h, fun b o' h n => ?_, fun b o' h s => ?_, fun b o' k h => ?_⟩
    · rw [upd_ne fun z => n (by rw [z]; exact List.mem_of_getElem? ha)]; exact h
    · rw [upd_ne fun z => ?_]
      · exact h
      · subst z
        rw [g2] at h; cases h
        exact g3.nst s
    · rw [upd_ne fun z => hu o' k (by rw [← z]; exact h)]; exact h
  refine ⟨⟨r.nd, by simp [r.len], fun j o' h => ?_⟩, e⟩
  by_cases hj : i = j
  · subst hj
    have hl : i < hp.length := (List.getElem?_eq_some_iff.mp g1).1
    rw [List.getElem?_set_self hl] at h
    cases h
    exact ⟨a, u, ha, upd_same, q.mono e⟩
  · rw [List.getElem?_set_ne hj] at h
    obtain ⟨b, u', h1, h2, h3⟩ := r.at_ j o' h
    refine ⟨b, u', h1, ?_, h3.mono e⟩
    rw [upd_ne fun z => ?_]
    · exact h2
    · subst z
      exact hj (nodup_at r.nd ha h1)

/-! ### lists of related values -/
theorem RDs.len : ∀ {ds : List D} {vs : List V}, RDs K L ρ H ds vs → ds.length = vs.length
  | _, _, .nil => rfl
  | _, _, .cons _ t => by rw [List.length_cons, List.length_cons, RDs.len t]
theorem RDs.get : ∀ {ds : List D} {vs : List V} {i : Nat} {d : D}, RDs K L ρ H ds vs → ds[i]? = some d → ∃ v, vs[i]? = some v ∧ RD K L ρ H d v
  | _, _, _, _, .nil, h => by simp at h
  | _, _, 0, _, .cons r _, h => by
    simp at h
    subst h
    exact ⟨_, rfl, r⟩
  | _, _, i + 1, _, .cons _ t, h => by
    obtain ⟨v, h1, h2⟩ := RDs.get (i := i) t (by simpa using h)
    exact ⟨v, by simpa using h1, h2⟩
theorem RDs.getV : ∀ {ds : List D} {vs : List V} {i : Nat} {v : V}, RDs K L ρ H ds vs → vs[i]? = some v → ∃ d, ds[i]? = some d ∧ RD K L ρ H d v
  | _, _, _, _, .nil, h => by simp at h
  | _, _, 0, _, .cons r _, h => by
    simp at h
    subst h
    exact ⟨_, rfl, r⟩
  | _, _, i + 1, _, .cons _ t, h => by
    obtain ⟨v, h1, h2⟩ := RDs.getV (i := i) t (by simpa using h)
    exact ⟨v, by simpa using h1, h2⟩
theorem RDs.app : ∀ {ds es : List D} {vs us : List V}, RDs K L ρ H ds vs → RDs K L ρ H es us → RDs K L ρ H (ds ++ es) (vs ++ us)
  | _, _, _, _, .nil, s => s
  | _, _, _, _, .cons r t, s => .cons r (RDs.app t s)
theorem RDs.take : ∀ {ds : List D} {vs : List V} (n : Nat), RDs K L ρ H ds vs → RDs K L ρ H (ds.take n) (vs.take n)
  | _, _, 0, _ => .nil
  | _, _, _ + 1, .nil => .nil
  | _, _, n + 1, .cons r t => .cons r (RDs.take n t)
theorem RDs.drop : ∀ {ds : List D} {vs : List V} (n : Nat), RDs K L ρ H ds vs → RDs K L ρ H (ds.drop n) (vs.drop n)
  | _, _, 0, r => r
  | _, _, _ + 1, .nil => .nil
  | _, _, n + 1, .cons _ t => RDs.drop n t
theorem RDs.set : ∀ {ds : List D} {vs : List V} {d : D} {v : V} (i : Nat), RD K L ρ H d v → RDs K L ρ H ds vs → RDs K L ρ H (ds.set i d) (vs.set i v)
  | _, _, _, _, _, _, .nil => .nil
  | _, _, _, _, 0, q, .cons _ t => .cons q t
  | _, _, _, _, i + 1, q, .cons r t => .cons r (RDs.set i q t)
theorem RDs.rep {ds : List D} {vs : List V} (h : RDs K L ρ H ds vs) : ∀ n, RDs K L ρ H (List.replicate n ds).flatten (List.replicate n vs).flatten
  | 0 => .nil
  | n + 1 => by
    rw [List.replicate_succ, List.replicate_succ, List.flatten_cons, List.flatten_cons]
    exact h.app (RDs.rep h n)
theorem RDs.one {d : D} {v : V} (h : RD K L ρ H d v) : RDs K L ρ H [d] [v] := .cons h .nil

/-! ### data -/
mutual
theorem toP_dp {hp : Hq} (r : RelH K L ρ hp H) : ∀ (n : Nat) (d : D) (v : V) (a : PyData), RD K L ρ H d v → toP n hp d = some a → Dp K H v a
  | 0, _, _, _, _, h => by cases h
  | n + 1, d, v, a, q, h => by
    cases q with
    | non => cases h; exact .non
    | bl b => cases h; exact .bl b
    | int i => cases h; exact .int i
    | str x => cases h; exact .str x
    | @tup p xs ds hs t =>
      have h' : (mapO (toP n hp) ds).map .tuple = some a := h
      cases e : mapO (toP n hp) ds with
      | none => rw [e] at h'; cases h'
      | some as =>
        rw [e] at h'
        cases h'
        exact .tup hs (toPs_dp r n ds xs as t e)
    | @kl p xs ds hs t =>
      have h' : (mapO (toP n hp) ds).map .list = some a := h
      cases e : mapO (toP n hp) ds with
      | none => rw [e] at h'; cases h'
      | some as =>
        rw [e] at h'
        cases h'
        exact .lst hs.sq (toPs_dp r n ds xs as t e)
    | @ref i p hs =>
      have h' : (match gtL hp i with | some ds => (mapO (toP n hp) ds).map .list | none => none) = some a := h
      obtain ⟨o, u, h1, h2, h3⟩ := r.at2 hs
      unfold gtL at h'
      rw [h1] at h'
      cases h3 with
      | @lst xs vs t =>
        have h' : (mapO (toP n hp) xs).map .list = some a := h'
        cases e : mapO (toP n hp) xs with
        | none => rw [e] at h'; cases h'
        | some as =>
          rw [e] at h'
          cases h'
          exact .lst (.of h2) (toPs_dp r n xs vs as t e)
      | _ => cases h'
    | _ => cases h
theorem toPs_dp {hp : Hq} (r : RelH K L ρ hp H) : ∀ (n : Nat) (ds : List D) (vs : List V) (as : List PyData), RDs K L ρ H ds vs → mapO (toP n hp) ds = some as → DpAll K H vs as
  | n, [], _, as, .nil, h => by cases h; exact .nil
  | n, d :: ds, _, as, .cons q t, h => by
    unfold mapO at h
    cases e : toP n hp d with
    | none => rw [e] at h; cases h
    | some y =>
      rw [e] at h
      cases e2 : mapO (toP n hp) ds with
      | none => simp only [e2] at h; cases h
      | some ys =>
        simp only [e2] at h
        cases h
        exact .cons (toP_dp r n d _ y q e) (toPs_dp r n ds _ ys t e2)
end

/-! ### names in slots -/
structure RE (K : PySem.W.Frag) (L : Lay) (ρ : List Addr) (H : Hp) (env : Env) (σ : L2.St) : Prop where
  len : env.length = σ.length
  at_ : ∀ (i : Nat) (d : D), env[i]? = some (some d) → ∃ v, σ[i]? = some (some v) ∧ RD K L ρ H d v
theorem RE.monoW {env : Env} {σ : L2.St} (e : ExtW ρ H ρ' H') (h : RE K L ρ H env σ) : RE K L ρ' H' env σ := ⟨h.len, fun i d q => let ⟨v, h1, h2⟩ := h.at_ i d q; ⟨v, h1, h2.monoW e⟩⟩
theorem RE.mono {env : Env} {σ : L2.St} (e : Ext ρ H ρ' H') (h : RE K L ρ H env σ) : RE K L ρ' H' env σ := ⟨h.len, fun i d q => let ⟨v, h1, h2⟩ := h.at_ i d q; ⟨v, h1, h2.mono e⟩⟩
theorem RE.set {env : Env} {σ : L2.St} {d : D} {v : V} (h : RE K L ρ H env σ) (i : Nat) (r : RD K L ρ H d v) : RE K L ρ H (env.set i (some d)) (σ.set i (some v)) := by
  refine ⟨by simp [h.len], fun j e q => ?_⟩
  by_cases hj : i = j
  · subst hj
    have hl : i < env.length := by
      have := (List.getElem?_eq_some_iff.mp q).1
      simpa using this
    rw [List.getElem?_set_self hl] at q
    cases q
    exact ⟨v, by rw [List.getElem?_set_self (by rw [← h.len]; exact hl)], r⟩
  · rw [List.getElem?_set_ne hj] at q
    obtain ⟨w, h1, h2⟩ := h.at_ j e q
    exact ⟨w, by rw [List.getElem?_set_ne hj]; exact h1, h2⟩
theorem RE.wipe {env : Env} {σ : L2.St} (h : RE K L ρ H env σ) : ∀ own : List Nat, RE K L ρ H (wipeE env own) (L2.wipe σ own) := by
  intro own
  induction own with
  | nil => exact h
  | cons i r ih =>
    show RE K L ρ H ((wipeE env r).set i none) ((L2.wipe σ r).set i none)
    refine ⟨by simp [ih.len], fun j e q => ?_⟩
    by_cases hj : i = j
    · subst hj
      by_cases hl : i < (wipeE env r).length
      · rw [List.getElem?_set_self hl] at q; cases q
      · have := (List.getElem?_eq_some_iff.mp q).1
        exact absurd (by simpa using this) hl
    · rw [List.getElem?_set_ne hj] at q
      obtain ⟨w, h1, h2⟩ := ih.at_ j e q
      exact ⟨w, by rw [List.getElem?_set_ne hj]; exact h1, h2⟩
end
end MI
/-! MI, part 4: that a tree of the text is the tree of the small language. -/
namespace MI
open PySem L2

/-- the names by which the text calls its things -/
structure Nm where
  fnN : List (Option Str)
  clsN : List Str
  constN : List Str
  attrs : List Str
  mths : List Str
  blts : List Str
  shp : List (Nat × Nat × List Str × List Nat) := []
  mks : List (Nat × Nat × List Str × List Nat) := []
  excN : List (Str × Nat) := []
  exc0 : List (Nat × Str) := []
  exm : List (Str × List Bool) := []

structure Ck where
  nm : Nm
  sc : Scope
  N : List Str
  top : Bool

def bopOf : BOp → Operator
  | .add => .Add | .sub => .Sub | .mul => .Mult | .fdiv => .FloorDiv | .mod => .Mod | .pow => .Pow
def copOf : COp → CmpOp
  | .eq => .Eq | .ne => .NotEq | .lt => .Lt | .le => .LtE | .gt => .Gt | .ge => .GtE | .is => .Is | .nis => .IsNot | .isin => .In | .nin => .NotIn
def bfName : BF → Str
  | .len => "len" | .list1 => "list" | .tuple1 => "tuple" | .dict1 => "dict" | .dict0 => "dict" | .int1 => "int" | .str1 => "str" | .repr => "repr" | .sum1 => "sum"
  | .max1 => "max" | .min1 => "min" | .max2 => "max" | .min2 => "min" | .sorted1 => "sorted" | .all1 => "all" | .any1 => "any" | .isi => "isinstance"
def bfAr : BF → Nat
  | .max2 => 2 | .min2 => 2 | .isi => 2 | _ => 1
def bmName : BM → Str
  | .append => "append" | .extend => "extend" | .pop0 => "pop" | .pop1 => "pop" | .pop2 => "pop" | .get1 => "get" | .get2 => "get" | .setdef => "setdefault" | .clear => "clear"

def Ck.glob (c : Ck) (x : Str) : Bool := decide (c.sc.names.lookup x = some .globalImplicit) && !(x == ("__debug__" : Str)) && decide (x ≠ ("__name__" : Str)) && (x != ("super" : Str))
def Ck.vis (c : Ck) (x : Str) : Bool := (match c.sc.names.lookup x with | some .local => true | some .cell => true | some .free => true | _ => false) && !(x == ("__debug__" : Str)) && !(x == ("__classdict__" : Str))
def Ck.loc (c : Ck) (x : Str) : Bool := match c.sc.names.lookup x with | some .local => true | some .cell => c.top | _ => false
def Ck.inner (c : Ck) (scope : Scope) : Ck := { c with sc := relS scope c.sc, top := false }
def ownOf (N : List Str) (own : List Nat) : List (Str × Nat) := own.map fun i => (N.getD i "", i)

def isSub (e : Expr) : Bool := match e with | .Starred _ _ => true | .Set _ _ _ => true | .Slice _ _ _ _ => true | _ => false
def noComp (e : Expr) : Bool := match e with | .ListComp _ _ _ _ => false | .SetComp _ _ _ _ => false | .DictComp _ _ _ _ _ => false | _ => true
def isTupX (e : Expr) : Bool := match e with | .Tuple _ _ _ => true | _ => false
def isBoolX (e : Expr) : Bool := match e with | .BoolOp _ _ _ => true | _ => false
/-- what a test takes apart -/
def tstX (e : Expr) : Bool := match e with | .UnaryOp .Not _ _ => true | .BoolOp _ _ _ => true | .IfExp _ _ _ _ => true | .Compare _ _ _ _ => true | _ => false
def tstK : Ex → Bool
  | .cmp _ _ _ => true | .cmp2 _ _ _ _ _ => true | .and _ _ => true | .or _ _ => true | .not _ => true | .ite _ _ _ => true | _ => false
/-- pairs come: the target is a tuple -/
def itTg (it : Ix) (e : Expr) : Bool := match it with
  | .enum _ => isTupX e
  | .zip2 _ _ => isTupX e
  | .items _ => isTupX e
  | _ => true
/-- no name but a set's, a slice's, a star's: what stands as an item -/
def tgSlots : Tg → List Nat
  | .nm i => [i]
  | _ => []

def takeX : Nat → Exs → Exs
  | 0, _ => .nil
  | _ + 1, .nil => .nil
  | n + 1, .cons e r => .cons e (takeX n r)
def dropX : Nat → Exs → Exs
  | 0, es => es
  | _ + 1, .nil => .nil
  | n + 1, .cons _ r => dropX n r
def kwNames (ks : List Keyword) : List Str := ks.map fun k => k.arg.getD ""
mutual
def chkE (c : Ck) : Ex → Expr → Bool
  | .var i, e => match e with
    | .Name x _ => decide (c.N[i]? = some x) && c.vis x
    | _ => false
  | .lit d, e => match d, e with
    | .non, .Constant .none _ _ => true
    | .bl b, .Constant (.bool b') _ _ => b == b'
    | .int i, .Constant (.int j) _ _ => decide (i = j)
    | .str x, .Constant (.str y) _ _ => decide (x = y)
    | _, _ => false
  | .glob g, e => match e with
    | .Name x _ => decide (c.nm.constN[g]? = some x) && c.glob x
    | _ => false
  | .bin o a b, e => match e with
    | .BinOp x p y _ => decide (p = bopOf o) && chkE c a x && chkE c b y
    | _ => false
  | .neg a, e => match e with
    | .UnaryOp .USub x _ => chkE c a x
    | _ => false
  | .cmp o a b, e => match e with
    | .Compare x [p] [y] _ => decide (p = copOf o) && chkE c a x && chkE c b y
    | _ => false
  | .cmp2 o p a b d, e => match e with
    | .Compare x [q, r] [y, z] _ => decide (q = copOf o) && decide (r = copOf p) && chkE c a x && chkE c b y && chkE c d z
    | _ => false
  | .and a b, e => match e with
    | .BoolOp .And (x :: y :: rest) p => chkE c a x && (match rest with | [] => chkE c b y | _ => chkE c b (.BoolOp .And (y :: rest) p))
    | _ => false
  | .or a b, e => match e with
    | .BoolOp .Or (x :: y :: rest) p => chkE c a x && (match rest with | [] => chkE c b y | _ => chkE c b (.BoolOp .Or (y :: rest) p))
    | _ => false
  | .not a, e => match e with
    | .UnaryOp .Not x _ => chkE c a x
    | _ => false
  | .ite t a b, e => match e with
    | .IfExp x y z _ => chkE c t x && chkE c a y && chkE c b z
    | _ => false
  | .tup es, e => match e with
    | .Tuple xs _ _ => chkEs c es xs && decide (xs.length ≤ 1000)
    | _ => false
  | .lst es, e => match e with
    | .List xs _ => chkEs c es xs && decide (xs.length ≤ 1000)
    | _ => false
  | .dic es, e => match e with
    | .Dict ks vs _ => chkDi c es ks vs && decide (ks.length ≤ 15)
    | _ => false
  | .bty n, e => match e with
    | .Name x _ => decide (x = PySem.Str.ofString n) && tyAll.contains n && c.glob x && c.nm.blts.contains x
    | _ => false
  | .mmd mx a d, e => match e with
    | .Call (.Name x _) [y] [⟨some k, z, _⟩] _ => decide (x = (if mx then "max" else "min" : Str)) && decide (k = "default") && c.glob x && c.nm.blts.contains x && chkE c a y && chkE c d z
    | _ => false
  | .ix a i, e => match e with
    | .Subscript x y _ => chkE c a x && chkE c i y
    | _ => false
  | .sl a lo hi, e => match e with
    | .Subscript x (.Slice l h none _) _ => chkE c a x && chkEo c lo l && chkEo c hi h
    | _ => false
  | .fld a f, e => match e with
    | .Attribute x n _ => decide (c.nm.attrs[f]? = some n) && chkE c a x
    | _ => false
  | .call f es, e => match e with
    | .Call (.Name x _) (y :: ys) [] _ => decide (c.nm.fnN[f]? = some (some x)) && c.glob x && chkEs c es (y :: ys)
    | .Call (.Name x _) [] [] _ => decide (c.nm.fnN[f]? = some (some x)) && c.glob x && (match es with | .nil => true | _ => false)
    | _ => false
  | .make k es, e => match e with
    | .Call (.Name x _) (y :: ys) [] _ => decide (c.nm.clsN[k]? = some x) && c.glob x && chkEs c es (y :: ys)
    | .Call (.Name x _) [] [] _ => decide (c.nm.clsN[k]? = some x) && c.glob x && (match es with | .nil => true | _ => false)
    | _ => false
  | .meth a m es, e => match e with
    | .Call (.Attribute o n p) (y :: ys) [] q => decide (c.nm.mths[m]? = some n) && chkE c a o && chkEs c es (y :: ys) && decide ((y :: ys).length ≤ 20) && (p.endLine == q.line)
    | .Call (.Attribute o n p) [] [] q => decide (c.nm.mths[m]? = some n) && chkE c a o && (match es with | .nil => true | _ => false) && (p.endLine == q.line)
    | _ => false
  | .blt b es, e => match e with
    | .Call (.Name x _) (y :: ys) [] _ => decide (x = bfName b) && c.glob x && c.nm.blts.contains x && chkEs c es (y :: ys) && decide ((y :: ys).length = bfAr b)
    | _ => false
  | .bm m a es, e => match e with
    | .Call (.Attribute o n p) (y :: ys) [] q => decide (n = bmName m) && chkE c a o && chkEs c es (y :: ys) && decide ((y :: ys).length ≤ 2) && (p.endLine == q.line)
    | .Call (.Attribute o n p) [] [] q => decide (n = bmName m) && chkE c a o && (match es with | .nil => true | _ => false) && (p.endLine == q.line)
    | _ => false
  | .lc own t it d e', e => match e with
    | .ListComp elt [⟨tg, iter, ifs, 0⟩] scope _ => blkC c.N c.sc scope (ownOf c.N own) && chkTg (c.inner scope) t tg && (tgIn own t) && itTg it tg && chkIt c it iter && chkIf (c.inner scope) d ifs && chkE (c.inner scope) e' elt
    | _ => false
  | .dc own t it d k e', e => match e with
    | .DictComp kx vx [⟨tg, iter, ifs, 0⟩] scope _ => blkC c.N c.sc scope (ownOf c.N own) && chkTg (c.inner scope) t tg && (tgIn own t) && itTg it tg && chkIt c it iter && chkIf (c.inner scope) d ifs && chkE (c.inner scope) k kx && chkE (c.inner scope) e' vx
    | _ => false
  | .lc2 own own1 t it t1 a e', e => match e with
    | .ListComp elt [⟨tg, iter, [], 0⟩, ⟨tg1, iter1, [], 0⟩] scope _ => blkC c.N c.sc scope (ownOf c.N own) && chkTg (c.inner scope) t tg && (tgIn own t) && itTg it tg && chkIt c it iter && chkTg (c.inner scope) t1 tg1 && (tgIn own1 t1) && (own1.all fun i => own.contains i) && chkE (c.inner scope) a iter1 && chkE (c.inner scope) e' elt
    | _ => false
  | .lenD a m, e => match e with
    | .Call (.Name x _) [y] [] _ => decide (x = "len") && c.glob x && c.nm.blts.contains x && decide (c.nm.mths[m]? = some "__len__") && chkE c a y
    | _ => false
  | .isx a bs, e => match e with
    | .Call (.Name x _) [y, .Name z _] [] _ => decide (x = "isinstance") && c.glob x && c.nm.blts.contains x && chkE c a y && c.glob z && c.nm.exm.contains (z, bs)
    | .Call (.Name x _) [y, .Tuple [.Name z _, .Name z2 _] _ _] [] _ => decide (x = "isinstance") && c.glob x && c.nm.blts.contains x && chkE c a y && c.glob z && c.glob z2 && (c.nm.exm.any fun p => p.1 == z && c.nm.exm.any fun q => q.1 == z2 && decide (bs = List.zipWith (· || ·) p.2 q.2))
    | .Call (.Name x _) [y, .Tuple [.Name z _, .Name z2 _, .Name z3 _] _ _] [] _ => decide (x = "isinstance") && c.glob x && c.nm.blts.contains x && chkE c a y && c.glob z && c.glob z2 && c.glob z3 && (c.nm.exm.any fun p => p.1 == z && c.nm.exm.any fun q => q.1 == z2 && c.nm.exm.any fun w => w.1 == z3 && decide (bs = List.zipWith (· || ·) p.2 (List.zipWith (· || ·) q.2 w.2)))
    | _ => false
  | .xfd a f, e => match e with
    | .Attribute y m _ => decide (c.nm.attrs[f]? = some m) && (c.nm.excN.any fun p => decide (p.2 = f)) && chkE c a y
    | _ => false
  | .xnew k f a, e => match e with
    | .Call (.Name x _) [y] [] _ => decide (c.nm.excN[k]? = some (x, f)) && c.glob x && chkE c a y
    | _ => false
  | .xnw0 k, e => match e with
    | .Call (.Name x _) [] [] _ => c.nm.exc0.contains (k, x) && c.glob x
    | _ => false
  | .callK f es pm, e => match e with
    | .Call (.Name u _) xs (k :: ks) _ => decide (c.nm.fnN[f]? = some (some u)) && c.glob u && chkEk c es xs (k :: ks) &&
      (k :: ks).all (fun z => z.arg.isSome) && (c.nm.shp.any fun z => decide (z.1 = f) && decide (z.2.1 = xs.length) && decide (z.2.2.1 = kwNames (k :: ks)) && decide (pm.map (fun s => match s with | .inl j => some j | .inr _ => none) = z.2.2.2.map some))
    | _ => false
  | .makeK _ _ _, _ => false
  | .methK a m es pm, e => match e with
    | .Call (.Attribute o n p) xs (k :: ks) q => decide (c.nm.mths[m]? = some n) && chkE c a o && chkEk c es xs (k :: ks) &&
      (k :: ks).all (fun z => z.arg.isSome) && (c.nm.mks.any fun z => decide (z.1 = m) && decide (z.2.1 = xs.length) && decide (z.2.2.1 = kwNames (k :: ks)) && decide (pm.map (fun s => match s with | .inl j => some j | .inr _ => none) = z.2.2.2.map some)) && decide (xs.length + (k :: ks).length ≤ 20) && (p.endLine == q.line)
    | _ => false
def chkEs (c : Ck) : Exs → List Expr → Bool
  | .nil, xs => match xs with
    | [] => true
    | _ => false
  | .cons e r, xs => match xs with
    | y :: ys => chkE c e y && chkEs c r ys
    | [] => false
def chkEk (c : Ck) : Exs → List Expr → List Keyword → Bool
  | .nil, xs, ks => match xs, ks with
    | [], [] => true
    | _, _ => false
  | .cons e r, xs, ks => match xs with
    | y :: ys => chkE c e y && chkEk c r ys ks
    | [] => match ks with
      | k :: ks => chkE c e k.value && chkEk c r [] ks
      | [] => false
def chkDi (c : Ck) : Exs → List (Option Expr) → List Expr → Bool
  | .nil, ks, vs => match ks, vs with
    | [], [] => true
    | _, _ => false
  | .cons e r, ks, vs => match r with
    | .nil => false
    | .cons e' r' => match ks, vs with
      | some x :: xs, y :: ys => chkE c e x && chkE c e' y && chkDi c r' xs ys
      | _, _ => false
def chkEo (c : Ck) : Exo → Option Expr → Bool
  | .no, x => match x with
    | none => true
    | _ => false
  | .so e, x => match x with
    | some y => chkE c e y
    | none => false
def chkIf (c : Ck) : Exo → List Expr → Bool
  | .no, x => match x with
    | [] => true
    | _ => false
  | .so e, x => match x with
    | [y] => chkE c e y
    | _ => false
def chkTg (c : Ck) : Tg → Expr → Bool
  | .nm i, e => match e with
    | .Name x _ => decide (c.N[i]? = some x) && c.loc x
    | _ => false
  | .tp ts, e => match e with
    | .Tuple xs _ _ => chkTgs c ts xs
    | _ => false
  | .at o f, e => match e with
    | .Attribute x n _ => decide (c.nm.attrs[f]? = some n) && chkE c o x
    | _ => false
  | .sb o i, e => match e with
    | .Subscript x y _ => chkE c o x && chkE c i y
    | _ => false
def chkTgs (c : Ck) : Tgs → List Expr → Bool
  | .nil, xs => match xs with
    | [] => true
    | _ => false
  | .cons t r, xs => match xs with
    | y :: ys => chkTg c t y && chkTgs c r ys
    | [] => false
/-- a target that stores only names of some slots -/
def tgIn (own : List Nat) : Tg → Bool
  | .nm i => own.contains i
  | .tp ts => tgsIn own ts
  | _ => false
def tgsIn (own : List Nat) : Tgs → Bool
  | .nil => true
  | .cons t r => tgIn own t && tgsIn own r
def chkIt (c : Ck) : Ix → Expr → Bool
  | .vl e, x => chkE c e x
  | .rng1 e, x => match x with
    | .Call (.Name n _) [y] [] _ => decide (n = "range") && c.glob n && c.nm.blts.contains n && chkE c e y
    | _ => false
  | .rng2 a b, x => match x with
    | .Call (.Name n _) [y, z] [] _ => decide (n = "range") && c.glob n && c.nm.blts.contains n && chkE c a y && chkE c b z
    | _ => false
  | .enum e, x => match x with
    | .Call (.Name n _) [y] [] _ => decide (n = "enumerate") && c.glob n && c.nm.blts.contains n && chkE c e y
    | _ => false
  | .zip2 a b, x => match x with
    | .Call (.Name n _) [y, z] [] _ => decide (n = "zip") && c.glob n && c.nm.blts.contains n && chkE c a y && chkE c b z
    | _ => false
  | .items e, x => match x with
    | .Call (.Attribute y n p) [] [] q => decide (n = "items") && chkE c e y && (p.endLine == q.line)
    | _ => false
  | .vals e, x => match x with
    | .Call (.Attribute y n p) [] [] q => decide (n = "values") && chkE c e y && (p.endLine == q.line)
    | _ => false
end

def aopOf : BOp → Bool
  | .add => true | .sub => true | _ => false
def isLc : Ex → Bool
  | .lc _ _ _ _ _ => true | _ => false

mutual
def chkS (c : Ck) : St → Stmt → Bool
  | .pass, s => match s with
    | .Pass _ => true
    | .Expr (.Constant (.str _) _ _) _ => true
    | _ => false
  | .brk, s => match s with
    | .Break _ => true
    | _ => false
  | .cont, s => match s with
    | .Continue _ => true
    | _ => false
  | .expr e, s => match s with
    | .Expr x _ => chkE c e x && noComp x
    | _ => false
  | .ret e, s => match s with
    | .Return x _ => chkEo c e x
    | _ => false
  | .asg t e, s => match s with
    | .Assign [x] y _ => match t with
      | .tp ts => match e with
        | .tup es => chkPar c ts es x y
        | _ => chkTg c t x && chkE c e y && !isTupX y
      | .nm _ => chkTg c t x && chkE c e y && (noComp y || isLc e)
      | _ => chkTg c t x && chkE c e y
    | _ => false
  | .augn i o e, s => match s with
    | .AugAssign (.Name x _) p y _ => decide (c.N[i]? = some x) && c.loc x && decide (p = bopOf o) && aopOf o && chkE c e y
    | _ => false
  | .augf a f o e, s => match s with
    | .AugAssign (.Attribute x n _) p y _ => decide (c.nm.attrs[f]? = some n) && decide (p = bopOf o) && aopOf o && chkE c a x && chkE c e y
    | _ => false
  | .ifs t a b, s => match s with
    | .If x y z _ => chkE c t x && chkSs c a y && chkSs c b z
    | _ => false
  | .whl t b, s => match s with
    | .While x y [] _ => chkE c t x && chkSs c b y
    | _ => false
  | .for_ t it b, s => match s with
    | .For x y z [] _ => chkTg c t x && itTg it x && chkIt c it y && chkSs c b z
    | _ => false
  | .raise k f e, s => match s with
    | .Raise (some (.Call (.Name x _) [y] [] _)) none _ => decide (c.nm.excN[k]? = some (x, f)) && c.glob x && chkE c e y
    | _ => false
  | .tryK b bs n k, s => match s with
    | .Try body [.ExceptHandler (some (.Name x _)) (some m) [.Assign [.Name kn _] (.Name m2 _) _] _] [] [] _ => c.top && c.glob x && c.nm.exm.contains (x, bs) && decide (m2 = m) && decide (c.N[n]? = some m) && decide (c.N[k]? = some kn) && decide (n ≠ k) && decide (c.sc.names.lookup m = some .local) && decide (c.sc.names.lookup kn = some .local) && c.vis m && chkSs c b body
    | _ => false
  | .never, _ => true
def chkSs (c : Ck) : Sts → List Stmt → Bool
  | .nil, s => match s with
    | [] => true
    | _ => false
  | .cons s r, ss => match ss with
    | x :: xs => chkS c s x && chkSs c r xs
    | [] => false
/-- a, b = x, y: two local names of one line -/
def chkPar (c : Ck) : Tgs → Exs → Expr → Expr → Bool
  | .cons (.nm i) (.cons (.nm j) .nil), .cons a (.cons b .nil), e, e' => match e, e' with
    | .Tuple [.Name x p, .Name y q] _ _, .Tuple [va, vb] _ _ => decide (i ≠ j) && decide (x ≠ y) && decide (c.N[i]? = some x) && decide (c.N[j]? = some y) && decide (c.sc.names.lookup x = some .local) && decide (c.sc.names.lookup y = some .local) && (q.line == p.line) &&
      chkE c a va && chkE c b vb && !([va, vb].all (foldedForSure 8)) && !([va, vb].all (constantsAlone 8))
    | _, _ => false
  | _, _, _, _ => false
end

def fnScopeB (N : List Str) (np : Nat) (sc : Scope) : Bool :=
  (match sc.kind with | .function => true | _ => false) && !sc.isCoroutine && !sc.isGenerator && decide N.Nodup && decide (np ≤ N.length) &&
    ((N.take np).all fun x => match sc.names.lookup x with | some .local => true | some .cell => true | _ => false) && (sc.names.all fun y => match y.2 with | .free => false | _ => true)
theorem fnScope_by {N : List Str} {np : Nat} {sc : Scope} (h : fnScopeB N np sc = true) : FnScope N (N.take np) sc := by
  unfold fnScopeB at h
  simp only [Bool.and_eq_true, List.all_eq_true, decide_eq_true_eq, Bool.not_eq_true'] at h
  obtain ⟨⟨⟨⟨⟨⟨h1, h2⟩, h3⟩, h4⟩, h5⟩, h6⟩, h7⟩ := h
  refine ⟨?_, h2, h3, h4, ?_, fun x hx => ?_, fun y hy e => ?_⟩
  · split at h1
    · assumption
    · cases h1
  · rw [List.length_take, Nat.min_eq_left h5]
  · have q := h6 x hx
    split at q <;> first | exact .inl (by assumption) | exact .inr (by assumption) | cases q
  · have q := h7 y hy
    rw [e] at q
    cases q
end MI
/-! MI, part 5: readings that say «the small language's run says so»; operations by values. -/
namespace MI
open PySem L2

def KQ (K : PySem.W.Frag) (L : Lay) (ρ : List Addr) (H : Hp) (Q : VK) : QD := fun d hp' => ∀ ρ' H' v, Ext ρ H ρ' H' → RelH K L ρ' hp' H' → RD K L ρ' H' d v → Q v H'
def KQs (K : PySem.W.Frag) (L : Lay) (ρ : List Addr) (H : Hp) (Q : List V → Hp → Prop) : List D → Hq → Prop := fun ds hp' => ∀ ρ' H' vs, Ext ρ H ρ' H' → RelH K L ρ' hp' H' → RDs K L ρ' H' ds vs → Q vs H'
/-- an exception of class c, its dict at place i -/
def KX (K : PySem.W.Frag) (L : Lay) (ρ : List Addr) (H : Hp) (σ : L2.St) (W : WX) : QX := fun c i hp' => ∀ ρ' H' a C, Ext ρ H ρ' H' → RelH K L ρ' hp' H' → ρ'[i]? = some a → L.exs[c]? = some C → W (.ref C) (some a) σ H'
section
variable {K : PySem.W.Frag} {L : Lay} {ρ ρ' : List Addr} {H H' : Hp} {hp hp' : Hq}
theorem KQ.here {Q : VK} {d : D} {v : V} (k : KQ K L ρ H Q d hp) (r : RelH K L ρ hp H) (q : RD K L ρ H d v) : Q v H := k ρ H v (Ext.refl _ _) r q
theorem KQ.ext {Q : VK} {d : D} (k : KQ K L ρ H Q d hp) (e : Ext ρ H ρ' H') : KQ K L ρ' H' Q d hp := fun ρ2 H2 v e2 r q => k ρ2 H2 v (e.trans e2) r q
theorem KX.ext {σ : L2.St} {W : WX} {c i : Nat} (k : KX K L ρ H σ W c i hp) (e : Ext ρ H ρ' H') : KX K L ρ' H' σ W c i hp := fun ρ2 H2 a C e2 r q z => k ρ2 H2 a C (e.trans e2) r q z
/-- a new thing handed on -/
theorem KQ.new {Q : VK} {o : O} {u : HO} (k : KQ K L ρ H Q (.ref hp.length) (hp ++ [o])) (r : RelH K L ρ hp H) (q : RHO K L ρ H o u) : ∀ p, H p = none → Q (.ref p) (upd H p u) := fun p hn => by
  obtain ⟨r2, e2⟩ := r.push hn q
  refine k _ _ _ e2 r2 (.ref ?_)
  rw [← r.len, List.getElem?_append_right (Nat.le_refl _)]
  simp
/-- a new tuple handed on -/
theorem KQ.tup {Q : VK} {ds : List D} {vs : List V} (k : KQ K L ρ H Q (.tup ds) hp) (r : RelH K L ρ hp H) (q : RDs K L ρ H ds vs) : ∀ p, H p = none → Q (.ref p) (upd H p (.tup vs)) := fun p hn => by
  obtain ⟨r2, e2⟩ := r.tmp (u := .tup vs) hn
  exact k _ _ _ e2 r2 (.tup (.of upd_same) (q.mono e2))
theorem RelH.lst {i : Nat} {a : Addr} {xs : List D} (r : RelH K L ρ hp H) (ha : ρ[i]? = some a) (h : gtL hp i = some xs) : ∃ vs, H a = some (.lst vs) ∧ RDs K L ρ H xs vs := by
  obtain ⟨o, u, h1, h2, h3⟩ := r.at2 ha
  unfold gtL at h
  rw [h1] at h
  cases h3 with
  | lst t => cases h; exact ⟨_, h2, t⟩
  | _ => cases h
theorem RelH.dic {i : Nat} {a : Addr} {xs : List (Key × D)} (r : RelH K L ρ hp H) (ha : ρ[i]? = some a) (h : gtD hp i = some xs) : ∃ vs, H a = some (.dK vs) ∧ RKs K L ρ H xs vs := by
  obtain ⟨o, u, h1, h2, h3⟩ := r.at2 ha
  unfold gtD at h
  rw [h1] at h
  cases h3 with
  | dic t => cases h; exact ⟨_, h2, t⟩
  | _ => cases h
theorem RelH.rdic {i : Nat} {a : Addr} {xs : List (Key × D)} (r : RelH K L ρ hp H) (ha : ρ[i]? = some a) (h : rdD hp i = some xs) : ∃ vs, Rd H a (.dK vs) ∧ RKs K L ρ H xs vs := by
  obtain ⟨o, u, h1, h2, h3⟩ := r.at2 ha
  unfold rdD at h
  rw [h1] at h
  cases h3 with
  | dic t => cases h; exact ⟨_, .inl h2, t⟩
  | fdic t => cases h; exact ⟨_, .inr ⟨_, h2⟩, t⟩
  | _ => cases h
theorem RelH.ins {i : Nat} {a : Addr} {c : Nat} {fs : List (Nat × D)} (r : RelH K L ρ hp H) (ha : ρ[i]? = some a) (h : gtI hp i = some (c, fs)) : ∃ C dx vs, L.clss[c]? = some C ∧ H a = some (.ins C dx vs) ∧ RFs K L ρ H fs vs := by
  obtain ⟨o, u, h1, h2, h3⟩ := r.at2 ha
  unfold gtI at h
  rw [h1] at h
  cases h3 with
  | ins hc t => cases h; exact ⟨_, _, _, hc, h2, t⟩
  | _ => cases h
theorem RKs.get {kvs : List (Key × D)} {vs : List (Key × V)} (h : RKs K L ρ H kvs vs) (k : Key) : (dget kvs k = none ∧ valV vs k = none) ∨ ∃ d v, dget kvs k = some d ∧ valV vs k = some v ∧ RD K L ρ H d v := by
  unfold RKs at h
  induction h with
  | nil => exact .inl ⟨rfl, rfl⟩
  | @cons p q l m r t ih =>
    obtain ⟨k', d⟩ := p
    obtain ⟨k2, v⟩ := q
    obtain ⟨e, r⟩ := r
    have e : k' = k2 := e
    subst e
    by_cases hk : k' = k
    · refine .inr ⟨d, v, ?_, valV_pos hk, r⟩
      show (if k' = k then some d else dget l k) = some d
      rw [if_pos hk]
    · have e1 : dget ((k', d) :: l) k = dget l k := by
        show (if k' = k then some d else dget l k) = _
        rw [if_neg hk]
      have e2 : valV ((k', v) :: m) k = valV m k := valV_neg hk
      rw [e1, e2]
      exact ih
theorem RKs.any {kvs : List (Key × D)} {vs : List (Key × V)} (h : RKs K L ρ H kvs vs) (k : Key) : (kvs.any fun kv => decide (kv.1 = k)) = (vs.any fun kv => decide (kv.1 = k)) := by
  unfold RKs at h
  induction h with
  | nil => rfl
  | cons r t ih => rw [List.any_cons, List.any_cons, r.1, ih]
theorem RKs.len {kvs : List (Key × D)} {vs : List (Key × V)} (h : RKs K L ρ H kvs vs) : kvs.length = vs.length := Paired.length h
theorem Paired.app' {α β : Type} {F : α → β → Prop} : ∀ {l₁ m₁ : List α} {l₂ m₂ : List β}, Paired F l₁ l₂ → Paired F m₁ m₂ → Paired F (l₁ ++ m₁) (l₂ ++ m₂)
  | _, _, _, _, .nil, s => s
  | _, _, _, _, .cons r t, s => .cons r (Paired.app' t s)
theorem RKs.map {kvs : List (Key × D)} {vs : List (Key × V)} {d : D} {v : V} (h : RKs K L ρ H kvs vs) (k : Key) (r : RD K L ρ H d v) : RKs K L ρ H (kvs.map fun kv => if kv.1 = k then (kv.1, d) else kv) (vs.map fun kv => if kv.1 = k then (kv.1, v) else kv) := by
  unfold RKs at h ⊢
  induction h with
  | nil => exact .nil
  | @cons p q l m r' t ih =>
    rw [List.map_cons, List.map_cons]
    refine .cons ?_ ih
    rw [r'.1]
    by_cases e : q.1 = k
    · rw [if_pos e, if_pos e]; exact ⟨rfl, r⟩
    · rw [if_neg e, if_neg e]; exact r'
theorem RKs.put {kvs : List (Key × D)} {vs : List (Key × V)} {d : D} {v : V} (h : RKs K L ρ H kvs vs) (k : Key) (r : RD K L ρ H d v) : RKs K L ρ H (dput kvs k d) (putK vs k v) := by
  unfold dput putK
  rw [h.any k]
  split
  · exact RKs.map h k r
  · exact Paired.app' h (.cons ⟨rfl, r⟩ .nil)
theorem RKs.drop {kvs : List (Key × D)} {vs : List (Key × V)} (h : RKs K L ρ H kvs vs) (k : Key) : RKs K L ρ H (ddrop kvs k) (dropK vs k) := by
  unfold ddrop dropK
  unfold RKs at h ⊢
  induction h with
  | nil => exact .nil
  | @cons p q l m r t ih =>
    rw [List.filter_cons, List.filter_cons, r.1]
    split
    · exact .cons r ih
    · exact ih
theorem RFs.get {fs : List (Nat × D)} {vs : List (Str × V)} (nd : L.attrs.Nodup) (h : RFs K L ρ H fs vs) {f : Nat} {n : Str} (hn : L.attrs[f]? = some n) :
    (fget fs f = none ∧ vs.lookup n = none) ∨ ∃ d v, fget fs f = some d ∧ vs.lookup n = some v ∧ RD K L ρ H d v := by
  unfold RFs at h
  induction h with
  | nil => exact .inl ⟨rfl, rfl⟩
  | @cons p q l m r t ih =>
    obtain ⟨g, d⟩ := p
    obtain ⟨x, v⟩ := q
    obtain ⟨e, r⟩ := r
    have e : L.attrs[g]? = some x := e
    by_cases hk : g = f
    · subst hk
      rw [e] at hn
      cases hn
      refine .inr ⟨d, v, ?_, ?_, r⟩
      · show (if g = g then some d else fget l g) = some d
        rw [if_pos rfl]
      · simp [List.lookup]
    · have hx : ¬ n = x := fun z => hk (nodup_at nd e (by rw [hn, z]))
      have e1 : fget ((g, d) :: l) f = fget l f := by
        show (if g = f then some d else fget l f) = _
        rw [if_neg hk]
      have e2 : ((x, v) :: m).lookup n = m.lookup n := by
        show (match n == x with | true => some v | false => m.lookup n) = _
        rw [show (n == x) = false from beq_eq_false_iff_ne.mpr hx]
      rw [e1, e2]
      exact ih
theorem RFs.put {fs : List (Nat × D)} {vs : List (Str × V)} {d : D} {v : V} (nd : L.attrs.Nodup) (h : RFs K L ρ H fs vs) {f : Nat} {n : Str} (hn : L.attrs[f]? = some n) (r : RD K L ρ H d v) :
    RFs K L ρ H (fput fs f d) (putF n v vs) := by
  unfold RFs at h ⊢
  induction h with
  | nil => exact .cons ⟨hn, r⟩ .nil
  | @cons p q l m r' t ih =>
    obtain ⟨g, e⟩ := p
    obtain ⟨x, w⟩ := q
    obtain ⟨hx, r2⟩ := r'
    have hx : L.attrs[g]? = some x := hx
    show Paired _ (if g = f then (g, d) :: l else (g, e) :: fput l f d) (if x = n then (x, v) :: m else (x, w) :: putF n v m)
    by_cases hk : g = f
    · subst hk
      rw [hx] at hn
      cases hn
      rw [if_pos rfl, if_pos rfl]
      exact .cons ⟨hx, r⟩ t
    · have hne : ¬ x = n := fun z => hk (nodup_at nd hx (by rw [hn, z]))
      rw [if_neg hk, if_neg hne]
      exact .cons ⟨hx, r2⟩ ih
theorem RFs.len {fs : List (Nat × D)} {vs : List (Str × V)} (h : RFs K L ρ H fs vs) : fs.length = vs.length := Paired.length h
/-- a value that is a list to be read -/
theorem RD.lsq {d : D} {v : V} {xs : List D} (r : RelH K L ρ hp H) (q : RD K L ρ H d v) (h : lsOf hp d = some xs) : ∃ a vs, v = .ref a ∧ SqL K H a vs ∧ RDs K L ρ H xs vs := by
  cases q with
  | @kl a ys ds hs t => cases h; exact ⟨a, ys, rfl, hs.sq, t⟩
  | @ref i a hs =>
    obtain ⟨vs, h1, h2⟩ := r.lst hs h
    exact ⟨a, vs, rfl, .of h1, h2⟩
  | _ => cases h
theorem RD.sq {d : D} {v : V} {xs : List D} (r : RelH K L ρ hp H) (q : RD K L ρ H d v) (h : sqOf hp d = some xs) : ∃ a vs, v = .ref a ∧ (SqL K H a vs ∨ SqT K H a vs) ∧ RDs K L ρ H xs vs := by
  cases q with
  | @tup a ys ds hs t => cases h; exact ⟨a, ys, rfl, .inr hs, t⟩
  | @kl a ys ds hs t => cases h; exact ⟨a, ys, rfl, .inl hs.sq, t⟩
  | @ref i a hs =>
    obtain ⟨vs, h1, h2⟩ := r.lst hs h
    exact ⟨a, vs, rfl, .inl (.of h1), h2⟩
  | _ => cases h
theorem intsOf_map : ∀ {xs : List D} {vs : List V} {ns : List Int}, RDs K L ρ H xs vs → intsOf xs = some ns → vs = ns.map V.int
  | [], _, ns, .nil, h => by cases h; rfl
  | d :: ds, _, ns, .cons r t, h => by
    cases d with
    | int i =>
      cases r
      unfold intsOf at h
      cases e : intsOf ds with
      | none => rw [e] at h; cases h
      | some ms =>
        rw [e] at h
        cases h
        rw [intsOf_map t e, List.map_cons]
    | _ => cases h
theorem boolsOf_map : ∀ {xs : List D} {vs : List V} {ns : List Bool}, RDs K L ρ H xs vs → boolsOf xs = some ns → vs = ns.map V.bl
  | [], _, ns, .nil, h => by cases h; rfl
  | d :: ds, _, ns, .cons r t, h => by
    cases d with
    | bl i =>
      cases r
      unfold boolsOf at h
      cases e : boolsOf ds with
      | none => rw [e] at h; cases h
      | some ms =>
        rw [e] at h
        cases h
        rw [boolsOf_map t e, List.map_cons]
    | _ => cases h
theorem kOf_kV {d : D} {v : V} {k : Key} (q : RD K L ρ H d v) (h : kOf d = some k) : v = kV k := by
  cases q <;> cases h <;> rfl
theorem keyD_kV (k : Key) : RD K L ρ H (keyD k) (kV k) := by
  cases k with
  | inl i => exact .int i
  | inr x => exact .str x
theorem atI_rd {xs : List D} {vs : List V} {i : Int} {d : D} (t : RDs K L ρ H xs vs) (h : atI xs i = some d) : ∃ v, atI vs i = some v ∧ RD K L ρ H d v := by
  unfold atI at h ⊢
  rw [← t.len]
  cases e : ixN xs.length i with
  | none => rw [e] at h; cases h
  | some j =>
    rw [e] at h
    exact t.get h
theorem cut_rd {xs : List D} {vs : List V} (t : RDs K L ρ H xs vs) (lo hi : Option Int) : RDs K L ρ H (cutD xs lo hi) (cutV vs lo hi) := by
  unfold cutD cutV
  rw [← t.len]
  exact (t.drop _).take _
end

/-! ### rules by values -/
def rMI (K : PySem.W.Frag) (L : Lay) (o : D → D → Hq → OutD) : R2 := fun x y H Q => ∃ ρ hp d e, RelH K L ρ hp H ∧ RD K L ρ H d x ∧ RD K L ρ H e y ∧ (o d e hp).app (KQ K L ρ H Q)
section
variable {X : Cx} {L : Lay}
theorem sz_line : SZ = sizeLine := sizeLine_eq.symm
theorem mi_bin (o : BOp) : OpR X (binaryOp (bopOf o)) (rMI X.K L (oBin o)) := by
  intro pins s σ H x y v u Q I rx ry h
  obtain ⟨ρ, hp, d, e, r, q1, q2, h⟩ := h
  cases o with
  | add =>
    cases d <;> cases e <;> first | exact False.elim h | skip
    · cases q1; cases q2
      exact op_add pins s σ H _ _ v u Q I rx ry ⟨_, _, rfl, rfl, h.here r (.int _)⟩
    · cases q1; cases q2
      exact op_add_str pins s σ H _ _ v u Q I rx ry ⟨_, _, rfl, rfl, by rw [← sz_line]; exact h.1, h.2.here r (.str _)⟩
    · rename_i xs ys
      cases q1 with
      | @tup a vs _ ha ta =>
        cases q2 with
        | @tup b us _ hb tb =>
          refine op_catA pins s σ H _ _ v u Q I rx ry ⟨a, b, vs, us, rfl, rfl, ha, hb, ?_, ?_, ?_, ?_⟩
          · rw [← sz_line, ← ta.len, ← tb.len]; exact h.1
          · intro e
            subst e
            cases ta
            exact h.2.here r (.tup hb tb)
          · intro _ e
            subst e
            cases tb
            have h2 := h.2
            rw [List.append_nil] at h2
            exact h2.here r (.tup ha ta)
          · intro _ _
            exact h.2.tup r (ta.app tb)
    · rename_i i j
      cases q1 with
      | ref ha =>
        cases q2 with
        | ref hb =>
          have h : (match gtL hp i, gtL hp j with
            | some xs, some ys => OutD.cd (xs.length + ys.length ≤ SZ) (.ref hp.length) (hp ++ [O.lst (xs ++ ys)])
            | _, _ => .no).app (KQ X.K L ρ H Q) := h
          cases e1 : gtL hp i with
          | none => rw [e1] at h; exact False.elim h
          | some xs =>
            cases e2 : gtL hp j with
            | none => rw [e1, e2] at h; exact False.elim h
            | some ys =>
              rw [e1, e2] at h
              obtain ⟨vs, g1, t1⟩ := r.lst ha e1
              obtain ⟨us, g2, t2⟩ := r.lst hb e2
              refine op_cat pins s σ H _ _ v u Q I rx ry ⟨_, _, vs, us, rfl, rfl, g1, g2, ?_, ?_⟩
              · rw [← sz_line, ← t1.len, ← t2.len]; exact h.1
              · exact h.2.new r (.lst (t1.app t2))
  | sub =>
    cases d <;> cases e <;> first | exact False.elim h | skip
    cases q1; cases q2
    exact op_sub pins s σ H _ _ v u Q I rx ry ⟨_, _, rfl, rfl, h.here r (.int _)⟩
  | mul =>
    cases d <;> cases e <;> first | exact False.elim h | skip
    · cases q1; cases q2
      exact op_mul pins s σ H _ _ v u Q I rx ry ⟨_, _, rfl, rfl, h.1, h.2.here r (.int _)⟩
    · cases q1; cases q2
      obtain ⟨t1, rfl⟩ := rx
      obtain ⟨t2, rfl⟩ := ry
      exact PySem.SB.mul h.1 fun t' k => ⟨.str _, H, I.tok _, ⟨t', rfl⟩, h.2.here r (.str _)⟩
    · rename_i i k
      cases q2
      cases q1 with
      | ref ha =>
        have h : (match gtL hp i with
          | some xs => OutD.cd (-(2 ^ 63) ≤ k ∧ k < 2 ^ 63 ∧ xs.length * k.toNat ≤ SZ) (.ref hp.length) (hp ++ [O.lst (List.replicate k.toNat xs).flatten])
          | none => .no).app (KQ X.K L ρ H Q) := h
        cases e1 : gtL hp i with
        | none => rw [e1] at h; exact False.elim h
        | some xs =>
          rw [e1] at h
          obtain ⟨vs, g1, t1⟩ := r.lst ha e1
          obtain ⟨⟨c1, c2, c3⟩, h⟩ := h
          refine op_rep pins s σ H _ _ v u Q I rx ry ⟨_, _, vs, rfl, rfl, g1, c1, c2, ?_, ?_⟩
          · rw [← sz_line, ← t1.len]; exact c3
          · exact h.new r (.lst (t1.rep _))
  | fdiv =>
    cases d <;> cases e <;> first | exact False.elim h | skip
    cases q1; cases q2
    exact op_fdiv pins s σ H _ _ v u Q I rx ry ⟨_, _, rfl, rfl, h.1, h.2.here r (.int _)⟩
  | mod =>
    cases d <;> cases e <;> first | exact False.elim h | skip
    cases q1; cases q2
    exact op_mod pins s σ H _ _ v u Q I rx ry ⟨_, _, rfl, rfl, h.1, h.2.here r (.int _)⟩
  | pow =>
    cases d <;> cases e <;> first | exact False.elim h | skip
    cases q1; cases q2
    exact op_pow pins s σ H _ _ v u Q I rx ry ⟨_, _, rfl, rfl, h.1, h.2.here r (.int _)⟩
end
end MI
/-! MI, part 6: comparisons, truth, items, slices, built-in functions and methods, by values. -/
namespace MI
open PySem PySem.Spec PyProof.Rows L2
section
variable {X : Cx} {L : Lay} {ρ : List Addr} {hp : Hq} {H : Hp}

theorem flD_eq {K : PySem.W.Frag} {d : D} {x y : V} (q1 : RD K L ρ H d x) (q2 : RD K L ρ H d y) (h : flD d = true) : y = x ∧ flatB x = true := by
  cases q1 <;> first | (cases h; done) | skip
  all_goals
    cases q2
    exact ⟨rfl, rfl⟩
theorem rks_of {K : PySem.W.Frag} : ∀ {ks : List (Key × D)} {vs : List (Key × V)}, RKs K L ρ H ks vs → ∀ q ∈ vs, ∃ p ∈ ks, p.1 = q.1 ∧ RD K L ρ H p.2 q.2
  | _, _, .nil, q, h => by cases h
  | _, _, .cons (a := p) r t, q, h => by
    rcases List.mem_cons.mp h with e | e
    · subst e; exact ⟨p, List.mem_cons_self, r⟩
    · obtain ⟨p', h1, h2⟩ := rks_of t q e
      exact ⟨p', List.mem_cons_of_mem _ h1, h2⟩
theorem eq_dic {K : PySem.W.Frag} {ks ls : List (Key × D)} {vs us : List (Key × V)} (t1 : RKs K L ρ H ks vs) (t2 : RKs K L ρ H ls us) (h : ks.length = ls.length ∧ ∀ p ∈ ks, dget ls p.1 = some p.2 ∧ flD p.2 = true) :
    vs.length = us.length ∧ ∀ p ∈ vs, valV us p.1 = some p.2 ∧ flatB p.2 = true := by
  refine ⟨by rw [← t1.len, ← t2.len]; exact h.1, fun q hq => ?_⟩
  obtain ⟨p, hp, e, r⟩ := rks_of t1 q hq
  obtain ⟨g1, g2⟩ := h.2 p hp
  rcases t2.get p.1 with ⟨z, _⟩ | ⟨d, v, z1, z2, z3⟩
  · rw [z] at g1; cases g1
  · rw [z1] at g1
    cases g1
    obtain ⟨e1, e2⟩ := flD_eq r z3 g2
    rw [← e, z2, e1]
    exact ⟨rfl, e2⟩
theorem eq_cases {K : PySem.W.Frag} {d e : D} {x y : V} {k : Bool → Prop} (r : RelH K L ρ hp H) (q1 : RD K L ρ H d x) (q2 : RD K L ρ H e y) (h : (oEq d e hp).app k) :
    (scal x y = true ∧ k (decide (x = y))) ∨ (∃ a b vs us, x = .ref a ∧ y = .ref b ∧ H a = some (.dK vs) ∧ H b = some (.dK us) ∧ vs.length = us.length ∧ (∀ p ∈ vs, valV us p.1 = some p.2 ∧ flatB p.2 = true) ∧ k true) ∨ ∃ a b, Dp K H x a ∧ Dp K H y b ∧ SeqAt.shaped a = true ∧ SeqAt.shaped b = true ∧ k (PyData.eqv a b) := by
  unfold oEq at h
  split at h
  · cases q1; cases q2
    refine .inl ⟨rfl, ?_⟩
    have : ∀ i j : Int, decide (V.int i = V.int j) = decide (i = j) := fun i j => by simp
    rw [this]; exact h
  · cases q1; cases q2
    refine .inl ⟨rfl, ?_⟩
    have : ∀ i j : Str, decide (V.str i = V.str j) = decide (i = j) := fun i j => by simp
    rw [this]; exact h
  · cases q1; cases q2
    refine .inl ⟨rfl, ?_⟩
    have : ∀ i j : Bool, decide (V.bl i = V.bl j) = decide (i = j) := fun i j => by simp
    rw [this]; exact h
  · cases q1; cases q2
    exact .inl ⟨rfl, h⟩
  · right
    have plain : (oEqP d e hp).app k → ∃ a b, Dp K H x a ∧ Dp K H y b ∧ SeqAt.shaped a = true ∧ SeqAt.shaped b = true ∧ k (PyData.eqv a b) := by
      intro h
      unfold oEqP at h
      cases e1 : toP 40 hp d with
      | none => rw [e1] at h; exact False.elim h
      | some a =>
        cases e2 : toP 40 hp e with
        | none => rw [e1, e2] at h; exact False.elim h
        | some b =>
          rw [e1, e2] at h
          exact ⟨a, b, toP_dp r 40 d x a q1 e1, toP_dp r 40 e y b q2 e2, h.1.1, h.1.2, h.2⟩
    unfold oEqG at h
    split at h
    · split at h
      · rename_i ks ls z1 z2
        left
        cases q1 with
        | ref h1 =>
          cases q2 with
          | ref h2 =>
            obtain ⟨vs, g1, t1⟩ := r.dic h1 z1
            obtain ⟨us, g2, t2⟩ := r.dic h2 z2
            obtain ⟨c1, c2⟩ := eq_dic t1 t2 h.1
            exact ⟨_, _, vs, us, rfl, rfl, g1, g2, c1, c2, h.2⟩
      · exact .inr (plain h)
    · exact .inr (plain h)

theorem isNon_rd {K : PySem.W.Frag} {d : D} {x : V} (q : RD K L ρ H d x) : isNon d = decide (x = .non) := by
  cases q <;> rfl

theorem op_inT (hu : X.A.units + 65 < cLine) : OpR X (compareOp .In) (fun x y H Q => ∃ d ds, Dp X.K H x d ∧ Dp X.K H y (.tuple ds) ∧ SeqAt.shaped d = true ∧ SeqAt.shaped (.list ds) = true ∧ Q (.bl (ds.any fun z => PyData.eqv z d)) H) := by
  intro pins s σ H x y v u Q I rx ry h
  obtain ⟨d, ds, hd, he, sd, se, q⟩ := h
  obtain ⟨as, r1⟩ := Dp.reads I d x v hd rx
  obtain ⟨bs, r2⟩ := Dp.reads I (.tuple ds) y u he ry
  exact SeqAt.in_tuple_reads r2 r1 (SeqAt.canLay_of_shaped se) (SeqAt.canLay_of_shaped sd) (room_in_shaped sd hu) ⟨.bl _, H, I, rfl, q⟩
theorem op_notInT (hu : X.A.units + 65 < cLine) : OpR X (compareOp .NotIn) (fun x y H Q => ∃ d ds, Dp X.K H x d ∧ Dp X.K H y (.tuple ds) ∧ SeqAt.shaped d = true ∧ SeqAt.shaped (.list ds) = true ∧ Q (.bl (!ds.any fun z => PyData.eqv z d)) H) := by
  intro pins s σ H x y v u Q I rx ry h
  obtain ⟨d, ds, hd, he, sd, se, q⟩ := h
  obtain ⟨as, r1⟩ := Dp.reads I d x v hd rx
  obtain ⟨bs, r2⟩ := Dp.reads I (.tuple ds) y u he ry
  exact SeqAt.notIn_tuple_reads r2 r1 (SeqAt.canLay_of_shaped se) (SeqAt.canLay_of_shaped sd) (room_in_shaped sd hu) ⟨.bl _, H, I, rfl, q⟩

theorem in_cases {K : PySem.W.Frag} {d e : D} {x y : V} {k : Bool → Prop} (r : RelH K L ρ hp H) (q1 : RD K L ρ H d x) (q2 : RD K L ρ H e y) (h : (oIn d e hp).app k) :
    (∃ a o, y = .ref a ∧ DGet H a x o ∧ k o.isSome) ∨ (∃ a b, Dp K H x a ∧ Dp K H y (.list b) ∧ SeqAt.shaped a = true ∧ SeqAt.shaped (.list b) = true ∧ k (b.any fun z => PyData.eqv z a)) ∨
      ∃ a b, Dp K H x a ∧ Dp K H y (.tuple b) ∧ SeqAt.shaped a = true ∧ SeqAt.shaped (.list b) = true ∧ k (b.any fun z => PyData.eqv z a) := by
  have seq : ∀ ys : List D, (oInS d ys hp).app k → ∃ a b, toP 40 hp d = some a ∧ mapO (toP 40 hp) ys = some b ∧ SeqAt.shaped a = true ∧ SeqAt.shaped (.list b) = true ∧ k (b.any fun z => PyData.eqv z a) := fun ys h => by
    unfold oInS at h
    cases e1 : toP 40 hp d with
    | none => rw [e1] at h; exact False.elim h
    | some a =>
      cases e2 : mapO (toP 40 hp) ys with
      | none => rw [e1, e2] at h; exact False.elim h
      | some b =>
        rw [e1, e2] at h
        exact ⟨a, b, rfl, rfl, h.1.1, h.1.2, h.2⟩
  have dic : ∀ (a : Addr) (kvs : List (Key × D)) (vs : List (Key × V)), y = .ref a → Rd H a (.dK vs) → RKs K L ρ H kvs vs → (oInD d kvs).app k → ∃ a o, y = .ref a ∧ DGet H a x o ∧ k o.isSome := fun a kvs vs ey hr hk h => by
    unfold oInD at h
    cases e1 : kOf d with
    | none => rw [e1] at h; exact False.elim h
    | some key =>
      rw [e1] at h
      have ex := kOf_kV q1 e1
      refine ⟨a, valV vs key, ey, .inl ⟨vs, key, hr, ex, rfl⟩, ?_⟩
      rcases hk.get key with ⟨g1, g2⟩ | ⟨d', v', g1, g2, _⟩
      · have h : k (dget kvs key).isSome := h
        rw [g1] at h
        rw [g2]; exact h
      · have h : k (dget kvs key).isSome := h
        rw [g1] at h
        rw [g2]; exact h
  cases q2 with
  | @tup a vs ys hs t =>
    right; right
    obtain ⟨a', b, e1, e2, s1, s2, h⟩ := seq ys h
    exact ⟨a', b, toP_dp r 40 d x a' q1 e1, .tup hs (toPs_dp r 40 ys vs b t e2), s1, s2, h⟩
  | @kl a vs ys hs t =>
    right; left
    obtain ⟨a', b, e1, e2, s1, s2, h⟩ := seq ys h
    exact ⟨a', b, toP_dp r 40 d x a' q1 e1, .lst hs.sq (toPs_dp r 40 ys vs b t e2), s1, s2, h⟩
  | @ref i a hs =>
    obtain ⟨o, u, g1, g2, g3⟩ := r.at2 hs
    have h : (match hp[i]? with
      | some (.dic kvs) => oInD d kvs
      | some (.fdic kvs) => oInD d kvs
      | some (.lst ys) => oInS d ys hp
      | _ => .no).app k := h
    rw [g1] at h
    cases g3 with
    | @lst ys vs t =>
      right; left
      obtain ⟨a', b, e1, e2, s1, s2, h⟩ := seq ys h
      exact ⟨a', b, toP_dp r 40 d x a' q1 e1, .lst (.of g2) (toPs_dp r 40 ys vs b t e2), s1, s2, h⟩
    | dic t => exact .inl (dic a _ _ rfl (.inl g2) t h)
    | fdic t => exact .inl (dic a _ _ rfl (.inr ⟨_, g2⟩) t h)
    | _ => exact False.elim h
  | _ => exact False.elim h

theorem val_app {o : OutB} {neg : Bool} {Q : QD} (h : (o.val neg hp).app Q) : o.app fun b => Q (.bl (if neg then !b else b)) hp := by
  cases o with
  | no => exact h
  | ok b => exact h
  | cd C b => exact h
theorem mi_cmp (hu : X.A.units + 65 < cLine) (o : COp) : OpR X (compareOp (copOf o)) (rMI X.K L (oCmp o)) := by
  intro pins s σ H x y v u Q I rx ry h
  obtain ⟨ρ, hp, d, e, r, q1, q2, h⟩ := h
  have bl : ∀ b, KQ X.K L ρ H Q (.bl b) hp → Q (.bl b) H := fun b k => k.here r (.bl b)
  cases o with
  | eq =>
    have h := val_app h
    rcases eq_cases r q1 q2 h with ⟨hs, k⟩ | ⟨a, b, vs, us, e1, e2, g1, g2, c1, c2, k⟩ | ⟨a, b, d1, d2, s1, s2, k⟩
    · exact op_eq pins s σ H x y v u Q I rx ry ⟨hs, bl _ k⟩
    · exact op_eq_dictA (by omega) pins s σ H x y v u Q I rx ry ⟨a, b, vs, us, e1, e2, g1, g2, c1, c2, bl _ k⟩
    · exact op_eqD (by omega) pins s σ H x y v u Q I rx ry ⟨a, b, d1, d2, s1, s2, bl _ k⟩
  | ne =>
    have h := val_app h
    rcases eq_cases r q1 q2 h with ⟨hs, k⟩ | ⟨a, b, vs, us, e1, e2, g1, g2, c1, c2, k⟩ | ⟨a, b, d1, d2, s1, s2, k⟩
    · exact op_ne pins s σ H x y v u Q I rx ry ⟨hs, bl _ k⟩
    · exact op_ne_dictA (by omega) pins s σ H x y v u Q I rx ry ⟨a, b, vs, us, e1, e2, g1, g2, c1, c2, bl _ k⟩
    · exact op_neD (by omega) pins s σ H x y v u Q I rx ry ⟨a, b, d1, d2, s1, s2, bl _ k⟩
  | lt =>
    cases d <;> cases e <;> first | exact False.elim h | skip
    cases q1; cases q2
    exact op_lt pins s σ H _ _ v u Q I rx ry ⟨_, _, rfl, rfl, bl _ h⟩
  | le =>
    cases d <;> cases e <;> first | exact False.elim h | skip
    cases q1; cases q2
    exact op_le pins s σ H _ _ v u Q I rx ry ⟨_, _, rfl, rfl, bl _ h⟩
  | gt =>
    cases d <;> cases e <;> first | exact False.elim h | skip
    cases q1; cases q2
    exact op_gt pins s σ H _ _ v u Q I rx ry ⟨_, _, rfl, rfl, bl _ h⟩
  | ge =>
    cases d <;> cases e <;> first | exact False.elim h | skip
    cases q1; cases q2
    exact op_ge pins s σ H _ _ v u Q I rx ry ⟨_, _, rfl, rfl, bl _ h⟩
  | is =>
    cases e <;> first | exact False.elim h | skip
    cases q2
    have h : KQ X.K L ρ H Q (.bl (isNon d)) hp := h
    rw [isNon_rd q1] at h
    exact op_isN pins s σ H _ _ v u Q I rx ry ⟨rfl, bl _ h⟩
  | nis =>
    cases e <;> first | exact False.elim h | skip
    cases q2
    have h : KQ X.K L ρ H Q (.bl (!isNon d)) hp := h
    rw [isNon_rd q1] at h
    exact op_notN pins s σ H _ _ v u Q I rx ry ⟨rfl, bl _ h⟩
  | isin =>
    have h := val_app h
    rcases in_cases r q1 q2 h with ⟨a, o, ey, g, k⟩ | ⟨a, b, d1, d2, s1, s2, k⟩ | ⟨a, b, d1, d2, s1, s2, k⟩
    · subst ey
      cases ry
      exact d_in (by omega) I g rx fun s3 I3 => ⟨.bl o.isSome, H, I3, rfl, bl _ k⟩
    · exact op_inD hu pins s σ H x y v u Q I rx ry ⟨a, b, d1, d2, s1, s2, bl _ k⟩
    · exact op_inT hu pins s σ H x y v u Q I rx ry ⟨a, b, d1, d2, s1, s2, bl _ k⟩
  | nin =>
    have h := val_app h
    rcases in_cases r q1 q2 h with ⟨a, o, ey, g, k⟩ | ⟨a, b, d1, d2, s1, s2, k⟩ | ⟨a, b, d1, d2, s1, s2, k⟩
    · subst ey
      cases ry
      exact d_notIn (by omega) I g rx fun s3 I3 => ⟨.bl (!o.isSome), H, I3, rfl, bl _ k⟩
    · exact op_notInD hu pins s σ H x y v u Q I rx ry ⟨a, b, d1, d2, s1, s2, bl _ k⟩
    · exact op_notInT hu pins s σ H x y v u Q I rx ry ⟨a, b, d1, d2, s1, s2, bl _ k⟩

/-! ### truth -/
theorem tru_of {K : PySem.W.Frag} {d : D} {x : V} {k : Bool → Prop} (r : RelH K L ρ hp H) (q : RD K L ρ H d x) (h : (oTru d hp).app k) : ∃ b, TruV K x H b ∧ k b := by
  cases q with
  | non => exact ⟨_, rfl, h⟩
  | bl b => exact ⟨_, rfl, h⟩
  | int i => exact ⟨_, rfl, h⟩
  | str y => exact ⟨_, ⟨by rw [← sz_line]; exact h.1, rfl⟩, h.2⟩
  | @tup a xs ds hs t =>
    refine ⟨!xs.isEmpty, .inr (.inl ⟨xs, hs, rfl⟩), ?_⟩
    have h : k (!ds.isEmpty) := h
    cases t <;> exact h
  | @kl a xs ds hs t =>
    refine ⟨!xs.isEmpty, .inl ⟨xs, hs.sq, rfl⟩, ?_⟩
    have h : k (!ds.isEmpty) := h
    cases t <;> exact h
  | @ref i a hs =>
    obtain ⟨o, u, g1, g2, g3⟩ := r.at2 hs
    have h : (match hp[i]? with
      | some (.lst xs) => OutB.ok (!xs.isEmpty)
      | some (.dic kvs) => .ok (!kvs.isEmpty)
      | _ => .no).app k := h
    rw [g1] at h
    cases g3 with
    | @lst xs vs t =>
      refine ⟨!vs.isEmpty, .inl ⟨vs, .of g2, rfl⟩, ?_⟩
      have h : k (!xs.isEmpty) := h
      cases t <;> exact h
    | @dic xs vs t =>
      refine ⟨!vs.isEmpty, .inr (.inr ⟨vs, g2, rfl⟩), ?_⟩
      have h : k (!xs.isEmpty) := h
      unfold RKs at t
      cases t <;> exact h
    | _ => exact False.elim h
  | _ => exact False.elim h

/-! ### items, slices -/
theorem mi_ix (hu : X.A.units + 65 < cLine) : IxR X (rMI X.K L oIx) := by
  intro value slice pins s σ H x y v u Q I rx ry h hs
  obtain ⟨ρ, hp, d, e, r, q1, q2, h⟩ := h
  have item : ∀ (ds : List D) (i : Int) (vs : List V), RDs X.K L ρ H ds vs → (oAtI ds i hp).app (KQ X.K L ρ H Q) → ∃ w, atI vs i = some w ∧ Q w H := fun ds i vs t h => by
    unfold oAtI at h
    cases e1 : atI ds i with
    | none => rw [e1] at h; exact False.elim h
    | some d' =>
      rw [e1] at h
      obtain ⟨w, g1, g2⟩ := atI_rd t e1
      exact ⟨w, g1, KQ.here h r g2⟩
  have dic : ∀ (a : Addr) (kvs : List (Key × D)) (vs : List (Key × V)), x = .ref a → Rd H a (.dK vs) → RKs X.K L ρ H kvs vs → (oAtK kvs e hp).app (KQ X.K L ρ H Q) → wpAny (model X.prog X.w) X.A (subscriptTail value slice v u) (EP X pins σ Q) X.xe s := fun a kvs vs ex hr hk h => by
    unfold oAtK at h
    cases e1 : kOf e with
    | none => rw [e1] at h; exact False.elim h
    | some key =>
      rw [e1] at h
      rcases hk.get key with ⟨g1, g2⟩ | ⟨d', v', g1, g2, g3⟩
      · simp only [g1] at h; exact False.elim h
      · simp only [g1] at h
        have ey := kOf_kV q2 e1
        subst ex
        have rx' : v = Value.ref a := rx
        subst rx'
        have g : DGet H a y (some v') := .inl ⟨vs, key, hr, ey, g2.symm⟩
        obtain ⟨kvs', hd⟩ : ∃ kvs', Rd H a (.dK kvs') := ⟨vs, hr⟩
        obtain ⟨_, hd2, vs', _, dd⟩ := dk_rd I.hok hd
        exact tail_any dd.typeIs PySem.F.slot_dict_getitem.lookup (d_getItem (by omega) I g ry fun w' s' I' rw' => ⟨v', H, I', rw', KQ.here h r g3⟩) hs
  cases q1 with
  | @tup a vs ds hs' t =>
    cases e <;> first | exact False.elim h | skip
    cases q2
    obtain ⟨w, g1, g2⟩ := item ds _ vs t h
    exact ix_tup value slice pins s σ H _ _ v u Q I rx ry ⟨a, vs, _, w, rfl, rfl, hs', g1, g2⟩ hs
  | @kl a vs ds hs' t =>
    cases e <;> first | exact False.elim h | skip
    cases q2
    obtain ⟨w, g1, g2⟩ := item ds _ vs t h
    exact ix_list value slice pins s σ H _ _ v u Q I rx ry ⟨a, vs, _, w, rfl, rfl, hs'.sq, g1, g2⟩ hs
  | @ref i a ha =>
    obtain ⟨o, w, g1, g2, g3⟩ := r.at2 ha
    unfold oIx at h
    simp only [g1] at h
    cases g3 with
    | @lst ds vs t =>
      cases e <;> first | exact False.elim h | skip
      cases q2
      obtain ⟨w, k1, k2⟩ := item ds _ vs t h
      exact ix_list value slice pins s σ H _ _ v u Q I rx ry ⟨a, vs, _, w, rfl, rfl, .of g2, k1, k2⟩ hs
    | dic t => exact dic a _ _ rfl (.inl g2) t h
    | fdic t => exact dic a _ _ rfl (.inr ⟨_, g2⟩) t h
    | _ => exact False.elim h
  | _ => exact False.elim h

def rSlMI (K : PySem.W.Frag) (L : Lay) : V → Option Int → Option Int → Hp → VK → Prop := fun x lo hi H Q => ∃ ρ hp d, RelH K L ρ hp H ∧ RD K L ρ H d x ∧ (oSl d lo hi hp).app (KQ K L ρ H Q)
theorem mi_sl : SlR X (rSlMI X.K L) := by
  intro pins s σ H x v vl vu lo hi sl Q I rx hs pl pu h
  obtain ⟨ρ, hp, d, r, q, h⟩ := h
  unfold oSl at h
  cases q with
  | @tup a vs ds ht t =>
    have h : KQ X.K L ρ H Q (.tup (cutD ds lo hi)) hp := h
    refine sl_tupA pins s σ H _ v vl vu lo hi sl Q I rx hs pl pu ⟨a, vs, rfl, ht, fun hz => ?_, fun _ => h.tup r (cut_rd t lo hi)⟩
    obtain ⟨z1, z2⟩ := hz
    have e : cutD ds lo hi = ds := by
      unfold cutD
      rw [t.len, z1, z2, List.drop_zero, Nat.sub_zero, ← t.len, List.take_length]
    rw [e] at h
    exact h.here r (.tup ht t)
  | @ref i a ha =>
    have h : (match gtL hp i with
      | some xs => oNew hp (.lst (cutD xs lo hi))
      | none => .no).app (KQ X.K L ρ H Q) := h
    cases e1 : gtL hp i with
    | none => rw [e1] at h; exact False.elim h
    | some xs =>
      rw [e1] at h
      obtain ⟨vs, g1, t⟩ := r.lst ha e1
      exact sl_list pins s σ H _ v vl vu lo hi sl Q I rx hs pl pu ⟨a, vs, rfl, .of g1, KQ.new h r (.lst (cut_rd t lo hi))⟩
  | _ => exact False.elim h
end
end MI
/-! MI, part 7: built-in functions, methods of built-in types, stores, by values. -/
namespace MI
open PySem PySem.Spec PyProof.Rows L2

def bfV : BF → Value
  | .list1 => .type "list"
  | .tuple1 => .type "tuple"
  | .int1 => .type "int"
  | .dict1 => .type "dict"
  | .dict0 => .type "dict"
  | .str1 => .type "str"
  | .len => .builtin "len"
  | .repr => .builtin "repr"
  | .sum1 => .builtin "sum"
  | .max1 => .builtin "max"
  | .min1 => .builtin "min"
  | .max2 => .builtin "max"
  | .min2 => .builtin "min"
  | .sorted1 => .builtin "sorted"
  | .all1 => .builtin "all"
  | .any1 => .builtin "any"
  | .isi => .builtin "isinstance"
def rBF (K : PySem.W.Frag) (L : Lay) (b : BF) : List V → Hp → VK → Prop := fun vs H Q => ∃ ρ hp ds, RelH K L ρ hp H ∧ RDs K L ρ H ds vs ∧ (oBF b ds hp).app (KQ K L ρ H Q)

theorem iins_perm (i : Int) : ∀ l : List Int, (iins i l).Perm (i :: l)
  | [] => .refl _
  | j :: r => by
    unfold iins
    split
    · exact .refl _
    · exact ((iins_perm i r).cons j).trans (.swap i j r)
theorem isort_perm : ∀ l : List Int, (isort l).Perm l
  | [] => .refl _
  | i :: r => (iins_perm i (isort r)).trans ((isort_perm r).cons i)
theorem iins_pw (i : Int) : ∀ l : List Int, l.Pairwise (· ≤ ·) → (iins i l).Pairwise (· ≤ ·)
  | [], _ => by unfold iins; simp
  | j :: r, h => by
    have h' := List.pairwise_cons.mp h
    unfold iins
    split
    · rename_i q
      refine List.pairwise_cons.mpr ⟨fun x hx => ?_, h⟩
      rcases List.mem_cons.mp hx with z | z
      · rw [z]; exact q
      · exact Int.le_trans q (h'.1 x z)
    · rename_i q
      refine List.pairwise_cons.mpr ⟨fun x hx => ?_, iins_pw i r h'.2⟩
      rcases List.mem_cons.mp ((iins_perm i r).subset hx) with z | z
      · rw [z]; omega
      · exact h'.1 x z
theorem isort_pw : ∀ l : List Int, (isort l).Pairwise (· ≤ ·)
  | [] => List.Pairwise.nil
  | i :: r => iins_pw i _ (isort_pw r)
theorem pw_uniq : ∀ {a b : List Int}, a.Perm b → a.Pairwise (· ≤ ·) → b.Pairwise (· ≤ ·) → a = b
  | [], b, p, _, _ => (List.nil_perm.mp p).symm
  | x :: a, [], p, _, _ => by cases List.perm_nil.mp p
  | x :: a, y :: b, p, ha, hb => by
    have ha' := List.pairwise_cons.mp ha
    have hb' := List.pairwise_cons.mp hb
    have e : x = y := by
      have h1 : y ≤ x := by
        rcases List.mem_cons.mp (p.subset (List.mem_cons_self (a := x) (l := a))) with z | z
        · rw [z]; exact Int.le_refl _
        · exact hb'.1 x z
      have h2 : x ≤ y := by
        rcases List.mem_cons.mp (p.symm.subset (List.mem_cons_self (a := y) (l := b))) with z | z
        · rw [z]; exact Int.le_refl _
        · exact ha'.1 y z
      exact Int.le_antisymm h2 h1
    subst e
    rw [pw_uniq (List.Perm.cons_inv p) ha'.2 hb'.2]
theorem isort_uniq {a b : List Int} (p : a.Perm b) (h : a.Pairwise (· ≤ ·)) : a = isort b := pw_uniq (p.trans (isort_perm b).symm) h (isort_pw b)
theorem RDs.ints {K : PySem.W.Frag} {L : Lay} {ρ : List Addr} {H : Hp} : ∀ ns : List Int, RDs K L ρ H (ns.map D.int) (ns.map V.int)
  | [] => .nil
  | n :: r => .cons (.int n) (RDs.ints r)
theorem keysI_map {K : PySem.W.Frag} {L : Lay} {ρ : List Addr} {H : Hp} : ∀ {kvs : List (Key × D)} {vs : List (Key × V)} {ns : List Int}, RKs K L ρ H kvs vs → keysI kvs = some ns → vs.map (·.1) = ns.map Sum.inl
  | [], _, ns, .nil, h => by cases h; rfl
  | (k, d) :: kvs, _, ns, .cons (b := q) r t, h => by
    obtain ⟨e, _⟩ := r
    cases k with
    | inr x => cases h
    | inl i =>
      have h : (match keysI kvs with | some ns => some (i :: ns) | none => none) = some ns := h
      cases z : keysI kvs with
      | none => rw [z] at h; cases h
      | some ms =>
        rw [z] at h
        cases h
        rw [List.map_cons, List.map_cons, keysI_map t z]
        have e : Sum.inl i = q.1 := e
        rw [← e]
theorem merge_rks {K : PySem.W.Frag} {L : Lay} {ρ : List Addr} {H : Hp} : ∀ {kvs : List (Key × D)} {vs : List (Key × V)} {acc : List (Key × D)} {acv : List (Key × V)}, RKs K L ρ H kvs vs → RKs K L ρ H acc acv → RKs K L ρ H (kvs.foldl (fun acc kv => dput acc kv.1 kv.2) acc) (mergeK acv vs)
  | [], _, acc, acv, .nil, ra => ra
  | p :: kvs, _, acc, acv, .cons (b := q) r t, ra => by
    obtain ⟨e, r⟩ := r
    show RKs K L ρ H (kvs.foldl _ (dput acc p.1 p.2)) (mergeK (putK acv q.1 q.2) _)
    refine merge_rks t ?_
    rw [← e]
    exact ra.put p.1 r
theorem prs_rd {K : PySem.W.Frag} {L : Lay} {ρ : List Addr} {H : Hp} : ∀ {xs : List D} {vs : List V} {kvs : List (Key × D)}, RDs K L ρ H xs vs → prsOf xs = some kvs → ∃ (ps : List Addr) (kvs' : List (Key × V)), vs = ps.map V.ref ∧ Paired (fun p kv => SqT K H p [kV kv.1, kv.2]) ps kvs' ∧ RKs K L ρ H kvs kvs'
  | [], _, kvs, .nil, h => by
    cases h
    exact ⟨[], [], rfl, .nil, .nil⟩
  | d :: xs, _, kvs, .cons r t, h => by
    unfold prsOf at h
    split at h
    · rename_i z
      cases z
    · rename_i k v r' heq
      cases heq
      cases e : kOf k with
      | none => simp only [e] at h; cases h
      | some key =>
        cases e2 : prsOf xs with
        | none => simp only [e, e2] at h; cases h
        | some kvs0 =>
          simp only [e, e2] at h
          cases h
          obtain ⟨ps, kvs', h1, h2, h3⟩ := prs_rd t e2
          cases r with
          | @tup a us _ hs tt =>
            cases tt with
            | cons r1 tt =>
              cases tt with
              | cons r2 tt =>
                cases tt
                have ek := kOf_kV r1 e
                subst ek
                exact ⟨a :: ps, (key, _) :: kvs', by rw [h1]; rfl, .cons hs h2, .cons ⟨rfl, r2⟩ h3⟩
    · cases h
theorem imax_spec : ∀ (ns : List Int) (m : Int), (imax m ns = m ∨ imax m ns ∈ ns) ∧ m ≤ imax m ns ∧ ∀ y ∈ ns, y ≤ imax m ns
  | [], m => ⟨.inl rfl, Int.le_refl _, fun y h => by cases h⟩
  | n :: r, m => by
    have ih := imax_spec r (if n > m then n else m)
    show (imax (if n > m then n else m) r = m ∨ imax (if n > m then n else m) r ∈ n :: r) ∧ m ≤ imax (if n > m then n else m) r ∧ ∀ y ∈ n :: r, y ≤ imax (if n > m then n else m) r
    obtain ⟨h1, h2, h3⟩ := ih
    refine ⟨?_, ?_, fun y hy => ?_⟩
    · rcases h1 with h1 | h1
      · by_cases h : n > m
        · rw [if_pos h] at h1 ⊢; right; rw [h1]; exact List.mem_cons_self
        · rw [if_neg h] at h1 ⊢; left; exact h1
      · right; exact List.mem_cons_of_mem _ h1
    · split at h2 <;> split <;> omega
    · rcases List.mem_cons.mp hy with e | e
      · subst e; split at h2 <;> split <;> omega
      · exact h3 y e
theorem imin_spec : ∀ (ns : List Int) (m : Int), (imin m ns = m ∨ imin m ns ∈ ns) ∧ imin m ns ≤ m ∧ ∀ y ∈ ns, imin m ns ≤ y
  | [], m => ⟨.inl rfl, Int.le_refl _, fun y h => by cases h⟩
  | n :: r, m => by
    have ih := imin_spec r (if n < m then n else m)
    show (imin (if n < m then n else m) r = m ∨ imin (if n < m then n else m) r ∈ n :: r) ∧ imin (if n < m then n else m) r ≤ m ∧ ∀ y ∈ n :: r, imin (if n < m then n else m) r ≤ y
    obtain ⟨h1, h2, h3⟩ := ih
    refine ⟨?_, ?_, fun y hy => ?_⟩
    · rcases h1 with h1 | h1
      · by_cases h : n < m
        · rw [if_pos h] at h1 ⊢; right; rw [h1]; exact List.mem_cons_self
        · rw [if_neg h] at h1 ⊢; left; exact h1
      · right; exact List.mem_cons_of_mem _ h1
    · split at h2 <;> split <;> omega
    · rcases List.mem_cons.mp hy with e | e
      · subst e; split at h2 <;> split <;> omega
      · exact h3 y e

section
variable {X : Cx} {L : Lay}
theorem repr_any (hg : X.A.guards = some []) (hu : X.A.units + 200 < cLine) : CallR X (.builtin "repr") (fun vs H Q => ∃ x a, vs = [x] ∧ Dp X.K H x a ∧ SeqAt.shaped a = true ∧ a.showable = true ∧ a.shown.length ≤ sizeLine ∧ Q (.str a.shown) H) := by
  intro pins s σ H xs us Q I rv h
  obtain ⟨x, a, rfl, hd, hs, hw, hz, q⟩ := h
  obtain ⟨u, rfl, rx⟩ := vals1 rv
  have fin : ∀ (h' : Heap) (t tk : Nat), (∀ b o, s.heap.get? b = some o → h'.get? b = some o) → EP X pins σ Q (.str a.shown t) { s with heap := h', toks := tk } := fun h' t tk k => ⟨.str a.shown, H, I.kept k, ⟨t, rfl⟩, q⟩
  have hdep : a.depth ≤ 64 := by
    unfold SeqAt.shaped at hs
    simp only [Bool.and_eq_true, decide_eq_true_eq] at hs
    exact hs.2
  have hnd : a.hasDict = false := PyData.hasDict_of_canLay a (SeqAt.canLay_of_shaped hs)
  have refs : ∀ (p : Addr), u = .ref p → wpAny (model X.prog X.w) X.A (call (.builtin "repr") [u]) (EP X pins σ Q) X.xe s := fun p e => by
    obtain ⟨as, r1⟩ := Dp.reads I a x u hd rx
    subst e
    exact repr_of_reads' r1 hw (PyData.noDict_hsm hnd) hg (by omega) (fun _ _ e => e) (fun h' t tk k => fin h' t tk k) hz
  cases hd with
  | non =>
    cases rx
    refine PySem.P.repr_of_none ?_
    have := fin s.heap s.toks (s.toks + 1) (fun _ _ e => e)
    rw [PyData.shown_none] at this
    exact this
  | bl b =>
    cases rx
    refine PySem.P.repr_of_bool ?_
    have := fin s.heap s.toks (s.toks + 1) (fun _ _ e => e)
    rw [PyData.shown_bool] at this
    exact this
  | int i =>
    obtain ⟨t, rfl⟩ := rx
    refine PySem.P.repr_of_int (by simpa [PyData.showable] using hw) ?_
    have := fin s.heap s.toks (s.toks + 1) (fun _ _ e => e)
    rw [PyData.shown_int] at this
    exact this
  | str z =>
    obtain ⟨t, rfl⟩ := rx
    refine PySem.P.repr_of_str ?_ (by rw [PyData.shown_str] at hz; exact hz)
    have := fin s.heap s.toks (s.toks + 1) (fun _ _ e => e)
    rw [PyData.shown_str] at this
    exact this
  | lst _ _ => cases rx; exact refs _ rfl
  | tup _ _ => cases rx; exact refs _ rfl

/-! data for repr: empty dicts too -/
mutual
inductive Dr (K : PySem.W.Frag) (H : Hp) : V → PyData → Prop
  | non : Dr K H .non .none
  | bl (b : Bool) : Dr K H (.bl b) (.bool b)
  | int (i : Int) : Dr K H (.int i) (.int i)
  | str (x : Str) : Dr K H (.str x) (.str x)
  | dic {p : Addr} : H p = some (.dK []) → Dr K H (.ref p) (.dict [])
  | tup {a : Addr} {xs : List V} {ds : List PyData} : SqT K H a xs → DrAll K H xs ds → Dr K H (.ref a) (.tuple ds)
inductive DrAll (K : PySem.W.Frag) (H : Hp) : List V → List PyData → Prop
  | nil : DrAll K H [] []
  | cons {v : V} {vs : List V} {d : PyData} {ds : List PyData} : Dr K H v d → DrAll K H vs ds → DrAll K H (v :: vs) (d :: ds)
end
mutual
theorem Dr.reads {pins : List (Addr × Obj)} {σ : L2.St} {H : Hp} {s : Shared} (I : Inv X pins σ H s) : ∀ (d : PyData) (v : V) (u : Value), Dr X.K H v d → RelV v u → ∃ as, Reads s.heap u d as ∧ sysModules ∉ as
  | .none, _, _, h, r => by
    cases h; cases r
    exact ⟨_, .none, nofun⟩
  | .bool b, _, _, h, r => by
    cases h; cases r
    exact ⟨_, .bool _, nofun⟩
  | .int i, _, _, h, r => by
    cases h
    obtain ⟨t, rfl⟩ := r
    exact ⟨_, .int _ _, nofun⟩
  | .str x, _, _, h, r => by
    cases h
    obtain ⟨t, rfl⟩ := r
    exact ⟨_, .str _ _, nofun⟩
  | .list _, _, _, h, _ => by cases h
  | .dict kvs, _, _, h, r => by
    cases h with
    | @dic p h =>
      cases r
      obtain ⟨_, z, vs, rel, o, es, ep, e1, e2, e3, _, e5, _⟩ := (show ObjOk X.prog X.w H s.heap p (.dK []) from I.hok p _ h)
      cases rel
      have e6 : es.toList = [] := by
        cases q : es.toList with
        | nil => rfl
        | cons x l => rw [q] at e5; cases e5
      refine ⟨_, Reads.dict (kvs := []) e1 e2.1 e3 (by rw [e6]; exact .nil) (by rw [e6]; exact .nil), fun hm => ?_⟩
      have : sysModules = p := by simpa using hm
      rw [← this] at z
      simp at z
  | .tuple ds, _, _, h, r => by
    cases h with
    | tup hs t =>
      cases r
      obtain ⟨its, rv, ⟨o, ho, hc, n, hd⟩, _⟩ := I.tuple hs
      obtain ⟨as, q, nq⟩ := DrAll.reads I ds _ its t rv
      exact ⟨_, Reads.tuple ho hc hd q, nq⟩
theorem DrAll.reads {pins : List (Addr × Obj)} {σ : L2.St} {H : Hp} {s : Shared} (I : Inv X pins σ H s) : ∀ (ds : List PyData) (vs : List V) (us : List Value), DrAll X.K H vs ds → Vals vs us → ∃ as, ReadsAll s.heap us ds as ∧ sysModules ∉ as
  | [], _, _, h, r => by
    cases h; cases r
    exact ⟨_, .nil, nofun⟩
  | d :: ds, _, _, h, r => by
    cases h with
    | cons h t =>
      cases r with
      | cons r rs =>
        obtain ⟨as, q1, n1⟩ := Dr.reads I d _ _ h r
        obtain ⟨bs, q2, n2⟩ := DrAll.reads I ds _ _ t rs
        refine ⟨_, .cons q1 q2, fun hm => ?_⟩
        rcases List.mem_append.mp hm with hm | hm
        · exact n1 hm
        · exact n2 hm
end
theorem repr_dr (hg : X.A.guards = some []) (hu : X.A.units + 200 < cLine) : CallR X (.builtin "repr") (fun vs H Q => ∃ x a, vs = [x] ∧ Dr X.K H x a ∧ a.depth ≤ 64 ∧ a.showable = true ∧ a.shown.length ≤ sizeLine ∧ Q (.str a.shown) H) := by
  intro pins s σ H xs us Q I rv h
  obtain ⟨x, a, rfl, hd, hdep, hw, hz, q⟩ := h
  obtain ⟨u, rfl, rx⟩ := vals1 rv
  have fin : ∀ (h' : Heap) (t tk : Nat), (∀ b o, s.heap.get? b = some o → h'.get? b = some o) → EP X pins σ Q (.str a.shown t) { s with heap := h', toks := tk } := fun h' t tk k => ⟨.str a.shown, H, I.kept k, ⟨t, rfl⟩, q⟩
  have refs : ∀ (p : Addr), u = .ref p → wpAny (model X.prog X.w) X.A (call (.builtin "repr") [u]) (EP X pins σ Q) X.xe s := fun p e => by
    obtain ⟨as, r1, ns⟩ := Dr.reads I a x u hd rx
    subst e
    exact repr_of_reads' r1 hw (fun _ => ns) hg (by omega) (fun _ _ e => e) (fun h' t tk k => fin h' t tk k) hz
  cases hd with
  | non =>
    cases rx
    refine PySem.P.repr_of_none ?_
    have := fin s.heap s.toks (s.toks + 1) (fun _ _ e => e)
    rw [PyData.shown_none] at this
    exact this
  | bl b =>
    cases rx
    refine PySem.P.repr_of_bool ?_
    have := fin s.heap s.toks (s.toks + 1) (fun _ _ e => e)
    rw [PyData.shown_bool] at this
    exact this
  | int i =>
    obtain ⟨t, rfl⟩ := rx
    refine PySem.P.repr_of_int (by simpa [PyData.showable] using hw) ?_
    have := fin s.heap s.toks (s.toks + 1) (fun _ _ e => e)
    rw [PyData.shown_int] at this
    exact this
  | str z =>
    obtain ⟨t, rfl⟩ := rx
    refine PySem.P.repr_of_str ?_ (by rw [PyData.shown_str] at hz; exact hz)
    have := fin s.heap s.toks (s.toks + 1) (fun _ _ e => e)
    rw [PyData.shown_str] at this
    exact this
  | dic _ => cases rx; exact refs _ rfl
  | tup _ _ => cases rx; exact refs _ rfl
section
variable {ρ : List Addr} {hp : Hq} {H : Hp} {K : PySem.W.Frag}
mutual
theorem toR_dr (r : RelH K L ρ hp H) : ∀ (n : Nat) (d : D) (v : V) (a : PyData), RD K L ρ H d v → toR n hp d = some a → Dr K H v a
  | 0, _, _, _, _, h => by cases h
  | n + 1, d, v, a, q, h => by
    cases q with
    | non => cases h; exact .non
    | bl b => cases h; exact .bl b
    | int i => cases h; exact .int i
    | str x => cases h; exact .str x
    | @tup p xs ds hs t =>
      have h' : (mapO (toR n hp) ds).map .tuple = some a := h
      cases e : mapO (toR n hp) ds with
      | none => rw [e] at h'; cases h'
      | some as =>
        rw [e] at h'
        cases h'
        exact .tup hs (toRs_dr r n ds xs as t e)
    | @ref i p hs =>
      have h' : (match hp[i]? with | some (.dic []) => some (PyData.dict []) | _ => none) = some a := h
      obtain ⟨o, u, h1, h2, h3⟩ := r.at2 hs
      rw [h1] at h'
      cases h3 with
      | dic t =>
        cases t with
        | nil => cases h'; exact .dic h2
        | cons _ _ => cases h'
      | _ => cases h'
    | _ => cases h
theorem toRs_dr (r : RelH K L ρ hp H) : ∀ (n : Nat) (ds : List D) (vs : List V) (as : List PyData), RDs K L ρ H ds vs → mapO (toR n hp) ds = some as → DrAll K H vs as
  | n, [], _, as, .nil, h => by cases h; exact .nil
  | n, d :: ds, _, as, .cons q t, h => by
    unfold mapO at h
    cases e : toR n hp d with
    | none => rw [e] at h; cases h
    | some y =>
      rw [e] at h
      cases e2 : mapO (toR n hp) ds with
      | none => simp only [e2] at h; cases h
      | some ys =>
        simp only [e2] at h
        cases h
        exact .cons (toR_dr r n d _ y q e) (toRs_dr r n ds _ ys t e2)
end
end

theorem kit_all : ∀ a ∈ "NoneType" :: tyAll, ∀ b ∈ tyAll, kitB a b = some (isiB a b) := by decide +kernel
theorem ty_of {ρ : List Addr} {hp : Hq} {H : Hp} {d : D} {v : V} {a : String} (r : RelH X.K L ρ hp H) (q : RD X.K L ρ H d v) (h : tyOf hp d = some a) : TyX X.K H v (.type a) ∧ a ∈ "NoneType" :: tyAll := by
  cases q with
  | non => cases h; exact ⟨.base .non, by decide +kernel⟩
  | bl b => cases h; exact ⟨.base (.bl b), by decide +kernel⟩
  | int i => cases h; exact ⟨.base (.int i), by decide +kernel⟩
  | str x => cases h; exact ⟨.base (.str x), by decide +kernel⟩
  | tup hs t =>
    cases h
    refine ⟨?_, by decide +kernel⟩
    rcases hs with (e | ⟨o, e⟩) | ⟨o, its, n, e, c, _⟩
    · exact .base (.tup e)
    · exact .fTuple e
    · exact .kTuple e c
  | kl hs t =>
    cases h
    refine ⟨?_, by decide +kernel⟩
    rcases hs with ⟨o, e⟩ | ⟨o, its, n, e, c, _⟩
    · exact .base (.frz e)
    · exact .kList e c
  | @ref i p hs =>
    obtain ⟨o, u, g1, g2, g3⟩ := r.at2 hs
    unfold tyOf at h
    simp only [g1] at h
    cases g3 with
    | lst t => cases h; exact ⟨.base (.lst g2), by decide +kernel⟩
    | dic t => cases h; exact ⟨.base (.dK g2), by decide +kernel⟩
    | fdic t => cases h; exact ⟨.fDict g2, by decide +kernel⟩
    | _ => cases h
  | _ => cases h
theorem mi_bf (hc : X.calm = true) (hg : X.A.guards = some []) (hu : X.A.units + 200 < cLine) (b : BF) : CallR X (bfV b) (rBF X.K L b) := by
  intro pins s σ H vs us Q I rv h
  obtain ⟨ρ, hp, ds, r, q, h⟩ := h
  cases b with
  | len =>
    cases q with
    | nil => exact False.elim h
    | @cons d v _ _ qd qt =>
      cases qt with
      | cons _ _ => exact False.elim (by cases d <;> exact h)
      | nil =>
        cases qd with
        | str x => exact call_len_str pins s σ H _ us Q I rv ⟨x, rfl, by rw [← sz_line]; exact h.1, h.2.here r (.int _)⟩
        | @tup a xs ys hs t =>
          have h : KQ X.K L ρ H Q (.int ys.length) hp := h
          rw [t.len] at h
          exact call_len_seq pins s σ H _ us Q I rv ⟨a, xs, rfl, .inr hs, h.here r (.int _)⟩
        | @kl a xs ys hs t =>
          have h : KQ X.K L ρ H Q (.int ys.length) hp := h
          rw [t.len] at h
          exact call_len_seq pins s σ H _ us Q I rv ⟨a, xs, rfl, .inl hs.sq, h.here r (.int _)⟩
        | @ref i a hs =>
          obtain ⟨o, w, g1, g2, g3⟩ := r.at2 hs
          unfold oBF at h
          simp only [g1] at h
          cases g3 with
          | @lst ys xs t =>
            have h : KQ X.K L ρ H Q (.int ys.length) hp := h
            rw [t.len] at h
            exact call_len_seq pins s σ H _ us Q I rv ⟨a, xs, rfl, .inl (.of g2), h.here r (.int _)⟩
          | @dic ys xs t =>
            have h : KQ X.K L ρ H Q (.int ys.length) hp := h
            rw [t.len] at h
            obtain ⟨u, rfl, rx⟩ := vals1 rv
            cases rx
            exact d_len I (.inl g2) fun t' s' I' => ⟨.int xs.length, H, I', ⟨t', rfl⟩, h.here r (.int _)⟩
          | @fdic ys xs ob t =>
            have h : KQ X.K L ρ H Q (.int ys.length) hp := h
            rw [t.len] at h
            obtain ⟨u, rfl, rx⟩ := vals1 rv
            cases rx
            exact d_len I (.inr ⟨_, g2⟩) fun t' s' I' => ⟨.int xs.length, H, I', ⟨t', rfl⟩, h.here r (.int _)⟩
          | _ => exact False.elim h
        | _ => exact False.elim h
  | list1 =>
    cases q with
    | nil => exact False.elim h
    | @cons d v _ _ qd qt =>
      cases qt with
      | cons _ _ => exact False.elim h
      | nil =>
        unfold oBF at h
        cases e : sqOf hp d with
        | none => simp only [e] at h; exact False.elim h
        | some ys =>
          simp only [e] at h
          obtain ⟨a, xs, rfl, hs, t⟩ := qd.sq r e
          exact call_list_of pins s σ H _ us Q I rv ⟨a, xs, rfl, hs, KQ.new h r (.lst t)⟩
  | tuple1 =>
    cases q with
    | nil => exact False.elim h
    | @cons d v _ _ qd qt =>
      cases qt with
      | cons _ _ => exact False.elim h
      | nil =>
        unfold oBF at h
        cases e : sqOf hp d with
        | none => simp only [e] at h; exact False.elim h
        | some ys =>
          simp only [e] at h
          have h : KQ X.K L ρ H Q (.tup ys) hp := h
          obtain ⟨a, xs, rfl, hs, t⟩ := qd.sq r e
          refine call_tuple_of pins s σ H _ us Q I rv ⟨a, xs, rfl, ?_⟩
          rcases hs with hs | hs
          · exact .inl ⟨hs, h.tup r t⟩
          · exact .inr ⟨hs, h.here r (.tup hs t)⟩
  | dict1 =>
    cases q with
    | nil => exact False.elim h
    | @cons d v _ _ qd qt =>
      cases qt with
      | cons _ _ => exact False.elim h
      | nil =>
        unfold oBF at h
        cases e : lsOf hp d with
        | some ys =>
          simp only [e] at h
          cases e2 : prsOf ys with
          | none => simp only [e2] at h; exact False.elim h
          | some kvs =>
            simp only [e2] at h
            obtain ⟨a, xs, rfl, hs, t⟩ := qd.lsq r e
            obtain ⟨ps, kvs', rfl, h2, h3⟩ := prs_rd t e2
            exact call_dictP hc pins s σ H _ us Q I rv ⟨a, ps, kvs', rfl, hs, h2, KQ.new h r (.dic (merge_rks h3 .nil))⟩
        | none =>
          simp only [e] at h
          cases qd with
          | @ref i a ha =>
            simp only at h
            cases e2 : rdD hp i with
            | none => simp only [e2] at h; exact False.elim h
            | some kvs =>
              simp only [e2] at h
              obtain ⟨vs, g1, t⟩ := r.rdic ha e2
              exact call_dictD pins s σ H _ us Q I rv ⟨a, vs, rfl, g1, KQ.new h r (.dic t)⟩
          | _ => exact False.elim h
  | int1 =>
    cases q with
    | nil => exact False.elim h
    | @cons d v _ _ qd qt =>
      cases qt with
      | cons _ _ => exact False.elim (by cases d <;> exact h)
      | nil =>
        cases qd with
        | int i => exact call_int1 pins s σ H _ us Q I rv (.inl ⟨i, rfl, KQ.here h r (.int _)⟩)
        | bl k => exact call_int1 pins s σ H _ us Q I rv (.inr ⟨k, rfl, KQ.here h r (.int _)⟩)
        | _ => exact False.elim h
  | repr =>
    cases q with
    | nil => exact False.elim h
    | @cons d v _ _ qd qt =>
      cases qt with
      | cons _ _ => exact False.elim h
      | nil =>
        unfold oBF at h
        cases e : toP 40 hp d with
        | none =>
          simp only [e] at h
          cases e3 : toR 40 hp d with
          | none => simp only [e3] at h; exact False.elim h
          | some a =>
            simp only [e3] at h
            obtain ⟨⟨h1, h2, h3⟩, h⟩ := h
            exact repr_dr hg hu pins s σ H _ us Q I rv ⟨v, a, rfl, toR_dr r 40 d v a qd e3, h1, h2, by rw [← sz_line]; exact h3, KQ.here h r (.str _)⟩
        | some a =>
          simp only [e] at h
          obtain ⟨⟨h1, h2, h3⟩, h⟩ := h
          exact repr_any hg hu pins s σ H _ us Q I rv ⟨v, a, rfl, toP_dp r 40 d v a qd e, h1, h2, by rw [← sz_line]; exact h3, KQ.here h r (.str _)⟩
  | sorted1 =>
    cases q with
    | nil => exact False.elim h
    | @cons d v _ _ qd qt =>
      cases qt with
      | cons _ _ => exact False.elim h
      | nil =>
        unfold oBF at h
        cases e : lsOf hp d with
        | some ys =>
          cases e2 : intsOf ys with
          | none => simp only [e, e2] at h; exact False.elim h
          | some ns =>
            simp only [e, e2] at h
            obtain ⟨a, xs, rfl, hs, t⟩ := qd.lsq r e
            have ex := intsOf_map t e2
            subst ex
            refine cr_sortedI pins s σ H _ us Q I rv ⟨a, ns, rfl, hs, fun ns' p hp' hw hn => ?_⟩
            rw [isort_uniq hp' hw]
            exact KQ.new h r (.lst (RDs.ints _)) p hn
        | none =>
          cases qd with
          | @ref i a hs =>
            have h : (match rdD hp i with
              | some kvs => match keysI kvs with
                | some ns => OutD.cd (ns.length < 64) (.ref hp.length) (hp ++ [O.lst ((isort ns).map D.int)])
                | none => .no
              | none => .no).app (KQ X.K L ρ H Q) := by
              simp only [e] at h
              exact h
            cases e1 : rdD hp i with
            | none => simp only [e1] at h; exact False.elim h
            | some kvs =>
              cases e2 : keysI kvs with
              | none => simp only [e1, e2] at h; exact False.elim h
              | some ns =>
                simp only [e1, e2] at h
                obtain ⟨h1, h2⟩ := h
                obtain ⟨vs, g1, t⟩ := r.rdic hs e1
                refine call_sortedDI hc pins s σ H _ us Q I rv ⟨a, vs, ns, rfl, g1, keysI_map t e2, h1, fun ys p hp' hw hn => ?_⟩
                rw [isort_uniq hp' hw]
                exact KQ.new h2 r (.lst (RDs.ints _)) p hn
          | _ => simp only [e] at h; exact False.elim h
  | sum1 =>
    cases q with
    | nil => exact False.elim h
    | @cons d v _ _ qd qt =>
      cases qt with
      | cons _ _ => exact False.elim h
      | nil =>
        unfold oBF at h
        cases e : lsOf hp d with
        | none => simp only [e] at h; exact False.elim h
        | some ys =>
          cases e2 : intsOf ys with
          | none => simp only [e, Option.bind_some, e2] at h; exact False.elim h
          | some ns =>
            simp only [e, Option.bind_some, e2] at h
            obtain ⟨a, xs, rfl, hs, t⟩ := qd.lsq r e
            have ex := intsOf_map t e2
            subst ex
            exact cr_sum hc pins s σ H _ us Q I rv ⟨a, ns, rfl, hs, KQ.here h r (.int _)⟩
  | max2 =>
    cases q with
    | nil => exact False.elim h
    | @cons d v _ _ qd qt =>
      cases qt with
      | nil => exact False.elim (by cases d <;> exact h)
      | @cons d2 v2 _ _ qd2 qt =>
        cases qt with
        | cons _ _ => exact False.elim (by cases d <;> cases d2 <;> exact h)
        | nil =>
          cases d <;> cases d2 <;> first | exact False.elim h | skip
          cases qd; cases qd2
          exact call_max2 hc pins s σ H _ us Q I rv ⟨_, _, rfl, KQ.here h r (.int _)⟩
  | min2 =>
    cases q with
    | nil => exact False.elim h
    | @cons d v _ _ qd qt =>
      cases qt with
      | nil => exact False.elim (by cases d <;> exact h)
      | @cons d2 v2 _ _ qd2 qt =>
        cases qt with
        | cons _ _ => exact False.elim (by cases d <;> cases d2 <;> exact h)
        | nil =>
          cases d <;> cases d2 <;> first | exact False.elim h | skip
          cases qd; cases qd2
          exact call_min2 hc pins s σ H _ us Q I rv ⟨_, _, rfl, KQ.here h r (.int _)⟩
  | max1 =>
    cases q with
    | nil => exact False.elim h
    | @cons d v _ _ qd qt =>
      cases qt with
      | cons _ _ => exact False.elim h
      | nil =>
        unfold oBF at h
        cases e : lsOf hp d with
        | none => simp only [e] at h; exact False.elim h
        | some ys =>
          cases e2 : intsOf ys with
          | none => simp only [e, Option.bind_some, e2] at h; exact False.elim h
          | some ns =>
            simp only [e, Option.bind_some, e2] at h
            obtain ⟨a, xs, rfl, hs, t⟩ := qd.lsq r e
            have ex := intsOf_map t e2
            subst ex
            cases ns with
            | nil => exact False.elim h
            | cons n ns =>
              have h : KQ X.K L ρ H Q (.int (imax n ns)) hp := h
              refine cr_max hc pins s σ H _ us Q I rv ⟨a, n :: ns, rfl, hs, by simp, fun m hm hle => ?_⟩
              obtain ⟨k1, k2, k3⟩ := imax_spec ns n
              have e3 : m = imax n ns := by
                apply Int.le_antisymm
                · rcases List.mem_cons.mp hm with z | z
                  · rw [z]; exact k2
                  · exact k3 m z
                · rcases k1 with z | z
                  · rw [z]; exact hle n List.mem_cons_self
                  · exact hle _ (List.mem_cons_of_mem _ z)
              rw [e3]
              exact KQ.here h r (.int _)
  | min1 =>
    cases q with
    | nil => exact False.elim h
    | @cons d v _ _ qd qt =>
      cases qt with
      | cons _ _ => exact False.elim h
      | nil =>
        unfold oBF at h
        cases e : lsOf hp d with
        | none => simp only [e] at h; exact False.elim h
        | some ys =>
          cases e2 : intsOf ys with
          | none => simp only [e, Option.bind_some, e2] at h; exact False.elim h
          | some ns =>
            simp only [e, Option.bind_some, e2] at h
            obtain ⟨a, xs, rfl, hs, t⟩ := qd.lsq r e
            have ex := intsOf_map t e2
            subst ex
            cases ns with
            | nil => exact False.elim h
            | cons n ns =>
              have h : KQ X.K L ρ H Q (.int (imin n ns)) hp := h
              refine cr_min hc pins s σ H _ us Q I rv ⟨a, n :: ns, rfl, hs, by simp, fun m hm hle => ?_⟩
              obtain ⟨k1, k2, k3⟩ := imin_spec ns n
              have e3 : m = imin n ns := by
                apply Int.le_antisymm
                · rcases k1 with z | z
                  · rw [z]; exact hle n List.mem_cons_self
                  · exact hle _ (List.mem_cons_of_mem _ z)
                · rcases List.mem_cons.mp hm with z | z
                  · rw [z]; exact k2
                  · exact k3 m z
              rw [e3]
              exact KQ.here h r (.int _)
  | all1 =>
    cases q with
    | nil => exact False.elim h
    | @cons d v _ _ qd qt =>
      cases qt with
      | cons _ _ => exact False.elim h
      | nil =>
        unfold oBF at h
        cases e : lsOf hp d with
        | none => simp only [e] at h; exact False.elim h
        | some ys =>
          cases e2 : boolsOf ys with
          | none => simp only [e, Option.bind_some, e2] at h; exact False.elim h
          | some ns =>
            simp only [e, Option.bind_some, e2] at h
            obtain ⟨a, xs, rfl, hs, t⟩ := qd.lsq r e
            have ex := boolsOf_map t e2
            subst ex
            exact cr_all hc pins s σ H _ us Q I rv ⟨a, ns, rfl, hs, KQ.here h r (.bl _)⟩
  | any1 =>
    cases q with
    | nil => exact False.elim h
    | @cons d v _ _ qd qt =>
      cases qt with
      | cons _ _ => exact False.elim h
      | nil =>
        unfold oBF at h
        cases e : lsOf hp d with
        | none => simp only [e] at h; exact False.elim h
        | some ys =>
          cases e2 : boolsOf ys with
          | none => simp only [e, Option.bind_some, e2] at h; exact False.elim h
          | some ns =>
            simp only [e, Option.bind_some, e2] at h
            obtain ⟨a, xs, rfl, hs, t⟩ := qd.lsq r e
            have ex := boolsOf_map t e2
            subst ex
            exact cr_any hc pins s σ H _ us Q I rv ⟨a, ns, rfl, hs, KQ.here h r (.bl _)⟩
  | isi =>
    cases q with
    | nil => exact False.elim h
    | @cons d v _ _ qd qt =>
      cases qt with
      | nil => exact False.elim h
      | @cons d2 v2 _ _ qd2 qt =>
        cases qt with
        | cons _ _ => exact False.elim (by cases d2 <;> exact h)
        | nil =>
          cases qd2 with
          | ty b =>
            unfold oBF at h
            cases e : tyOf hp d with
            | none => simp only [e] at h; exact False.elim h
            | some a =>
              simp only [e] at h
              split at h
              · rename_i hb
                obtain ⟨ty, ha⟩ := ty_of r qd e
                exact call_isi pins s σ H _ us Q I rv ⟨v, .ty b, .type a, .type b, isiB a b, rfl, .ty b, ty, kit_ty (kit_all a ha b (by simpa using hb)), h.here r (.bl _)⟩
              · exact False.elim h
          | _ => exact False.elim h
  | _ => exact False.elim h
theorem alike_ints (ns : List Int) : PySem.W.AlikeAll (ns.map PyData.int) := by
  refine ⟨fun x hx y hy => ?_, fun x hx => ?_⟩
  · obtain ⟨i, _, rfl⟩ := List.mem_map.mp hx
    obtain ⟨j, _, rfl⟩ := List.mem_map.mp hy
    rfl
  · obtain ⟨i, _, rfl⟩ := List.mem_map.mp hx
    exact fun z => nomatch z
theorem DpAll.ints {K : PySem.W.Frag} {H : Hp} : ∀ ns : List Int, DpAll K H (ns.map V.int) (ns.map PyData.int)
  | [] => .nil
  | n :: r => .cons (.int n) (DpAll.ints r)
theorem depth_ints : ∀ ns : List Int, PyData.depthAll (ns.map PyData.int) ≤ 1
  | [] => Nat.zero_le _
  | n :: r => by
    show max (PyData.int n).depth (PyData.depthAll (r.map PyData.int)) ≤ 1
    exact Nat.max_le.mpr ⟨by unfold PyData.depth; exact Nat.zero_le _, depth_ints r⟩
theorem imin_fold : ∀ (ns : List Int) (m : Int), imin m ns = ns.foldl min m
  | [], m => rfl
  | n :: r, m => by
    show imin (if n < m then n else m) r = r.foldl min (min m n)
    rw [imin_fold r]
    congr 1
    split <;> omega
theorem imax_fold : ∀ (ns : List Int) (m : Int), imax m ns = ns.foldl max m
  | [], m => rfl
  | n :: r, m => by
    show imax (if n > m then n else m) r = r.foldl max (max m n)
    rw [imax_fold r]
    congr 1
    split <;> omega
def rMmd (K : PySem.W.Frag) (L : Lay) (mx : Bool) : List V → List V → Hp → VK → Prop := fun vs zs H Q => ∃ ρ hp d e v z, vs = [v] ∧ zs = [z] ∧ RelH K L ρ hp H ∧ RD K L ρ H d v ∧ RD K L ρ H e z ∧ (oMmd mx d e hp).app (KQ K L ρ H Q)
theorem mi_mmd (hc : X.calm = true) (hu : X.A.units + 200 < cLine) (mx : Bool) : CallRK X (.builtin (if mx then "max" else "min")) ["default"] (rMmd X.K L mx) := by
  intro pins s σ H vs zs us ws Q I rv rz h
  obtain ⟨ρ, hp, d, e, v, z, rfl, rfl, r, q1, q2, h⟩ := h
  unfold oMmd at h
  cases e1 : lsOf hp d with
  | none => simp only [e1] at h; exact False.elim h
  | some ys =>
    cases e2 : intsOf ys with
    | none => simp only [e1, Option.bind_some, e2] at h; exact False.elim h
    | some ns =>
      simp only [e1, Option.bind_some, e2] at h
      obtain ⟨a, xs, rfl, hs, t⟩ := q1.lsq r e1
      have ex := intsOf_map t e2
      subst ex
      obtain ⟨its, rx, hl, _⟩ := I.list hs
      obtain ⟨as, ra⟩ := Dp.readsAll I (ns.map PyData.int) _ _ (DpAll.ints ns) rx
      have ru := Vals.ref1 rv
      subst ru
      obtain ⟨w, rfl, rw'⟩ := Vals.one rz
      have hd := depth_ints ns
      have kp : ∀ {v' : V} {u' : Value} {h' : Heap} {tk : Nat}, RelV v' u' → Q v' H → (∀ b o, s.heap.get? b = some o → h'.get? b = some o) → EP X pins σ Q u' { s with heap := h', toks := tk } := fun {v' u' h' tk} r q k => ⟨v', H, I.kept k, r, q⟩
      have itm : ∀ {i : Nat} {u : Value} {n : Int} {h' : Heap} {bs : List Addr}, its.toArray[i]? = some u → Reads h' u (.int n) bs → RelV (.int n) u := fun {i u n h' bs} _ rr => by
        cases rr with
        | int _ t => exact ⟨t, rfl⟩
      cases mx with
      | false =>
        refine PySem.W.min_list_default (I.ok.hd hc) hl.isList (by simpa using ra) (alike_ints ns) (by omega) (fun hn h' tk k => ?_) (fun y yt i u h' tk bs hy hi rr k => ?_)
        · cases ns with
          | nil => exact kp rw' (h.here r q2) k
          | cons _ _ => cases hn
        · cases ns with
          | nil => cases hy
          | cons n nr =>
            cases hy
            rw [PySem.W.minD_ints, ← imin_fold] at rr
            exact kp (itm hi rr) (h.here r (.int _)) k
      | true =>
        refine PySem.W.max_list_default (I.ok.hd hc) hl.isList (by simpa using ra) (alike_ints ns) (by omega) (fun hn h' tk k => ?_) (fun y yt i u h' tk bs hy hi rr k => ?_)
        · cases ns with
          | nil => exact kp rw' (h.here r q2) k
          | cons _ _ => cases hn
        · cases ns with
          | nil => cases hy
          | cons n nr =>
            cases hy
            rw [PySem.W.maxD_ints, ← imax_fold] at rr
            exact kp (itm hi rr) (h.here r (.int _)) k
end
end MI
/-! MI, part 8: methods of built-in types; stores; attributes, by values. -/
namespace MI
open PySem PySem.Spec PyProof.Rows L2
section
variable {X : Cx} {L : Lay}

def bkT : BK → String
  | .lst => "list"
  | .dic => "dict"
  | .str => "str"
/-- a built-in type's method, as the text calls it on a receiver of this kind -/
structure BmFact (X : Cx) (L : Lay) (m : BM) (k : BK) : Prop where
  ex : ∃ T id, PlainAttrs T ∧ Slot T (bmName m) id ∧ typeOf (.builtin id) = pure (.type "method_descriptor") ∧ bkT k = T ∧
    ∀ (pins : List (Addr × Obj)) (s : Shared) (σ : L2.St) (H : Hp) (x : V) (xs : List V) (v : Value) (us : List Value) (Q : VK) (ρ : List Addr) (hp : Hq) (d : D) (ds : List D),
      Inv X pins σ H s → RelV x v → Vals xs us → RelH X.K L ρ hp H → RD X.K L ρ H d x → RDs X.K L ρ H ds xs → (oBM m k d ds hp).app (KQ X.K L ρ H Q) →
      wpAny (model X.prog X.w) X.A (call (.builtin id) (v :: us)) (EP X pins σ Q) X.xe s

theorem bm_kind {pins : List (Addr × Obj)} {σ : L2.St} {H : Hp} {s : Shared} {ρ : List Addr} {hp : Hq} {d : D} {x : V} {v : Value} {m : BM} {k : BK} (I : Inv X pins σ H s) (r : RelH X.K L ρ hp H) (q : RD X.K L ρ H d x) (rx : RelV x v) (h : bmK m d hp = some k) :
    s.TypeIs v (bkT k) ∧ ∀ a, v = .ref a → ∃ ob, s.heap.get? a = some ob ∧ ob.dict = none := by
  cases q with
  | @ref i a hs =>
    cases rx
    obtain ⟨o, u, g1, g2, g3⟩ := r.at2 hs
    unfold bmK at h
    cases m <;> simp only [g1] at h <;> cases g3 <;> simp only [Option.some.injEq, reduceCtorEq] at h <;> subst h
    all_goals first
      | exact tyV_is (T := "list") (x := V.ref a) I rfl (.inl ⟨rfl, _, .of g2⟩)
      | exact let ⟨t1, t2, _⟩ := isD_at I (.inl ⟨_, .inl g2⟩); ⟨t1, t2⟩
      | exact let ⟨t1, t2, _⟩ := isD_at I (.inl ⟨_, .inr ⟨_, g2⟩⟩); ⟨t1, t2⟩
  | _ => exact False.elim (by cases m <;> cases h)

theorem bm_fact (hu : X.A.units + 65 < cLine) (hh : X.calm = true) : ∀ (m : BM) (k : BK) (d : D) (hp : Hq), bmK m d hp = some k → BmFact X L m k := by
  intro m k d hp h
  have hk : (m = .append ∧ k = .lst) ∨ (m = .get1 ∧ k = .dic) ∨ (m = .get2 ∧ k = .dic) ∨ (m = .pop1 ∧ k = .dic) ∨ (m = .pop1 ∧ k = .lst) ∨ (m = .pop2 ∧ k = .dic) ∨ (m = .clear ∧ k = .lst) ∨ (m = .clear ∧ k = .dic) ∨ (m = .extend ∧ k = .lst) ∨ (m = .setdef ∧ k = .dic) := by
    unfold bmK at h
    split at h <;> (try split at h) <;> simp_all
  clear h
  rcases hk with ⟨rfl, rfl⟩ | ⟨rfl, rfl⟩ | ⟨rfl, rfl⟩ | ⟨rfl, rfl⟩ | ⟨rfl, rfl⟩ | ⟨rfl, rfl⟩ | ⟨rfl, rfl⟩ | ⟨rfl, rfl⟩ | ⟨rfl, rfl⟩ | ⟨rfl, rfl⟩
  · -- append
    refine ⟨"list", "list.append", PySem.F.plainAttrs_list, PySem.F.slot_list_append, PySem.F.type_list_append, rfl, ?_⟩
    intro pins s σ H x xs v us Q ρ hp d ds I rx rv r q qs h
    cases q with
    | @ref i a hs =>
      cases qs with
      | nil => exact False.elim h
      | @cons e w _ _ qe qt =>
        cases qt with
        | cons _ _ => exact False.elim h
        | nil =>
          unfold oBM at h
          cases e1 : gtL hp i with
          | none => simp only [e1] at h; exact False.elim h
          | some ys =>
            simp only [e1] at h
            obtain ⟨vs, g1, t⟩ := r.lst hs e1
            obtain ⟨h1, h2⟩ := h
            have tl : RDs X.K L ρ H (ys ++ [e]) (vs ++ [w]) := t.app (.one qe)
            obtain ⟨r2, e2⟩ := r.put hs (.lst tl) (by intro o k z; rw [g1] at z; cases z)
            exact mt_append pins s σ H _ _ v us Q I rx rv ⟨a, vs, w, rfl, rfl, g1, by rw [← sz_line, ← t.len]; exact h1, h2 _ _ _ e2 r2 .non⟩
    | _ => exact False.elim h
  · -- get1
    refine ⟨"dict", "dict.get", PySem.F.plainAttrs_dict, PySem.F.slot_dict_get, PySem.F.type_dict_get, rfl, ?_⟩
    intro pins s σ H x xs v us Q ρ hp d ds I rx rv r q qs h
    cases q with
    | @ref i a hs =>
      cases qs with
      | nil => exact False.elim h
      | @cons e w _ _ qe qt =>
        cases qt with
        | cons _ _ => exact False.elim h
        | nil =>
          unfold oBM at h
          cases e1 : rdD hp i with
          | none => simp only [e1] at h; exact False.elim h
          | some kvs =>
            cases e2 : kOf e with
            | none => simp only [e1, e2] at h; exact False.elim h
            | some key =>
              simp only [e1, e2] at h
              obtain ⟨vs, g1, t⟩ := r.rdic hs e1
              have ew := kOf_kV qe e2
              obtain ⟨u, rfl, ru⟩ := Vals.one rv
              cases rx
              have g : DGet H a w (valV vs key) := .inl ⟨vs, key, g1, ew, rfl⟩
              refine d_get1 (by omega) I g ru fun w' s3 I3 rw' => ⟨_, H, I3, rw', ?_⟩
              have h : KQ X.K L ρ H Q ((dget kvs key).getD .non) hp := h
              rcases t.get key with ⟨k1, k2⟩ | ⟨d', v', k1, k2, k3⟩
              · rw [k1] at h; rw [k2]; exact h.here r .non
              · rw [k1] at h; rw [k2]; exact h.here r k3
    | _ => exact False.elim h
  · -- get2
    refine ⟨"dict", "dict.get", PySem.F.plainAttrs_dict, PySem.F.slot_dict_get, PySem.F.type_dict_get, rfl, ?_⟩
    intro pins s σ H x xs v us Q ρ hp d ds I rx rv r q qs h
    cases q with
    | @ref i a hs =>
      cases qs with
      | nil => exact False.elim h
      | @cons e w _ _ qe qt =>
        cases qt with
        | nil => exact False.elim h
        | @cons e' w' _ _ qe' qt =>
          cases qt with
          | cons _ _ => exact False.elim h
          | nil =>
            unfold oBM at h
            cases e1 : rdD hp i with
            | none => simp only [e1] at h; exact False.elim h
            | some kvs =>
              cases e2 : kOf e with
              | none => simp only [e1, e2] at h; exact False.elim h
              | some key =>
                simp only [e1, e2] at h
                obtain ⟨vs, g1, t⟩ := r.rdic hs e1
                have ew := kOf_kV qe e2
                obtain ⟨u, u', rfl, ru, ru'⟩ := Vals.two rv
                cases rx
                have g : DGet H a w (valV vs key) := .inl ⟨vs, key, g1, ew, rfl⟩
                refine d_get2 (by omega) I g ru ru' fun w2 s3 I3 rw' => ⟨_, H, I3, rw', ?_⟩
                have h : KQ X.K L ρ H Q ((dget kvs key).getD e') hp := h
                rcases t.get key with ⟨k1, k2⟩ | ⟨d', v', k1, k2, k3⟩
                · rw [k1] at h; rw [k2]; exact h.here r qe'
                · rw [k1] at h; rw [k2]; exact h.here r k3
    | _ => exact False.elim h
  · -- pop1 of a dict
    refine ⟨"dict", "dict.pop", PySem.F.plainAttrs_dict, PySem.F.slot_dict_pop, PySem.F.type_dict_pop, rfl, ?_⟩
    intro pins s σ H x xs v us Q ρ hp d ds I rx rv r q qs h
    cases q with
    | @ref i a hs =>
      cases qs with
      | nil => exact False.elim h
      | @cons e w _ _ qe qt =>
        cases qt with
        | cons _ _ => exact False.elim h
        | nil =>
          unfold oBM at h
          cases e1 : gtD hp i with
          | none => simp only [e1] at h; exact False.elim h
          | some kvs =>
            cases e2 : kOf e with
            | none => simp only [e1, e2] at h; exact False.elim h
            | some key =>
              simp only [e1, e2] at h
              obtain ⟨vs, g1, t⟩ := r.dic hs e1
              have ew := kOf_kV qe e2
              obtain ⟨u, rfl, ru⟩ := Vals.one rv
              cases rx
              rcases t.get key with ⟨k1, k2⟩ | ⟨d', v', k1, k2, k3⟩
              · simp only [k1] at h; exact False.elim h
              · simp only [k1] at h
                have h : KQ X.K L ρ H Q d' (hp.set i (.dic (ddrop kvs key))) := h
                obtain ⟨r2, x2⟩ := r.put hs (.dic (t.drop key)) (by intro o k z; rw [g1] at z; cases z)
                subst ew
                exact d_pop I g1 ru k2 (.inl rfl) fun w' s3 I3 rw' => ⟨_, _, I3, rw', h _ _ _ x2 r2 (k3.mono x2)⟩
    | _ => exact False.elim (by cases ds <;> first | exact h | (rename_i a b; cases b <;> exact h))
  · -- pop1 of a list
    refine ⟨"list", "list.pop", PySem.F.plainAttrs_list, PySem.F.slot_list_pop, PySem.F.type_list_pop, rfl, ?_⟩
    intro pins s σ H x xs v us Q ρ hp d ds I rx rv r q qs h
    cases q with
    | @ref i a hs =>
      cases qs with
      | nil => exact False.elim h
      | @cons e w _ _ qe qt =>
        cases qt with
        | cons _ _ => exact False.elim (by cases e <;> exact h)
        | nil =>
          cases qe with
          | int z =>
            unfold oBM at h
            cases e1 : gtL hp i with
            | none => simp only [e1] at h; exact False.elim h
            | some ys =>
              simp only [e1] at h
              cases e2 : ixN ys.length z with
              | none => simp only [e2] at h; exact False.elim h
              | some j =>
                simp only [e2] at h
                cases e3 : ys[j]? with
                | none => simp only [e3] at h; exact False.elim h
                | some d' =>
                  simp only [e3] at h
                  obtain ⟨⟨h1, h2⟩, h⟩ := h
                  obtain ⟨vs, g1, t⟩ := r.lst hs e1
                  obtain ⟨v', g2, g3⟩ := t.get e3
                  have er : ∀ {ds : List D} {vs : List V} (j : Nat), RDs X.K L ρ H ds vs → RDs X.K L ρ H (ds.eraseIdx j) (vs.eraseIdx j) := by
                    intro ds vs j t
                    rw [List.eraseIdx_eq_take_drop_succ, List.eraseIdx_eq_take_drop_succ]
                    exact (t.take _).app (t.drop _)
                  obtain ⟨r2, x2⟩ := r.put hs (.lst (er j t)) (by intro o k z; rw [g1] at z; cases z)
                  rw [t.len] at e2
                  exact mt_popAt pins s σ H _ _ v us Q I rx rv ⟨a, vs, z, j, v', rfl, rfl, g1, h1, h2, (ixN_seq e2).1, g2, h _ _ _ x2 r2 (g3.mono x2)⟩
          | _ => exact False.elim h
    | _ => exact False.elim (by cases ds <;> first | exact h | (rename_i a b; cases a <;> cases b <;> exact h))
  · -- pop2
    refine ⟨"dict", "dict.pop", PySem.F.plainAttrs_dict, PySem.F.slot_dict_pop, PySem.F.type_dict_pop, rfl, ?_⟩
    intro pins s σ H x xs v us Q ρ hp d ds I rx rv r q qs h
    cases q with
    | @ref i a hs =>
      cases qs with
      | nil => exact False.elim h
      | @cons e w _ _ qe qt =>
        cases qt with
        | nil => exact False.elim h
        | @cons e' w' _ _ qe' qt =>
          cases qt with
          | cons _ _ => exact False.elim h
          | nil =>
            unfold oBM at h
            cases e1 : gtD hp i with
            | none => simp only [e1] at h; exact False.elim h
            | some kvs =>
              cases e2 : kOf e with
              | none => simp only [e1, e2] at h; exact False.elim h
              | some key =>
                simp only [e1, e2] at h
                obtain ⟨vs, g1, t⟩ := r.dic hs e1
                have ew := kOf_kV qe e2
                obtain ⟨u, u', rfl, ru, ru'⟩ := Vals.two rv
                cases rx
                subst ew
                rcases t.get key with ⟨k1, k2⟩ | ⟨d', v', k1, k2, k3⟩
                · simp only [k1] at h
                  have h : KQ X.K L ρ H Q e' hp := h
                  exact d_popD I g1 ru k2 fun s3 I3 => ⟨w', H, I3, ru', h.here r qe'⟩
                · simp only [k1] at h
                  have h : KQ X.K L ρ H Q d' (hp.set i (.dic (ddrop kvs key))) := h
                  obtain ⟨r2, x2⟩ := r.put hs (.dic (t.drop key)) (by intro o k z; rw [g1] at z; cases z)
                  exact d_pop I g1 ru k2 (.inr ⟨_, rfl⟩) fun w2 s3 I3 rw' => ⟨_, _, I3, rw', h _ _ _ x2 r2 (k3.mono x2)⟩
    | _ => exact False.elim h
  · -- clear of a list
    refine ⟨"list", "list.clear", PySem.F.plainAttrs_list, PySem.F.slot_list_clear, PySem.F.type_list_clear, rfl, ?_⟩
    intro pins s σ H x xs v us Q ρ hp d ds I rx rv r q qs h
    cases q with
    | @ref i a hs =>
      cases qs with
      | cons _ _ => exact False.elim h
      | nil =>
        unfold oBM at h
        cases e1 : gtL hp i with
        | none => simp only [e1] at h; exact False.elim h
        | some ys =>
          simp only [e1] at h
          have h : KQ X.K L ρ H Q .non (hp.set i (.lst [])) := h
          obtain ⟨vs, g1, t⟩ := r.lst hs e1
          obtain ⟨r2, x2⟩ := r.put (o := .lst []) (u := .lst []) hs (.lst .nil) (by intro o k z; rw [g1] at z; cases z)
          exact mt_clear pins s σ H _ _ v us Q I rx rv ⟨a, vs, rfl, rfl, g1, h _ _ _ x2 r2 .non⟩
    | _ => exact False.elim (by cases ds <;> exact h)
  · -- clear of a dict
    refine ⟨"dict", "dict.clear", PySem.F.plainAttrs_dict, PySem.F.slot_dict_clear, PySem.F.type_dict_clear, rfl, ?_⟩
    intro pins s σ H x xs v us Q ρ hp d ds I rx rv r q qs h
    cases q with
    | @ref i a hs =>
      cases qs with
      | cons _ _ => exact False.elim h
      | nil =>
        unfold oBM at h
        cases e1 : gtD hp i with
        | none => simp only [e1] at h; exact False.elim h
        | some ys =>
          simp only [e1] at h
          have h : KQ X.K L ρ H Q .non (hp.set i (.dic [])) := h
          obtain ⟨vs, g1, t⟩ := r.dic hs e1
          obtain ⟨r2, x2⟩ := r.put (o := .dic []) (u := .dK []) hs (.dic .nil) (by intro o k z; rw [g1] at z; cases z)
          obtain rfl := Vals.zero rv
          cases rx
          exact d_clear I g1 fun s3 I3 => ⟨.non, _, I3, rfl, h _ _ _ x2 r2 .non⟩
    | _ => exact False.elim (by cases ds <;> exact h)
  · -- extend
    refine ⟨"list", "list.extend", PySem.F.plainAttrs_list, PySem.F.slot_list_extend, PySem.F.type_list_extend, rfl, ?_⟩
    intro pins s σ H x xs v us Q ρ hp d ds I rx rv r q qs h
    cases q with
    | @ref i a hs =>
      cases qs with
      | nil => exact False.elim h
      | @cons e w _ _ qe qt =>
        cases qt with
        | cons _ _ => exact False.elim (by cases e <;> exact h)
        | nil =>
          cases qe with
          | @ref j b hs2 =>
            have h : (match gtL hp i, gtL hp j with
              | some xs, some ys => OutD.cd (xs.length + ys.length ≤ SZ) .non (hp.set i (.lst (xs ++ ys)))
              | _, _ => .no).app (KQ X.K L ρ H Q) := h
            cases e1 : gtL hp i with
            | none => simp only [e1] at h; exact False.elim h
            | some ys =>
              cases e2 : gtL hp j with
              | none => simp only [e1, e2] at h; exact False.elim h
              | some zs =>
                simp only [e1, e2] at h
                obtain ⟨vs, g1, t⟩ := r.lst hs e1
                obtain ⟨ws, g2, t2⟩ := r.lst hs2 e2
                obtain ⟨h1, h2⟩ := h
                obtain ⟨r2, x2⟩ := r.put hs (.lst (t.app t2)) (by intro o k z; rw [g1] at z; cases z)
                exact mt_extend pins s σ H _ _ v us Q I rx rv ⟨a, b, vs, ws, rfl, rfl, g1, g2, by rw [← sz_line, ← t.len, ← t2.len]; exact h1, h2 _ _ _ x2 r2 .non⟩
          | _ => exact False.elim h
    | _ => exact False.elim (by cases qs <;> exact h)
  · -- setdefault
    refine ⟨"dict", "dict.setdefault", PySem.F.plainAttrs_dict, PySem.F.slot_dict_setdefault, PySem.F.type_dict_setdefault, rfl, ?_⟩
    intro pins s σ H x xs v us Q ρ hp d ds I rx rv r q qs h
    cases q with
    | @ref i a hs =>
      cases qs with
      | nil => exact False.elim h
      | @cons e w _ _ qe qt =>
        cases qt with
        | nil => exact False.elim h
        | @cons e' w' _ _ qe' qt =>
          cases qt with
          | cons _ _ => exact False.elim h
          | nil =>
            unfold oBM at h
            cases e1 : gtD hp i with
            | none => simp only [e1] at h; exact False.elim h
            | some kvs =>
              cases e2 : kOf e with
              | none => simp only [e1, e2] at h; exact False.elim h
              | some key =>
                simp only [e1, e2] at h
                obtain ⟨vs, g1, t⟩ := r.dic hs e1
                have ew := kOf_kV qe e2
                obtain ⟨u, u', rfl, ru, ru'⟩ := Vals.two rv
                cases rx
                subst ew
                have tl : kvs.length = vs.length := t.length
                rcases t.get key with ⟨k1, k2⟩ | ⟨d', v', k1, k2, k3⟩
                · simp only [k1] at h
                  obtain ⟨h1, h2⟩ := h
                  obtain ⟨r2, x2⟩ := r.put hs (.dic (t.put key qe')) (by intro o k z; rw [g1] at z; cases z)
                  exact d_setd I g1 ru ru' (by rw [← sz_line, ← tl]; exact h1) (fun v hv => by rw [k2] at hv; cases hv) fun _ w2 s3 I3 rw' => ⟨_, _, I3, rw', h2 _ _ _ x2 r2 (qe'.mono x2)⟩
                · simp only [k1] at h
                  obtain ⟨h1, h2⟩ := h
                  exact d_setd I g1 ru ru' (by rw [← sz_line, ← tl]; exact h1) (fun v hv w2 s3 I3 rw' => by
                    rw [k2] at hv
                    cases hv
                    exact ⟨_, H, I3, rw', KQ.here h2 r k3⟩) fun hv => by rw [k2] at hv; cases hv
    | _ => exact False.elim (by cases qs <;> exact h)

/-! ### stores -/
def rSetMI (K : PySem.W.Frag) (L : Lay) : TSet := fun o i v H Q => ∃ ρ hp d e x, RelH K L ρ hp H ∧ RD K L ρ H d o ∧ RD K L ρ H e i ∧ RD K L ρ H x v ∧ (oSet d e x hp).app fun hp' => ∀ H', Ext ρ H ρ H' → RelH K L ρ hp' H' → Q H'
theorem mi_set (hu : X.A.units + 65 < cLine) : PSet X (rSetMI X.K L) := by
  intro pins s σ H o i v ov iv u Q I ro ri rv h
  obtain ⟨ρ, hp, d, e, x, r, q1, q2, q3, h⟩ := h
  cases q1 with
  | @ref j a hs =>
    obtain ⟨ob, w, g1, g2, g3⟩ := r.at2 hs
    unfold oSet at h
    simp only [g1] at h
    cases g3 with
    | @dic kvs vs t =>
      cases e2 : kOf e with
      | none => simp only [e2] at h; exact False.elim h
      | some key =>
        simp only [e2] at h
        obtain ⟨h1, h2⟩ := h
        have ew := kOf_kV q2 e2
        obtain ⟨r2, x2⟩ := r.put hs (.dic (t.put key q3)) (by intro o k z; rw [g2] at z; cases z)
        cases ro
        subst ew
        exact d_setItem (by omega) I (DPut.k g2 (by rw [← sz_line, ← t.len]; exact h1)) ri rv fun s3 I3 => ⟨_, I3, h2 _ x2 r2⟩
    | @lst ys vs t =>
      cases q2 with
      | int z =>
        simp only at h
        cases e2 : ixN ys.length z with
        | none => simp only [e2] at h; exact False.elim h
        | some j' =>
          simp only [e2] at h
          have h : ∀ H', Ext ρ H ρ H' → RelH X.K L ρ (hp.set j (.lst (ys.set j' x))) H' → Q H' := h
          obtain ⟨r2, x2⟩ := r.put hs (.lst (t.set j' q3)) (by intro o k z; rw [g2] at z; cases z)
          rw [t.len] at e2
          exact set_list pins s σ H _ _ v ov iv u Q I ro ri rv ⟨a, vs, z, j', rfl, rfl, g2, e2, h _ x2 r2⟩
      | _ => exact False.elim h
    | _ => exact False.elim h
  | _ => exact False.elim h
end
end MI
/-! MI, part 9: expressions. -/
namespace MI
open PySem PySem.Spec PyProof.Rows L2

theorem PE.imp {X : Cx} {e : Expr} {t t' : TE} (h : PE X e t) (i : ∀ σ H Q, t' σ H Q → t σ H Q) : PE X e t' := ⟨fun pins s σ H Q I q => h.run pins s σ H Q I (i σ H Q q)⟩
theorem PT.imp {X : Cx} {e : Expr} {t t' : TT} (h : PT X e t) (i : ∀ σ H Q, t' σ H Q → t σ H Q) : PT X e t' := ⟨fun pins s σ H Q I q => h.run pins s σ H Q I (i σ H Q q)⟩
theorem PW.imp {X : Cx} {e : Expr} {t t' : TT} (h : PW X e t) (i : ∀ σ H Q, t' σ H Q → t σ H Q) : PW X e t' := ⟨fun w pins s σ H Q I q => h.run w pins s σ H Q I (i σ H Q q)⟩
theorem PA.imp {X : Cx} {e : List Expr} {t t' : TA} (h : PA X e t) (i : ∀ σ H Q, t' σ H Q → t σ H Q) : PA X e t' := ⟨fun p pins s σ H Q I q => h.run p pins s σ H Q I (i σ H Q q)⟩
theorem PO.imp {X : Cx} {e : Option Expr} {t t' : TO} (h : PO X e t) (i : ∀ σ H Q, t' σ H Q → t σ H Q) : PO X e t' := ⟨fun pins s σ H Q I q => h.run pins s σ H Q I (i σ H Q q)⟩
theorem PS.imp {X : Cx} {e : Stmt} {t t' : TS} (h : PS X e t) (i : ∀ D σ H, t' D σ H → t D σ H) : PS X e t' := ⟨fun pins s σ H D I q => h.run pins s σ H D I (i D σ H q)⟩
theorem PSs.imp {X : Cx} {e : List Stmt} {t t' : TS} (h : PSs X e t) (i : ∀ D σ H, t' D σ H → t D σ H) : PSs X e t' := ⟨fun pins s σ H D I q => h.run pins s σ H D I (i D σ H q)⟩
theorem PI.imp {X : Cx} {g e : Expr} {t t' : TI} (h : PI X g e t) (i : ∀ σ H R, t' σ H R → t σ H R) : PI X g e t' := ⟨fun pins s σ H R I q => h.run pins s σ H R I (i σ H R q)⟩
theorem PG.imp {X : Cx} {e : Expr} {t t' : TG} (h : PG X e t) (i : ∀ v σ H Q, t' v σ H Q → t v σ H Q) : PG X e t' := ⟨fun pins s σ H v u Q I r q => h.run pins s σ H v u Q I r (i v σ H Q q)⟩
theorem PGs.imp {X : Cx} {e : List Expr} {t t' : TGs} (h : PGs X e t) (i : ∀ v σ H Q, t' v σ H Q → t v σ H Q) : PGs X e t' := ⟨fun pins s σ H v u Q I r q => h.run pins s σ H v u Q I r (i v σ H Q q)⟩

section
variable (K : PySem.W.Frag) (L : Lay) (g : Glob) (cl : Cl) (W : WX)
def tE (e : Ex) : TE := fun σ H Q => ∃ ρ hp env, RelH K L ρ hp H ∧ RE K L ρ H env σ ∧ wE g cl e env hp (KQ K L ρ H Q) (KX K L ρ H σ W)
def tEs (es : Exs) : TA := fun σ H Q => ∃ ρ hp env, RelH K L ρ hp H ∧ RE K L ρ H env σ ∧ wEs g cl es env hp (KQs K L ρ H Q) (KX K L ρ H σ W)
def KO (ρ : List Addr) (H : Hp) (Q : Option Int → Hp → Prop) : Option D → Hq → Prop := fun o hp' => match bnd o with
  | some oi => ∀ ρ' H', Ext ρ H ρ' H' → RelH K L ρ' hp' H' → Q oi H'
  | none => False
def tEo (eo : Exo) : TO := fun σ H Q => ∃ ρ hp env, RelH K L ρ hp H ∧ RE K L ρ H env σ ∧ wEo g cl eo env hp (KO K L ρ H Q) (KX K L ρ H σ W)
def KT (ρ : List Addr) (H : Hp) (Q : Bool → Hp → Prop) : QD := fun x hp' => (oTru x hp').app fun b => ∀ ρ' H', Ext ρ H ρ' H' → RelH K L ρ' hp' H' → Q b H'
def tT (e : Ex) : TT := fun σ H Q => ∃ ρ hp env, RelH K L ρ hp H ∧ RE K L ρ H env σ ∧ wE g cl e env hp (KT K L ρ H Q) (KX K L ρ H σ W)
end

theorem ab_ok {o : Expr} {a : Str} {ev : PySem.Env} {w : Sem Value} (h : ∀ id p pos, o = .Call (.Name id p) [] [] pos → (id != ("super" : Str)) = true) : attributeBase o a ev w = w := by
  unfold attributeBase
  split
  · rename_i id p pos
    have hid := h id p pos rfl
    rw [if_pos (by rw [hid]; simp)]
  · rfl

section
variable {X : Cx} {L : Lay} {g : Glob} {cl : Cl} {W : WX} {x y z : Expr} {a b c : Ex} {pos : Pos}

theorem s_var {i : Nat} {n : Str} {p : Pos} (hN : X.N[i]? = some n) (hv : Vis X.env.scope n) (h1 : (n == ("__debug__" : Str)) = false) (h2 : (n == ("__classdict__" : Str)) = false) : PE X (.Name n p) (tE X.K L g cl W (.var i)) :=
  PE.imp (pe_var (i := i) hN hv h1 h2) fun σ H Q ⟨ρ, hp, env, r, re, h⟩ => by
    unfold wE at h
    split at h
    · rename_i d e
      obtain ⟨v, hv, rd⟩ := re.at_ i d e
      exact ⟨v, hv, h.here r rd⟩
    · exact False.elim h
theorem s_int {i : Int} {j : Nat} : PE X (.Constant (.int i) j pos) (tE X.K L g cl W (.lit (.int i))) :=
  PE.imp pe_int fun σ H Q ⟨ρ, hp, env, r, re, h⟩ => KQ.here (show KQ X.K L ρ H Q (.int i) hp from h) r (.int i)
theorem s_bl {i : Bool} {j : Nat} : PE X (.Constant (.bool i) j pos) (tE X.K L g cl W (.lit (.bl i))) :=
  PE.imp pe_bl fun σ H Q ⟨ρ, hp, env, r, re, h⟩ => KQ.here (show KQ X.K L ρ H Q (.bl i) hp from h) r (.bl i)
theorem s_str {i : Str} {j : Nat} : PE X (.Constant (.str i) j pos) (tE X.K L g cl W (.lit (.str i))) :=
  PE.imp pe_str fun σ H Q ⟨ρ, hp, env, r, re, h⟩ => KQ.here (show KQ X.K L ρ H Q (.str i) hp from h) r (.str i)
theorem s_non {j : Nat} : PE X (.Constant .none j pos) (tE X.K L g cl W (.lit .non)) :=
  PE.imp pe_non fun σ H Q ⟨ρ, hp, env, r, re, h⟩ => KQ.here (show KQ X.K L ρ H Q .non hp from h) r .non
theorem s_glob {k : Nat} {n : Str} {p : Pos} {u : Value} {v : V} {d : D} (hg : Gl X n) (hm : X.mg n = some u) (rv : RelV v u) (hk : g.consts[k]? = some d) (rd : ∀ ρ H, RD X.K L ρ H d v) (h1 : (n == ("__debug__" : Str)) = false) :
    PE X (.Name n p) (tE X.K L g cl W (.glob k)) :=
  PE.imp (pe_glob hg hm rv h1) fun σ H Q ⟨ρ, hp, env, r, re, h⟩ => by
    unfold wE at h
    simp only [hk] at h
    exact KQ.here h r (rd ρ H)

/-- two in a row -/
theorem seq2 (hm : ClMono cl) {σ : L2.St} {H : Hp} {ρ : List Addr} {hp : Hq} {env : Env} {F : D → D → Hq → Prop} {R : V → V → Hp → Prop} (r : RelH X.K L ρ hp H) (re : RE X.K L ρ H env σ)
    (h : wE g cl a env hp (fun d1 hp1 => wE g cl b env hp1 (fun d2 hp2 => F d1 d2 hp2) (KX X.K L ρ H σ W)) (KX X.K L ρ H σ W))
    (k : ∀ ρ2 hp2 H2 d1 d2 v1 v2, Ext ρ H ρ2 H2 → RelH X.K L ρ2 hp2 H2 → RD X.K L ρ2 H2 d1 v1 → RD X.K L ρ2 H2 d2 v2 → F d1 d2 hp2 → R v1 v2 H2) :
    tE X.K L g cl W a σ H fun v1 H1 => tE X.K L g cl W b σ H1 fun v2 H2 => R v1 v2 H2 := by
  refine ⟨ρ, hp, env, r, re, wE_mono hm a env hp _ _ _ _ (fun d1 hp1 q1 => ?_) (fun _ _ _ z => z) h⟩
  intro ρ1 H1 v1 e1 r1 d1r
  refine ⟨ρ1, hp1, env, r1, re.mono e1, wE_mono hm b env hp1 _ _ _ _ (fun d2 hp2 q2 => ?_) (fun _ _ _ z => z.ext e1) q1⟩
  intro ρ2 H2 v2 e2 r2 d2r
  exact k ρ2 hp2 H2 d1 d2 v1 v2 (e1.trans e2) r2 (d1r.mono e2) d2r q2
theorem s_bin (hm : ClMono cl) {o : BOp} (ha : PE X x (tE X.K L g cl W a)) (hb : PE X y (tE X.K L g cl W b)) : PE X (.BinOp x (bopOf o) y pos) (tE X.K L g cl W (.bin o a b)) :=
  PE.imp (pe_op (mi_bin (L := L) o) ha hb) fun σ H Q ⟨ρ, hp, env, r, re, h⟩ => by
    unfold wE at h
    exact seq2 hm (F := fun d1 d2 hp2 => (oBin o d1 d2 hp2).app (KQ X.K L ρ H Q)) (R := fun v1 v2 H2 => rMI X.K L (oBin o) v1 v2 H2 Q) r re h fun ρ2 hp2 H2 d1 d2 v1 v2 e r2 q1 q2 q => ⟨ρ2, hp2, d1, d2, r2, q1, q2, OutD.mono (fun _ _ k => k.ext e) q⟩
theorem s_cmp (hm : ClMono cl) (hu : X.A.units + 65 < cLine) {o : COp} (ha : PE X x (tE X.K L g cl W a)) (hb : PE X y (tE X.K L g cl W b)) (hmk : behindInMarks (copOf o) y = false) : PE X (.Compare x [copOf o] [y] pos) (tE X.K L g cl W (.cmp o a b)) :=
  PE.imp (pe_cmpR (mi_cmp (L := L) hu o) ha hb hmk) fun σ H Q ⟨ρ, hp, env, r, re, h⟩ => by
    unfold wE at h
    exact seq2 hm (F := fun d1 d2 hp2 => (oCmp o d1 d2 hp2).app (KQ X.K L ρ H Q)) (R := fun v1 v2 H2 => rMI X.K L (oCmp o) v1 v2 H2 Q) r re h fun ρ2 hp2 H2 d1 d2 v1 v2 e r2 q1 q2 q => ⟨ρ2, hp2, d1, d2, r2, q1, q2, OutD.mono (fun _ _ k => k.ext e) q⟩
theorem s_ix (hm : ClMono cl) (hu : X.A.units + 65 < cLine) (ha : PE X x (tE X.K L g cl W a)) (hb : PE X y (tE X.K L g cl W b)) (hp : PlainIx y) : PE X (.Subscript x y pos) (tE X.K L g cl W (.ix a b)) :=
  PE.imp (pe_ix (mi_ix (L := L) hu) ha hb hp) fun σ H Q ⟨ρ, hp, env, r, re, h⟩ => by
    unfold wE at h
    exact seq2 hm (F := fun d1 d2 hp2 => (oIx d1 d2 hp2).app (KQ X.K L ρ H Q)) (R := fun v1 v2 H2 => rMI X.K L oIx v1 v2 H2 Q) r re h fun ρ2 hp2 H2 d1 d2 v1 v2 e r2 q1 q2 q => ⟨ρ2, hp2, d1, d2, r2, q1, q2, OutD.mono (fun _ _ k => k.ext e) q⟩
theorem s_neg (hm : ClMono cl) (ha : PE X x (tE X.K L g cl W a)) : PE X (.UnaryOp .USub x pos) (tE X.K L g cl W (.neg a)) :=
  PE.imp (pe_un un_neg ha) fun σ H Q ⟨ρ, hp, env, r, re, h⟩ => by
    unfold wE at h
    refine ⟨ρ, hp, env, r, re, wE_mono hm a env hp _ _ _ _ (fun d1 hp1 q1 => ?_) (fun _ _ _ z => z) h⟩
    intro ρ1 H1 v1 e1 r1 d1r
    cases d1r with
    | int i => exact ⟨i, rfl, q1 _ _ _ e1 r1 (.int _)⟩
    | _ => exact False.elim q1
theorem s_cmp2 (hm : ClMono cl) (hu : X.A.units + 65 < cLine) {o p : COp} (ha : PE X x (tE X.K L g cl W a)) (hb : PE X y (tE X.K L g cl W b)) (hc : PE X z (tE X.K L g cl W c)) (hmk : lastMarks [copOf o, copOf p] [y, z] = false) :
    PE X (.Compare x [copOf o, copOf p] [y, z] pos) (tE X.K L g cl W (.cmp2 o p a b c)) :=
  PE.imp (pe_chain (mi_cmp (L := L) hu o) (mi_cmp (L := L) hu p) ha hb hc hmk) fun σ H Q ⟨ρ, hp, env, r, re, h⟩ => by
    unfold wE at h
    refine seq2 (b := b) hm (R := fun v1 v2 H2 => rMI X.K L (oCmp o) v1 v2 H2 fun z H3 => ∃ k, z = .bl k ∧ if k = true then tE X.K L g cl W c σ H3 fun w' H4 => rMI X.K L (oCmp p) v2 w' H4 Q else Q (.bl false) H3) r re h fun ρ2 hp2 H2 d1 d2 v1 v2 e r2 q1 q2 q => ⟨ρ2, hp2, d1, d2, r2, q1, q2, OutD.mono (fun d3 hp3 k => ?_) q⟩
    intro ρ3 H3 v3 e3 r3 d3r
    cases d3r with
    | bl t =>
      refine ⟨t, rfl, ?_⟩
      cases t with
      | true =>
        rw [if_pos rfl]
        refine ⟨ρ3, hp3, env, r3, (re.mono e).mono e3, wE_mono hm c env hp3 _ _ _ _ (fun d4 hp4 q4 => ?_) (fun _ _ _ z => z.ext (e.trans e3)) k⟩
        intro ρ4 H4 v4 e4 r4 d4r
        exact ⟨ρ4, hp4, d2, d4, r4, (q2.mono e3).mono e4, d4r, OutD.mono (fun _ _ k => k.ext ((e.trans e3).trans e4)) q4⟩
      | false =>
        rw [if_neg Bool.false_ne_true]
        exact k _ _ _ (e.trans e3) r3 (.bl false)
    | _ => exact False.elim k
/-- as a test, where the text takes the value -/
theorem t_plain (hm : ClMono cl) (ha : PE X x (tE X.K L g cl W a)) (he : ∀ whole, isTrue x X.env whole = (do let v ← whole; standAt x.pos; holding [v] (truthy v))) : PT X x (tT X.K L g cl W a) :=
  PT.imp (pt_truth ha he) fun σ H Q ⟨ρ, hp, env, r, re, h⟩ => by
    refine ⟨ρ, hp, env, r, re, wE_mono hm a env hp _ _ _ _ (fun d1 hp1 q1 => ?_) (fun _ _ _ z => z) h⟩
    intro ρ1 H1 v1 e1 r1 d1r
    obtain ⟨k, t, q⟩ := tru_of r1 d1r q1
    exact ⟨k, t, q _ _ e1 r1⟩
theorem KT.ext {K : PySem.W.Frag} {ρ ρ' : List Addr} {H H' : Hp} {Q : Bool → Hp → Prop} {d : D} {hp : Hq} (k : KT K L ρ H Q d hp) (e : Ext ρ H ρ' H') : KT K L ρ' H' Q d hp :=
  OutB.mono (fun _ q ρ2 H2 e2 r2 => q ρ2 H2 (e.trans e2) r2) k
theorem oTru_bl {b : Bool} {hp : Hq} {k : Bool → Prop} (h : (oTru (.bl b) hp).app k) : k b := h
theorem t_cmp (hm : ClMono cl) (hu : X.A.units + 65 < cLine) {o : COp} (ha : PE X x (tE X.K L g cl W a)) (hb : PE X y (tE X.K L g cl W b)) (hmk : behindInMarks (copOf o) y = false) : PT X (.Compare x [copOf o] [y] pos) (tT X.K L g cl W (.cmp o a b)) :=
  PT.imp (pt_cmpR (mi_cmp (L := L) hu o) ha hb hmk) fun σ H Q ⟨ρ, hp, env, r, re, h⟩ => by
    unfold wE at h
    refine seq2 hm (F := fun d1 d2 hp2 => (oCmp o d1 d2 hp2).app (KT X.K L ρ H Q)) (R := fun v1 v2 H2 => rMI X.K L (oCmp o) v1 v2 H2 fun x H' => ∃ k, x = .bl k ∧ Q k H') r re h fun ρ2 hp2 H2 d1 d2 v1 v2 e r2 q1 q2 q => ⟨ρ2, hp2, d1, d2, r2, q1, q2, ?_⟩
    have isb : ∀ {o : COp} {d1 d2 : D} {hp : Hq} {Q' : QD}, (oCmp o d1 d2 hp).app Q' → (oCmp o d1 d2 hp).app fun d h => (∃ t, d = .bl t) ∧ Q' d h := by
      intro o d1 d2 hp Q' h
      cases e : oCmp o d1 d2 hp with
      | no => rw [e] at h; exact h
      | ok d h' =>
        rw [e] at h
        refine ⟨?_, h⟩
        have vb : ∀ {ob : OutB} {neg : Bool} {d : D} {h' : Hq}, ob.val neg hp = .ok d h' → ∃ t, d = .bl t := by
          intro ob neg d h' e
          cases ob <;> cases e
          exact ⟨_, rfl⟩
        cases o <;> first
          | exact vb e
          | (cases d1 <;> cases d2 <;> first | (cases e; exact ⟨_, rfl⟩) | cases e)
      | cd C d h' =>
        rw [e] at h
        refine ⟨h.1, ?_, h.2⟩
        have vb : ∀ {ob : OutB} {neg : Bool} {d : D} {h' : Hq} {C : Prop}, ob.val neg hp = .cd C d h' → ∃ t, d = .bl t := by
          intro ob neg d h' C e
          cases ob <;> cases e
          exact ⟨_, rfl⟩
        cases o <;> first
          | exact vb e
          | (cases d1 <;> cases d2 <;> cases e)
    refine OutD.mono (fun d3 hp3 k => ?_) (isb q)
    obtain ⟨⟨t, rfl⟩, k⟩ := k
    intro ρ3 H3 v3 e3 r3 d3r
    cases d3r
    exact ⟨t, rfl, k _ _ (e.trans e3) r3⟩
theorem s_not (hm : ClMono cl) (ha : PE X x (tE X.K L g cl W a)) : PE X (.UnaryOp .Not x pos) (tE X.K L g cl W (.not a)) :=
  PE.imp (pe_notT ha) fun σ H Q ⟨ρ, hp, env, r, re, h⟩ => by
    unfold wE at h
    refine ⟨ρ, hp, env, r, re, wE_mono hm a env hp _ _ _ _ (fun d1 hp1 q1 => ?_) (fun _ _ _ z => z) h⟩
    intro ρ1 H1 v1 e1 r1 d1r
    obtain ⟨k, t, q⟩ := tru_of r1 d1r q1
    exact ⟨k, t, q _ _ _ e1 r1 (.bl _)⟩
theorem t_not (ha : PT X x (tT X.K L g cl W a)) (hm : ClMono cl) : PT X (.UnaryOp .Not x pos) (tT X.K L g cl W (.not a)) :=
  PT.imp (pt_not ha) fun σ H Q ⟨ρ, hp, env, r, re, h⟩ => by
    unfold wE at h
    refine ⟨ρ, hp, env, r, re, wE_mono hm a env hp _ _ _ _ (fun d1 hp1 q1 => ?_) (fun _ _ _ z => z) h⟩
    exact OutB.mono (fun b q ρ' H' e r' => q _ _ e r') q1
theorem tru_agree {d : D} {hp : Hq} {k k' : Bool → Prop} (h : (oTru d hp).app k) (h' : (oTru d hp).app k') : (oTru d hp).app fun b => k b ∧ k' b := by
  cases e : oTru d hp with
  | no => rw [e] at h; exact h
  | ok b => rw [e] at h h'; exact ⟨h, h'⟩
  | cd C b => rw [e] at h h'; exact ⟨h.1, h.2, h'.2⟩
theorem tru_det {d : D} {hp : Hq} {k : Bool → Prop} {t : Bool} (h : (oTru d hp).app k) (h' : (oTru d hp).app fun b => b = t) : k t := by
  cases e : oTru d hp with
  | no => rw [e] at h; exact False.elim h
  | ok b => rw [e] at h h'; cases (show b = t from h'); exact h
  | cd C b => rw [e] at h h'; cases (show b = t from h'.2); exact h.2
theorem tru_self {d : D} {hp : Hq} {k : Bool → Prop} (h : (oTru d hp).app k) : (oTru d hp).app fun b => k b ∧ (oTru d hp).app fun b' => b' = b := by
  cases e : oTru d hp with
  | no => rw [e] at h; exact h
  | ok b => rw [e] at h; exact ⟨h, rfl⟩
  | cd C b => rw [e] at h; exact ⟨h.1, h.2, h.1, rfl⟩
theorem s_and (hm : ClMono cl) {rest : List Expr} (ha : PE X x (tE X.K L g cl W a)) (hb : PE X (.BoolOp .And (y :: rest) pos) (tE X.K L g cl W b)) : PE X (.BoolOp .And (x :: y :: rest) pos) (tE X.K L g cl W (.and a b)) :=
  PE.imp (pe_andT ha hb) fun σ H Q ⟨ρ, hp, env, r, re, h⟩ => by
    unfold wE at h
    refine ⟨ρ, hp, env, r, re, wE_mono hm a env hp _ _ _ _ (fun d1 hp1 q1 => ?_) (fun _ _ _ z => z) h⟩
    intro ρ1 H1 v1 e1 r1 d1r
    obtain ⟨k, t, q⟩ := tru_of r1 d1r q1
    refine ⟨k, t, ?_⟩
    cases k with
    | true => exact ⟨ρ1, hp1, env, r1, re.mono e1, wE_mono hm b env hp1 _ _ _ _ (fun _ _ k => k.ext e1) (fun _ _ _ z => z.ext e1) q⟩
    | false => exact q _ _ _ e1 r1 d1r
theorem s_or (hm : ClMono cl) {rest : List Expr} (ha : PE X x (tE X.K L g cl W a)) (hb : PE X (.BoolOp .Or (y :: rest) pos) (tE X.K L g cl W b)) : PE X (.BoolOp .Or (x :: y :: rest) pos) (tE X.K L g cl W (.or a b)) :=
  PE.imp (pe_orT ha hb) fun σ H Q ⟨ρ, hp, env, r, re, h⟩ => by
    unfold wE at h
    refine ⟨ρ, hp, env, r, re, wE_mono hm a env hp _ _ _ _ (fun d1 hp1 q1 => ?_) (fun _ _ _ z => z) h⟩
    intro ρ1 H1 v1 e1 r1 d1r
    obtain ⟨k, t, q⟩ := tru_of r1 d1r q1
    refine ⟨k, t, ?_⟩
    cases k with
    | false => exact ⟨ρ1, hp1, env, r1, re.mono e1, wE_mono hm b env hp1 _ _ _ _ (fun _ _ k => k.ext e1) (fun _ _ _ z => z.ext e1) q⟩
    | true => exact q _ _ _ e1 r1 d1r
theorem t_and (hm : ClMono cl) {rest : List Expr} (ha : PT X x (tT X.K L g cl W a)) (hb : PW X (.BoolOp .And (y :: rest) pos) (tT X.K L g cl W b)) : PW X (.BoolOp .And (x :: y :: rest) pos) (tT X.K L g cl W (.and a b)) :=
  PW.imp (pw_and ha hb) fun σ H Q ⟨ρ, hp, env, r, re, h⟩ => by
    unfold wE at h
    refine ⟨ρ, hp, env, r, re, wE_mono hm a env hp _ _ _ _ (fun d1 hp1 q1 => ?_) (fun _ _ _ z => z) h⟩
    refine OutB.mono (fun k q ρ1 H1 e1 r1 => ?_) (tru_self q1)
    obtain ⟨q, hk⟩ := q
    cases k with
    | true => exact ⟨ρ1, hp1, env, r1, re.mono e1, wE_mono hm b env hp1 _ _ _ _ (fun _ _ k => KT.ext k e1) (fun _ _ _ z => z.ext e1) q⟩
    | false => exact tru_det q hk ρ1 H1 e1 r1
theorem t_or (hm : ClMono cl) {rest : List Expr} (ha : PT X x (tT X.K L g cl W a)) (hb : PW X (.BoolOp .Or (y :: rest) pos) (tT X.K L g cl W b)) : PW X (.BoolOp .Or (x :: y :: rest) pos) (tT X.K L g cl W (.or a b)) :=
  PW.imp (pw_or ha hb) fun σ H Q ⟨ρ, hp, env, r, re, h⟩ => by
    unfold wE at h
    refine ⟨ρ, hp, env, r, re, wE_mono hm a env hp _ _ _ _ (fun d1 hp1 q1 => ?_) (fun _ _ _ z => z) h⟩
    refine OutB.mono (fun k q ρ1 H1 e1 r1 => ?_) (tru_self q1)
    obtain ⟨q, hk⟩ := q
    cases k with
    | false => exact ⟨ρ1, hp1, env, r1, re.mono e1, wE_mono hm b env hp1 _ _ _ _ (fun _ _ k => KT.ext k e1) (fun _ _ _ z => z.ext e1) q⟩
    | true => exact tru_det q hk ρ1 H1 e1 r1
theorem s_ite (hm : ClMono cl) (hc : PT X x (tT X.K L g cl W c)) (ha : PE X y (tE X.K L g cl W a)) (hb : PE X z (tE X.K L g cl W b)) : PE X (.IfExp x y z pos) (tE X.K L g cl W (.ite c a b)) :=
  PE.imp (pe_ifExp hc ha hb) fun σ H Q ⟨ρ, hp, env, r, re, h⟩ => by
    unfold wE at h
    refine ⟨ρ, hp, env, r, re, wE_mono hm c env hp _ _ _ _ (fun d1 hp1 q1 => ?_) (fun _ _ _ z => z) h⟩
    refine OutB.mono (fun k q ρ1 H1 e1 r1 => ?_) q1
    cases k with
    | true => exact ⟨ρ1, hp1, env, r1, re.mono e1, wE_mono hm a env hp1 _ _ _ _ (fun _ _ k => k.ext e1) (fun _ _ _ z => z.ext e1) q⟩
    | false => exact ⟨ρ1, hp1, env, r1, re.mono e1, wE_mono hm b env hp1 _ _ _ _ (fun _ _ k => k.ext e1) (fun _ _ _ z => z.ext e1) q⟩
theorem t_ite (hm : ClMono cl) (hc : PT X x (tT X.K L g cl W c)) (ha : PT X y (tT X.K L g cl W a)) (hb : PT X z (tT X.K L g cl W b)) : PT X (.IfExp x y z pos) (tT X.K L g cl W (.ite c a b)) := by
  refine ⟨fun pins s σ H Q I ⟨ρ, hp, env, r, re, h⟩ => ?_⟩
  unfold wE at h
  have e : isTrue (.IfExp x y z pos) X.env (eval (.IfExp x y z pos) X.env) = (do if ← isTrue x X.env (eval x X.env) then isTrue y X.env (eval y X.env) else isTrue z X.env (eval z X.env)) := by
    first | rfl | (unfold isTrue; rfl)
  rw [e]
  refine wpAny_bind (thn (hc.run pins s σ H (fun k H1 => if k = true then tT X.K L g cl W a σ H1 Q else tT X.K L g cl W b σ H1 Q) I
    ⟨ρ, hp, env, r, re, wE_mono hm c env hp _ _ _ _ (fun d1 hp1 q1 => OutB.mono (fun k q ρ1 H1 e1 r1 => ?_) q1) (fun _ _ _ z => z) h⟩) fun k s1 ⟨H1, I1, q1⟩ => ?_)
  · cases k with
    | true => exact ⟨ρ1, hp1, env, r1, re.mono e1, wE_mono hm a env hp1 _ _ _ _ (fun _ _ k => KT.ext k e1) (fun _ _ _ z => z.ext e1) q⟩
    | false => exact ⟨ρ1, hp1, env, r1, re.mono e1, wE_mono hm b env hp1 _ _ _ _ (fun _ _ k => KT.ext k e1) (fun _ _ _ z => z.ext e1) q⟩
  · cases k with
    | true => exact ha.run pins s1 σ H1 Q I1 q1
    | false => exact hb.run pins s1 σ H1 Q I1 q1
end
end MI
/-! MI, exceptions 0: own exception classes with one field. -/
namespace MI
open PySem PySem.Spec PyProof.Rows L2
/-- a built-in exception class under an own one: its name, its __init__, its mro; the class that makes it, by its __new__ -/
structure XB where
  B : String
  ini : String
  tl : List Value
  nB : String
  nw : String
  nini : String
  ntl : List Value
structure XBOk (b : XB) : Prop where
  base : ExcBaseFacts b.nB b.nw b.nini b.ntl
  hasN : b.tl.contains (.type b.nB) = true
  hasB : b.tl.contains (.type b.B) = true
  noA : b.tl.contains (.type "AttributeError") = false
  noN : b.tl.contains (.type "NameError") = false
  iPlain : plainId b.ini = true
  iEntry : entryFor table b.ini = some Builtin.«BaseException.__init__»
  iSplit : splitId b.ini = some (b.B, "__init__")
  iKind : builtinKind b.ini = some .slot
  iRow : Manifest.signature? b.ini = some ⟨.positional, "*", b.B, .self, [⟨"args", .varPos, false⟩]⟩
  iStar : (b.B != "*") = true
  pass : ∀ self, refuseLoop self "__setattr__" b.tl = pure ()
  obj : b.tl.contains (.type "object") = true
  boot : bootBuiltins (Str.ofString b.B) = some (.type b.B)
  typ : typeOf (.type b.B) = pure (.type "type")
  hand : PySem.W.handedIn (.builtin b.ini) = true
  stub : Manifest.isStub b.B = false
def XB.one (B nw ini : String) (tl : List Value) : XB := ⟨B, ini, tl, B, nw, ini, tl⟩
theorem XBOk.of {B nw ini : String} {tl : List Value} (F : ExcBaseFacts B nw ini tl) (p : ∀ self, refuseLoop self "__setattr__" tl = pure ()) (o : tl.contains (.type "object") = true) (b : bootBuiltins (Str.ofString B) = some (.type B)) (t : typeOf (.type B) = pure (.type "type")) (h : PySem.W.handedIn (.builtin ini) = true) (st : Manifest.isStub B = false) : XBOk (.one B nw ini tl) :=
  ⟨F, F.hasB, F.hasB, F.noAttr, F.noName, F.init.plain, F.initEntry, F.initSplit, F.initKind, F.initRow, F.noStar, p, o, b, t, h, st⟩
def xTl : List Value := [.type "Exception", .type "BaseException", .type "object"]
/-- own classes, then the built-in one's mro -/
def refsT (tl : List Value) : List Value → Bool
  | .ref _ :: r => refsT tl r
  | l => l == tl
theorem refsT_form {tl : List Value} : ∀ l : List Value, refsT tl l = true → ∃ cs : List Addr, l = cs.map Value.ref ++ tl
  | [], e => ⟨[], beq_iff_eq.mp e⟩
  | .ref c :: r, e => by
    obtain ⟨cs, q⟩ := refsT_form r e
    exact ⟨c :: cs, by rw [q]; rfl⟩
  | .none :: _, e => ⟨[], beq_iff_eq.mp e⟩
  | .ellipsis :: _, e => ⟨[], beq_iff_eq.mp e⟩
  | .notImplemented :: _, e => ⟨[], beq_iff_eq.mp e⟩
  | .bool _ :: _, e => ⟨[], beq_iff_eq.mp e⟩
  | .int _ _ :: _, e => ⟨[], beq_iff_eq.mp e⟩
  | .float _ _ :: _, e => ⟨[], beq_iff_eq.mp e⟩
  | .str _ _ :: _, e => ⟨[], beq_iff_eq.mp e⟩
  | .bytes _ _ :: _, e => ⟨[], beq_iff_eq.mp e⟩
  | .type _ :: _, e => ⟨[], beq_iff_eq.mp e⟩
  | .builtin _ :: _, e => ⟨[], beq_iff_eq.mp e⟩
theorem refsT_has {tl l : List Value} (h : refsT tl l = true) (T : String) : l.contains (.type T) = tl.contains (.type T) := by
  obtain ⟨cs, rfl⟩ := refsT_form l h
  clear h
  induction cs with
  | nil => rfl
  | cons c r ih =>
    show ((Value.ref c) :: (r.map Value.ref ++ tl)).contains (.type T) = _
    rw [List.contains_cons, ih]
    rfl
theorem refsT_pass {tl l : List Value} (h : refsT tl l = true) (self : Value) (p : refuseLoop self "__setattr__" tl = pure ()) : refuseLoop self "__setattr__" l = pure () := by
  obtain ⟨cs, rfl⟩ := refsT_form l h
  clear h
  induction cs with
  | nil => exact p
  | cons c r ih =>
    show refuseLoop self "__setattr__" (.ref c :: (r.map Value.ref ++ tl)) = _
    rw [refuseLoop_ref]
    exact ih
/-- what the text says of an own class that sets a field -/
structure OexG (K : PySem.W.Frag) (C : Addr) (b : XB) : Prop where
  cls : ∃ nm q N bs bm sn sub ab col dd k0 k1 k2 k3 k5, K.lookup C = some (excClassObj nm q C N bs bm true sn sub ab col dd k0 k1 k2 k3 k5 b.nw) ∧ refsT b.tl bm = true
  sa : PySem.W.findIn K (.ref C) "__setattr__" = some (some (.builtin "object.__setattr__"))
  exC : PySem.W.subIn K (.ref C) (.type "BaseException") = some true
  tyC : PySem.W.typeIn K (.ref C) = some (.type "type")
  kC : PySem.W.keepIn K (.ref C) = true
  ok : XBOk b
/-- .. of one that has no __init__ of its own -/
structure Oex0 (K : PySem.W.Frag) (C : Addr) (b : XB) : Prop where
  cls : PySem.W.excIn K C b.tl b.nw = true
  kC : PySem.W.keepIn K (.ref C) = true
  ok : XBOk b
def xbValue : XB := .one "ValueError" "ValueError.__new__" "ValueError.__init__" (.type "ValueError" :: xTl)
def xbIndex : XB := .one "IndexError" "IndexError.__new__" "IndexError.__init__" (.type "IndexError" :: .type "LookupError" :: xTl)
def xbLookup : XB := .one "LookupError" "LookupError.__new__" "LookupError.__init__" (.type "LookupError" :: xTl)
def xbKey : XB := ⟨"KeyError", "KeyError.__init__", .type "KeyError" :: .type "LookupError" :: xTl, "LookupError", "LookupError.__new__", "LookupError.__init__", .type "LookupError" :: xTl⟩
def xbOverflow : XB := .one "OverflowError" "OverflowError.__new__" "OverflowError.__init__" (.type "OverflowError" :: .type "ArithmeticError" :: xTl)
def xbRuntime : XB := .one "RuntimeError" "RuntimeError.__new__" "RuntimeError.__init__" (.type "RuntimeError" :: xTl)
theorem okValue : XBOk xbValue := .of F.excBase_ValueError (fun self => by kernel_rfl) (by decide +kernel) (by decide +kernel) (by kernel_rfl) (by decide +kernel) (by decide +kernel)
theorem okIndex : XBOk xbIndex := .of F.excBase_IndexError (fun self => by kernel_rfl) (by decide +kernel) (by decide +kernel) (by kernel_rfl) (by decide +kernel) (by decide +kernel)
theorem okLookup : XBOk xbLookup := .of F.excBase_LookupError (fun self => by kernel_rfl) (by decide +kernel) (by decide +kernel) (by kernel_rfl) (by decide +kernel) (by decide +kernel)
theorem okOverflow : XBOk xbOverflow := .of F.excBase_OverflowError (fun self => by kernel_rfl) (by decide +kernel) (by decide +kernel) (by kernel_rfl) (by decide +kernel) (by decide +kernel)
theorem okRuntime : XBOk xbRuntime := .of F.excBase_RuntimeError (fun self => by kernel_rfl) (by decide +kernel) (by decide +kernel) (by kernel_rfl) (by decide +kernel) (by decide +kernel)
theorem okKey : XBOk xbKey where
  base := F.excBase_LookupError
  hasN := by decide +kernel
  hasB := by decide +kernel
  noA := by decide +kernel
  noN := by decide +kernel
  iPlain := by decide +kernel
  iEntry := by
    refine entryFor_alias (id' := "BaseException.__init__") ?_ ?_ ?_ ?_
    · rw [fastTable_eq_tree]; kernel_rfl
    · first | rfl | decide +kernel
    · decide +kernel
    · rw [fastTable_eq_tree]; kernel_rfl
  iSplit := by kernel_rfl
  iKind := by kernel_rfl
  iRow := by kernel_rfl
  iStar := by decide +kernel
  pass := fun self => by kernel_rfl
  obj := by decide +kernel
  boot := by decide +kernel
  typ := by kernel_rfl
  hand := by decide +kernel
  stub := by decide +kernel
/-- self's field f is set to the one argument, behind the base's __init__ -/
def spX (K : PySem.W.Frag) (C : Addr) (f : Str) : Sp := fun vs H Q _ => ∃ a y, vs = [.ref a, y] ∧ H a = some (exo a C none) ∧ ∀ dx, H dx = none → dx ≠ a → Q .non (upd (upd H dx (exd dx [(f, y)])) a (exo a C (some dx)))
/-- a name of a class: of the text, or built in -/
structure NamesV (mg : Str → Option Value) (x : Str) (rv : V) (u : Value) : Prop where
  un : ∀ u', RelV rv u' → u' = u
  re : RelV rv u
  at_ : mg x = some u ∨ (mg x = none ∧ bootBuiltins x = some u ∧ x ≠ "__name__")
/-- what the table says of the class u -/
def ExmAt (K : PySem.W.Frag) (L : Lay) (u : Value) (bs : List Bool) : Prop := ∀ (k : Nat) (C : Addr) (b : Bool), L.exs[k]? = some C → bs[k]? = some b → PySem.W.exmOne K (.ref C) u = some b ∧ PySem.W.kitOne K (.ref C) u = some b
/-- what the text says of a class whose instances are asked and read -/
structure ExF (K : PySem.W.Frag) (attrs : List Str) (C : Addr) : Prop where
  c : ExcC K C
  f : XfC K C
  no : ∀ x ∈ attrs, PySem.W.findIn K (.ref C) x = some none
end MI
set_option maxHeartbeats 4000000
/-! MI, exceptions: own classes over any built-in one: made by type's call, the base's __init__, the first field. -/
namespace MI
open PySem PySem.Spec L2 PySem.HandSPX
open Builtin Builtin.ObjectAttr
section
variable {M : Model} {A : Around} {E : Value → Shared → Prop} {z : Heap} {g : Array GenState} {d : Drawn} {t : Nat} {os : OsState}
variable {nm q : Str} {C N : Addr} {bs bm : List Value} {hdct : Bool} {sn : List Str} {sub : List Value} {ab : Bool} {col : Option Bool} {dd : Option Addr} {k0 k1 k2 k3 k5 : Option Value} {b : XB}
theorem chk_new (F : XBOk b) (hT : refsT b.tl bm = true) {us : List Value} {Q : Unit → Shared → Prop} (hC : z.get? C = some (excClassObj nm q C N bs bm hdct sn sub ab col dd k0 k1 k2 k3 k5 b.nw)) (hq : Q () ⟨z, g, d, t, os⟩) :
    wpAny M A (checkBuiltinCall b.nw ⟨.ref C :: us, []⟩) Q E ⟨z, g, d, t, os⟩ := by
  have hhas : (Value.ref C :: bm).contains (.type b.nB) = true := by rw [List.contains_cons, refsT_has hT, F.hasN, Bool.or_true]
  have hst := F.base.noStar
  simp only [checkBuiltinCall, F.base.newKind, F.base.newSplit, F.base.newRow]
  repeat (first
    | refine wpAny_loadPart_at hC ?_
    | (refine wpAny_isSubtype_exc hC ?_; rw [hhas])
    | refine wpAny_staticBase_exc hC ?_
    | refine wpAny_madeBy_exc hC ?_
    | simp only [bne_self_eq_false, Bool.false_eq_true, if_false]
    | wp_step)
  exact hq
theorem chk_ini (F : XBOk b) (hT : refsT b.tl bm = true) {e : Addr} {oe : Obj} {us : List Value} {Q : Unit → Shared → Prop} (hC : z.get? C = some (excClassObj nm q C N bs bm hdct sn sub ab col dd k0 k1 k2 k3 k5 b.nw))
    (he : z.get? e = some oe) (hcls : oe.cls = .ref C) (hq : Q () ⟨z, g, d, t, os⟩) : wpAny M A (checkBuiltinCall b.ini ⟨.ref e :: us, []⟩) Q E ⟨z, g, d, t, os⟩ := by
  have hhas : (Value.ref C :: bm).contains (.type b.B) = true := by rw [List.contains_cons, refsT_has hT, F.hasB, Bool.or_true]
  have hst := F.iStar
  simp only [checkBuiltinCall, F.iKind, F.iSplit, F.iRow]
  repeat (first
    | (with_reducible refine wpAny_loadPart_at he ?_; rw [hcls])
    | with_reducible refine wpAny_loadPart_at hC ?_
    | (with_reducible refine wpAny_isSubtype_exc hC ?_; rw [hhas])
    | wp_step)
  refine wpAny_onRaise ?_
  have star : ∀ (x y : String) (n : Nat), Bind.check ⟨.positional, "*", b.B, .self, [⟨"args", .varPos, false⟩]⟩ x y n (List.map (fun x => x.fst) ({ pos := Value.ref e :: us } : Args).kw) = pure () := fun _ _ _ => check_star_args _ _ _ _ _ _
  rw [star]
  exact wpAny_pure hq
end
section
variable {prog : Program} {w : World} {A : Around} {E : Value → Shared → Prop} {R : Result → Shared → Prop} {z : Heap} {g : Array GenState} {d : Drawn} {t : Nat} {os : OsState}
variable {nm q : Str} {C N : Addr} {bs bm : List Value} {hdct : Bool} {sn : List Str} {sub : List Value} {ab : Bool} {col : Option Bool} {dd : Option Addr} {k0 k1 k2 k3 k5 : Option Value} {b : XB}
theorem new_x (F : XBOk b) (hT : refsT b.tl bm = true) {us : List Value} (hC : z.get? C = some (excClassObj nm q C N bs bm hdct sn sub ab col dd k0 k1 k2 k3 k5 b.nw))
    (hq : R (.ok (.ret (.ref (z.objs.size + 1)))) ⟨(z.push { cls := .type "tuple", data := .seq us.toArray }).push { cls := .ref C, data := .fields #[.ref z.objs.size, .none, .none, .none, .bool false, .none] }, g, d, t, os⟩) (hus : us.length ≤ sizeLine) :
    codeAny (model prog w) A (.builtin b.nw ⟨.ref C :: us, []⟩) R ⟨z, g, d, t, os⟩ := by
  have hends := F.base.ends
  have hcB : (Value.ref C :: bm).contains (.type b.nB) = true := by rw [List.contains_cons, refsT_has hT, F.hasN, Bool.or_true]
  have hcA : (Value.ref C :: bm).contains (.type "AttributeError") = false := by rw [List.contains_cons, refsT_has hT, F.noA]; rfl
  have hcN : (Value.ref C :: bm).contains (.type "NameError") = false := by rw [List.contains_cons, refsT_has hT, F.noN]; rfl
  refine codeAny_builtinAt F.base.entry ?_
  unfold Builtin.«BaseException.__new__»
  refine wpAt_bind ?_
  show wpAt _ _ _ (stack >>= _) _ _ _
  refine wpAt_bind (wpAt_stack fun pp low => wpAt_of_wpAny ?_)
  wp_walk
  refine wpAt_of_wpAny ?_
  rw [F.base.owner]
  repeat (first
    | with_reducible refine wpAny_madeHere_exc F.base.canon hC ?_
    | with_reducible refine wpAny_loadPart_at hC ?_
    | (with_reducible refine wpAny_isSubtype_exc hC ?_; first | rw [hcB] | rw [hcA] | rw [hcN])
    | wp_step)
  show R _ _
  rw [Heap.size_push]
  exact hq
theorem tcall_x (F : XBOk b) (hT : refsT b.tl bm = true) {us : List Value} {fI : Addr} {Q : Fin → Shared → Prop} (hC : z.get? C = some (excClassObj nm q C N bs bm hdct sn sub ab col dd k0 k1 k2 k3 k5 b.nw))
    (hi : W.Looks (model prog w) z (typeLookup (.ref C) "__init__") (some (.ref fI))) (hb : ∀ self, W.Looks (model prog w) z (bindSpecial (.ref fI) self) (.ref fI, [self])) (hus : us.length ≤ sizeLine)
    (hq : codeAny (model prog w) A (.call (.ref fI) ⟨.ref (z.objs.size + 1) :: us, []⟩) (fun r s' => match r with | .ok (.ret v) => v = .none ∧ Q (.done (.ret (.ref (z.objs.size + 1)))) s' | .ok _ => False | .error e => E e s')
      ⟨(z.push (W.kdv_tup us)).push (PySem.HandSPX.excO C z.objs.size), g, d, t, os⟩) : wpAny (model prog w) A (Builtin.«type.__call__» ⟨.ref C :: us, []⟩) Q E ⟨z, g, d, t, os⟩ := by
  repeat (first
    | with_reducible refine wpAny_loadPart_at hC ?_
    | with_reducible refine wpAny_madeBy_exc hC ?_
    | wp_step)
  refine codeAny_call_builtin_code (Code.quiet_builtin _ F.base.quiet) (chk_new F hT hC ?_)
  refine new_x F hT hC ?_ hus
  show wpAny _ _ _ _ _ _
  have k : ∀ c o, z.get? c = some o → ((z.push (W.kdv_tup us)).push (PySem.HandSPX.excO C z.objs.size)).get? c = some o := fun c o e => Heap.get?_push_of_some _ (Heap.get?_push_of_some _ e)
  have hC2 := k _ _ hC
  have hnew : ((z.push (W.kdv_tup us)).push (PySem.HandSPX.excO C z.objs.size)).get? (z.objs.size + 1) = some (PySem.HandSPX.excO C z.objs.size) := by heap_get
  have hself : (Value.ref C :: bm).contains (.ref C) = true := by simp
  have i2 := hi.keeps k
  have b2 := (hb (.ref (z.objs.size + 1))).keeps k
  unfold isInstance
  repeat (first
    | with_reducible refine wpAny_loadPart_at hnew ?_
    | (with_reducible refine wpAny_isSubtype_exc hC2 ?_; rw [hself])
    | wp_step)
  show wpAny _ _ (typeLookup (.ref C) _) _ _ _
  refine i2.at ?_
  refine wpAny_holding (wpAny_bind (b2.at ?_))
  refine wpAny_bind (wpAny_call (codeAny_mono hq fun r s' y => ?_))
  rcases r with e | (v | _ | _ | _) <;> first | exact y | exact y.elim | skip
  obtain ⟨rfl, y⟩ := y
  first
    | exact wpAny_pure (wpAny_pure y)
    | (wp_walk; exact y)
theorem call_x (F : XBOk b) (hT : refsT b.tl bm = true) {us : List Value} {fI : Addr} (hC : z.get? C = some (excClassObj nm q C N bs bm hdct sn sub ab col dd k0 k1 k2 k3 k5 b.nw))
    (hi : W.Looks (model prog w) z (typeLookup (.ref C) "__init__") (some (.ref fI))) (hb : ∀ self, W.Looks (model prog w) z (bindSpecial (.ref fI) self) (.ref fI, [self])) (hus : us.length ≤ sizeLine)
    (hq : codeAny (model prog w) (A.under (.builtin "type.__call__" ⟨.ref C :: us, []⟩)) (.call (.ref fI) ⟨.ref (z.objs.size + 1) :: us, []⟩) (W.InitBack (z.objs.size + 1) R) ⟨(z.push (W.kdv_tup us)).push (PySem.HandSPX.excO C z.objs.size), g, d, t, os⟩) :
    codeAny (model prog w) A (.call (.ref C) ⟨us, []⟩) R ⟨z, g, d, t, os⟩ := by
  have g1 := tc_lookup
  have g2 := tc_bind (.ref C)
  have isT : (⟨z, g, d, t, os⟩ : Shared).TypeIs (.ref C) "type" := ⟨_, hC, rfl⟩
  refine codeAny_of_tree ?_
  show wpAny _ _ (callAny (.ref C) _) _ _ _
  repeat (any_goals (first
    | assumption
    | with_reducible refine wpAny_loadPart_at hC ?_
    | wp_step))
  refine ⟨rfl, ?_⟩
  refine codeAny_call_builtin_at (Code.quiet_builtin _ (by decide +kernel)) entry_typeCall (wpAny_check_type_call_sub hC (tcall_x F hT hC hi hb hus ?_))
  refine codeAny_mono hq fun r s' y => ?_
  rcases r with e | (v | _ | _ | _) <;> exact y
/-- the base's __init__ on an own one -/
theorem ini_x (F : XBOk b) (hT : refsT b.tl bm = true) {e t0 : Addr} {us : List Value} (hC : z.get? C = some (excClassObj nm q C N bs bm hdct sn sub ab col dd k0 k1 k2 k3 k5 b.nw)) (he : z.get? e = some (PySem.HandSPX.excO C t0)) (hus : us.length ≤ sizeLine)
    (hq : ∀ z' t1, (∀ c o, c ≠ e → z.get? c = some o → z'.get? c = some o) → z'.get? e = some (PySem.HandSPX.excO C t1) → R (.ok (.ret .none)) ⟨z', g, d, t, os⟩) :
    codeAny (model prog w) A (.call (.builtin b.ini) ⟨.ref e :: us, []⟩) R ⟨z, g, d, t, os⟩ := by
  refine codeAny_call_builtin F.iPlain F.iEntry (chk_ini F hT hC he rfl ?_)
  wp_walk
  refine hq _ z.objs.size (fun c o hc ho => ?_) ?_
  · rw [Heap.get?_update_other _ _ (Ne.symm hc)]
    exact Heap.get?_push_of_some _ ho
  · rw [Heap.get?_update_self _ (Heap.get?_push_of_some _ he) rfl]
    rfl
/-- the first field -/
theorem osa_x {K : W.Frag} {name : Str} {tk : Tok} {v : Value} {x : Addr} {fv : Array Value} {cd : ClassData} (KI : K.In z) (hx : z.get? x = some { cls := .ref C, data := .fields fv }) (hcd : W.clsIn K C = some cd)
    (hpass : refuseLoop (.ref x) "__setattr__" cd.mro = pure ()) (hne : cd.mro.isEmpty = false) (hob : cd.mro.contains (.type "object") = true) (hh : cd.hasDict = true) (hf : W.findIn K (.ref C) name = some none)
    (hq : ∀ z' tk' dx, (∀ c o, c ≠ x → z.get? c = some o → z'.get? c = some o) → z.objs.size ≤ dx → dx ≠ x → z'.get? x = some { cls := .ref C, dict := some dx, data := .fields fv } →
      z'.Ns1 dx (fun y => if y = name then some v else none) → R (.ok (.ret .none)) ⟨z', g, d, tk', os⟩) :
    codeAny (model prog w) A (.call (.builtin "object.__setattr__") ⟨[.ref x, .str name tk, v], []⟩) R ⟨z, g, d, t, os⟩ := by
  have ia : W.InstAt z x { cls := .ref C, data := .fields fv } C none := ⟨hx, rfl, rfl, trivial⟩
  have so := F.store_object
  have hxs : x ≠ z.objs.size := Nat.ne_of_lt (Heap.lt_size hx)
  have isO : W.Looks (model prog w) z (isInstance (.ref x) (.type "object")) true := ia.type.andThen (W.looks_mroIn KI (by unfold W.mroIn; rw [hcd, Option.bind_some, if_neg (by rw [hne]; decide), hob]))
  refine codeAny_call_builtin so.slot.plain so.entry (@W.check_slot (model prog w) _ _ ⟨z, g, d, t, os⟩ "object.__setattr__" "object" "__setattr__" (.ref x) [.str name tk, v] [] _ so.kind so.split isO (so.args (.ref x) (.str name tk) v) ?_)
  have lm : W.Looks (model prog w) z (mroOf (.ref C)) cd.mro := (W.looks_clsIn KI hcd).andThen .now
  have lt : W.Looks (model prog w) z (storeTaker? none) none := .now
  have lc : W.Looks (model prog w) z (classData C) cd := W.looks_clsIn KI hcd
  rw [W.osa_eq, refuse_eq]
  refine wpAny_bind (wpAny_bind (ia.type.at (wpAny_bind (lm.at ?_))))
  rw [hpass]
  refine wpAny_pure (wpAny_bind (ia.type.at (wpAny_bind ((W.looks_findIn KI hf).at (wpAny_bind (lt.at ?_))))))
  show wpAny _ _ (storeInOwnDict (.ref x) (.ref C) (.str name tk) name v false) _ _ _
  obtain ⟨nm, bs, mro, ns, qn, hd, sn, sb, ab, col, del⟩ := cd
  dsimp only at hh
  subst hh
  unfold storeInOwnDict ownDictForStores
  repeat (first
    | with_reducible refine PySem.HandSPX.store_in_new ?_ ?_
    | with_reducible refine wpAny_loadPart_at hx ?_
    | with_reducible refine lc.at ?_
    | wp_step)
  · exact ⟨_, #[], _, (Heap.get?_update_ne _ _ _ _ hxs.symm).trans (Heap.get?_push_at rfl rfl), rfl, fun e he => absurd he (by simp), fun _ => rfl⟩
  · intro z' tk' hn' hs
    have hx2 : (z.push { cls := .type "dict", data := .dict #[] }).get? x = some { cls := .ref C, data := .fields fv } := Heap.get?_push_of_some _ hx
    refine hq z' tk' z.objs.size (fun c o hc ho => ?_) (Nat.le_refl _) hxs.symm ?_ hn'
    · exact (hs.2 c (Nat.ne_of_lt (Heap.lt_size ho))).trans ((Heap.get?_update_ne _ _ _ _ hc).trans (Heap.get?_push_of_some _ ho))
    · exact (hs.2 x hxs).trans (Heap.get?_update_self _ hx2 rfl)
end
end MI
set_option maxHeartbeats 2000000
/-! MI, exceptions 1: a caught exception kept behind its suite. -/
namespace MI
open PySem PySem.Spec PyProof.Rows L2

section
variable {X : Cx} {pins : List (Addr × Obj)} {σ : L2.St} {H : Hp} {s : Shared} {a : Addr} {o : HO}
/-- an object that stands in the heap, untracked, new since the frame began, is tracked from here on -/
theorem track (I : Inv X pins σ H s) (h0 : X.s_0.heap.get? a = none) (hn : H a = none) (hl : X.env.locals ≠ a) (hc : ∀ x c, X.env.cells.lookup x = some c → c ≠ a) (hp : ∀ p ∈ X.pn ++ pins, p.1 ≠ a)
    (new : ObjOk X.prog X.w (upd H a o) s.heap a o) : Inv X pins σ (upd H a o) s := by
  have away : ∀ {b : Addr} {u : HO}, H b = some u → b ≠ a := fun q => ne_of_none q hn
  refine { ok := I.ok, os := I.os, bare := I.bare, base := ?_, loc := I.loc, cell := I.cell, free := ?_, freeC := ?_, pin := ?_, hok := ?_, len := I.len }
  · have B := I.base
    refine { keep := B.keep, slot := B.slot, free := ?_, there := B.there, tups := ?_, frzs := ?_, tbls := ?_ }
    · intro b u q n x
      have nb : b ≠ a := fun z => by subst z; rw [h0] at q; cases q
      rw [upd_ne nb]; exact B.free b u q n x
    · intro b xs q
      have q' := B.tups b xs q
      rw [upd_ne (away q')]; exact q'
    · intro b u v q
      have q' := B.frzs b u v q
      rw [upd_ne (away q')]; exact q'
    · intro b ps q
      obtain ⟨more, q'⟩ := B.tbls b ps q
      refine ⟨more, ?_⟩
      rw [upd_ne (away q')]; exact q'
  · rw [upd_ne hl]; exact I.free
  · intro x c e
    rw [upd_ne (hc x c e)]; exact I.freeC x c e
  · intro p hm
    obtain ⟨e1, e2, e3⟩ := I.pin p hm
    refine ⟨e1, ?_, e3⟩
    rw [upd_ne (hp p hm)]; exact e2
  · intro b u q
    by_cases hb : b = a
    · subst hb
      rw [upd_same] at q
      cases q
      exact new
    · rw [upd_ne hb] at q
      refine (I.hok b u q).stay (fun _ _ _ z => z) (fun c z => ?_) fun c xs z => ?_
      · rw [upd_ne (away z)]; exact z
      · rw [upd_ne (away z)]; exact z
end
end MI
/-! MI, part 10: displays, slices, attributes, calls. -/
namespace MI
open PySem PySem.Spec PyProof.Rows L2

def KE (K : PySem.W.Frag) (L : Lay) (ρ : List Addr) (H : Hp) (E : XK) : QX := fun c i hp' => ∀ ρ' H' a C, Ext ρ H ρ' H' → RelH K L ρ' hp' H' → ρ'[i]? = some a → L.exs[c]? = some C → E (.ref C) (some a) H'
/-- the promise of the f-th def: what its run says -/
def spI (K : PySem.W.Frag) (L : Lay) (g : Glob) (n f : Nat) : Sp := fun vs H Q E => ∃ ρ hp ds, RelH K L ρ hp H ∧ RDs K L ρ H ds vs ∧ wCall g n f ds hp (KQ K L ρ H Q) (KE K L ρ H E)
/-- a def keeps a promise, where nothing is being shown -/
structure FnG (P : Program) (w : World) (K : PySem.W.Frag) (mg : Str → Option Value) (base : Heap) (k : Nat) (f : Addr) (fd : FuncData) (ps : List Str) (sp : Sp) : Prop where
  len : ∀ vs H Q E, sp vs H Q E → vs.length = ps.length
  run : ∀ (A : Around) (outer : List PySem.Env) (s : Shared) (H : Hp) (args : Args) (us : List Value) (vs : List V) (Q : VK) (E : XK), Room k A → A.guards = some [] → Env0 P w K mg base A outer s H → BindsTo s fd args (ps.zip us) → Vals vs us → sp vs H Q E →
    codeAny (model P w) A (.call (.ref f) args) (CR (L2.CX P w) outer P w H s Q E) s
theorem FnG.mono {P : Program} {w : World} {K : PySem.W.Frag} {mg : Str → Option Value} {base : Heap} {j k : Nat} {f : Addr} {fd : FuncData} {ps : List Str} {sp : Sp} (F : FnG P w K mg base j f fd ps sp) (h : j ≤ k) : FnG P w K mg base k f fd ps sp :=
  ⟨F.len, fun A outer s H args us vs Q E hr => F.run A outer s H args us vs Q E (hr.mono h)⟩

/-- a call of such a form: n values by their places, some by names; pm: which one each parameter takes -/
def ShpOk (K : PySem.W.Frag) (fd : FuncData) (ps : List Str) (n : Nat) (ks : List Str) (pm : List Nat) : Prop :=
  (∀ j ∈ pm, j < n + ks.length) ∧ ∀ (s : Shared) (us ws : List Value), K.In s.heap → us.length = n → ws.length = ks.length → BindsTo s fd ⟨us, ks.zip ws⟩ (ps.zip (pm.filterMap fun j => (us ++ ws)[j]?))
/-- what the text's own things are, seen from a def's body that may call to depth n -/
structure TF (S : Nm) (g : Glob) (P : Program) (w : World) (K : PySem.W.Frag) (mg : Str → Option Value) (base : Heap) (L : Lay) (n : Nat) : Prop where
  blt : ∀ x ∈ S.blts, mg x = none
  att : L.attrs = S.attrs ∧ S.attrs.Nodup
  fn : ∀ (f : Nat) (x : Str), S.fnN[f]? = some (some x) → ∃ a, L.fns[f]? = some a ∧ mg x = some (.ref a) ∧ PySem.W.keepIn K (.ref a) = true
  call : ∀ (f : Nat) (a : Addr), L.fns[f]? = some a → ∃ fd ps, Binds K fd ps [] ∧ (∀ sh ∈ S.shp, sh.1 = f → ShpOk K fd ps sh.2.1 sh.2.2.1 sh.2.2.2) ∧ FnG P w K mg base (2 * n + 2) a fd ps (spI K L g n f)
  mks : ∀ e ∈ S.mks, ∀ c f, g.meth c e.1 = some f → (f, e.2.1 + 1, e.2.2.1, 0 :: e.2.2.2.map (· + 1)) ∈ S.shp
  mak : ∀ (c : Nat) (x : Str) (f : Nat), S.clsN[c]? = some x → g.init c = some f → ∃ C a, L.clss[c]? = some C ∧ mg x = some (.ref C) ∧ L.fns[f]? = some a ∧ Mk K C a
  ini : ∀ (k : Nat) (x : Str), S.clsN[k]? = some x → g.init k ≠ none
  cls : ∀ (c : Nat) (C : Addr), L.clss[c]? = some C → Cls K C ∧ (∀ x ∈ S.attrs, NoAttr K C x)
  mth : ∀ (c : Nat) (C : Addr) (m : Nat) (nm : Str) (f : Nat), L.clss[c]? = some C → S.mths[m]? = some nm → g.meth c m = some f → ∃ a, L.fns[f]? = some a ∧ Meth K C nm a
  mna : ∀ (m : Nat) (nm : Str), S.mths[m]? = some nm → nm ∉ S.attrs
  exc : ∀ (k : Nat) (x : Str) (f : Nat), S.excN[k]? = some (x, f) → ∃ C nm, L.exs[k]? = some C ∧ mg x = some (.ref C) ∧ S.attrs[f]? = some nm ∧ ∃ fI fd ps, ∃ b, OexG K C b ∧ PySem.W.findIn K (.ref C) "__init__" = some (some (.ref fI)) ∧ PySem.W.typeIn K (.ref fI) = some (.type "function") ∧ Binds K fd ps [] ∧ FnOk P w K mg base (L2.CX P w) 1 fI fd ps (spX K C nm)
  ex0 : ∀ (k : Nat) (x : Str), (k, x) ∈ S.exc0 → ∃ C b, L.exs[k]? = some C ∧ mg x = some (.ref C) ∧ Oex0 K C b ∧ b.ntl = b.tl
  exf : ∀ (k : Nat) (C : Addr), L.exs[k]? = some C → ExF K S.attrs C
  exm : ∀ p ∈ S.exm, ∃ rv u, NamesV mg p.1 rv u ∧ ExmAt K L u p.2
  con : ∀ (k : Nat) (x : Str), S.constN[k]? = some x → ∃ d u v, g.consts[k]? = some d ∧ mg x = some u ∧ RelV v u ∧ ∀ ρ H, RD K L ρ H d v

section
variable {X : Cx} {L : Lay} {g : Glob} {cl : Cl} {W : WX} {x y z : Expr} {a b c : Ex} {es : Exs} {xs : List Expr} {pos : Pos}

/-! ### items -/
theorem sa_nil : PA X [] (tEs X.K L g cl W .nil) :=
  PA.imp pa_nil fun σ H Q ⟨ρ, hp, env, r, re, h⟩ => (show KQs X.K L ρ H Q [] hp from h) ρ H [] (Ext.refl _ _) r .nil
theorem sa_cons (hm : ClMono cl) (ha : PE X x (tE X.K L g cl W a)) (hb : PA X xs (tEs X.K L g cl W es)) (hs : starEach (x :: xs) X.env = (false, eval x X.env) :: starEach xs X.env) : PA X (x :: xs) (tEs X.K L g cl W (.cons a es)) :=
  PA.imp (pa_cons ha hb hs) fun σ H Q ⟨ρ, hp, env, r, re, h⟩ => by
    unfold wEs at h
    refine ⟨ρ, hp, env, r, re, wE_mono hm a env hp _ _ _ _ (fun d1 hp1 q1 => ?_) (fun _ _ _ z => z) h⟩
    intro ρ1 H1 v1 e1 r1 d1r
    refine ⟨ρ1, hp1, env, r1, re.mono e1, wEs_mono hm es env hp1 _ _ _ _ (fun ds hp2 q2 => ?_) (fun _ _ _ z => z.ext e1) q1⟩
    intro ρ2 H2 vs e2 r2 dsr
    exact q2 ρ2 H2 (v1 :: vs) (e1.trans e2) r2 (.cons (d1r.mono e2) dsr)
/-- the number of items -/
theorem wEs_len (hm : ClMono cl) : ∀ (es : Exs) (env : Env) (hp : Hq) (Q : List D → Hq → Prop) (E : QX), wEs g cl es env hp Q E → wEs g cl es env hp (fun ds h => ds.length = es.len ∧ Q ds h) E
  | .nil, env, hp, Q, E, h => ⟨rfl, h⟩
  | .cons e r, env, hp, Q, E, h => by
    unfold wEs at h ⊢
    refine wE_mono hm e env hp _ _ _ _ (fun d h1 q1 => ?_) (fun _ _ _ z => z) h
    refine wEs_mono hm r env h1 _ _ _ _ (fun ds h2 q2 => ?_) (fun _ _ _ z => z) (wEs_len hm r env h1 _ _ q1)
    exact ⟨by rw [List.length_cons, q2.1]; rfl, q2.2⟩
theorem s_tup (hm : ClMono cl) {k : Nat} (ha : PA X xs (tEs X.K L g cl W es)) (hl : es.len ≤ 1000) : PE X (.Tuple xs k pos) (tE X.K L g cl W (.tup es)) :=
  PE.imp (pe_tup ha) fun σ H Q ⟨ρ, hp, env, r, re, h⟩ => by
    unfold wE at h
    refine ⟨ρ, hp, env, r, re, wEs_mono hm es env hp _ _ _ _ (fun ds hp1 q1 => ?_) (fun _ _ _ z => z) (wEs_len hm es env hp _ _ h)⟩
    intro ρ1 H1 vs e1 r1 dsr
    obtain ⟨hd, q1⟩ := q1
    exact ⟨by rw [← dsr.len, hd, sizeLine_eq]; omega, KQ.tup (KQ.ext q1 e1) r1 dsr⟩
theorem s_lst (hm : ClMono cl) (ha : PA X xs (tEs X.K L g cl W es)) (hl : es.len ≤ 1000) : PE X (.List xs pos) (tE X.K L g cl W (.lst es)) :=
  PE.imp (pe_lst ha) fun σ H Q ⟨ρ, hp, env, r, re, h⟩ => by
    unfold wE at h
    refine ⟨ρ, hp, env, r, re, wEs_mono hm es env hp _ _ _ _ (fun ds hp1 q1 => ?_) (fun _ _ _ z => z) (wEs_len hm es env hp _ _ h)⟩
    intro ρ1 H1 vs e1 r1 dsr
    obtain ⟨hd, q1⟩ := q1
    exact ⟨by rw [← dsr.len, hd, sizeLine_eq]; omega, KQ.new (KQ.ext q1 e1) r1 (.lst dsr)⟩
/-- the pairs of a display -/
def trsOf (K : PySem.W.Frag) (L : Lay) (g : Glob) (cl : Cl) (W : WX) : Exs → List (TE × TE)
  | .nil => []
  | .cons e r => match r with
    | .nil => []
    | .cons e' r' => (tE K L g cl W e, tE K L g cl W e') :: trsOf K L g cl W r'
def evenX : Exs → Bool
  | .nil => true
  | .cons _ r => match r with
    | .nil => false
    | .cons _ r' => evenX r'
def flatP : List (V × V) → List V
  | [] => []
  | p :: r => p.1 :: p.2 :: flatP r
theorem pairs_imp (hm : ClMono cl) : ∀ (es : Exs) (σ : L2.St) (ρ : List Addr) (hp : Hq) (env : Env) (H : Hp) (Q : List (V × V) → Hp → Prop) (R : List D → Hq → Prop), evenX es = true → RelH X.K L ρ hp H → RE X.K L ρ H env σ →
    wEs g cl es env hp R (KX X.K L ρ H σ W) → (∀ ds hp' ρ' H' ps, R ds hp' → Ext ρ H ρ' H' → RelH X.K L ρ' hp' H' → RDs X.K L ρ' H' ds (flatP ps) → Q ps H') → tPairs (trsOf X.K L g cl W es) σ H Q
  | .nil, σ, ρ, hp, env, H, Q, R, ev, r, re, h, k => k [] hp ρ H [] h (Ext.refl _ _) r .nil
  | .cons e .nil, σ, ρ, hp, env, H, Q, R, ev, r, re, h, k => by cases ev
  | .cons e (.cons e' r'), σ, ρ, hp, env, H, Q, R, ev, r, re, h, k => by
    unfold wEs at h
    refine ⟨ρ, hp, env, r, re, wE_mono hm e env hp _ _ _ _ (fun d1 hp1 q1 => ?_) (fun _ _ _ z => z) h⟩
    intro ρ1 H1 v1 e1 r1 d1r
    unfold wEs at q1
    refine ⟨ρ1, hp1, env, r1, re.mono e1, wE_mono hm e' env hp1 _ _ _ _ (fun d2 hp2 q2 => ?_) (fun _ _ _ z => z.ext e1) q1⟩
    intro ρ2 H2 v2 e2 r2 d2r
    refine pairs_imp hm r' σ ρ2 hp2 env H2 _ (fun ds hp' => R (d1 :: d2 :: ds) hp') ev r2 ((re.mono e1).mono e2) (wEs_mono hm r' env hp2 _ _ _ _ (fun _ _ z => z) (fun _ _ _ z => z.ext (e1.trans e2)) q2) fun ds hp' ρ' H' ps hr e3 r3 rd => ?_
    exact k _ hp' ρ' H' ((v1, v2) :: ps) hr ((e1.trans e2).trans e3) r3 (.cons ((d1r.mono e2).mono e3) (.cons (d2r.mono e3) rd))
theorem pairs_of {K : PySem.W.Frag} {L : Lay} {ρ : List Addr} {H : Hp} : ∀ {ds : List D} {ps : List (V × V)} {kvs : List (Key × D)}, RDs K L ρ H ds (flatP ps) → pairsOf ds = some kvs → ∃ kvs' : List (Key × V), ps = kvs'.map (fun kv => (kV kv.1, kv.2)) ∧ RKs K L ρ H kvs kvs' ∧ 2 * kvs'.length = ds.length
  | [], [], kvs, _, h => by cases h; exact ⟨[], rfl, .nil, rfl⟩
  | [], _ :: _, _, r, _ => by cases r
  | [d], ps, kvs, _, h => by cases h
  | k :: v :: ds, [], _, r, _ => by cases r
  | k :: v :: ds, p :: ps, kvs, r, h => by
    unfold pairsOf at h
    cases r with
    | cons r1 r =>
      cases r with
      | cons r2 r =>
        cases e : kOf k with
        | none => simp only [e] at h; cases h
        | some key =>
          cases e2 : pairsOf ds with
          | none => simp only [e, e2] at h; cases h
          | some kvs0 =>
            simp only [e, e2] at h
            cases h
            obtain ⟨kvs', h1, h2, h3⟩ := pairs_of r e2
            refine ⟨(key, p.2) :: kvs', ?_, .cons ⟨rfl, r2⟩ h2, by simp only [List.length_cons]; omega⟩
            rw [h1, List.map_cons]
            congr 1
            exact Prod.ext (kOf_kV r1 e) rfl
theorem RelH.side0 {K : PySem.W.Frag} {L : Lay} {ρ : List Addr} {H : Hp} {hp : Hq} {p : Addr} {o u : HO} (r : RelH K L ρ hp H) (hn : p ∉ ρ) (h : H p = some o) (hs : ¬ Stb o) : RelH K L ρ hp (upd H p u) ∧ ExtW ρ H ρ (upd H p u) := by
  have w : ExtW ρ H ρ (upd H p u) := ⟨⟨[], by simp⟩, fun a o' h' s => by rw [upd_ne fun z => by subst z; rw [h] at h'; cases h'; exact hs s]; exact h'⟩
  refine ⟨⟨r.nd, r.len, fun i o' h' => ?_⟩, w⟩
  obtain ⟨a, u', h1, h2, h3⟩ := r.at_ i o' h'
  exact ⟨a, u', h1, by rw [upd_ne fun z => hn (by rw [← z]; exact List.mem_of_getElem? h1)]; exact h2, h3.monoW w⟩
theorem Ext.side0 {ρ ρ' : List Addr} {H H' : Hp} {p : Addr} {u : HO} (e : Ext ρ H ρ' H') (h : H p = none) : Ext ρ H ρ' (upd H' p u) :=
  ⟨e.pre, e.new, fun a o h1 h2 => by rw [upd_ne (ne_of_none h1 h)]; exact e.out a o h1 h2, fun a o h1 s => by rw [upd_ne (ne_of_none h1 h)]; exact e.st a o h1 s, fun a o k h1 => by rw [upd_ne (ne_of_none h1 h)]; exact e.fz a o k h1⟩
/-- what stands untold is told -/
theorem RelH.tell0 {K : PySem.W.Frag} {L : Lay} {ρ ρ0 : List Addr} {H H0 : Hp} {hp : Hq} {p : Addr} {o : O} {u : HO} (r : RelH K L ρ hp H) (hn : p ∉ ρ) (h : H p = some u) (q : RHO K L ρ H o u) (e : Ext ρ0 H0 ρ H) (h0 : H0 p = none) : RelH K L (ρ ++ [p]) (hp ++ [o]) H ∧ Ext ρ0 H0 (ρ ++ [p]) H := by
  have w : ExtW ρ H (ρ ++ [p]) H := ⟨⟨[p], rfl⟩, fun _ _ h _ => h⟩
  refine ⟨⟨?_, by simp [r.len], fun i o' h' => ?_⟩, ⟨?_, fun a ha => ?_, e.out, e.st, e.fz⟩⟩
  · rw [List.nodup_append]
    refine ⟨r.nd, by simp, fun a ha b hb => ?_⟩
    have : b = p := by simpa using hb
    subst this
    exact fun z => hn (z ▸ ha)
  · by_cases hi : i < hp.length
    · rw [List.getElem?_append_left hi] at h'
      obtain ⟨a, u', h1, h2, h3⟩ := r.at_ i o' h'
      exact ⟨a, u', w.ix h1, h2, h3.monoW w⟩
    · have hl : i < (hp ++ [o]).length := (List.getElem?_eq_some_iff.mp h').1
      have hi2 : i = hp.length := by
        rw [List.length_append, List.length_singleton] at hl
        omega
      subst hi2
      rw [List.getElem?_append_right (Nat.le_refl _)] at h'
      have : o = o' := by simpa using h'
      subst this
      refine ⟨p, u, ?_, h, q.monoW w⟩
      rw [← r.len, List.getElem?_append_right (Nat.le_refl _)]
      simp
  · obtain ⟨m, hm⟩ := e.pre
    exact ⟨m ++ [p], by rw [hm, List.append_assoc]⟩
  · rcases List.mem_append.mp ha with k | k
    · exact e.new a k
    · have : a = p := by simpa using k
      subst this
      exact .inr h0

theorem s_dic (hm : ClMono cl) {ks : List (Option Expr)} {vs : List Expr} (h : PPs X pos ks vs (trsOf X.K L g cl W es)) (ev : evenX es = true) (hl : ks.length = vs.length) (hall : ks.all (·.isSome) = true) (h15 : ks.length ≤ 15) (hes : es.len = 2 * ks.length) (h0 : ks ≠ []) : PE X (.Dict ks vs pos) (tE X.K L g cl W (.dic es)) :=
  PE.imp (pe_disp h hall hl h0 h15) fun σ H Q ⟨ρ, hp, env, r, re, h⟩ => by
    unfold wE at h
    intro p hpn
    obtain ⟨r1, e1⟩ := r.tmp (u := .dK []) hpn
    have hnp := r.notin hpn
    have h := wEs_len hm es env hp _ _ h
    refine pairs_imp hm es σ ρ hp env _ _ _ ev r1 (re.mono e1) (wEs_mono hm es env hp _ _ _ _ (fun _ _ z => z) (fun _ _ _ z => z.ext e1) h) fun ds hp' ρ' H' ps hr e2 r2 rd => ?_
    obtain ⟨hlen, hr⟩ := hr
    have hp2 : H' p = some (.dK []) := e2.out _ _ upd_same hnp
    have hn2 : p ∉ ρ' := fun z => by
      rcases e2.new p z with q | q
      · exact hnp q
      · rw [upd_same] at q; cases q
    refine ⟨hp2, ?_⟩
    cases eq : pairsOf ds with
    | none => simp only [eq] at hr
    | some kvs =>
      simp only [eq] at hr
      obtain ⟨kvs', k1, k2, k3⟩ := pairs_of rd eq
      refine ⟨kvs', k1, by omega, ?_⟩
      obtain ⟨r3, w3⟩ := r2.side0 (u := .dK (mergeK [] kvs')) hn2 hp2 (fun z => by cases z)
      have e3 : Ext ρ H ρ' (upd H' p (.dK (mergeK [] kvs'))) := (e1.trans e2).side0 hpn
      have rel : RHO X.K L ρ' (upd H' p (.dK (mergeK [] kvs'))) (.dic (kvs.foldl (fun acc kv => dput acc kv.1 kv.2) [])) (.dK (mergeK [] kvs')) := .dic ((merge_rks k2 .nil).monoW w3)
      obtain ⟨r4, e4⟩ := r3.tell0 hn2 upd_same rel e3 hpn
      refine hr _ _ _ e4 r4 (.ref ?_)
      rw [← r2.len, List.getElem?_append_right (Nat.le_refl _)]
      simp
theorem s_dic0 : PE X (.Dict [] [] pos) (tE X.K L g cl W (.dic .nil)) :=
  PE.imp pe_dnewK fun σ H Q ⟨ρ, hp, env, r, re, h⟩ => KQ.new (show KQ X.K L ρ H Q (.ref hp.length) (hp ++ [.dic []]) from h) r (.dic .nil)
theorem ty_boot : ∀ n ∈ tyAll, bootBuiltins (PySem.Str.ofString n) = some (.type n) := by decide +kernel
theorem s_bty {n : String} {p : Pos} (hn : n ∈ tyAll) (hg : Gl X (PySem.Str.ofString n)) (hmg : X.mg (PySem.Str.ofString n) = none) (h1 : PySem.Str.ofString n ≠ "__name__") (h2 : (PySem.Str.ofString n == ("__debug__" : Str)) = false) : PE X (.Name (PySem.Str.ofString n) p) (tE X.K L g cl W (.bty n)) :=
  ⟨fun pins s σ H Q I ⟨ρ, hp, env, r, re, h⟩ => ld_blt I hg hmg (ty_boot n hn) ⟨.ty n, H, I, rfl, KQ.here (show KQ X.K L ρ H Q (.ty n) hp from h) r (.ty n)⟩ h1 h2⟩
theorem s_mmd (hm : ClMono cl) (hc : X.calm = true) (hu : X.A.units + 200 < cLine) {mx : Bool} {p kp : Pos} (hg : Gl X (if mx then "max" else "min" : Str)) (hmg : X.mg (if mx then "max" else "min" : Str) = none) (ha : PE X x (tE X.K L g cl W a)) (hb : PE X y (tE X.K L g cl W b)) (hs : isSub x = false) :
    PE X (.Call (.Name (if mx then "max" else "min" : Str) p) [x] [⟨some "default", y, kp⟩] pos) (tE X.K L g cl W (.mmd mx a b)) := by
  have hst : starEach [x] X.env = (false, eval x X.env) :: starEach [] X.env := by cases x <;> first | rfl | cases hs
  have imp : ∀ σ H Q, tE X.K L g cl W (.mmd mx a b) σ H Q → tCKw (rMmd X.K L mx) (tEs X.K L g cl W (.cons a .nil)) (tCons (tE X.K L g cl W b) tNil) σ H Q := fun σ H Q ⟨ρ, hp, env, r, re, h⟩ => by
    unfold wE at h
    refine ⟨ρ, hp, env, r, re, ?_⟩
    show wE g cl a env hp _ _
    refine wE_mono hm a env hp _ _ _ _ (fun d1 hp1 q1 => ?_) (fun _ _ _ z => z) h
    intro ρ1 H1 vs e1 r1 dsr
    cases dsr with
    | cons d1r t =>
      cases t
      refine ⟨ρ1, hp1, env, r1, re.mono e1, wE_mono hm b env hp1 _ _ _ _ (fun d2 hp2 q2 => ?_) (fun _ _ _ z => z.ext e1) q1⟩
      intro ρ2 H2 v2 e2 r2 d2r
      exact ⟨ρ2, hp2, d1, d2, _, v2, rfl, rfl, r2, d1r.mono e2, d2r, OutD.mono (fun _ _ k => k.ext (e1.trans e2)) q2⟩
  have pa : PA X [x] (tEs X.K L g cl W (.cons a .nil)) := sa_cons hm ha sa_nil hst
  have e1 : backTo pos (starEach [x] X.env) = (false, eval x X.env) :: backTo pos (starEach [] X.env) := by rw [hst]; rfl
  have e2 : (backTo pos (starEach [x] X.env)).any (·.1) = false := by rw [hst]; rfl
  cases mx with
  | false => exact PE.imp (pe_callBK (id := "min") (mi_mmd (L := L) hc hu false) hg hmg (by decide +kernel) pa (pk_cons hb pk_nil) (by decide +kernel) (by decide +kernel) e1 e2) imp
  | true => exact PE.imp (pe_callBK (id := "max") (mi_mmd (L := L) hc hu true) hg hmg (by decide +kernel) pa (pk_cons hb pk_nil) (by decide +kernel) (by decide +kernel) e1 e2) imp

/-! ### slices -/
theorem so_no : PO X none (tEo X.K L g cl W .no) :=
  PO.imp po_none fun σ H Q ⟨ρ, hp, env, r, re, h⟩ => (show KO X.K L ρ H Q none hp from h) ρ H (Ext.refl _ _) r
theorem so_so (hm : ClMono cl) (ha : PE X x (tE X.K L g cl W a)) : PO X (some x) (tEo X.K L g cl W (.so a)) := by
  refine PO.imp (po_some ha) fun σ H Q ⟨ρ, hp, env, r, re, h⟩ => ?_
  unfold wEo at h
  refine ⟨ρ, hp, env, r, re, wE_mono hm a env hp _ _ _ _ (fun d1 hp1 q1 => ?_) (fun _ _ _ z => z) h⟩
  intro ρ1 H1 v1 e1 r1 d1r
  cases d1r with
  | int i => exact ⟨i, rfl, q1 _ _ e1 r1⟩
  | _ => exact False.elim q1
theorem s_sl (hm : ClMono cl) {lo hi : Exo} {l h' : Option Expr} {p2 : Pos} (ha : PE X x (tE X.K L g cl W a)) (hl : PO X l (tEo X.K L g cl W lo)) (hh : PO X h' (tEo X.K L g cl W hi)) : PE X (.Subscript x (.Slice l h' none p2) pos) (tE X.K L g cl W (.sl a lo hi)) :=
  PE.imp (pe_slice (mi_sl (L := L)) ha hl hh) fun σ H Q ⟨ρ, hp, env, r, re, h⟩ => by
    unfold wE at h
    refine ⟨ρ, hp, env, r, re, wE_mono hm a env hp _ _ _ _ (fun d1 hp1 q1 => ?_) (fun _ _ _ z => z) h⟩
    intro ρ1 H1 v1 e1 r1 d1r
    refine ⟨ρ1, hp1, env, r1, re.mono e1, wEo_mono hm lo env hp1 _ _ _ _ (fun ol hp2 q2 => ?_) (fun _ _ _ z => z.ext e1) q1⟩
    unfold KO
    cases eb : bnd ol with
    | none => simp only [eb] at q2
    | some ol' =>
      simp only [eb] at q2 ⊢
      intro ρ2 H2 e2 r2
      refine ⟨ρ2, hp2, env, r2, (re.mono e1).mono e2, wEo_mono hm hi env hp2 _ _ _ _ (fun oh hp3 q3 => ?_) (fun _ _ _ z => z.ext (e1.trans e2)) q2⟩
      unfold KO
      cases eh : bnd oh with
      | none => simp only [eh] at q3
      | some oh' =>
        simp only [eh] at q3 ⊢
        intro ρ3 H3 e3 r3
        exact ⟨ρ3, hp3, d1, r3, (d1r.mono e2).mono e3, OutD.mono (fun _ _ k => k.ext ((e1.trans e2).trans e3)) q3⟩

/-! ### attributes -/
theorem s_fld (hm : ClMono cl) {S : Nm} {n : Nat} (T : TF S g X.prog X.w X.K X.mg X.base L n) {f : Nat} {nm : Str} (hf : S.attrs[f]? = some nm) (ha : PE X x (tE X.K L g cl W a)) (hb : attributeBase x nm X.env (eval x X.env) = eval x X.env) : PE X (.Attribute x nm pos) (tE X.K L g cl W (.fld a f)) :=
  PE.imp (pe_fld ha hb) fun σ H Q ⟨ρ, hp, env, r, re, h⟩ => by
    unfold wE at h
    refine ⟨ρ, hp, env, r, re, wE_mono hm a env hp _ _ _ _ (fun d1 hp1 q1 => ?_) (fun _ _ _ z => z) h⟩
    intro ρ1 H1 v1 e1 r1 d1r
    cases d1r with
    | @ref i p hs =>
      unfold oGetF at q1
      cases e : gtI hp1 i with
      | none => simp only [e] at q1; exact False.elim q1
      | some cf =>
        obtain ⟨c, fs⟩ := cf
        simp only [e] at q1
        obtain ⟨C, dx, vs, h1, h2, h3⟩ := r1.ins hs e
        obtain ⟨hc, hn⟩ := T.cls c C h1
        have hmem : nm ∈ S.attrs := List.mem_of_getElem? hf
        have hLa : L.attrs[f]? = some nm := by rw [T.att.1]; exact hf
        have hnd : L.attrs.Nodup := by rw [T.att.1]; exact T.att.2
        rcases h3.get hnd hLa with ⟨k1, k2⟩ | ⟨d', v', k1, k2, k3⟩
        · simp only [k1] at q1; exact False.elim q1
        · simp only [k1] at q1
          exact ⟨p, C, dx, vs, v', rfl, h2, hc, hn nm hmem, k2, q1 _ _ _ e1 r1 k3⟩
    | _ => exact False.elim q1

/-! ### built-in functions -/
theorem s_blt (hm : ClMono cl) (hc : X.calm = true) (hg : X.A.guards = some []) (hu : X.A.units + 200 < cLine) {bf : BF} {p : Pos} (hgl : Gl X (bfName bf)) (hmg : X.mg (bfName bf) = none) (ha : PA X (x :: xs) (tEs X.K L g cl W es))
    (he : starEach (x :: xs) X.env = (false, eval x X.env) :: starEach xs X.env) (hpl : (backTo pos (starEach xs X.env)).any (·.1) = false) : PE X (.Call (.Name (bfName bf) p) (x :: xs) [] pos) (tE X.K L g cl W (.blt bf es)) := by
  have hd : (bfName bf == ("__debug__" : Str)) = false := by cases bf <;> decide +kernel
  have hn : bfName bf ≠ "__name__" := by cases bf <;> decide +kernel
  have imp : ∀ σ H Q, tE X.K L g cl W (.blt bf es) σ H Q → tCB (rBF X.K L bf) (tEs X.K L g cl W es) σ H Q := fun σ H Q ⟨ρ, hp, env, r, re, h⟩ => by
    unfold wE at h
    refine ⟨ρ, hp, env, r, re, wEs_mono hm es env hp _ _ _ _ (fun ds hp1 q1 => ?_) (fun _ _ _ z => z) h⟩
    intro ρ1 H1 vs e1 r1 dsr
    exact ⟨ρ1, hp1, ds, r1, dsr, OutD.mono (fun _ _ k => k.ext e1) q1⟩
  have val : bootBuiltins (bfName bf) = some (bfV bf) := by cases bf <;> decide +kernel
  have run := mi_bf (L := L) hc hg hu bf
  cases bf <;> first
    | exact PE.imp (pe_callB run hgl hmg val ha hn hd he hpl) imp
    | exact PE.imp (pe_callTy run hgl hmg val ha hn hd he hpl) imp

/-! ### methods of built-in types -/
theorem s_bm0 (hm : ClMono cl) (hc : X.calm = true) (hu : X.A.units + 65 < cLine) {m : BM} {apos : Pos} (ho : PE X x (tE X.K L g cl W a))
    (hbase : attributeBase x (bmName m) X.env (eval x X.env) = eval x X.env) (hline : (apos.endLine == pos.line) = true) :
    PE X (.Call (.Attribute x (bmName m) apos) [] [] pos) (tE X.K L g cl W (.bm m a .nil)) := by
  refine ⟨fun pins s σ H Q I ⟨ρ, hp, env, r, re, h⟩ => ?_⟩
  unfold wE at h
  refine wpAny_Call_method0_late hbase hline (thn (ho.run pins s σ H (fun v1 H1 => ∃ ρ1 hp1 d1 k, Ext ρ H ρ1 H1 ∧ RelH X.K L ρ1 hp1 H1 ∧ RD X.K L ρ1 H1 d1 v1 ∧ bmK m d1 hp1 = some k ∧ (oBM m k d1 [] hp1).app (KQ X.K L ρ H Q)) I
    ⟨ρ, hp, env, r, re, wE_mono hm a env hp _ _ _ _ (fun d1 hp1 q1 => ?_) (fun _ _ _ z => z) h⟩) fun v s1 ⟨x1, H1, I1, rx, q⟩ => ?_)
  · intro ρ1 H1 v1 e1 r1 d1r
    split at q1
    · rename_i k ek
      exact ⟨ρ1, hp1, d1, k, e1, r1, d1r, ek, q1⟩
    · exact False.elim q1
  · obtain ⟨ρ1, hp1, d1, k, e1, r1, d1r, ek, q1⟩ := q
    obtain ⟨h1, h2⟩ := bm_kind I1 r1 d1r rx ek
    obtain ⟨T, id, pa, slot, hty, hT, run⟩ := (bm_fact (L := L) hu hc m k d1 hp1 ek).ex
    subst hT
    exact ⟨bkT k, id, pa, slot, hty, h1, h2, Calls.callWith_builtin rfl (PySem.evalArgs_none (run pins s1 σ H1 x1 [] v [] Q ρ1 hp1 d1 [] I1 rx .nil r1 d1r .nil (OutD.mono (fun _ _ k => k.ext e1) q1)))⟩
theorem s_bm (hm : ClMono cl) (hc : X.calm = true) (hu : X.A.units + 65 < cLine) {m : BM} {apos : Pos} (ho : PE X x (tE X.K L g cl W a)) (ha : PA X (y :: xs) (tEs X.K L g cl W es))
    (hbase : attributeBase x (bmName m) X.env (eval x X.env) = eval x X.env)
    (hfew : ((backTo pos (starEach (y :: xs) X.env)).all (fun x => !x.1) && (backToKw pos (keywordEach [] X.env)).all (fun x => x.1.isSome)
      && decide ((y :: xs).length + ([] : List Keyword).length + (if ([] : List Keyword).isEmpty then 0 else 1) < 30)) = true)
    (hline : (apos.endLine == pos.line) = true) (hs : starEach (y :: xs) X.env = (false, eval y X.env) :: starEach xs X.env) (hplain : (backTo pos (starEach xs X.env)).any (·.1) = false) :
    PE X (.Call (.Attribute x (bmName m) apos) (y :: xs) [] pos) (tE X.K L g cl W (.bm m a es)) := by
  refine ⟨fun pins s σ H Q I ⟨ρ, hp, env, r, re, h⟩ => ?_⟩
  unfold wE at h
  refine wpAny_Call_method_late hbase hfew hline rfl (thn (ho.run pins s σ H (fun v1 H1 => ∃ ρ1 hp1 d1 k, Ext ρ H ρ1 H1 ∧ RelH X.K L ρ1 hp1 H1 ∧ RD X.K L ρ1 H1 d1 v1 ∧ bmK m d1 hp1 = some k ∧ wEs g cl es env hp1 (fun ds hp => (oBM m k d1 ds hp).app (KQ X.K L ρ H Q)) (KX X.K L ρ H σ W)) I
    ⟨ρ, hp, env, r, re, wE_mono hm a env hp _ _ _ _ (fun d1 hp1 q1 => ?_) (fun _ _ _ z => z) h⟩) fun v s1 ⟨x1, H1, I1, rx, q⟩ => ?_)
  · intro ρ1 H1 v1 e1 r1 d1r
    split at q1
    · rename_i k ek
      exact ⟨ρ1, hp1, d1, k, e1, r1, d1r, ek, q1⟩
    · exact False.elim q1
  · obtain ⟨ρ1, hp1, d1, k, e1, r1, d1r, ek, q1⟩ := q
    obtain ⟨h1, h2⟩ := bm_kind I1 r1 d1r rx ek
    obtain ⟨T, id, pa, slot, hty, hT, run⟩ := (bm_fact (L := L) hu hc m k d1 hp1 ek).ex
    subst hT
    refine ⟨bkT k, id, pa, slot, hty, h1, h2, ?_⟩
    have hA := ha.run pos pins s1 σ H1 (fun vs H2 => ∃ ρ2 hp2 ds, Ext ρ1 H1 ρ2 H2 ∧ RelH X.K L ρ2 hp2 H2 ∧ RDs X.K L ρ2 H2 ds vs ∧ (oBM m k d1 ds hp2).app (KQ X.K L ρ H Q)) I1
      ⟨ρ1, hp1, env, r1, re.mono e1, wEs_mono hm es env hp1 _ _ _ _ (fun ds hp2 q2 ρ2 H2 vs e2 r2 dsr => ⟨ρ2, hp2, ds, e2, r2, dsr, q2⟩) (fun _ _ _ z => z.ext e1) q1⟩
    rw [hs] at hA ⊢
    refine Calls.callWith_builtin (by show (false || (backTo pos (starEach xs X.env)).any (·.1)) = false; rw [hplain] <;> rfl) (Calls.evalArgs_plain ?_)
    refine thn hA fun us s2 ⟨vs, H2, I2, r2, ρ2, hp2, ds, e2, rr, dsr, q2⟩ => ?_
    exact run pins s2 σ H2 x1 vs v us Q ρ2 hp2 d1 ds I2 rx r2 rr (d1r.mono e2) dsr (OutD.mono (fun _ _ k => k.ext (e1.trans e2)) q2)

/-! ### calls of the text's own -/
theorem run_fnG {pins : List (Addr × Obj)} {σ : L2.St} {H : Hp} {s : Shared} {Q : VK} {us : List Value} {vs : List V} {k : Nat} {f : Addr} {fd : FuncData} {ps : List Str} {sp : Sp} (F : FnG X.prog X.w X.K X.mg X.base k f fd ps sp) (hr : Room k X.A) (hg : X.A.guards = some [])
    (hb : Binds X.K fd ps []) (tk : Takes X W) (I : Inv X pins σ H s) (r : Vals vs us) (h : sp vs H Q fun cls d H' => W cls d σ H') : wpAny (model X.prog X.w) X.A (call (.ref f) us) (EP X pins σ Q) X.xe s := by
  have hl : us.length = ps.length := by rw [← r.length]; exact F.len _ _ _ _ h
  have hb2 : BindsTo s fd ⟨us, []⟩ (ps.zip us) := by
    have := hb s us I.kIn (by rw [List.append_nil]; exact hl)
    rw [List.append_nil] at this
    exact this
  refine wpAny_call (codeAny_mono (F.run X.A X.stack s H ⟨us, []⟩ us vs Q _ hr hg I.env0 hb2 r h) fun r s' hq => ?_)
  cases r with
  | error e => exact tk e s' (XE.of_call I (fun cls d H' h => h) hq)
  | ok fl =>
    cases fl with
    | ret u => exact I.after hq
    | next => exact False.elim hq
    | brk => exact False.elim hq
    | cont => exact False.elim hq
theorem KX.toE {K : PySem.W.Frag} {L : Lay} {ρ ρ1 : List Addr} {H H1 : Hp} {σ : L2.St} {W : WX} {c i : Nat} {hp : Hq} (k : KX K L ρ H σ W c i hp) (e : Ext ρ H ρ1 H1) : KE K L ρ1 H1 (fun cls d H' => W cls d σ H') c i hp :=
  fun ρ' H' a C e' r q z => k ρ' H' a C (e.trans e') r q z
theorem callWith_any {pins : List (Addr × Obj)} {σ : L2.St} {H : Hp} {s : Shared} {f : Value} {first : List Value} {R : List V → Hp → Prop} {t : TA} {Q : Value → Shared → Prop} (hk : PySem.W.keepIn X.K f = true) (I : Inv X pins σ H s) (ha : PA X xs t)
    (hsh : xs = [] ∨ ∃ y ys, xs = y :: ys ∧ starEach (y :: ys) X.env = (false, eval y X.env) :: starEach ys X.env ∧ (backTo pos (starEach ys X.env)).any (·.1) = false)
    (h : t σ H R) (hnil : xs = [] → R [] H) (k : ∀ us vs H1 s1, Inv X pins σ H1 s1 → Vals vs us → R vs H1 → wpAny (model X.prog X.w) X.A (call f (first ++ us)) Q X.xe s1) :
    wpAny (model X.prog X.w) X.A (callWith pos f first (backTo pos (starEach xs X.env)) (backToKw pos (keywordEach [] X.env))) Q X.xe s := by
  rcases hsh with rfl | ⟨y, ys, rfl, he, hpl⟩
  · exact PySem.W.callWith_K0 I.kIn hk (k [] [] H s I .nil (hnil rfl))
  · exact PySem.W.callWith_K (h₀ := X.base) I.ok.mod.kin hk (thn (ha.run pos pins s σ H _ I h) fun us s1 ⟨vs, H1, I1, r, q⟩ => ⟨I1.kIn, k us vs H1 s1 I1 r q⟩) he hpl

variable {S : Nm} {n : Nat}
def Shape (X : Cx) (pos : Pos) (xs : List Expr) : Prop := xs = [] ∨ ∃ y ys, xs = y :: ys ∧ starEach (y :: ys) X.env = (false, eval y X.env) :: starEach ys X.env ∧ (backTo pos (starEach ys X.env)).any (·.1) = false
theorem s_call (T : TF S g X.prog X.w X.K X.mg X.base L n) (hr : Room (2 * n + 2) X.A) (hg : X.A.guards = some []) (tk : Takes X W) {f : Nat} {nm : Str} {p : Pos} (hf : S.fnN[f]? = some (some nm)) (hgl : Gl X nm) (hdb : (nm == ("__debug__" : Str)) = false)
    (ha : PA X xs (tEs X.K L g (wCall g n) W es)) (hsh : Shape X pos xs) (hnl : xs = [] → es = .nil) : PE X (.Call (.Name nm p) xs [] pos) (tE X.K L g (wCall g n) W (.call f es)) := by
  obtain ⟨fa, h1, h2, h3⟩ := T.fn f nm hf
  obtain ⟨fd, ps, hb, _, F⟩ := T.call f fa h1
  refine ⟨fun pins s σ H Q I ⟨ρ, hp, env, r, re, h⟩ => ?_⟩
  unfold wE at h
  refine wpAny_Call_Name_kw (ld_glob I hgl h2 ?_ hdb)
  refine callWith_any (R := fun vs H1 => ∃ ρ1 hp1 ds, Ext ρ H ρ1 H1 ∧ RelH X.K L ρ1 hp1 H1 ∧ RDs X.K L ρ1 H1 ds vs ∧ wCall g n f ds hp1 (KQ X.K L ρ H Q) (KX X.K L ρ H σ W)) h3 I ha hsh
    ⟨ρ, hp, env, r, re, wEs_mono (wCall_mono g n) es env hp _ _ _ _ (fun ds hp1 q1 ρ1 H1 vs e1 r1 dsr => ⟨ρ1, hp1, ds, e1, r1, dsr, q1⟩) (fun _ _ _ z => z) h⟩
    (fun e => by
      have := hnl e
      subst this
      exact ⟨ρ, hp, [], Ext.refl _ _, r, .nil, h⟩) fun us vs H1 s1 I1 rv ⟨ρ1, hp1, ds, e1, r1, dsr, q1⟩ => ?_
  exact run_fnG F hr hg hb tk I1 rv ⟨ρ1, hp1, ds, r1, dsr, wCall_mono g n f ds hp1 _ _ _ _ (fun _ _ k => k.ext e1) (fun _ _ _ k => k.toE e1) q1⟩

/-- o.m( .. ), where the method's name and the call stand in one line -/
theorem methCall_any {env : PySem.Env} {A : Around} {E : Value → Shared → Prop} {s : Shared} {o : Expr} {nm : Str} {apos pos : Pos} {args : List Expr} {prog : Program} {w : World} {Q : Value → Shared → Prop}
    (hbase : attributeBase o nm env (eval o env) = eval o env) (hline : (apos.endLine == pos.line) = true)
    (hfew : methodCallForm (args.length + ([] : List Keyword).length) (backTo pos (starEach args env)) (backToKw pos (keywordEach [] env)) = true)
    (h : wpAny (model prog w) A (eval o env) (fun ov s₁ => ∀ pl, wpAny (model prog w) A (getMethod ov nm pl) (fun fx s₂ => wpAny (model prog w) A (callWith pos fx.1 fx.2 (backTo pos (starEach args env)) (backToKw pos (keywordEach [] env))) Q E s₂) E s₁) E s) :
    wpAny (model prog w) A (eval (.Call (.Attribute o nm apos) args [] pos) env) Q E s := by
  rw [arm_eval_Call, hbase]
  refine wpAny_bind (wpAny_mono h (fun ov s₁ h₁ => ?_) fun _ _ e => e)
  refine wpAny_bind (wpAny_standAt ?_)
  have hpos : methodCallPos true o env apos pos = pure pos := by unfold methodCallPos; simp [hline]
  unfold methodCall
  rw [hfew]
  refine wpAny_bind (wpAny_holding (wpAny_mono (h₁ _) (fun fx s2 h2 => ?_) fun _ _ e => e))
  exact wpAny_bind (wpAny_of_eq hpos h2)

theorem s_meth (T : TF S g X.prog X.w X.K X.mg X.base L n) (hr : Room (2 * n + 2) X.A) (hg : X.A.guards = some []) (tk : Takes X W) {m : Nat} {nm : Str} {apos : Pos} (hf : S.mths[m]? = some nm) (ho : PE X x (tE X.K L g (wCall g n) W a))
    (ha : PA X xs (tEs X.K L g (wCall g n) W es)) (hsh : Shape X pos xs) (hnl : xs = [] → es = .nil) (hbase : attributeBase x nm X.env (eval x X.env) = eval x X.env) (hline : (apos.endLine == pos.line) = true) (hfew : methodCallForm (xs.length + ([] : List Keyword).length) (backTo pos (starEach xs X.env)) (backToKw pos (keywordEach [] X.env)) = true) : PE X (.Call (.Attribute x nm apos) xs [] pos) (tE X.K L g (wCall g n) W (.meth a m es)) := by
  refine ⟨fun pins s σ H Q I ⟨ρ, hp, env, r, re, h⟩ => ?_⟩
  unfold wE at h
  have hm := wCall_mono g n
  refine methCall_any hbase hline hfew (thn (ho.run pins s σ H (fun v1 H1 => ∃ ρ1 hp1 i c fs f, v1 = v1 ∧ Ext ρ H ρ1 H1 ∧ RelH X.K L ρ1 hp1 H1 ∧ RD X.K L ρ1 H1 (.ref i) v1 ∧ gtI hp1 i = some (c, fs) ∧ g.meth c m = some f ∧
      wEs g (wCall g n) es env hp1 (fun ds hp => wCall g n f (.ref i :: ds) hp (KQ X.K L ρ H Q) (KX X.K L ρ H σ W)) (KX X.K L ρ H σ W)) I
    ⟨ρ, hp, env, r, re, wE_mono hm a env hp _ _ _ _ (fun d1 hp1 q1 => ?_) (fun _ _ _ z => z) h⟩) fun v s1 ⟨x1, H1, I1, rx, q⟩ pl => ?_)
  · intro ρ1 H1 v1 e1 r1 d1r
    cases d1r with
    | @ref i pa hs =>
      cases e : gtI hp1 i with
      | none => simp only [e] at q1
      | some cf =>
        obtain ⟨c, fs⟩ := cf
        simp only [e] at q1
        cases e2 : g.meth c m with
        | none => simp only [e2] at q1
        | some f =>
          simp only [e2] at q1
          exact ⟨ρ1, hp1, i, c, fs, f, rfl, e1, r1, .ref hs, e, e2, q1⟩
    | _ => exact False.elim q1
  · obtain ⟨ρ1, hp1, i, c, fs, f, _, e1, r1, d1r, eg, em, q1⟩ := q
    cases d1r with
    | @ref _ pa hs =>
      cases rx
      obtain ⟨C, dx, vs, g1, g2, g3⟩ := r1.ins hs eg
      obtain ⟨hc, _⟩ := T.cls c C g1
      obtain ⟨fa, f1, hmeth⟩ := T.mth c C m nm f g1 hf em
      obtain ⟨fd, ps, hb, _, F⟩ := T.call f fa f1
      have hlook : vs.lookup nm = none := by
        have hna := T.mna m nm hf
        have hat : ∀ x v, (x, v) ∈ vs → x ∈ S.attrs := by
          intro x v hx
          unfold RFs at g3
          clear eg g2
          induction g3 with
          | nil => cases hx
          | cons rr t ih =>
            rcases List.mem_cons.mp hx with e | e
            · rw [← e] at rr
              rw [← T.att.1]
              exact List.mem_of_getElem? rr.1
            · exact ih e
        clear g3 g2 eg
        induction vs with
        | nil => rfl
        | cons p l ih =>
          obtain ⟨x, v⟩ := p
          have hx : ¬ nm = x := fun z => hna (z ▸ hat x v List.mem_cons_self)
          show (match nm == x with | true => some v | false => l.lookup nm) = none
          rw [show (nm == x) = false from beq_eq_false_iff_ne.mpr hx]
          exact ih fun y w hy => hat y w (List.mem_cons_of_mem _ hy)
      refine getmeth_ok I1 g2 hc hmeth hlook ?_
      refine callWith_any (first := [.ref pa]) (R := fun us H2 => ∃ ρ2 hp2 ds, Ext ρ1 H1 ρ2 H2 ∧ RelH X.K L ρ2 hp2 H2 ∧ RDs X.K L ρ2 H2 ds us ∧ wCall g n f (.ref i :: ds) hp2 (KQ X.K L ρ H Q) (KX X.K L ρ H σ W)) hmeth.kp I1 ha hsh
        ⟨ρ1, hp1, env, r1, re.mono e1, wEs_mono hm es env hp1 _ _ _ _ (fun ds hp2 q2 ρ2 H2 us e2 r2 dsr => ⟨ρ2, hp2, ds, e2, r2, dsr, q2⟩) (fun _ _ _ z => z.ext e1) q1⟩
        (fun e => by
          have := hnl e
          subst this
          exact ⟨ρ1, hp1, [], Ext.refl _ _, r1, .nil, q1⟩) fun us vs2 H2 s2 I2 rv ⟨ρ2, hp2, ds, e2, r2, dsr, q2⟩ => ?_
      have hsr : RD X.K L ρ2 H2 (.ref i) (.ref pa) := .ref (e2.ix hs)
      exact run_fnG (vs := .ref pa :: vs2) F hr hg hb tk I2 (.cons rfl rv) ⟨ρ2, hp2, .ref i :: ds, r2, .cons hsr dsr, wCall_mono g n f _ hp2 _ _ _ _ (fun _ _ k => k.ext (e1.trans e2)) (fun _ _ _ k => k.toE (e1.trans e2)) q2⟩

/-! ### with names -/
theorem filt_rd {K : PySem.W.Frag} {L : Lay} {ρ : List Addr} {H : Hp} {ds : List D} {vs : List V} (h : RDs K L ρ H ds vs) : ∀ (pm : List Nat) (ds' : List D), perm (pm.map .inl) ds = some ds' → RDs K L ρ H ds' (pm.filterMap fun j => vs[j]?)
  | [], ds', e => by
    cases e
    exact .nil
  | j :: pm, ds', e => by
    unfold perm at e
    rw [List.map_cons] at e
    unfold mapO at e
    cases e1 : ds[j]? with
    | none => simp only [e1] at e; cases e
    | some y =>
      cases e2 : perm (pm.map .inl) ds with
      | none =>
        unfold perm at e2
        simp only [e1, e2] at e; cases e
      | some ys =>
        have e3 := e2
        unfold perm at e3
        simp only [e1, e3] at e
        cases e
        obtain ⟨v, h1, h2⟩ := h.get e1
        rw [List.filterMap_cons, h1]
        exact .cons h2 (filt_rd h pm ys e2)
theorem filt_vals {vs : List V} {us : List Value} (h : Vals vs us) : ∀ pm : List Nat, Vals (pm.filterMap fun j => vs[j]?) (pm.filterMap fun j => us[j]?)
  | [] => .nil
  | j :: pm => by
    rw [List.filterMap_cons, List.filterMap_cons]
    cases e : vs[j]? with
    | none =>
      have e2 : us[j]? = none := by
        rw [List.getElem?_eq_none_iff] at e ⊢
        rw [← h.length]; exact e
      rw [e2]
      exact filt_vals h pm
    | some v =>
      obtain ⟨u, e2, r⟩ := h.get e
      rw [e2]
      exact .cons r (filt_vals h pm)
theorem filt_shift {α : Type} (x : α) (us : List α) : ∀ pm : List Nat, ((0 :: pm.map (· + 1)).filterMap fun j => (x :: us)[j]?) = x :: pm.filterMap fun j => us[j]? := by
  intro pm
  rw [List.filterMap_cons]
  show x :: _ = _
  congr 1
  rw [List.filterMap_map]
  rfl
theorem perm_inl {pm : List (Sum Nat D)} {pl : List Nat} (h : pm.map (fun s => match s with | .inl j => some j | .inr _ => none) = pl.map some) : pm = pl.map .inl := by
  induction pm generalizing pl with
  | nil =>
    cases pl with
    | nil => rfl
    | cons _ _ => cases h
  | cons s r ih =>
    cases pl with
    | nil => cases h
    | cons j pl =>
      rw [List.map_cons, List.map_cons] at h
      injection h with h1 h2
      cases s with
      | inl j' =>
        cases h1
        rw [ih h2]
        rfl
      | inr _ => cases h1
theorem run_fnS {pins : List (Addr × Obj)} {σ : L2.St} {H : Hp} {s : Shared} {Q : VK} {us ws : List Value} {vs : List V} {k : Nat} {f : Addr} {fd : FuncData} {ps ks : List Str} {sp : Sp} {pm : List Nat} (F : FnG X.prog X.w X.K X.mg X.base k f fd ps sp) (hr : Room k X.A) (hg : X.A.guards = some [])
    (hb : ShpOk X.K fd ps us.length ks pm) (hw : ws.length = ks.length) (tk : Takes X W) (I : Inv X pins σ H s) (r : Vals vs (us ++ ws)) (h : sp (pm.filterMap fun j => vs[j]?) H Q fun cls d H' => W cls d σ H') : wpAny (model X.prog X.w) X.A (call (.ref f) us (ks.zip ws)) (EP X pins σ Q) X.xe s := by
  refine wpAny_call (codeAny_mono (F.run X.A X.stack s H ⟨us, ks.zip ws⟩ _ _ Q _ hr hg I.env0 (hb.2 s us ws I.kIn rfl hw) (filt_vals r pm) h) fun r s' hq => ?_)
  cases r with
  | error e => exact tk e s' (XE.of_call I (fun cls d H' h => h) hq)
  | ok fl =>
    cases fl with
    | ret u => exact I.after hq
    | next => exact False.elim hq
    | brk => exact False.elim hq
    | cont => exact False.elim hq
theorem wEs_split (hm : ClMono cl) : ∀ (k : Nat) (es : Exs) (env : Env) (hp : Hq) (Q : List D → Hq → Prop) (E : QX), wEs g cl es env hp Q E → wEs g cl (takeX k es) env hp (fun ds1 hp1 => wEs g cl (dropX k es) env hp1 (fun ds2 hp2 => Q (ds1 ++ ds2) hp2) E) E
  | 0, es, env, hp, Q, E, h => by
    cases es <;> exact h
  | k + 1, .nil, env, hp, Q, E, h => h
  | k + 1, .cons e r, env, hp, Q, E, h => by
    unfold wEs at h
    show wEs g cl (.cons e (takeX k r)) env hp _ E
    unfold wEs
    exact wE_mono hm e env hp _ _ _ _ (fun d hp1 q1 => wEs_split hm k r env hp1 (fun ds hp => Q (d :: ds) hp) E q1) (fun _ _ _ z => z) h
theorem PK.imp {X : Cx} {kws : List Keyword} {t t' : TA} (h : PK X kws t) (i : ∀ σ H Q, t' σ H Q → t σ H Q) : PK X kws t' := ⟨fun pos pins s σ H Q I q => h.run pos pins s σ H Q I (i σ H Q q)⟩
theorem sk_nil : PK X [] (tEs X.K L g cl W .nil) :=
  PK.imp pk_nil fun σ H Q ⟨ρ, hp, env, r, re, h⟩ => (show KQs X.K L ρ H Q [] hp from h) ρ H [] (Ext.refl _ _) r .nil
theorem sk_cons (hm : ClMono cl) {k : Keyword} {kws : List Keyword} (ha : PE X k.value (tE X.K L g cl W a)) (hb : PK X kws (tEs X.K L g cl W es)) : PK X (k :: kws) (tEs X.K L g cl W (.cons a es)) := by
  obtain ⟨kn, kv, kp⟩ := k
  exact PK.imp (pk_cons ha hb) fun σ H Q ⟨ρ, hp, env, r, re, h⟩ => by
    unfold wEs at h
    refine ⟨ρ, hp, env, r, re, wE_mono hm a env hp _ _ _ _ (fun d1 hp1 q1 => ?_) (fun _ _ _ z => z) h⟩
    intro ρ1 H1 v1 e1 r1 d1r
    refine ⟨ρ1, hp1, env, r1, re.mono e1, wEs_mono hm es env hp1 _ _ _ _ (fun ds hp2 q2 => ?_) (fun _ _ _ z => z.ext e1) q1⟩
    intro ρ2 H2 vs e2 r2 dsr
    exact q2 ρ2 H2 (v1 :: vs) (e1.trans e2) r2 (.cons (d1r.mono e2) dsr)
theorem RDs.app2 {K : PySem.W.Frag} {L : Lay} {ρ : List Addr} {H : Hp} {ds es : List D} {vs us : List V} (a : RDs K L ρ H ds vs) (b : RDs K L ρ H es us) : RDs K L ρ H (ds ++ es) (vs ++ us) := a.app b
theorem callWith_kws {pins : List (Addr × Obj)} {σ : L2.St} {H : Hp} {s : Shared} {f : Value} {first : List Value} {k : Keyword} {kws : List Keyword} {R1 : List V → Hp → Prop} {R : List V → List V → Hp → Prop} {t tk : TA} {Q : Value → Shared → Prop} {ks : List Str} (hk : PySem.W.keepIn X.K f = true) (I : Inv X pins σ H s) (ha : PA X xs t)
    (hsh : xs = [] ∨ ∃ y ys, xs = y :: ys ∧ starEach (y :: ys) X.env = (false, eval y X.env) :: starEach ys X.env ∧ (backTo pos (starEach ys X.env)).any (·.1) = false) (hkw : PK X (k :: kws) tk)
    (hall : (backToKw pos (keywordEach (k :: kws) X.env)).all (·.1.isSome) = true) (hnone : (backToKw pos (keywordEach (k :: kws) X.env)).any (·.1.isNone) = false) (hks : (backToKw pos (keywordEach (k :: kws) X.env)).filterMap (·.1) = ks)
    (h : t σ H R1) (hnil : xs = [] → R1 [] H) (h2 : ∀ vs H1, R1 vs H1 → tk σ H1 (R vs)) (kk : ∀ us ws vs zs H1 s1, Inv X pins σ H1 s1 → Vals vs us → Vals zs ws → R vs zs H1 → wpAny (model X.prog X.w) X.A (call f (first ++ us) (ks.zip ws)) Q X.xe s1) :
    wpAny (model X.prog X.w) X.A (callWith pos f first (backTo pos (starEach xs X.env)) (backToKw pos (keywordEach (k :: kws) X.env))) Q X.xe s := by
  rcases hsh with rfl | ⟨y, ys, rfl, he, hpl⟩
  · refine PySem.W.callWith_KW0 (h₀ := X.base) I.ok.mod.kin hk hall (thn (hkw.run pos pins s σ H _ I (h2 [] H (hnil rfl))) fun ws s2 ⟨zs, H2, I2, rz, q2⟩ => ⟨I2.kIn, ?_⟩) (by rw [hnone]; rfl)
    rw [hks]
    exact kk [] ws [] zs H2 s2 I2 .nil rz q2
  · refine PySem.W.callWith_KW (h₀ := X.base) I.ok.mod.kin hk hall (thn (ha.run pos pins s σ H _ I h) fun us s1 ⟨vs, H1, I1, r, q⟩ => ?_) (by rw [hnone, he]; show ((false || (backTo pos (starEach ys X.env)).any (·.1)) || false) = false; rw [hpl]; rfl) he
    refine thn (hkw.run pos pins s1 σ H1 _ I1 (h2 vs H1 q)) fun ws s2 ⟨zs, H2, I2, rz, q2⟩ => ⟨I2.kIn, ?_⟩
    rw [hks]
    exact kk us ws vs zs H2 s2 I2 r rz q2
theorem methCall_anyK {env : PySem.Env} {A : Around} {E : Value → Shared → Prop} {s : Shared} {o : Expr} {nm : Str} {apos pos : Pos} {args : List Expr} {kws : List Keyword} {prog : Program} {w : World} {Q : Value → Shared → Prop}
    (hbase : attributeBase o nm env (eval o env) = eval o env) (hline : (apos.endLine == pos.line) = true)
    (hfew : methodCallForm (args.length + kws.length) (backTo pos (starEach args env)) (backToKw pos (keywordEach kws env)) = true)
    (h : wpAny (model prog w) A (eval o env) (fun ov s₁ => ∀ pl, wpAny (model prog w) A (getMethod ov nm pl) (fun fx s₂ => wpAny (model prog w) A (callWith pos fx.1 fx.2 (backTo pos (starEach args env)) (backToKw pos (keywordEach kws env))) Q E s₂) E s₁) E s) :
    wpAny (model prog w) A (eval (.Call (.Attribute o nm apos) args kws pos) env) Q E s := by
  rw [arm_eval_Call, hbase]
  refine wpAny_bind (wpAny_mono h (fun ov s₁ h₁ => ?_) fun _ _ e => e)
  refine wpAny_bind (wpAny_standAt ?_)
  have hpos : methodCallPos true o env apos pos = pure pos := by unfold methodCallPos; simp [hline]
  unfold methodCall
  rw [hfew]
  refine wpAny_bind (wpAny_holding (wpAny_mono (h₁ _) (fun fx s2 h2 => ?_) fun _ _ e => e))
  exact wpAny_bind (wpAny_of_eq hpos h2)
/-- an instance's own things hold no method's name -/
theorem no_own {K : PySem.W.Frag} {P : Program} {w : World} {mg : Str → Option Value} {base : Heap} {ρ : List Addr} {H : Hp} {fs : List (Nat × D)} {vs : List (Str × V)} {m : Nat} {nm : Str} (T : TF S g P w K mg base L n) (hf : S.mths[m]? = some nm) (g3 : RFs K L ρ H fs vs) : vs.lookup nm = none := by
  have hna := T.mna m nm hf
  have hat : ∀ x v, (x, v) ∈ vs → x ∈ S.attrs := by
    intro x v hx
    unfold RFs at g3
    induction g3 with
    | nil => cases hx
    | cons rr t ih =>
      rcases List.mem_cons.mp hx with e | e
      · rw [← e] at rr
        rw [← T.att.1]
        exact List.mem_of_getElem? rr.1
      · exact ih e
  clear g3
  induction vs with
  | nil => rfl
  | cons p l ih =>
    obtain ⟨x, v⟩ := p
    have hx : ¬ nm = x := fun z => hna (z ▸ hat x v List.mem_cons_self)
    show (match nm == x with | true => some v | false => l.lookup nm) = none
    rw [show (nm == x) = false from beq_eq_false_iff_ne.mpr hx]
    exact ih fun y w hy => hat y w (List.mem_cons_of_mem _ hy)
theorem s_methK (T : TF S g X.prog X.w X.K X.mg X.base L n) (hr : Room (2 * n + 2) X.A) (hg : X.A.guards = some []) (tk : Takes X W) {m : Nat} {nm : Str} {apos : Pos} {k : Keyword} {kws : List Keyword} {pm : List (Sum Nat D)} {pl : List Nat} {ks : List Str} (hf : S.mths[m]? = some nm) (ho : PE X x (tE X.K L g (wCall g n) W a))
    (ha : PA X xs (tEs X.K L g (wCall g n) W (takeX xs.length es))) (hkw : PK X (k :: kws) (tEs X.K L g (wCall g n) W (dropX xs.length es))) (hsh : Shape X pos xs) (hbase : attributeBase x nm X.env (eval x X.env) = eval x X.env) (hline : (apos.endLine == pos.line) = true)
    (hfew : methodCallForm (xs.length + (k :: kws).length) (backTo pos (starEach xs X.env)) (backToKw pos (keywordEach (k :: kws) X.env)) = true) (hlen : es.len = xs.length + (k :: kws).length)
    (hall : (backToKw pos (keywordEach (k :: kws) X.env)).all (·.1.isSome) = true) (hnone : (backToKw pos (keywordEach (k :: kws) X.env)).any (·.1.isNone) = false) (hks : (backToKw pos (keywordEach (k :: kws) X.env)).filterMap (·.1) = ks) (hksl : ks.length = (k :: kws).length)
    (hin : (m, xs.length, ks, pl) ∈ S.mks) (hpm : pm = pl.map .inl) : PE X (.Call (.Attribute x nm apos) xs (k :: kws) pos) (tE X.K L g (wCall g n) W (.methK a m es pm)) := by
  refine ⟨fun pins s σ H Q I ⟨ρ, hp, env, r, re, h⟩ => ?_⟩
  unfold wE at h
  have hm := wCall_mono g n
  refine methCall_anyK hbase hline hfew (thn (ho.run pins s σ H (fun v1 H1 => ∃ ρ1 hp1 i c fs f, v1 = v1 ∧ Ext ρ H ρ1 H1 ∧ RelH X.K L ρ1 hp1 H1 ∧ RD X.K L ρ1 H1 (.ref i) v1 ∧ gtI hp1 i = some (c, fs) ∧ g.meth c m = some f ∧
      wEs g (wCall g n) es env hp1 (fun ds hp => match perm pm ds with
          | some vs => wCall g n f (.ref i :: vs) hp (KQ X.K L ρ H Q) (KX X.K L ρ H σ W)
          | none => False) (KX X.K L ρ H σ W)) I
    ⟨ρ, hp, env, r, re, wE_mono hm a env hp _ _ _ _ (fun d1 hp1 q1 => ?_) (fun _ _ _ z => z) h⟩) fun v s1 ⟨x1, H1, I1, rx, q⟩ plc => ?_)
  · intro ρ1 H1 v1 e1 r1 d1r
    cases d1r with
    | @ref i pa hs =>
      cases e : gtI hp1 i with
      | none => simp only [e] at q1
      | some cf =>
        obtain ⟨c, fs⟩ := cf
        simp only [e] at q1
        cases e2 : g.meth c m with
        | none => simp only [e2] at q1
        | some f =>
          simp only [e2] at q1
          exact ⟨ρ1, hp1, i, c, fs, f, rfl, e1, r1, .ref hs, e, e2, q1⟩
    | _ => exact False.elim q1
  · obtain ⟨ρ1, hp1, i, c, fs, f, _, e1, r1, d1r, eg, em, q1⟩ := q
    cases d1r with
    | @ref _ pa hs =>
      cases rx
      obtain ⟨C, dx, vs, g1, g2, g3⟩ := r1.ins hs eg
      obtain ⟨hc, _⟩ := T.cls c C g1
      obtain ⟨fa, f1, hmeth⟩ := T.mth c C m nm f g1 hf em
      obtain ⟨fd, ps, hb, hshp, F⟩ := T.call f fa f1
      have hsp := hshp _ (T.mks _ hin c f em) rfl
      have hlook : vs.lookup nm = none := no_own T hf g3
      refine getmeth_ok I1 g2 hc hmeth hlook ?_
      have q1 := wEs_len hm _ _ _ _ _ (wEs_split hm xs.length es env hp1 _ _ (wEs_len hm es env hp1 _ _ q1))
      refine callWith_kws (first := [.ref pa]) (ks := ks) (R1 := fun us H2 => ∃ ρ2 hp2 ds, Ext ρ1 H1 ρ2 H2 ∧ RelH X.K L ρ2 hp2 H2 ∧ RDs X.K L ρ2 H2 ds us ∧ ds.length = (takeX xs.length es).len ∧ wEs g (wCall g n) (dropX xs.length es) env hp2 (fun ds2 hp => (ds ++ ds2).length = es.len ∧ match perm pm (ds ++ ds2) with
          | some vs => wCall g n f (.ref i :: vs) hp (KQ X.K L ρ H Q) (KX X.K L ρ H σ W)
          | none => False) (KX X.K L ρ H σ W))
        (R := fun us zs H2 => ∃ ρ2 hp2 ds vs', Ext ρ1 H1 ρ2 H2 ∧ RelH X.K L ρ2 hp2 H2 ∧ RDs X.K L ρ2 H2 ds (us ++ zs) ∧ ds.length = es.len ∧ us.length = (takeX xs.length es).len ∧ perm pm ds = some vs' ∧ wCall g n f (.ref i :: vs') hp2 (KQ X.K L ρ H Q) (KX X.K L ρ H σ W))
        hmeth.kp I1 ha hsh hkw hall hnone hks
        ⟨ρ1, hp1, env, r1, re.mono e1, wEs_mono hm _ env hp1 _ _ _ _ (fun ds hp2 q2 ρ2 H2 us e2 r2 dsr => ⟨ρ2, hp2, ds, e2, r2, dsr, q2.1, q2.2⟩) (fun _ _ _ z => z.ext e1) q1⟩
        (fun e => ?_) (fun us H2 ⟨ρ2, hp2, ds, e2, r2, dsr, hl, q2⟩ => ?_) fun us ws vs2 zs H2 s2 I2 rv rz ⟨ρ2, hp2, ds, vs', e2, r2, dsr, hl, hl2, ep, q2⟩ => ?_
      · subst e
        refine ⟨ρ1, hp1, [], Ext.refl _ _, r1, .nil, ?_, ?_⟩
        · cases es <;> rfl
        · cases es <;> exact q1.2
      · refine ⟨ρ2, hp2, env, r2, (re.mono e1).mono e2, wEs_mono hm _ env hp2 _ _ _ _ (fun ds2 hp3 q3 => ?_) (fun _ _ _ z => (z.ext e1).ext e2) q2⟩
        intro ρ3 H3 zs e3 r3 zsr
        obtain ⟨hl3, q3⟩ := q3
        cases ep : perm pm (ds ++ ds2) with
        | none => simp only [ep] at q3
        | some vs' =>
          simp only [ep] at q3
          exact ⟨ρ3, hp3, ds ++ ds2, vs', e2.trans e3, r3, (dsr.mono e3).app zsr, hl3, by rw [← dsr.len]; exact hl, ep, q3⟩
      · have hsr : RD X.K L ρ2 H2 (.ref i) (.ref pa) := .ref (e2.ix hs)
        have hul : us.length = xs.length := by
          rw [← rv.length, hl2]
          have : ∀ (k : Nat) (es : Exs), k ≤ es.len → (takeX k es).len = k := by
            intro k
            induction k with
            | zero => intro es _; cases es <;> rfl
            | succ k ih =>
              intro es h
              cases es with
              | nil => cases h
              | cons e r =>
                show (takeX k r).len + 1 = k + 1
                rw [ih r (Nat.le_of_succ_le_succ h)]
          exact this _ _ (by omega)
        have hwl : ws.length = ks.length := by
          have := dsr.len
          rw [List.length_append, hl, rv.length, rz.length, hul, hlen] at this
          omega
        have hrd : RDs X.K L ρ2 H2 (.ref i :: vs') (.ref pa :: pl.filterMap fun j => (vs2 ++ zs)[j]?) := .cons hsr (filt_rd dsr pl vs' (by rw [← hpm]; exact ep))
        refine run_fnS (us := .ref pa :: us) (vs := .ref pa :: (vs2 ++ zs)) (pm := 0 :: pl.map (· + 1)) F hr hg (by rw [List.length_cons, hul]; exact hsp) hwl tk I2 (.cons rfl (rv.append rz)) ?_
        rw [filt_shift]
        exact ⟨ρ2, hp2, .ref i :: vs', r2, hrd, wCall_mono g n f _ hp2 _ _ _ _ (fun _ _ k => k.ext (e1.trans e2)) (fun _ _ _ k => k.toE (e1.trans e2)) q2⟩

/-- a call of a def of the text, some by names -/
theorem s_callK (T : TF S g X.prog X.w X.K X.mg X.base L n) (hr : Room (2 * n + 2) X.A) (hg : X.A.guards = some []) (tk : Takes X W) {f : Nat} {nm : Str} {p : Pos} {k : Keyword} {kws : List Keyword} {pm : List (Sum Nat D)} {pl : List Nat} {ks : List Str} (hf : S.fnN[f]? = some (some nm)) (hgl : Gl X nm) (hdb : (nm == ("__debug__" : Str)) = false)
    (ha : PA X xs (tEs X.K L g (wCall g n) W (takeX xs.length es))) (hkw : PK X (k :: kws) (tEs X.K L g (wCall g n) W (dropX xs.length es))) (hsh : Shape X pos xs) (hlen : es.len = xs.length + (k :: kws).length)
    (hall : (backToKw pos (keywordEach (k :: kws) X.env)).all (·.1.isSome) = true) (hnone : (backToKw pos (keywordEach (k :: kws) X.env)).any (·.1.isNone) = false) (hks : (backToKw pos (keywordEach (k :: kws) X.env)).filterMap (·.1) = ks) (hksl : ks.length = (k :: kws).length)
    (hin : (f, xs.length, ks, pl) ∈ S.shp) (hpm : pm = pl.map .inl) : PE X (.Call (.Name nm p) xs (k :: kws) pos) (tE X.K L g (wCall g n) W (.callK f es pm)) := by
  obtain ⟨fa, h1, h2, h3⟩ := T.fn f nm hf
  obtain ⟨fd, ps, hb, hshp, F⟩ := T.call f fa h1
  have hsp := hshp _ hin rfl
  refine ⟨fun pins s σ H Q I ⟨ρ, hp, env, r, re, h⟩ => ?_⟩
  unfold wE at h
  have hm := wCall_mono g n
  refine wpAny_Call_Name_kw (ld_glob I hgl h2 ?_ hdb)
  have q1 := wEs_len hm _ _ _ _ _ (wEs_split hm xs.length es env hp _ _ (wEs_len hm es env hp _ _ h))
  refine callWith_kws (first := []) (ks := ks) (R1 := fun us H2 => ∃ ρ2 hp2 ds, Ext ρ H ρ2 H2 ∧ RelH X.K L ρ2 hp2 H2 ∧ RDs X.K L ρ2 H2 ds us ∧ ds.length = (takeX xs.length es).len ∧ wEs g (wCall g n) (dropX xs.length es) env hp2 (fun ds2 hp => (ds ++ ds2).length = es.len ∧ match perm pm (ds ++ ds2) with
          | some vs => wCall g n f vs hp (KQ X.K L ρ H Q) (KX X.K L ρ H σ W)
          | none => False) (KX X.K L ρ H σ W))
        (R := fun us zs H2 => ∃ ρ2 hp2 ds vs', Ext ρ H ρ2 H2 ∧ RelH X.K L ρ2 hp2 H2 ∧ RDs X.K L ρ2 H2 ds (us ++ zs) ∧ ds.length = es.len ∧ us.length = (takeX xs.length es).len ∧ perm pm ds = some vs' ∧ wCall g n f vs' hp2 (KQ X.K L ρ H Q) (KX X.K L ρ H σ W))
        h3 I ha hsh hkw hall hnone hks
        ⟨ρ, hp, env, r, re, wEs_mono hm _ env hp _ _ _ _ (fun ds hp2 q2 ρ2 H2 us e2 r2 dsr => ⟨ρ2, hp2, ds, e2, r2, dsr, q2.1, q2.2⟩) (fun _ _ _ z => z) q1⟩
        (fun e => ?_) (fun us H2 ⟨ρ2, hp2, ds, e2, r2, dsr, hl, q2⟩ => ?_) fun us ws vs2 zs H2 s2 I2 rv rz ⟨ρ2, hp2, ds, vs', e2, r2, dsr, hl, hl2, ep, q2⟩ => ?_
  · subst e
    refine ⟨ρ, hp, [], Ext.refl _ _, r, .nil, ?_, ?_⟩
    · cases es <;> rfl
    · cases es <;> exact q1.2
  · refine ⟨ρ2, hp2, env, r2, re.mono e2, wEs_mono hm _ env hp2 _ _ _ _ (fun ds2 hp3 q3 => ?_) (fun _ _ _ z => z.ext e2) q2⟩
    intro ρ3 H3 zs e3 r3 zsr
    obtain ⟨hl3, q3⟩ := q3
    cases ep : perm pm (ds ++ ds2) with
    | none => simp only [ep] at q3
    | some vs' =>
      simp only [ep] at q3
      exact ⟨ρ3, hp3, ds ++ ds2, vs', e2.trans e3, r3, (dsr.mono e3).app zsr, hl3, by rw [← dsr.len]; exact hl, ep, q3⟩
  · have hul : us.length = xs.length := by
      rw [← rv.length, hl2]
      have : ∀ (k : Nat) (es : Exs), k ≤ es.len → (takeX k es).len = k := by
        intro k
        induction k with
        | zero => intro es _; cases es <;> rfl
        | succ k ih =>
          intro es h
          cases es with
          | nil => cases h
          | cons e r =>
            show (takeX k r).len + 1 = k + 1
            rw [ih r (Nat.le_of_succ_le_succ h)]
      exact this _ _ (by omega)
    have hwl : ws.length = ks.length := by
      have := dsr.len
      rw [List.length_append, hl, rv.length, rz.length, hul, hlen] at this
      omega
    refine run_fnS (us := us) (vs := vs2 ++ zs) (pm := pl) F hr hg (by rw [hul]; exact hsp) hwl tk I2 (rv.append rz) ?_
    exact ⟨ρ2, hp2, vs', r2, filt_rd dsr pl vs' (by rw [← hpm]; exact ep), wCall_mono g n f _ hp2 _ _ _ _ (fun _ _ k => k.ext e2) (fun _ _ _ k => k.toE e2) q2⟩

theorem s_make (T : TF S g X.prog X.w X.K X.mg X.base L n) (hr : Room (2 * n + 3) X.A) (hg : X.A.guards = some []) (tk : Takes X W) {k : Nat} {nm : Str} {p : Pos} (hf : S.clsN[k]? = some nm) (hgl : Gl X nm) (hdb : (nm == ("__debug__" : Str)) = false)
    (hin : g.init k ≠ none) (ha : PA X xs (tEs X.K L g (wCall g n) W es)) (hsh : Shape X pos xs) (hnl : xs = [] → es = .nil) : PE X (.Call (.Name nm p) xs [] pos) (tE X.K L g (wCall g n) W (.make k es)) := by
  obtain ⟨f, ef⟩ := Option.ne_none_iff_exists'.mp hin
  obtain ⟨C, fa, h1, h2, h3, M⟩ := T.mak k nm f hf ef
  obtain ⟨fd, ps, hb, _, F⟩ := T.call f fa h3
  refine ⟨fun pins s σ H Q I ⟨ρ, hp, env, r, re, h⟩ => ?_⟩
  unfold wE at h
  simp only [ef] at h
  refine wpAny_Call_Name_kw (ld_glob I hgl h2 ?_ hdb)
  refine callWith_any (R := fun vs H1 => ∃ ρ1 hp1 ds, Ext ρ H ρ1 H1 ∧ RelH X.K L ρ1 hp1 H1 ∧ RDs X.K L ρ1 H1 ds vs ∧ wCall g n f (.ref hp1.length :: ds) (hp1 ++ [.ins k []]) (fun v hp' => match v with
      | .non => KQ X.K L ρ H Q (.ref hp1.length) hp'
      | _ => False) (KX X.K L ρ H σ W)) M.kp I ha hsh
    ⟨ρ, hp, env, r, re, wEs_mono (wCall_mono g n) es env hp _ _ _ _ (fun ds hp1 q1 ρ1 H1 vs e1 r1 dsr => ⟨ρ1, hp1, ds, e1, r1, dsr, q1⟩) (fun _ _ _ z => z) h⟩
    (fun e => by
      have := hnl e
      subst this
      exact ⟨ρ, hp, [], Ext.refl _ _, r, .nil, h⟩) fun us vs H1 s1 I1 rv ⟨ρ1, hp1, ds, e1, r1, dsr, q1⟩ => ?_
  -- the instance's dict, then the instance
  have hdx : H1 s1.heap.objs.size = none := I1.hok.fresh (Nat.le_refl _)
  have hx : H1 (s1.heap.objs.size + 1) = none := I1.hok.fresh (Nat.le_succ _)
  have hne : s1.heap.objs.size ≠ s1.heap.objs.size + 1 := Nat.ne_of_lt (Nat.lt_succ_self _)
  obtain ⟨r2, e2⟩ := r1.tmp (u := .own (s1.heap.objs.size + 1)) hdx
  have hx2 : upd H1 s1.heap.objs.size (.own (s1.heap.objs.size + 1)) (s1.heap.objs.size + 1) = none := by rw [upd_ne (Ne.symm hne)]; exact hx
  obtain ⟨r3, e3⟩ := r2.push (o := .ins k []) (u := .ins C s1.heap.objs.size []) hx2 (.ins h1 .nil)
  have e23 := e2.trans e3
  have I2 := Inv.made (C := C) I1
  have hself : (ρ1 ++ [s1.heap.objs.size + 1])[hp1.length]? = some (s1.heap.objs.size + 1) := by
    rw [← r1.len, List.getElem?_append_right (Nat.le_refl _)]
    simp
  have hsp : spI X.K L g n f (V.ref (s1.heap.objs.size + 1) :: vs) (upd (upd H1 s1.heap.objs.size (.own (s1.heap.objs.size + 1))) (s1.heap.objs.size + 1) (.ins C s1.heap.objs.size []))
      (fun v H' => v = .non ∧ Q (.ref (s1.heap.objs.size + 1)) H') fun cls d H' => W cls d σ H' := by
    refine ⟨_, _, _, r3, .cons (.ref hself) (dsr.mono e23), wCall_mono g n f _ _ _ _ _ _ (fun d hp' k ρ' H' v e' r' q => ?_) (fun _ _ _ k => k.toE (e1.trans e23)) q1⟩
    cases q with
    | non => exact ⟨rfl, k _ _ _ ((e1.trans e23).trans e') r' (.ref (e'.ix hself))⟩
    | _ => exact False.elim k
  have r2v : Vals (V.ref (s1.heap.objs.size + 1) :: vs) (Value.ref (s1.heap.objs.size + 1) :: us) := .cons rfl rv
  have hl : (Value.ref (s1.heap.objs.size + 1) :: us).length = ps.length := by rw [← r2v.length]; exact F.len _ _ _ _ hsp
  have hb2 : ∀ s', X.K.In s'.heap → BindsTo s' fd ⟨Value.ref (s1.heap.objs.size + 1) :: us, []⟩ (ps.zip (Value.ref (s1.heap.objs.size + 1) :: us)) := fun s' k => by
    have := hb s' (Value.ref (s1.heap.objs.size + 1) :: us) k (by rw [List.append_nil]; exact hl)
    rw [List.append_nil] at this
    exact this
  refine wpAny_call (make_map (f := fa) I1.kIn M.makes M.init (beq_iff_eq.mp M.fn) (codeAny_mono (F.run _ X.stack _ _ ⟨Value.ref (s1.heap.objs.size + 1) :: us, []⟩ (Value.ref (s1.heap.objs.size + 1) :: us) _ _ _ (hr.make C us [])
    (by first | exact hg | (simpa [Around.under, Code.guards, Code.isGuard, guardIds, pushGuards] using hg)) (I2.env0.make C us []) (hb2 _ I2.kIn) r2v hsp) fun r s' hq' => ?_))
  cases r with
  | error e => exact tk e s' (XE.of_call I2 (fun cls d H' h => h) hq')
  | ok fl =>
    cases fl with
    | ret u =>
      obtain ⟨v, H', I3, rv', ev, q3⟩ := I2.after hq'
      subst ev
      exact ⟨rv', ⟨V.ref (s1.heap.objs.size + 1), H', I3, rfl, q3⟩⟩
    | next => exact False.elim hq'
    | brk => exact False.elim hq'
    | cont => exact False.elim hq'
end
end MI
set_option maxHeartbeats 2000000
/-! MI, exceptions 2: try: body / except x as n: k = n. -/
namespace MI
open PySem PySem.Spec PyProof.Rows L2

/-- what that clause wants of an exception of the body: slot j is k's, slot i is n's -/
def wKeep (K : PySem.W.Frag) (c : Value) (i j : Nat) (Wo : WX) (D : Ends) : WX := fun cls d σ H =>
  ∃ b, PySem.W.exmOne K cls c = some b ∧ (b = true → ∃ C dd, cls = .ref C ∧ d = some dd ∧ ∀ a, H a = none → D.nx ((σ.set j (some (.ref a))).set i none) (upd H a (kx a C dd))) ∧ (b = false → Wo cls d σ H)
theorem ps_try_keep {X : Cx} {x n kn : Str} {c : Value} {i j : Nat} {body : List Stmt} {np pos pos' p1 p2 p3 : Pos} {tb : WX → TS} {Wo : WX}
    (hs : X.stack = X.env :: X.outer) (hf : X.env.frame = some X.env.locals) (hN : X.N.Nodup) (hi : X.N[i]? = some n) (hln : X.env.kindOf n = some .local) (hj : X.N[j]? = some kn) (hlj : X.env.kindOf kn = some .local) (hij : i ≠ j) (hex : X.ex = []) (hc : Names X x c) (tk : Takes X Wo)
    (hsu : ∀ (a : Addr) (ob : Obj) (pn : List (Addr × Obj)), PSs (X.suite a ((a, ob) :: pn)) [.Assign [.Name kn p1] (.Name n p2) p3] (fun D σ H => match σ[i]? with | some (some v) => D.nx (σ.set j (some v)) H | _ => False))
    (hb : ∀ (W : WX) (pn : List (Addr × Obj)) (xe : Value → Shared → Prop), Takes (X.tr pn xe) W → PassesOwn (model X.prog X.w) X.A X.env xe → PSs (X.tr pn xe) body (tb W)) :
    PS X (.Try body [.ExceptHandler (some (.Name x np)) (some n) [.Assign [.Name kn p1] (.Name n p2) p3] pos'] [] [] pos) (fun D σ H => tb (wKeep X.K c i j Wo D) D σ H) := by
  refine ⟨fun pins s σ H D I h => ?_⟩
  have good := I.ok
  have frames : X.A.frames = some (X.env :: X.outer) := by rw [good.frames, hs]
  refine wpAny_Try_except ?_
  have B0 := (hb (wKeep X.K c i j Wo D) (X.pn ++ pins) (fun e t1 => wpAny (model X.prog X.w) X.A (noteFrame e X.env) (fun _ t2 => wpAny (model X.prog X.w) X.A (setFlight e none) (fun _ t3 =>
    wpAny (model X.prog X.w) X.A (handleBy e X.env [.ExceptHandler (some (.Name x np)) (some n) [.Assign [.Name kn p1] (.Name n p2) p3] pos']) (SP X pins D) X.xe t3) X.xe t2) X.xe t1) ?_ PassesOwn.looking).run [] s σ H D (I.toTry _) h
  · refine wpAny_mono B0 (fun fl t hsp => ?_) fun _ _ z => z
    cases fl with
    | ret u =>
      obtain ⟨v, σ1, H1, J, r, q⟩ := hsp
      exact ⟨v, σ1, H1, J.ofTry good, r, q⟩
    | next =>
      obtain ⟨σ1, H1, J, q⟩ := hsp
      exact wpAny_execs_nil ⟨σ1, H1, J.ofTry good, q⟩
    | brk =>
      obtain ⟨σ1, H1, J, q⟩ := hsp
      exact ⟨σ1, H1, J.ofTry good, q⟩
    | cont =>
      obtain ⟨σ1, H1, J, q⟩ := hsp
      exact ⟨σ1, H1, J.ofTry good, q⟩
  · -- caught
    intro u t caught
    obtain ⟨a, G, sI, pinsT, σ1, H1, cls, d, rfl, JT, ground, slots, sky, untr, hos, bare, b, hb1, yes, no⟩ := caught
    have J : Inv X pins σ1 H1 sI := JT.ofTry good
    have sky1 : Sky G (X.env :: X.outer) a (Zc cls d) X.env.locals t.heap := by rw [← hs]; exact sky
    show wpAny (model X.prog X.w) X.A (noteFrame (.ref a) X.env) _ _ _
    refine Sky.land Zc.steady frames hf sky1 fun h3 fl3 up3 => ?_
    have up03 := slots.trans up3
    have J3 : Inv X pins σ1 H1 { t with heap := h3 } := J.landed ground fl3.1 up03 hos bare
    obtain ⟨ob3, ws3, at3, z3, d3⟩ := fl3.there
    have outside : a ∉ frs (X.env :: X.outer) := fun hm => by
      obtain ⟨_, o', e', nf⟩ := fl3.2.2.1.mem hm
      rw [at3] at e'
      cases e'
      exact nf _ d3
    have notL : a ≠ X.env.locals := fun z => outside (List.mem_filterMap.mpr ⟨X.env, List.mem_cons_self, by rw [hf, z]⟩)
    have notF : a ∉ X.fs := fun hm => by
      obtain ⟨e, he, q⟩ := List.mem_filterMap.mp hm
      exact outside (List.mem_filterMap.mpr ⟨e, List.mem_cons_of_mem _ he, q⟩)
    have noG : G.get? a = none := fl3.2.1
    have noI : sI.heap.get? a = none := by
      cases q : sI.heap.get? a with
      | none => rfl
      | some o' =>
        have := ground a o' q (by rw [hs]; exact outside)
        rw [noG] at this
        cases this
    have no0 : X.s_0.heap.get? a = none := by
      cases q : X.s_0.heap.get? a with
      | none => rfl
      | some o' =>
        obtain ⟨o2, q2⟩ := J.base.there a o' q (by rw [hex]; exact nofun)
        rw [noI] at q2
        cases q2
    have noC : ∀ y cc, X.env.cells.lookup y = some cc → cc ≠ a := fun y cc e z => by
      obtain ⟨v, o', e1, e2⟩ := J.cell y cc e
      rw [z, noI] at e1
      cases e1
    have noP : ∀ p ∈ X.pn ++ pins, p.1 ≠ a := fun p hm z => by
      have q := (J.pin p hm).1
      rw [z, noI] at q
      cases q
    have S3 := J3.suite at3 d3 untr notL notF
    refine wpAny_handleBy_cons (codeAny_handlers_test ?_) (by intro q; cases q)
    have TY : PySem.W.Looks (model X.prog X.w) h3 (typeOf (.ref a)) cls := fun A' Q' E' s' k' q => wpAny_typeOf_ref (k' _ _ at3) (by rw [z3.1]; exact q)
    have MT := PySem.W.exm_one (M := model X.prog X.w) (J3.kIn) TY hb1
    have nameIt : ∀ {Q E : Value → Shared → Prop}, Q c { t with heap := h3 } → wpAny (model X.prog X.w) (X.A.mark (some (.ref a))) (eval (.Name x np) X.env) Q E { t with heap := h3 } := fun {Q E} q => by
      obtain ⟨n1, n2, m1 | ⟨m2, m3, m4⟩⟩ := hc
      · exact ld_glob (X := X.suite a ((a, ob3) :: (X.pn ++ pins))) S3 n1 m1 q n2
      · exact ld_blt (X := X.suite a ((a, ob3) :: (X.pn ++ pins))) S3 n1 m2 m3 q m4 n2
    refine nameIt (MT.here ?_)
    cases b with
    | true =>
      obtain ⟨C, dd, rfl, rfl, fin⟩ := yes rfl
      refine codeAny_handlers_suite_as ?_
      refine HandSPX.lands_againZ fl3 fun h4 fl4 up4 => ?_
      have J4 : Inv X pins σ1 H1 { t with heap := h4 } := J.landed ground fl4.1 (up03.trans up4) hos bare
      obtain ⟨ob4, ws4, at4, z4, d4⟩ := fl4.there
      have S4 := J4.suite at4 d4 untr notL notF
      refine store_ok (X := X.suite a ((a, ob4) :: (X.pn ++ pins))) (v := .ref a) S4 hN hi (.inl hln) rfl (fun s5 S5 => ?_) (.inr hln)
      have len1 : i < σ1.length := by
        rw [J.len]
        exact (List.getElem?_eq_some_iff.mp hi).1
      refine wpAny_mono ((hsu a ob4 (X.pn ++ pins)).run [] s5 _ H1 { nx := fun σ6 H6 => σ6 = (σ1.set i (some (.ref a))).set j (some (.ref a)) ∧ H6 = H1, rt := fun _ _ => False } S5 ?_) (fun fl s6 hsp => ?_) fun _ _ z => False.elim z
      · show (match (σ1.set i (some (.ref a)))[i]? with | some (some v) => _ | _ => False)
        rw [List.getElem?_set_self len1]
        exact ⟨rfl, rfl⟩
      · cases fl with
        | ret u =>
          obtain ⟨_, _, _, _, _, q⟩ := hsp
          exact q.elim
        | brk =>
          obtain ⟨_, _, _, q⟩ := hsp
          exact q.elim
        | cont =>
          obtain ⟨_, _, _, q⟩ := hsp
          exact q.elim
        | next =>
          obtain ⟨σ6, H6, S6, rfl, rfl⟩ := hsp
          refine gone_ok (X := X.suite a ((a, ob4) :: (X.pn ++ pins))) S6 hN hi hln fun s7 S7 => ?_
          have at7 := (S7.pin (a, ob4) (List.mem_append_left _ List.mem_cons_self)).1
          have J7 : Inv X pins _ H6 s7 := S7.unsuite good
          have e7 : ((σ1.set i (some (V.ref a))).set j (some (V.ref a))).set i none = (σ1.set j (some (V.ref a))).set i none := by
            rw [List.set_comm _ _ hij, List.set_set]
          rw [e7] at J7
          exact ⟨_, _, track J7 no0 untr (Ne.symm notL) noC noP (kx_ok at7 z4 d4), fin a untr⟩
    | false =>
      show wpAny _ X.A (handleBy (.ref a) X.env []) _ _ _
      refine wpAny_handleBy_nil ?_
      obtain ⟨k1, k2, k3, oe, vs, Tb, oT, ts', he, hz, hd, h1, hr⟩ := id fl3
      unfold PySem.passOn
      refine wpAny_bind (wpAny_field he hd h1 ?_)
      rw [if_neg (show ¬ ((Value.ref Tb == Value.none) = true) by simp)]
      have up : wpAny (model X.prog X.w) X.A (setFlight (.ref a) X.env.frame) (fun _ s4 => wpAny (model X.prog X.w) X.A (throw (.ref a) : Sem Flow) (SP X pins D) X.xe s4) X.xe { t with heap := h3 } := by
        rw [hf]
        refine HandSPX.setFlight_upZ fl3 fun h4 held up4 => wpAny_throw (tk _ _ ?_)
        refine ⟨a, G, sI, pins, σ1, H1, cls, d, rfl, J, ground, up03.trans up4, .inr (.inr ?_), untr, hos, bare, no rfl⟩
        rw [hs]
        exact held
      first
        | exact wpAny_bind (wpAny_pure (wpAny_bind up))
        | exact wpAny_bind up
end MI
set_option maxHeartbeats 2000000
/-! MI, exceptions 3: own classes with one field, made and raised, or made and kept. -/
namespace MI
open PySem PySem.Spec PyProof.Rows L2
section
variable {X : Cx} {pins : List (Addr × Obj)} {σ : L2.St} {H : Hp} {s : Shared} {a C dx : Addr} {f : Str} {y : V} {u : Value} {b : XB} {E : Value → Shared → Prop} {A : Around}
/-- self.f = y, the first one -/
theorem ost_x {Q : Unit → Shared → Prop} (T : OexG X.K C b) (I : Inv X pins σ H s) (e : H a = some (exo a C none)) (hno : PySem.W.findIn X.K (.ref C) f = some none) (ry : RelV y u)
    (h : ∀ dx s', H dx = none → dx ≠ a → Inv X pins σ (upd (upd H dx (exd dx [(f, y)])) a (exo a C (some dx))) s' → Q () s') : wpAny (model X.prog X.w) A (setAttr (.ref a) f u) Q E s := by
  obtain ⟨nm, q, N, bs, bm, sn, sub, ab, col, dd, k0, k1, k2, k3, k5, hC, hbm⟩ := T.cls
  have hcl : PySem.W.clsIn X.K C = some { name := nm, bases := bs, mro := .ref C :: bm, ns := N, qualname := q, hasDict := true, slotNames := sn, subclasses := sub, abstract := ab, collection := col, hasDel := false } := by
    unfold PySem.W.clsIn
    rw [hC] <;> rfl
  obtain ⟨t1, ho⟩ := exo_at I.hok e
  obtain ⟨z, g, d, t, os⟩ := s
  refine PySem.W.set_plain I.kIn (ox := { cls := .ref C, dict := none, data := .fields #[.ref t1, .none, .none, .none, .bool false, .none] }) (od := none) ⟨ho, rfl, rfl, trivial⟩ T.sa ?_
  have hpass : refuseLoop (.ref a) "__setattr__" (.ref C :: bm) = pure () := by
    rw [refuseLoop_ref]
    exact refsT_pass hbm _ (T.ok.pass _)
  have hob : (Value.ref C :: bm).contains (.type "object") = true := by
    rw [List.contains_cons, refsT_has hbm, T.ok.obj, Bool.or_true]
  refine osa_x I.kIn ho hcl hpass rfl hob rfl hno (fun z' tk' dx k dn dne hx hn => ?_)
  have hnd : H dx = none := I.hok.fresh dn
  have nd : ∀ {c : Addr} {o : Obj}, z.get? c = some o → c ≠ dx := fun {c o} q => Nat.ne_of_lt (Nat.lt_of_lt_of_le (Heap.lt_size q) dn)
  have na : ∀ {c : Addr}, H c = none → c ≠ a := fun {c} n w => by
    rw [w, e] at n
    cases n
  have un : Un X.fs [] H (upd (upd H dx (exd dx [(f, y)])) a (exo a C (some dx))) z z' := {
    keep := fun c o q n _ _ => k c o (na n) q
    slot := fun c o q n _ _ => ⟨o.slots, k c o (na n) q⟩
    free := fun c o q n _ => by
      rw [upd_ne (na n), upd_ne (nd q)]
      exact n
    there := fun c o q _ => by
      by_cases hc : c = a
      · exact ⟨_, by rw [hc]; exact hx⟩
      · exact ⟨o, k c o hc q⟩
    tups := fun c xs q => by
      rw [upd_ne (at_ne e q exo_tup), upd_ne (ne_of_none q hnd)]
      exact q
    frzs := fun c o v q => by
      rw [upd_ne (at_ne e q exo_frz), upd_ne (ne_of_none q hnd)]
      exact q
    tbls := fun c ps q => ⟨#[], by
      rw [upd_ne (at_ne e q exo_tbl), upd_ne (ne_of_none q hnd), q]
      simp⟩ }
  refine h dx _ hnd dne (I.un (t' := tk') un fun c o q => ?_)
  by_cases hc : c = a
  · subst hc
    rw [upd_same] at q
    cases q
    exact exo_ok hx
  · rw [upd_ne hc] at q
    by_cases hd : c = dx
    · subst hd
      rw [upd_same] at q
      cases q
      exact exd_ok hn (relO_put (fs := []) ry fun g => True.intro)
    · rw [upd_ne hd] at q
      refine (I.hok c o q).stay (fun c' v hc' w => k c' v ?_ w) (fun c' hc' => ?_) (fun c' xs hc' => ?_)
      · rcases hc' with hc' | hc'
        · rw [hc']
          exact hc
        · exact at_ne e hc' exo_own
      · rw [upd_ne (at_ne e hc' exo_own), upd_ne (ne_of_none hc' hnd)]
        exact hc'
      · rw [upd_ne (at_ne e hc' exo_tup), upd_ne (ne_of_none hc' hnd)]
        exact hc'
/-- the base's __init__: nothing of it is told -/
theorem init_x {us : List Value} {Q : Value → Shared → Prop} (T : OexG X.K C b) (I : Inv X pins σ H s) (e : H a = some (exo a C none)) (hl : us.length ≤ sizeLine) (h : ∀ s', Inv X pins σ H s' → Q .none s') :
    wpAny (model X.prog X.w) A (call (.builtin b.ini) (.ref a :: us)) Q E s := by
  obtain ⟨nm, q, N, bs, bm, sn, sub, ab, col, dd, k0, k1, k2, k3, k5, hC, hbm⟩ := T.cls
  obtain ⟨t1, ho⟩ := exo_at I.hok e
  obtain ⟨z, g, d, t, os⟩ := s
  refine wpAny_call (ini_x T.ok hbm (I.kIn _ _ hC) ho hl fun z' t2 k hx => ?_)
  have J := I.write (t' := t) (x := a) (e := a) (o := exo a C none) (by rw [e]; exact True.intro) (.inl rfl) k ⟨_, hx⟩ (exo_ok hx)
  have same : upd H a (exo a C none) = H := by
    funext c
    by_cases hc : c = a
    · rw [hc, upd_same, e]
    · rw [upd_ne hc]
  rw [same] at J
  exact h _ J
end
/-- B.__init__(self, ..) -/
def tIni (K : PySem.W.Frag) (b : XB) (ta : TA) : TE := fun σ H Q => ta σ H fun vs H1 => ∃ (a C : Addr) (ws : List V), vs = .ref a :: ws ∧ ws.length ≤ 1000 ∧ OexG K C b ∧ H1 a = some (exo a C none) ∧ Q .non H1
/-- self.f = e, the first -/
def tOsx (K : PySem.W.Frag) (b : XB) (f : Str) (to te : TE) : TS := fun D σ H => te σ H fun y H1 => to σ H1 fun x H2 => ∃ a C : Addr, x = .ref a ∧ OexG K C b ∧ PySem.W.findIn K (.ref C) f = some none ∧
  H2 a = some (exo a C none) ∧ ∀ dx, H2 dx = none → dx ≠ a → D.nx σ (upd (upd H2 dx (exd dx [(f, y)])) a (exo a C (some dx)))
section
variable {X : Cx} {o e : Expr} {es : List Expr} {to te : TE} {ta : TA} {f : Str} {p p' p1 p2 pos : Pos} {b : XB}
theorem ps_osx (ho : PE X o to) (he : PE X e te) (hs : swapsWith e (some (.Attribute o f p')) pos.line X.env = pure false := by rfl) : PS X (.Assign [.Attribute o f p'] e pos) (tOsx X.K b f to te) := by
  refine ⟨fun pins s σ H D I h => ?_⟩
  refine plainObj_wpAny_Assign_Attribute (thn (he.run pins s σ H _ I h) fun v s1 ⟨y, H1, I1, r1, q1⟩ => thn (ho.run pins s1 σ H1 _ I1 q1) fun u s2 hh => ?_) hs
  obtain ⟨x, H2, I2, r2, a, C, ex, T, hno, ea, q⟩ := hh
  subst ex
  obtain rfl : u = Value.ref a := r2
  exact ost_x T I2 ea hno r1 fun dx s' n ne J => ⟨σ, _, J, q dx n ne⟩
/-- R.__init__(self, ..), R an own class that takes it from the base -/
theorem pe_rini {x : Str} {R : Addr} {mc : Value} (hg : Gl X x) (hm : X.mg x = some (.ref R)) (r : ClX.CRead X.K R mc) (ok : XBOk b) (at_ : PySem.W.findCls X.K (.ref R) mc "__init__" = some (.val (.builtin b.ini))) (ha : PA X (e :: es) ta)
    (hdb : (x == ("__debug__" : Str)) = false) (hline : (p2.endLine == pos.line) = true) (hfew : methodCallForm ((e :: es).length + ([] : List Keyword).length) (backTo pos (starEach (e :: es) X.env)) (backToKw pos (keywordEach [] X.env)) = true)
    (he : starEach (e :: es) X.env = (false, eval e X.env) :: starEach es X.env) (hpl : (backTo pos (starEach es X.env)).any (·.1) = false) :
    PE X (.Call (.Attribute (.Name x p1) "__init__" p2) (e :: es) [] pos) (tIni X.K b ta) := by
  constructor
  intro pins s σ H Q I h
  refine methCall_any (ab_ok fun _ _ _ z => nomatch z) hline hfew (ld_glob I hg hm ?_ hdb)
  intro pl
  refine PySem.W.method_cls I.kIn r.ga (PySem.W.cls_value I.kIn r.rd at_ ok.hand ?_)
  refine PyProof.Rows.callWith_method1 (thn (ha.run pos pins _ σ H _ (I.tok _) h) fun us t ht => ?_) he hpl
  obtain ⟨vs, H1, I1, r1, a, C, ws, rfl, hl, T, ea, q⟩ := ht
  cases r1 with
  | @cons _ u0 _ ur ra rw' =>
    obtain rfl : u0 = Value.ref a := ra
    refine init_x T I1 ea ?_ fun t' J => ⟨.non, H1, J, rfl, q⟩
    rw [← Paired.length rw', sizeLine_eq]
    omega
/-- B.__init__(self, ..), B built in -/
theorem pe_bini {x : Str} (hg : Gl X x) (hm : X.mg x = none) (ex : x = Str.ofString b.B) (hxn : x ≠ "__name__") (ok : XBOk b) (at_ : PySem.W.findCls X.K (.type b.B) (.type "type") "__init__" = some (.val (.builtin b.ini))) (ha : PA X (e :: es) ta)
    (hdb : (x == ("__debug__" : Str)) = false) (hline : (p2.endLine == pos.line) = true) (hfew : methodCallForm ((e :: es).length + ([] : List Keyword).length) (backTo pos (starEach (e :: es) X.env)) (backToKw pos (keywordEach [] X.env)) = true)
    (he : starEach (e :: es) X.env = (false, eval e X.env) :: starEach es X.env) (hpl : (backTo pos (starEach es X.env)).any (·.1) = false) :
    PE X (.Call (.Attribute (.Name x p1) "__init__" p2) (e :: es) [] pos) (tIni X.K b ta) := by
  constructor
  intro pins s σ H Q I h
  refine methCall_any (ab_ok fun _ _ _ z => nomatch z) hline hfew (ld_blt I hg hm (by rw [ex]; exact ok.boot) ?_ hxn hdb)
  intro pl
  obtain ⟨m, fr⟩ := I.fr
  refine PySem.W.method_type fr I.ok.mod.kin ok.typ ok.stub at_ ok.hand ?_
  refine PyProof.Rows.callWith_method1 (thn (ha.run pos pins _ σ H _ (I.tok _) h) fun us t ht => ?_) he hpl
  obtain ⟨vs, H1, I1, r1, a, C, ws, rfl, hl, T, ea, q⟩ := ht
  cases r1 with
  | @cons _ u0 _ ur ra rw' =>
    obtain rfl : u0 = Value.ref a := ra
    refine init_x T I1 ea ?_ fun t' J => ⟨.non, H1, J, rfl, q⟩
    rw [← Paired.length rw', sizeLine_eq]
    omega
end
end MI
set_option maxHeartbeats 4000000
/-! MI, exceptions: C(x) in a raise, or as a value. -/
namespace MI
open PySem PySem.Spec PyProof.Rows L2
section
variable {X : Cx} {pins : List (Addr × Obj)} {σ : L2.St} {H : Hp} {s : Shared} {a C d : Addr} {fs : List (Str × V)}
theorem kx_own {e C d x : Addr} : kx e C d ≠ .own x := fun z => by
  have z' : HO.ext _ = HO.own x := z
  cases z'
/-- an exception that is made is told anew as a kept one -/
theorem retag (I : Inv X pins σ H s) (ha : H a = some (exo a C (some d))) (hd : H d = some (exd d fs)) (ne : d ≠ a) : Inv X pins σ (upd (upd H d (.xd fs)) a (kx a C d)) s := by
  have un : Un X.fs [] H (upd (upd H d (.xd fs)) a (kx a C d)) s.heap s.heap := {
    keep := fun c o q n _ _ => q
    slot := fun c o q n _ _ => ⟨o.slots, q⟩
    free := fun c o q n _ => by
      rw [upd_ne (fun z => by rw [z, ha] at n; cases n), upd_ne (fun z => by rw [z, hd] at n; cases n)]
      exact n
    there := fun c o q _ => ⟨o, q⟩
    tups := fun c xs q => by
      rw [upd_ne (at_ne ha q exo_tup), upd_ne (at_ne hd q exd_tup)]
      exact q
    frzs := fun c o v q => by
      rw [upd_ne (at_ne ha q exo_frz), upd_ne (at_ne hd q (fun z => by have z' : HO.ext _ = HO.frz o v := z; cases z'))]
      exact q
    tbls := fun c ps q => ⟨#[], by
      rw [upd_ne (at_ne ha q exo_tbl), upd_ne (at_ne hd q (fun z => by have z' : HO.ext _ = HO.tbl ps := z; cases z')), q]
      simp⟩ }
  have J := I.un (t' := s.toks) un fun c o q => ?_
  · exact J
  · by_cases hc : c = a
    · subst hc
      rw [upd_same] at q
      cases q
      obtain ⟨t1, ho⟩ := exo_at I.hok ha
      exact kx_ok ho ⟨rfl, rfl⟩ rfl
    · rw [upd_ne hc] at q
      by_cases hd' : c = d
      · subst hd'
        rw [upd_same] at q
        cases q
        exact exd_at I.hok hd
      · rw [upd_ne hd'] at q
        refine (I.hok c o q).stay (fun _ _ _ z => z) (fun c' z => ?_) (fun c' xs z => ?_)
        · rw [upd_ne (at_ne ha z exo_own), upd_ne (at_ne hd z exd_own)]
          exact z
        · rw [upd_ne (at_ne ha z exo_tup), upd_ne (at_ne hd z exd_tup)]
          exact z
end
/-- C(e, ..), kept -/
def tMkX (C : Addr) (sp : Sp) (ta : TA) : TE := fun σ H Q => ta σ H fun vs H1 => vs.length ≤ 1000 ∧ ∀ a, H1 a = none → sp (.ref a :: vs) (upd H1 a (exo a C none))
  (fun v H2 => v = .non ∧ ∃ (d : Addr) (fs : List (Str × V)), H2 a = some (exo a C (some d)) ∧ H2 d = some (exd d fs) ∧ d ≠ a ∧ Q (.ref a) (upd (upd H2 d (.xd fs)) a (kx a C d))) (fun _ _ _ => False)
section
variable {X : Cx} {e : Expr} {es : List Expr} {ta : TA} {p pos : Pos} {b : XB} {CX : CXT} {x : Str} {C fI : Addr} {k : Nat} {fd : FuncData} {ps : List Str} {sp : Sp}
theorem pmk_x (T : OexG X.K C b) (iC : PySem.W.findIn X.K (.ref C) "__init__" = some (some (.ref fI))) (tI : PySem.W.typeIn X.K (.ref fI) = some (.type "function"))
    (F1 : FnOk X.prog X.w X.K X.mg X.base CX k fI fd ps sp) (hr : Room (k + 1) X.A) (hb : Binds X.K fd ps []) (hx : Passes CX X (fun _ _ _ => False)) (hg : Gl X x) (hm : X.mg x = some (.ref C)) (ha : PA X (e :: es) ta)
    (hdb : (x == ("__debug__" : Str)) = false) (he : starEach (e :: es) X.env = (false, eval e X.env) :: starEach es X.env) (hpl : (backTo pos (starEach es X.env)).any (·.1) = false) :
    PMk X (.Call (.Name x p) (e :: es) [] pos) (tMkO C sp [] ta) := by
  intro pins s σ H Q I h
  obtain ⟨nm, q, N, bs, bm, sn, sub, ab, col, dd, k0, k1, k2, k3, k5, hC, hbm⟩ := T.cls
  refine wpAny_Call_Name_kw (ld_glob I hg hm ?_ hdb)
  refine PySem.W.callWith_K (h₀ := X.base) I.ok.mod.kin T.kC (thn (ha.run pos pins s σ H _ I h) fun us s1 hh => ?_) he hpl
  obtain ⟨vs, H1, I1, r1, hz, q1⟩ := hh
  refine ⟨I1.kIn, ?_⟩
  show wpAny _ _ (call (.ref C) us) _ _ _
  obtain ⟨z, g, dr, tk, os⟩ := s1
  have hsz : z.objs.size ≤ z.objs.size + 1 := Nat.le_succ _
  have hn : H1 (z.objs.size + 1) = none := I1.hok.fresh hsz
  have hq := q1 (z.objs.size + 1) hn
  rw [List.append_nil] at hq
  have kk : ∀ c o, z.get? c = some o → ((z.push (PySem.W.kdv_tup us)).push (PySem.HandSPX.excO C z.objs.size)).get? c = some o := fun c o e => Heap.get?_push_of_some _ (Heap.get?_push_of_some _ e)
  have hget : ((z.push (PySem.W.kdv_tup us)).push (PySem.HandSPX.excO C z.objs.size)).get? (z.objs.size + 1) = some (PySem.HandSPX.excO C z.objs.size) := by heap_get
  have I2 : Inv X pins σ (upd H1 (z.objs.size + 1) (exo (z.objs.size + 1) C none)) ⟨(z.push (PySem.W.kdv_tup us)).push (PySem.HandSPX.excO C z.objs.size), g, dr, tk, os⟩ :=
    I1.laid (t' := tk) (a := z.objs.size + 1) (o := exo (z.objs.size + 1) C none) (h' := (z.push (PySem.W.kdv_tup us)).push (PySem.HandSPX.excO C z.objs.size)) kk hsz (exo_ok hget)
  have r2 : Vals (V.ref (z.objs.size + 1) :: vs) (Value.ref (z.objs.size + 1) :: us) := .cons rfl r1
  have hl : (Value.ref (z.objs.size + 1) :: us ++ []).length = ps.length := by
    have e := r2.length
    rw [F1.len _ _ _ _ hq] at e
    rw [List.append_nil]
    exact e.symm
  have hus : us.length ≤ sizeLine := by
    rw [← Paired.length r1, sizeLine_eq]
    omega
  have hbb := hb _ (Value.ref (z.objs.size + 1) :: us) I2.kIn hl
  rw [List.append_nil] at hbb
  refine wpAny_call (call_x T.ok hbm (I1.kIn _ _ hC) (PySem.W.looks_findIn I1.kIn iC) (fun self => PySem.W.bind_fn I1.kIn self tI) hus
    (codeAny_mono (F1.run _ X.stack _ _ ⟨Value.ref (z.objs.size + 1) :: us, []⟩ (Value.ref (z.objs.size + 1) :: us) _ _ (fun _ _ _ => False) (hr.make C us []) (I2.env0.make C us []) hbb r2 hq) fun r s' hq' => ?_))
  cases r with
  | error er => exact hx pins σ _ _ er s' I2 hq'
  | ok fl =>
    cases fl with
    | ret u =>
      obtain ⟨v, H2, os2, bare2, un2, hok2, rv, ev, d, fs, ea, ed, hd1, q2⟩ := hq'
      subst ev
      obtain ⟨h2, g2, d2, t2, os'⟩ := s'
      exact ⟨rv, mk_end (raises_own T.exC T.tyC) I1 hsz kk un2 hok2 os2 bare2 ea ed hd1 q2⟩
    | next => exact False.elim hq'
    | brk => exact False.elim hq'
    | cont => exact False.elim hq'
/-- C(e, ..) as a value -/
theorem pe_mkx (T : OexG X.K C b) (iC : PySem.W.findIn X.K (.ref C) "__init__" = some (some (.ref fI))) (tI : PySem.W.typeIn X.K (.ref fI) = some (.type "function"))
    (F1 : FnOk X.prog X.w X.K X.mg X.base CX k fI fd ps sp) (hr : Room (k + 1) X.A) (hb : Binds X.K fd ps []) (hx : Passes CX X (fun _ _ _ => False)) (hg : Gl X x) (hm : X.mg x = some (.ref C)) (ha : PA X (e :: es) ta)
    (hdb : (x == ("__debug__" : Str)) = false) (he : starEach (e :: es) X.env = (false, eval e X.env) :: starEach es X.env) (hpl : (backTo pos (starEach es X.env)).any (·.1) = false) :
    PE X (.Call (.Name x p) (e :: es) [] pos) (tMkX C sp ta) := by
  constructor
  intro pins s σ H Q I h
  obtain ⟨nm, q, N, bs, bm, sn, sub, ab, col, dd, k0, k1, k2, k3, k5, hC, hbm⟩ := T.cls
  refine wpAny_Call_Name_kw (ld_glob I hg hm ?_ hdb)
  refine PySem.W.callWith_K (h₀ := X.base) I.ok.mod.kin T.kC (thn (ha.run pos pins s σ H _ I h) fun us s1 hh => ?_) he hpl
  obtain ⟨vs, H1, I1, r1, hz, q1⟩ := hh
  refine ⟨I1.kIn, ?_⟩
  show wpAny _ _ (call (.ref C) us) _ _ _
  obtain ⟨z, g, dr, tk, os⟩ := s1
  have hsz : z.objs.size ≤ z.objs.size + 1 := Nat.le_succ _
  have hn : H1 (z.objs.size + 1) = none := I1.hok.fresh hsz
  have hq := q1 (z.objs.size + 1) hn
  have kk : ∀ c o, z.get? c = some o → ((z.push (PySem.W.kdv_tup us)).push (PySem.HandSPX.excO C z.objs.size)).get? c = some o := fun c o e => Heap.get?_push_of_some _ (Heap.get?_push_of_some _ e)
  have hget : ((z.push (PySem.W.kdv_tup us)).push (PySem.HandSPX.excO C z.objs.size)).get? (z.objs.size + 1) = some (PySem.HandSPX.excO C z.objs.size) := by heap_get
  have I2 : Inv X pins σ (upd H1 (z.objs.size + 1) (exo (z.objs.size + 1) C none)) ⟨(z.push (PySem.W.kdv_tup us)).push (PySem.HandSPX.excO C z.objs.size), g, dr, tk, os⟩ :=
    I1.laid (t' := tk) (a := z.objs.size + 1) (o := exo (z.objs.size + 1) C none) (h' := (z.push (PySem.W.kdv_tup us)).push (PySem.HandSPX.excO C z.objs.size)) kk hsz (exo_ok hget)
  have r2 : Vals (V.ref (z.objs.size + 1) :: vs) (Value.ref (z.objs.size + 1) :: us) := .cons rfl r1
  have hl : (Value.ref (z.objs.size + 1) :: us ++ []).length = ps.length := by
    have e := r2.length
    rw [F1.len _ _ _ _ hq] at e
    rw [List.append_nil]
    exact e.symm
  have hus : us.length ≤ sizeLine := by
    rw [← Paired.length r1, sizeLine_eq]
    omega
  have hbb := hb _ (Value.ref (z.objs.size + 1) :: us) I2.kIn hl
  rw [List.append_nil] at hbb
  refine wpAny_call (call_x T.ok hbm (I1.kIn _ _ hC) (PySem.W.looks_findIn I1.kIn iC) (fun self => PySem.W.bind_fn I1.kIn self tI) hus
    (codeAny_mono (F1.run _ X.stack _ _ ⟨Value.ref (z.objs.size + 1) :: us, []⟩ (Value.ref (z.objs.size + 1) :: us) _ _ (fun _ _ _ => False) (hr.make C us []) (I2.env0.make C us []) hbb r2 hq) fun r s' hq' => ?_))
  cases r with
  | error er => exact hx pins σ _ _ er s' I2 hq'
  | ok fl =>
    cases fl with
    | ret u =>
      obtain ⟨v, H2, os2, bare2, un2, hok2, rv, ev, d, fs, ea, ed, ne, q2⟩ := hq'
      subst ev
      have I3 := I2.call' (ch := []) os2 un2 hok2 bare2 (fun b z => absurd z (by simp))
      exact ⟨rv, .ref (z.objs.size + 1), _, retag I3 ea ed ne, rfl, q2⟩
    | next => exact False.elim hq'
    | brk => exact False.elim hq'
    | cont => exact False.elim hq'
/-- C(), a class without own __init__ -/
def tMk0 (C : Addr) : TE := fun σ H Q => ∀ a, H a = none → Q (.ref a) (upd H a (kx0 a C))
theorem pe_mk0 (T : Oex0 X.K C b) (hg : Gl X x) (hm : X.mg x = some (.ref C)) (hdb : (x == ("__debug__" : Str)) = false) (hbase : b.ntl = b.tl) : PE X (.Call (.Name x p) [] [] pos) (tMk0 C) := by
  constructor
  intro pins s σ H Q I h
  refine wpAny_Call_Name_kw (ld_glob I hg hm ?_ hdb)
  refine PySem.W.callWith_K0 I.kIn T.kC ?_
  show wpAny _ _ (call (.ref C) []) _ _ _
  obtain ⟨z, g, dr, tk, os⟩ := s
  obtain ⟨bm, N, nm, qn, bs, hdct, sn, sub, ab, col, dd, k0, k1, k2, k3, k5, mN, hC, hN, hni, T2⟩ := exc_obj I.kIn T.cls
  have F0 := T.ok.base
  rw [hbase] at F0
  refine wpAny_call_exc_subT F0 T2 hC hN hni (fun h' e hm => ?_) (by show 0 ≤ sizeLine; rw [sizeLine_eq]; omega)
  obtain ⟨t, he, _, _⟩ := hm.there
  have hn : H e = none := I.hok.gone hm.new
  refine ⟨.ref e, _, I.laidN (t' := tk) (a := e) (o := kx0 e C) hm.keeps hm.new hn (kx0_ok he ⟨rfl, rfl⟩ rfl), rfl, h e hn⟩
end
end MI
/-! MI, part 11: what is walked. -/
namespace MI
open PySem PySem.Spec PyProof.Rows L2

/-! ### unlocking -/
def unP (H0 : Hp) (P : Hp → Prop) (H' : Hp) : Prop := P H' ∨ ∃ d od u, H' d = some (.frz od u) ∧ (∀ o' u', H0 d ≠ some (.frz o' u')) ∧ P (upd H' d u)
theorem ps_un {X : Cx} {st : Stmt} {t : TS} (h : PS X st t) : PS X st (fun D σ H => t ⟨fun σ' => unP X.H_0 (D.nx σ'), fun v => unP X.H_0 (D.rt v), fun σ' => unP X.H_0 (D.bk σ'), fun σ' => unP X.H_0 (D.ct σ')⟩ σ H) := by
  refine ⟨fun pins s σ H D I hw => ?_⟩
  refine thn (h.run pins s σ H _ I hw) fun f s1 q => ?_
  cases f with
  | next =>
    obtain ⟨σ', H', I2, q⟩ := q
    rcases q with q | ⟨d, od, u, e, hn, q⟩
    · exact ⟨σ', H', I2, q⟩
    · exact ⟨σ', _, I2.unlock e hn, q⟩
  | brk =>
    obtain ⟨σ', H', I2, q⟩ := q
    rcases q with q | ⟨d, od, u, e, hn, q⟩
    · exact ⟨σ', H', I2, q⟩
    · exact ⟨σ', _, I2.unlock e hn, q⟩
  | cont =>
    obtain ⟨σ', H', I2, q⟩ := q
    rcases q with q | ⟨d, od, u, e, hn, q⟩
    · exact ⟨σ', H', I2, q⟩
    · exact ⟨σ', _, I2.unlock e hn, q⟩
  | ret v =>
    obtain ⟨x, σ', H', I2, r, q⟩ := q
    rcases q with q | ⟨d, od, u, e, hn, q⟩
    · exact ⟨x, σ', H', I2, r, q⟩
    · exact ⟨x, σ', _, I2.unlock e hn, r, q⟩
theorem pe_un {X : Cx} {e : Expr} {t : TE} (h : PE X e t) : PE X e (fun σ H Q => t σ H fun v => unP X.H_0 (Q v)) := by
  refine ⟨fun pins s σ H Q I hw => ?_⟩
  refine thn (h.run pins s σ H _ I hw) fun v s1 ⟨x, H', I2, r, q⟩ => ?_
  rcases q with q | ⟨d, od, u, e, hn, q⟩
  · exact ⟨x, H', I2, r, q⟩
  · exact ⟨x, _, I2.unlock e hn, r, q⟩

/-! ### iterators related -/
structure RIt (K : PySem.W.Frag) (L : Lay) (ρ1 : List Addr) (H1 : Hp) (J : It) (it : Itr) : Prop where
  stop : ∀ (j : Nat) ρ H hp, Ext ρ1 H1 ρ H → RelH K L ρ hp H → it.nx j hp = some none → J.stop j H
  go : ∀ (j : Nat) ρ H hp d, Ext ρ1 H1 ρ H → RelH K L ρ hp H → it.nx j hp = some (some d) → J.go j H ∧ ∀ x H', J.yld j H x H' → Ext ρ H ρ H' ∧ RelH K L ρ hp H' ∧ RD K L ρ H' d x
def UnI (K : PySem.W.Frag) (L : Lay) (H0 : Hp) (ρ1 : List Addr) (Hu H1 : Hp) (it : Itr) : Prop :=
  (Hu = H1 ∧ it.un = id) ∨ ∃ (d : Addr) (i : Nat) (od : Obj) (vs : List (Key × V)) (kvs : List (Key × D)), (∀ o' u', H0 d ≠ some (.frz o' u')) ∧ Hu d = some (.dK vs) ∧ H1 = upd Hu d (.frz od (.dK vs)) ∧ ρ1[i]? = some d ∧ RKs K L ρ1 Hu kvs vs ∧ it.un = fun h => h.set i (.dic kvs)
def KI (K : PySem.W.Frag) (L : Lay) (H0 : Hp) (ρ : List Addr) (H : Hp) (R : It → Hp → Prop) : Itr → Hq → Prop := fun itr hp' => ∀ ρ1 Hu H1 J, Ext ρ H ρ1 Hu → RelH K L ρ1 hp' H1 → RIt K L ρ1 H1 J itr → UnI K L H0 ρ1 Hu H1 itr → R J H1
section
variable {K : PySem.W.Frag} {L : Lay} {ρ ρ1 ρ' : List Addr} {H H' Hu H1 H0 : Hp} {hp hp' : Hq} {it : Itr}
theorem UnI.ext (h : UnI K L H0 ρ1 Hu H1 it) : Ext ρ1 Hu ρ1 H1 := by
  rcases h with ⟨rfl, _⟩ | ⟨d, i, od, vs, kvs, hn, hd, e, hi, rk, hu⟩
  · exact Ext.refl _ _
  · subst e
    refine ⟨⟨[], by simp⟩, fun _ h => .inl h, fun a o h n => ?_, fun a o h s => ?_, fun a o k h => ?_⟩
    · rw [upd_ne fun z => n (by rw [z]; exact List.mem_of_getElem? hi)]; exact h
    · rw [upd_ne fun z => by subst z; rw [hd] at h; cases h; cases s]; exact h
    · rw [upd_ne fun z => by subst z; rw [hd] at h; cases h]; exact h
theorem UnI.fin {P : Hp → Prop} (h : UnI K L H0 ρ1 Hu H1 it) (e : Ext ρ1 H1 ρ' H') (r : RelH K L ρ' hp' H') (k : ∀ H'', Ext ρ1 Hu ρ' H'' → ExtW ρ' H' ρ' H'' → (∀ a u, H' a = some u → (∀ o' u', u ≠ .frz o' u') → H'' a = some u) → RelH K L ρ' (it.un hp') H'' → P H'') : unP H0 P H' := by
  rcases h with ⟨rfl, hu⟩ | ⟨d, i, od, vs, kvs, hn, hd, e1, hi, rk, hu⟩
  · left
    rw [hu] at k
    exact k H' e ⟨⟨[], by simp⟩, fun _ _ h _ => h⟩ (fun _ _ h _ => h) r
  · right
    subst e1
    have hd' : H' d = some (.frz od (.dK vs)) := e.fz d od vs upd_same
    have nd : ∀ {a o}, Hu a = some o → Stb o → a ≠ d := fun {a o} h s z => by subst z; rw [hd] at h; cases h; cases s
    have w : ExtW ρ' H' ρ' (upd H' d (.dK vs)) := ⟨⟨[], by simp⟩, fun a o h s => by rw [upd_ne fun z => by subst z; rw [hd'] at h; cases h; cases s]; exact h⟩
    have wu : ExtW ρ1 Hu ρ' H' := ⟨e.pre, fun a o h s => e.st a o (by rw [upd_ne (nd h s)]; exact h) s⟩
    have rk' : RKs K L ρ' H' kvs vs := rk.monoW wu
    have hi' : ρ'[i]? = some d := e.ix hi
    refine ⟨d, od, .dK vs, hd', hn, k _ ⟨e.pre, fun a ha => ?_, fun a o h n => ?_, fun a o h s => ?_, fun a o q h => ?_⟩ w (fun a u h hu => by rw [upd_ne fun z => by subst z; rw [hd'] at h; cases h; exact hu _ _ rfl]; exact h) ?_⟩
    · rcases e.new a ha with q | q
      · exact .inl q
      · by_cases z : a = d
        · subst z; exact .inl (List.mem_of_getElem? hi)
        · rw [upd_ne z] at q; exact .inr q
    · have z : a ≠ d := fun z => n (by rw [z]; exact List.mem_of_getElem? hi)
      rw [upd_ne z]
      exact e.out a o (by rw [upd_ne z]; exact h) n
    · rw [upd_ne (nd h s)]
      exact e.st a o (by rw [upd_ne (nd h s)]; exact h) s
    · have z : a ≠ d := fun z => by subst z; rw [hd] at h; cases h
      rw [upd_ne z]
      exact e.fz a o q (by rw [upd_ne z]; exact h)
    · rw [hu]
      have hl : i < hp'.length := by rw [← r.len]; exact (List.getElem?_eq_some_iff.mp hi').1
      refine ⟨r.nd, by simp [r.len], fun j o' h => ?_⟩
      by_cases hj : i = j
      · subst hj
        have h : (hp'.set i (.dic kvs))[i]? = some o' := h
        rw [List.getElem?_set_self hl] at h
        cases h
        exact ⟨d, _, hi', upd_same, .dic (rk'.monoW w)⟩
      · have h : (hp'.set i (.dic kvs))[j]? = some o' := h
        rw [List.getElem?_set_ne hj] at h
        obtain ⟨b, u', h1, h2, h3⟩ := r.at_ j o' h
        refine ⟨b, u', h1, ?_, h3.monoW w⟩
        rw [upd_ne fun z => hj (nodup_at r.nd hi' (by rw [← z]; exact h1))]
        exact h2

theorem rks_at : ∀ {kvs : List (Key × D)} {vs : List (Key × V)} {j : Nat} {k : Key} {v : V}, RKs K L ρ H kvs vs → vs[j]? = some (k, v) → ∃ d, kvs[j]? = some (k, d) ∧ RD K L ρ H d v
  | _, _, _, _, _, .nil, h => by simp at h
  | (k', d) :: _, _, 0, k, v, .cons (b := (k2, v')) r _, h => by
    obtain ⟨e, r⟩ := r
    have e : k' = k2 := e
    subst e
    have h : (k', v') = (k, v) := by simpa using h
    cases h
    exact ⟨d, rfl, r⟩
  | _ :: _, _, j + 1, k, v, .cons _ t, h => by
    obtain ⟨d, h1, h2⟩ := rks_at (j := j) t (by simpa using h)
    exact ⟨d, by simpa using h1, h2⟩

/-! ### the kinds -/
theorem rit_list {i : Nat} {a : Addr} (ha : ρ1[i]? = some a) : RIt K L ρ1 H1 (Itl K a) (itLst i) where
  stop := fun j ρ H hp e r h => by
    cases g : gtL hp i with
    | none => simp [itLst, g] at h
    | some xs =>
      simp [itLst, g] at h
      obtain ⟨vs, h1, h2⟩ := r.lst (e.ix ha) g
      exact ⟨vs, .of h1, by rw [← h2.len]; exact h⟩
  go := fun j ρ H hp d e r h => by
    cases g : gtL hp i with
    | none => simp [itLst, g] at h
    | some xs =>
      have h : xs[j]? = some d := by simpa [itLst, g] using h
      obtain ⟨vs, h1, h2⟩ := r.lst (e.ix ha) g
      obtain ⟨v, h3, h4⟩ := h2.get h
      refine ⟨⟨vs, v, .of h1, h3⟩, fun x H' y => ?_⟩
      obtain ⟨rfl, y⟩ := y
      have := y vs (.of h1)
      rw [h3] at this
      cases this
      exact ⟨Ext.refl _ _, r, h4⟩
theorem rit_fixL {ds : List D} {vs : List V} {a : Addr} (hs : KlL K H1 a vs) (t : RDs K L ρ1 H1 ds vs) : RIt K L ρ1 H1 (Itl K a) (itFix ds) where
  stop := fun j ρ H hp e r h => by
    have h : ds[j]? = none := by simpa [itFix] using h
    exact ⟨vs, (KlL.mono e hs).sq, by rw [← t.len]; exact List.getElem?_eq_none_iff.mp h⟩
  go := fun j ρ H hp d e r h => by
    have h : ds[j]? = some d := by simpa [itFix] using h
    obtain ⟨v, h3, h4⟩ := t.get h
    refine ⟨⟨vs, v, (KlL.mono e hs).sq, h3⟩, fun x H' y => ?_⟩
    obtain ⟨rfl, y⟩ := y
    have := y vs (KlL.mono e hs).sq
    rw [h3] at this
    cases this
    exact ⟨Ext.refl _ _, r, h4.mono e⟩
theorem rit_fixT {ds : List D} {vs : List V} {a : Addr} (hs : SqT K H1 a vs) (t : RDs K L ρ1 H1 ds vs) : RIt K L ρ1 H1 (Itt K a) (itFix ds) where
  stop := fun j ρ H hp e r h => by
    have h : ds[j]? = none := by simpa [itFix] using h
    exact ⟨vs, SqT.mono e hs, by rw [← t.len]; exact List.getElem?_eq_none_iff.mp h⟩
  go := fun j ρ H hp d e r h => by
    have h : ds[j]? = some d := by simpa [itFix] using h
    obtain ⟨v, h3, h4⟩ := t.get h
    refine ⟨⟨vs, v, SqT.mono e hs, h3⟩, fun x H' y => ?_⟩
    obtain ⟨rfl, y⟩ := y
    have := y vs (SqT.mono e hs)
    rw [h3] at this
    cases this
    exact ⟨Ext.refl _ _, r, h4.mono e⟩
theorem rit_str {x : Str} {un : Hq → Hq} : RIt K L ρ1 H1 (Its x) ⟨fun j _ => some ((x.cps[j]?).map fun c => .str ⟨#[c]⟩), un⟩ where
  stop := fun j ρ H hp e r h => by
    have h : x.cps[j]? = none := by simpa using h
    exact Array.getElem?_eq_none_iff.mp h
  go := fun j ρ H hp d e r h => by
    have h : ∃ c, x.cps[j]? = some c ∧ D.str ⟨#[c]⟩ = d := by simpa using h
    obtain ⟨c, hx, rfl⟩ := h
    refine ⟨(Array.getElem?_eq_some_iff.mp hx).1, fun v H' y => ?_⟩
    obtain ⟨rfl, c', h', rfl⟩ := y
    rw [hx] at h'
    cases h'
    exact ⟨Ext.refl _ _, r, .str _⟩
theorem rit_rng {lo hi : Int} : RIt K L ρ1 H1 (L2.Itr lo (hi - lo).toNat) (itRng lo hi) where
  stop := fun j ρ H hp e r h => by
    have h : (if (j : Int) < hi - lo then some (D.int (lo + j)) else none) = none := by simpa [itRng] using h
    split at h
    · cases h
    · show (hi - lo).toNat ≤ j
      omega
  go := fun j ρ H hp d e r h => by
    have h : (if (j : Int) < hi - lo then some (D.int (lo + j)) else none) = some d := Option.some.inj h
    split at h
    · cases h
      refine ⟨by show j < (hi - lo).toNat; omega, fun v H' y => ?_⟩
      obtain ⟨rfl, rfl⟩ := y
      exact ⟨Ext.refl _ _, r, .int _⟩
    · cases h
/-- a dict that stands still -/
theorem rit_keys {d : Addr} {o : Obj} {kvs : List (Key × D)} {vs : List (Key × V)} {un : Hq → Hq} (hd : H1 d = some (.frz o (.dK vs))) (t : RKs K L ρ1 H1 kvs vs) : RIt K L ρ1 H1 (Itk d o vs) ⟨fun j _ => some ((kvs.map fun kv => keyD kv.1)[j]?), un⟩ where
  stop := fun j ρ H hp e r h => by
    have h : kvs.length ≤ j := by simpa using h
    exact ⟨e.fz _ _ _ hd, by rw [← t.len]; exact h⟩
  go := fun j ρ H hp x e r h => by
    have h : ∃ k y, kvs[j]? = some (k, y) ∧ keyD k = x := by simpa using h
    obtain ⟨k, y, hx, rfl⟩ := h
    have hl := (List.getElem?_eq_some_iff.mp hx).1
    refine ⟨⟨e.fz _ _ _ hd, by rw [← t.len]; exact hl⟩, fun v H' z => ?_⟩
    obtain ⟨rfl, k', w, h', rfl⟩ := z
    obtain ⟨d', h2, _⟩ := rks_at t h'
    rw [hx] at h2
    cases h2
    exact ⟨Ext.refl _ _, r, keyD_kV k⟩
theorem rit_vals {d : Addr} {o : Obj} {kvs : List (Key × D)} {vs : List (Key × V)} {un : Hq → Hq} (hd : H1 d = some (.frz o (.dK vs))) (t : RKs K L ρ1 H1 kvs vs) : RIt K L ρ1 H1 (Itd d o vs) ⟨fun j _ => some ((kvs.map fun kv => kv.2)[j]?), un⟩ where
  stop := fun j ρ H hp e r h => by
    have h : kvs.length ≤ j := by simpa using h
    exact ⟨e.fz _ _ _ hd, by rw [← t.len]; exact h⟩
  go := fun j ρ H hp x e r h => by
    have h : ∃ k, kvs[j]? = some (k, x) := by simpa using h
    obtain ⟨k, hx⟩ := h
    have hl := (List.getElem?_eq_some_iff.mp hx).1
    refine ⟨⟨e.fz _ _ _ hd, by rw [← t.len]; exact hl⟩, fun v H' z => ?_⟩
    obtain ⟨rfl, k', h'⟩ := z
    obtain ⟨d', h2, h3⟩ := rks_at t h'
    rw [hx] at h2
    cases h2
    exact ⟨Ext.refl _ _, r, h3.mono e⟩
theorem rit_items {d : Addr} {o : Obj} {kvs : List (Key × D)} {vs : List (Key × V)} {un : Hq → Hq} (hd : H1 d = some (.frz o (.dK vs))) (t : RKs K L ρ1 H1 kvs vs) : RIt K L ρ1 H1 (Iti d o vs) ⟨fun j _ => some ((kvs.map fun kv => D.tup [keyD kv.1, kv.2])[j]?), un⟩ where
  stop := fun j ρ H hp e r h => by
    have h : kvs.length ≤ j := by simpa using h
    exact ⟨e.fz _ _ _ hd, by rw [← t.len]; exact h⟩
  go := fun j ρ H hp x e r h => by
    have h : ∃ k y, kvs[j]? = some (k, y) ∧ D.tup [keyD k, y] = x := by simpa using h
    obtain ⟨k, y, hx, rfl⟩ := h
    have hl := (List.getElem?_eq_some_iff.mp hx).1
    refine ⟨⟨e.fz _ _ _ hd, by rw [← t.len]; exact hl⟩, fun v H' z => ?_⟩
    obtain ⟨T, k', w, h', rfl, hT, rfl⟩ := z
    obtain ⟨d', h2, h3⟩ := rks_at t h'
    rw [hx] at h2
    cases h2
    obtain ⟨r2, e2⟩ := r.tmp (u := .tup [kV k, w]) hT
    exact ⟨e2, r2, .tup (.of upd_same) (.cons (keyD_kV k) (.cons ((h3.mono e).mono e2) .nil))⟩
theorem rit_enum {i : Nat} {a : Addr} (ha : ρ1[i]? = some a) : RIt K L ρ1 H1 (Ite K a) (itEnum i) where
  stop := fun j ρ H hp e r h => by
    cases g : gtL hp i with
    | none => simp [itEnum, g] at h
    | some xs =>
      simp [itEnum, g] at h
      obtain ⟨vs, h1, h2⟩ := r.lst (e.ix ha) g
      exact ⟨vs, .of h1, by rw [← h2.len]; exact h⟩
  go := fun j ρ H hp d e r h => by
    cases g : gtL hp i with
    | none => simp [itEnum, g] at h
    | some xs =>
      have h : ∃ y, xs[j]? = some y ∧ D.tup [.int j, y] = d := by simpa [itEnum, g] using h
      obtain ⟨y, hx, rfl⟩ := h
      obtain ⟨vs, h1, h2⟩ := r.lst (e.ix ha) g
      obtain ⟨v, h3, h4⟩ := h2.get hx
      refine ⟨⟨vs, v, .of h1, h3⟩, fun x H' z => ?_⟩
      obtain ⟨T, w, rfl, hT, rfl, z⟩ := z
      have := z vs (.of h1)
      rw [h3] at this
      cases this
      obtain ⟨r2, e2⟩ := r.tmp (u := .tup [.int (j : Nat), v]) hT
      exact ⟨e2, r2, .tup (.of upd_same) (.cons (.int _) (.cons (h4.mono e2) .nil))⟩
theorem rit_zip {i k : Nat} {a b : Addr} (ha : ρ1[i]? = some a) (hb : ρ1[k]? = some b) : RIt K L ρ1 H1 (Itz K a b) (itZip i k) where
  stop := fun j ρ H hp e r h => by
    cases g : gtL hp i with
    | none => simp [itZip, g] at h
    | some xs =>
      cases g2 : gtL hp k with
      | none => simp [itZip, g, g2] at h
      | some ys =>
        obtain ⟨vs, h1, h2⟩ := r.lst (e.ix ha) g
        obtain ⟨us, h3, h4⟩ := r.lst (e.ix hb) g2
        refine ⟨vs, us, .of h1, .of h3, ?_⟩
        rw [← h2.len, ← h4.len]
        cases e1 : xs[j]? with
        | none => exact .inl (List.getElem?_eq_none_iff.mp e1)
        | some x =>
          cases e2 : ys[j]? with
          | none => exact .inr (List.getElem?_eq_none_iff.mp e2)
          | some y => simp [itZip, g, g2, e1, e2] at h
  go := fun j ρ H hp d e r h => by
    cases g : gtL hp i with
    | none => simp [itZip, g] at h
    | some xs =>
      cases g2 : gtL hp k with
      | none => simp [itZip, g, g2] at h
      | some ys =>
        obtain ⟨vs, h1, h2⟩ := r.lst (e.ix ha) g
        obtain ⟨us, h3, h4⟩ := r.lst (e.ix hb) g2
        cases e1 : xs[j]? with
        | none => simp [itZip, g, g2, e1] at h
        | some x =>
          cases e2 : ys[j]? with
          | none => simp [itZip, g, g2, e1, e2] at h
          | some y =>
            have h : D.tup [x, y] = d := by simpa [itZip, g, g2, e1, e2] using h
            subst h
            obtain ⟨v, k1, k2⟩ := h2.get e1
            obtain ⟨u, k3, k4⟩ := h4.get e2
            refine ⟨⟨vs, us, v, u, .of h1, .of h3, k1, k3⟩, fun w H' z => ?_⟩
            obtain ⟨T, v', u', rfl, hT, rfl, z1, z2⟩ := z
            have q1 := z1 vs (.of h1)
            have q2 := z2 us (.of h3)
            rw [k1] at q1
            rw [k3] at q2
            cases q1
            cases q2
            obtain ⟨r2, x2⟩ := r.tmp (u := .tup [v, u]) hT
            exact ⟨x2, r2, .tup (.of upd_same) (.cons (k2.mono x2) (.cons (k4.mono x2) .nil))⟩
end
end MI
/-! MI, part 12: what is walked, as it stands in the text. -/
namespace MI
open PySem PySem.Spec PyProof.Rows L2

def tI (K : PySem.W.Frag) (L : Lay) (g : Glob) (cl : Cl) (W : WX) (H0 : Hp) (it : Ix) : TI := fun σ H R => ∃ ρ hp env, RelH K L ρ hp H ∧ RE K L ρ H env σ ∧ wIt g cl it env hp (KI K L H0 ρ H R) (KX K L ρ H σ W)
section
variable {X : Cx} {L : Lay} {g : Glob} {cl : Cl} {W : WX} {x y tg : Expr} {a b : Ex} {pos : Pos}
theorem dic_in {pins : List (Addr × Obj)} {σ : L2.St} {H1 : Hp} {s1 : Shared} {ρ1 : List Addr} {hp1 hp2 : Hq} {i : Nat} {d : Addr} {f : Key × D → D} {itr : MI.Itr} (I : Inv X pins σ H1 s1) (r : RelH X.K L ρ1 hp1 H1) (hs : ρ1[i]? = some d) (h : itDic f hp1 (.ref i) = some (itr, hp2)) :
    ∃ od vs kvs HL un, Inv X pins σ HL s1 ∧ HL d = some (.frz od (.dK vs)) ∧ RelH X.K L ρ1 hp2 HL ∧ RKs X.K L ρ1 HL kvs vs ∧ itr = ⟨fun j _ => some ((kvs.map f)[j]?), un⟩ ∧ UnI X.K L X.H_0 ρ1 H1 HL itr := by
  obtain ⟨o, u, g1, g2, g3⟩ := r.at2 hs
  unfold itDic at h
  simp only [g1] at h
  cases g3 with
  | @dic kvs vs t =>
    cases h
    obtain ⟨od, I2⟩ := I.lock g2 trivial
    obtain ⟨r2, e2⟩ := r.put (o := .fdic kvs) (u := .frz od (.dK vs)) hs (.fdic t) (by intro o k z; rw [g2] at z; cases z)
    exact ⟨od, vs, kvs, _, _, I2, upd_same, r2, t.mono e2, rfl, .inr ⟨d, i, od, vs, kvs, I.nofrz g2 trivial, g2, rfl, hs, t, rfl⟩⟩
  | @fdic kvs vs ob t =>
    cases h
    exact ⟨ob, vs, kvs, H1, _, I, g2, r, t, rfl, .inl ⟨rfl, rfl⟩⟩
  | _ => cases h
theorem seq_dic {hp : Hq} {i : Nat} {o : O} (h : hp[i]? = some o) (hl : ∀ xs, o ≠ .lst xs) : itSeq hp (.ref i) = itDic (fun kv => keyD kv.1) hp (.ref i) := by
  unfold itSeq itDic
  simp only [h]
  cases o with
  | lst xs => exact absurd rfl (hl xs)
  | _ => rfl

theorem i_vl (hm : ClMono cl) (ha : PE X x (tE X.K L g cl W a)) : PI X tg x (tI X.K L g cl W X.H_0 (.vl a)) := by
  refine ⟨fun pins s σ H R I ⟨ρ, hp, env, r, re, h⟩ => ?_⟩
  unfold wIt at h
  refine thn (ha.run pins s σ H (fun v1 H1 => ∃ ρ1 hp1 d1, Ext ρ H ρ1 H1 ∧ RelH X.K L ρ1 hp1 H1 ∧ RD X.K L ρ1 H1 d1 v1 ∧ ∃ itr hp2, itSeq hp1 d1 = some (itr, hp2) ∧ KI X.K L X.H_0 ρ H R itr hp2) I
    ⟨ρ, hp, env, r, re, wE_mono hm a env hp _ _ _ _ (fun d1 hp1 q1 => ?_) (fun _ _ _ z => z) h⟩) fun v s1 ⟨x1, H1, I1, rx, q⟩ => ?_
  · intro ρ1 H1 v1 e1 r1 d1r
    cases eq : itSeq hp1 d1 with
    | none => simp only [eq] at q1
    | some p =>
      obtain ⟨itr, hp2⟩ := p
      simp only [eq] at q1
      exact ⟨ρ1, hp1, d1, e1, r1, d1r, itr, hp2, eq, q1⟩
  · obtain ⟨ρ1, hp1, d1, e1, r1, d1r, itr, hp2, eq, q1⟩ := q
    cases d1r with
    | @tup p xs ds hs t =>
      cases eq
      obtain rfl : v = Value.ref p := rx
      obtain ⟨its, rv, ht, hz⟩ := I1.tuple hs
      exact wpAny_pyIter_tuple (show s1.heap.IsTuple p its.toArray from ht) (pi_one (tk := s1.toks) I1 _ (turn_tuple p _) ⟨_, Heap.get?_push_size _ rfl, rfl, rfl⟩ (q1 ρ1 H1 H1 _ e1 r1 (rit_fixT hs t) (.inl ⟨rfl, rfl⟩)))
    | @kl p xs ds hs t =>
      cases eq
      obtain rfl : v = Value.ref p := rx
      obtain ⟨its, rv, ht, hz⟩ := I1.list hs.sq
      exact wpAny_pyIter_list ht.isList (pi_one (tk := s1.toks) I1 _ (turn_list p _) ⟨_, Heap.get?_push_size _ rfl, rfl, rfl⟩ (q1 ρ1 H1 H1 _ e1 r1 (rit_fixL hs t) (.inl ⟨rfl, rfl⟩)))
    | str z =>
      cases eq
      obtain ⟨t, rfl⟩ := rx
      have q := q1 ρ1 H1 H1 _ e1 r1 rit_str (.inl ⟨rfl, rfl⟩)
      cases hz : z.cps.all (· < 128)
      · exact wpAny_pyIter_wide hz (pi_one (tk := s1.toks) I1 _ (turn_str _ z t "str_iterator" (.inr rfl)) ⟨_, Heap.get?_push_size _ rfl, rfl, rfl⟩ q)
      · exact wpAny_pyIter_ascii hz (pi_one (tk := s1.toks) I1 _ (turn_str _ z t "str_ascii_iterator" (.inl rfl)) ⟨_, Heap.get?_push_size _ rfl, rfl, rfl⟩ q)
    | @ref i p hs =>
      obtain rfl : v = Value.ref p := rx
      obtain ⟨o, u, g1, g2, g3⟩ := r1.at2 hs
      by_cases hl : ∃ xs, o = .lst xs
      · obtain ⟨xs, rfl⟩ := hl
        unfold itSeq at eq
        simp only [g1] at eq
        cases eq
        cases g3 with
        | @lst _ vs t =>
          obtain ⟨its, rv, ht, hz⟩ := I1.list (SqL.of g2)
          exact wpAny_pyIter_list ht.isList (pi_one (tk := s1.toks) I1 _ (turn_list p _) ⟨_, Heap.get?_push_size _ rfl, rfl, rfl⟩ (q1 ρ1 H1 H1 _ e1 r1 (rit_list hs) (.inl ⟨rfl, rfl⟩)))
      · rw [seq_dic g1 (fun xs z => hl ⟨xs, z⟩)] at eq
        obtain ⟨od, vs, kvs, HL, un, I2, hd, r2, t, ei, ui⟩ := dic_in I1 r1 hs eq
        have q := q1 ρ1 H1 HL _ e1 r2 (by rw [ei]; exact rit_keys hd t) ui
        obtain ⟨hss, hgd, hx, es, ep, us, hdt, hsz, kv, hmm⟩ := I2.frzK hd
        refine iter_keys hss hgd hx hdt (pi_one (tk := s1.toks) I2 _ (turn_keys _ hdt) ⟨_, Heap.get?_push_size _ rfl, rfl, ?_⟩ q)
        rw [hsz] <;> rfl
    | _ => cases eq
theorem i_rng1 (hm : ClMono cl) {p : Pos} (hg : Gl X "range") (hmg : X.mg "range" = none) (ha : PE X x (tE X.K L g cl W a)) (hs : starEach [x] X.env = [(false, eval x X.env)]) (hs0 : starEach [] X.env = []) : PI X tg (.Call (.Name "range" p) [x] [] pos) (tI X.K L g cl W X.H_0 (.rng1 a)) :=
  PI.imp (pi_range1 hg hmg (sa_cons hm ha sa_nil (by rw [hs, hs0])) hs) fun σ H R ⟨ρ, hp, env, r, re, h⟩ => by
    unfold wIt at h
    refine ⟨ρ, hp, env, r, re, ?_⟩
    show wE g cl a env hp _ _
    refine wE_mono hm a env hp _ _ _ _ (fun d1 hp1 q1 => ?_) (fun _ _ _ z => z) h
    intro ρ1 H1 vs e1 r1 dsr
    cases dsr with
    | cons d1r t =>
      cases t
      cases d1r with
      | int j =>
        obtain ⟨⟨q2, q3⟩, q4⟩ := q1
        exact ⟨j, rfl, q2, q3, by simpa using q4 ρ1 H1 H1 _ e1 r1 rit_rng (.inl ⟨rfl, rfl⟩)⟩
      | _ => exact False.elim q1
theorem i_rng2 (hm : ClMono cl) {p : Pos} (hg : Gl X "range") (hmg : X.mg "range" = none) (ha : PE X x (tE X.K L g cl W a)) (hb : PE X y (tE X.K L g cl W b)) (hs : starEach [x, y] X.env = [(false, eval x X.env), (false, eval y X.env)]) (hs2 : starEach [y] X.env = [(false, eval y X.env)]) (hs0 : starEach [] X.env = []) :
    PI X tg (.Call (.Name "range" p) [x, y] [] pos) (tI X.K L g cl W X.H_0 (.rng2 a b)) :=
  PI.imp (pi_range2 hg hmg (sa_cons hm ha (sa_cons hm hb sa_nil (by rw [hs2, hs0])) (by rw [hs, hs2])) hs hs2) fun σ H R ⟨ρ, hp, env, r, re, h⟩ => by
    unfold wIt at h
    refine ⟨ρ, hp, env, r, re, ?_⟩
    show wE g cl a env hp (fun d1 hp1 => wE g cl b env hp1 _ _) _
    refine wE_mono hm a env hp _ _ _ _ (fun d1 hp1 q1 => ?_) (fun _ _ _ z => z) h
    refine wE_mono hm b env hp1 _ _ _ _ (fun d2 hp2 q2 => ?_) (fun _ _ _ z => z) q1
    intro ρ1 H1 vs e1 r1 dsr
    cases dsr with
    | cons d1r t =>
      cases t with
      | cons d2r t =>
        cases t
        cases d1r <;> cases d2r <;> first | exact False.elim q2 | skip
        rename_i i j
        obtain ⟨⟨⟨c1, c2⟩, c3, c4⟩, q4⟩ := q2
        exact ⟨i, j, rfl, ⟨c1, c2, c3, c4⟩, q4 ρ1 H1 H1 _ e1 r1 rit_rng (.inl ⟨rfl, rfl⟩)⟩
theorem i_enum (hm : ClMono cl) {p tpos : Pos} {elts : List Expr} {kk : Nat} (hg : Gl X "enumerate") (hmg : X.mg "enumerate" = none) (ha : PE X x (tE X.K L g cl W a)) (hs : starEach [x] X.env = [(false, eval x X.env)]) (hs0 : starEach [] X.env = []) :
    PI X (.Tuple elts kk tpos) (.Call (.Name "enumerate" p) [x] [] pos) (tI X.K L g cl W X.H_0 (.enum a)) :=
  PI.imp (pi_enum hg hmg (sa_cons hm ha sa_nil (by rw [hs, hs0])) hs) fun σ H R ⟨ρ, hp, env, r, re, h⟩ => by
    unfold wIt at h
    refine ⟨ρ, hp, env, r, re, ?_⟩
    show wE g cl a env hp _ _
    refine wE_mono hm a env hp _ _ _ _ (fun d1 hp1 q1 => ?_) (fun _ _ _ z => z) h
    intro ρ1 H1 vs e1 r1 dsr
    cases dsr with
    | cons d1r t =>
      cases t
      cases d1r with
      | @ref i p hs =>
        cases e : gtL hp1 i with
        | none => simp only [e] at q1
        | some xs =>
          simp only [e] at q1
          obtain ⟨vs, h1, h2⟩ := r1.lst hs e
          exact ⟨p, vs, rfl, .of h1, q1 ρ1 H1 H1 _ e1 r1 (rit_enum hs) (.inl ⟨rfl, rfl⟩)⟩
      | _ => exact False.elim q1
theorem i_zip (hm : ClMono cl) {p tpos : Pos} {elts : List Expr} {kk : Nat} (hg : Gl X "zip") (hmg : X.mg "zip" = none) (ha : PE X x (tE X.K L g cl W a)) (hb : PE X y (tE X.K L g cl W b)) (hs : starEach [x, y] X.env = (false, eval x X.env) :: starEach [y] X.env) (hs2 : starEach [y] X.env = [(false, eval y X.env)]) (hs0 : starEach [] X.env = [])
    (hpl : (backTo pos (starEach [y] X.env)).any (·.1) = false) :
    PI X (.Tuple elts kk tpos) (.Call (.Name "zip" p) [x, y] [] pos) (tI X.K L g cl W X.H_0 (.zip2 a b)) :=
  PI.imp (pi_zip hg hmg (sa_cons hm ha (sa_cons hm hb sa_nil (by rw [hs2, hs0])) hs) hs hpl) fun σ H R ⟨ρ, hp, env, r, re, h⟩ => by
    unfold wIt at h
    refine ⟨ρ, hp, env, r, re, ?_⟩
    show wE g cl a env hp (fun d1 hp1 => wE g cl b env hp1 _ _) _
    refine wE_mono hm a env hp _ _ _ _ (fun d1 hp1 q1 => ?_) (fun _ _ _ z => z) h
    refine wE_mono hm b env hp1 _ _ _ _ (fun d2 hp2 q2 => ?_) (fun _ _ _ z => z) q1
    intro ρ1 H1 vs e1 r1 dsr
    cases dsr with
    | cons d1r t =>
      cases t with
      | cons d2r t =>
        cases t
        cases d1r <;> cases d2r <;> first | exact False.elim q2 | skip
        rename_i i a1 hs1 j b1 hs2
        cases e : gtL hp2 i with
        | none => simp only [e] at q2
        | some xs =>
          cases e' : gtL hp2 j with
          | none => simp only [e, e'] at q2
          | some ys =>
            simp only [e, e'] at q2
            obtain ⟨vs, h1, h2⟩ := r1.lst hs1 e
            obtain ⟨us, h3, h4⟩ := r1.lst hs2 e'
            exact ⟨_, _, vs, us, rfl, .of h1, .of h3, q2 ρ1 H1 H1 _ e1 r1 (rit_zip hs1 hs2) (.inl ⟨rfl, rfl⟩)⟩
theorem i_items (hm : ClMono cl) {apos tpos : Pos} {elts : List Expr} {kk : Nat} (ha : PE X x (tE X.K L g cl W a)) (hbase : attributeBase x "items" X.env (eval x X.env) = eval x X.env) (hline : (apos.endLine == pos.line) = true) :
    PI X (.Tuple elts kk tpos) (.Call (.Attribute x "items" apos) [] [] pos) (tI X.K L g cl W X.H_0 (.items a)) := by
  refine ⟨fun pins s σ H R I ⟨ρ, hp, env, r, re, h⟩ => ?_⟩
  unfold wIt at h
  refine wpAny_Call_method (T := "dict") (id := "dict.items") hbase rfl hline F.plainAttrs_dict F.slot_dict_items F.type_dict_items (thn (ha.run pins s σ H (fun v1 H1 => ∃ ρ1 hp1 d1, Ext ρ H ρ1 H1 ∧ RelH X.K L ρ1 hp1 H1 ∧ RD X.K L ρ1 H1 d1 v1 ∧ ∃ itr hp2, itDic (fun kv => .tup [keyD kv.1, kv.2]) hp1 d1 = some (itr, hp2) ∧ KI X.K L X.H_0 ρ H R itr hp2) I
    ⟨ρ, hp, env, r, re, wE_mono hm a env hp _ _ _ _ (fun d1 hp1 q1 => ?_) (fun _ _ _ z => z) h⟩) fun v s1 ⟨x1, H1, I1, rx, q⟩ => ?_)
  · intro ρ1 H1 v1 e1 r1 d1r
    cases eq : itDic (fun kv => .tup [keyD kv.1, kv.2]) hp1 d1 with
    | none => simp only [eq] at q1
    | some p =>
      obtain ⟨itr, hp2⟩ := p
      simp only [eq] at q1
      exact ⟨ρ1, hp1, d1, e1, r1, d1r, itr, hp2, eq, q1⟩
  · obtain ⟨ρ1, hp1, d1, e1, r1, d1r, itr, hp2, eq, q1⟩ := q
    cases d1r with
    | @ref i d hs =>
      obtain rfl : v = Value.ref d := rx
      obtain ⟨od, vs, kvs, HL, un, I2, hd, r2, t, ei, ui⟩ := dic_in I1 r1 hs eq
      have q := q1 ρ1 H1 HL _ e1 r2 (by rw [ei]; exact rit_items hd t) ui
      obtain ⟨hss, hgd, hx, es, ep, us, hdt, hsz, kv, hmm⟩ := I2.frzK hd
      have hl : vs.length = us.length := Paired.length kv
      refine ⟨hmm.dictOf.typeIs, hmm.dictOf.mapOf.noDict, ?_⟩
      have I3 : Inv X pins σ HL { s1 with heap := s1.heap.push { cls := .type "dict_items", data := .fields #[.ref d] } } := I2.kept (t' := s1.toks) fun b ob q => Heap.get?_push_of_some _ q
      have fin : wpAny (model X.prog X.w) X.A (pyIter (.ref s1.heap.objs.size)) (PIE X pins σ (.Tuple elts kk tpos) R) X.xe { s1 with heap := s1.heap.push { cls := .type "dict_items", data := .fields #[.ref d] } } := by
        refine wpAny_pyIter_items (d := d) (knd := mixKind X.prog X.w) ⟨_, Heap.get?_push_size _ rfl, rfl, rfl⟩ (hmm.push _) (pi_one (tk := s1.toks) I3 _ (turn_items _ hdt) ⟨.none, .none, ?_⟩ q)
        rw [hl]
        exact Heap.get?_push_size _ rfl
      show wpAny _ _ (callWith pos (.builtin "dict.items") [.ref d] [] []) _ X.xe s1
      exact method_meetsIn F.slot_dict_items F.entry_dict_items rfl (PySem.evalArgs_none ⟨rfl, hmm.dictOf.typeIs, F.args_dict_items_1 _, _, meets_dict_items (mixKind X.prog X.w) d hss, ⟨us, hmm.dictOf⟩, fin⟩)
    | _ => cases eq
theorem i_vals (hm : ClMono cl) {apos : Pos} (ha : PE X x (tE X.K L g cl W a)) (hbase : attributeBase x "values" X.env (eval x X.env) = eval x X.env) (hline : (apos.endLine == pos.line) = true) :
    PI X tg (.Call (.Attribute x "values" apos) [] [] pos) (tI X.K L g cl W X.H_0 (.vals a)) := by
  refine ⟨fun pins s σ H R I ⟨ρ, hp, env, r, re, h⟩ => ?_⟩
  unfold wIt at h
  refine wpAny_Call_method (T := "dict") (id := "dict.values") hbase rfl hline F.plainAttrs_dict F.slot_dict_values F.type_dict_values (thn (ha.run pins s σ H (fun v1 H1 => ∃ ρ1 hp1 d1, Ext ρ H ρ1 H1 ∧ RelH X.K L ρ1 hp1 H1 ∧ RD X.K L ρ1 H1 d1 v1 ∧ ∃ itr hp2, itDic (fun kv => kv.2) hp1 d1 = some (itr, hp2) ∧ KI X.K L X.H_0 ρ H R itr hp2) I
    ⟨ρ, hp, env, r, re, wE_mono hm a env hp _ _ _ _ (fun d1 hp1 q1 => ?_) (fun _ _ _ z => z) h⟩) fun v s1 ⟨x1, H1, I1, rx, q⟩ => ?_)
  · intro ρ1 H1 v1 e1 r1 d1r
    cases eq : itDic (fun kv => kv.2) hp1 d1 with
    | none => simp only [eq] at q1
    | some p =>
      obtain ⟨itr, hp2⟩ := p
      simp only [eq] at q1
      exact ⟨ρ1, hp1, d1, e1, r1, d1r, itr, hp2, eq, q1⟩
  · obtain ⟨ρ1, hp1, d1, e1, r1, d1r, itr, hp2, eq, q1⟩ := q
    cases d1r with
    | @ref i d hs =>
      obtain rfl : v = Value.ref d := rx
      obtain ⟨od, vs, kvs, HL, un, I2, hd, r2, t, ei, ui⟩ := dic_in I1 r1 hs eq
      have q := q1 ρ1 H1 HL _ e1 r2 (by rw [ei]; exact rit_vals hd t) ui
      obtain ⟨hss, hgd, hx, es, ep, us, hdt, hsz, kv, hmm⟩ := I2.frzK hd
      have hl : vs.length = us.length := Paired.length kv
      refine ⟨hmm.dictOf.typeIs, hmm.dictOf.mapOf.noDict, ?_⟩
      have I3 : Inv X pins σ HL { s1 with heap := s1.heap.push { cls := .type "dict_values", data := .fields #[.ref d] } } := I2.kept (t' := s1.toks) fun b ob q => Heap.get?_push_of_some _ q
      have fin : wpAny (model X.prog X.w) X.A (pyIter (.ref s1.heap.objs.size)) (PIE X pins σ tg R) X.xe { s1 with heap := s1.heap.push { cls := .type "dict_values", data := .fields #[.ref d] } } := by
        refine wpAny_pyIter_values (d := d) (knd := mixKind X.prog X.w) ⟨_, Heap.get?_push_size _ rfl, rfl, rfl⟩ (hmm.push _) (pi_one (tk := s1.toks) I3 _ (turn_vals _ hdt) ⟨_, Heap.get?_push_size _ rfl, rfl, ?_⟩ q)
        rw [hl] <;> rfl
      show wpAny _ _ (callWith pos (.builtin "dict.values") [.ref d] [] []) _ X.xe s1
      exact method_meetsIn F.slot_dict_values F.entry_dict_values rfl (PySem.evalArgs_none ⟨rfl, hmm.dictOf.typeIs, F.args_dict_values_1 _, _, meets_dict_values (mixKind X.prog X.w) d hss, ⟨us, hmm.dictOf⟩, fin⟩)
    | _ => cases eq
end
end MI
/-! MI, part 13: targets. -/
namespace MI
open PySem PySem.Spec PyProof.Rows L2

theorem wipe_get (σ : L2.St) (k : Nat) : ∀ own : List Nat, (L2.wipe σ own)[k]? = if k ∈ own then (σ[k]?).map (fun _ => none) else σ[k]?
  | [] => by simp [L2.wipe]
  | j :: r => by
    unfold L2.wipe
    by_cases h : j = k
    · subst h
      rw [List.getElem?_set]
      simp only [if_true, List.mem_cons, true_or, wipe_length]
      split
      · rename_i hl
        rw [List.getElem?_eq_getElem hl]; rfl
      · rename_i hl
        rw [List.getElem?_eq_none (Nat.le_of_not_lt hl)]; rfl
    · rw [List.getElem?_set_ne h, wipe_get σ k r]
      have : (k ∈ j :: r) ↔ k ∈ r := by
        constructor
        · intro m
          rcases List.mem_cons.mp m with e | e
          · exact absurd e.symm h
          · exact e
        · exact List.mem_cons_of_mem _
      simp only [this]
theorem wipe_set {σ : L2.St} {i : Nat} {x : Option V} {own : List Nat} (h : i ∈ own) : L2.wipe (σ.set i x) own = L2.wipe σ own := by
  apply List.ext_getElem?
  intro k
  rw [wipe_get, wipe_get]
  by_cases hk : k ∈ own
  · rw [if_pos hk, if_pos hk, List.getElem?_set]
    split
    · subst_vars
      split
      · rename_i hl
        rw [List.getElem?_eq_getElem hl]; rfl
      · rename_i hl
        rw [List.getElem?_eq_none (Nat.le_of_not_lt hl)]
    · rfl
  · rw [if_neg hk, if_neg hk, List.getElem?_set_ne (fun z : i = k => hk (by rw [← z]; exact h))]

def KG (K : PySem.W.Frag) (L : Lay) (ρ : List Addr) (H : Hp) (P : List Nat → Bool) (σ : L2.St) (Q : L2.St → Hp → Prop) : Env → Hq → Prop := fun env' hp' => ∀ ρ' H' σ', Ext ρ H ρ' H' → RelH K L ρ' hp' H' → RE K L ρ' H' env' σ' → (∀ own, P own = true → L2.wipe σ' own = L2.wipe σ own) → Q σ' H'
def tG (K : PySem.W.Frag) (L : Lay) (g : Glob) (cl : Cl) (t : Tg) : TG := fun v σ H Q => ∃ ρ hp env d, RelH K L ρ hp H ∧ RE K L ρ H env σ ∧ RD K L ρ H d v ∧ wTg g cl t d env hp (KG K L ρ H (fun own => tgIn own t) σ Q)
def tGs (K : PySem.W.Frag) (L : Lay) (g : Glob) (cl : Cl) (ts : Tgs) : TGs := fun vs σ H Q => ∃ ρ hp env ds, RelH K L ρ hp H ∧ RE K L ρ H env σ ∧ RDs K L ρ H ds vs ∧ wTgs g cl ts ds env hp (KG K L ρ H (fun own => tgsIn own ts) σ Q)
section
variable {X : Cx} {L : Lay} {g : Glob} {cl : Cl} {W : WX} {x y tg : Expr} {a b : Ex} {pos : Pos} {t : Tg} {ts : Tgs} {xs : List Expr}
theorem g_nm {i : Nat} {n : Str} (hN : X.N.Nodup) (hi : X.N[i]? = some n) (hx : Loc X.env.scope n) (hf : X.fn n = true ∨ X.env.scope.names.lookup n = some .local) : PG X (.Name n pos) (tG X.K L g cl (.nm i)) :=
  PG.imp (pg_name hN hi hx hf) fun v σ H Q ⟨ρ, hp, env, d, r, re, rd, h⟩ => by
    unfold wTg at h
    refine h ρ H _ (Ext.refl _ _) r (re.set i rd) fun own ho => ?_
    exact wipe_set (by unfold tgIn at ho; simpa using ho)
theorem gs_nil : PGs X [] (tGs X.K L g cl .nil) :=
  PGs.imp pgs_nil fun v σ H Q ⟨ρ, hp, env, ds, r, re, rd, h⟩ => by
    unfold wTgs at h
    cases rd with
    | nil => exact ⟨rfl, h ρ H σ (Ext.refl _ _) r re fun _ _ => rfl⟩
    | cons _ _ => exact False.elim h
theorem gs_cons (hm : ClMono cl) (h1 : PG X x (tG X.K L g cl t)) (h2 : PGs X xs (tGs X.K L g cl ts)) (hs : (assignEach (x :: xs) X.env).map (·.2) = assign x X.env :: (assignEach xs X.env).map (·.2)) : PGs X (x :: xs) (tGs X.K L g cl (.cons t ts)) :=
  PGs.imp (pgs_cons h1 h2 hs) fun v σ H Q ⟨ρ, hp, env, ds, r, re, rd, h⟩ => by
    unfold wTgs at h
    cases rd with
    | nil => exact False.elim h
    | @cons d v ds vs r1 r2 =>
      refine ⟨_, _, rfl, ρ, hp, env, d, r, re, r1, wTg_mono hm t d env hp _ _ (fun env1 hp1 q => ?_) h⟩
      intro ρ1 H1 σ1 e1 rr re1 w1
      refine ⟨ρ1, hp1, env1, ds, rr, re1, r2.mono e1, wTgs_mono hm ts ds env1 hp1 _ _ (fun env2 hp2 q2 => ?_) q⟩
      intro ρ2 H2 σ2 e2 rr2 re2 w2
      refine q2 ρ2 H2 σ2 (e1.trans e2) rr2 re2 fun own ho => ?_
      have ho : (tgIn own t && tgsIn own ts) = true := by unfold tgsIn at ho; exact ho
      rw [Bool.and_eq_true] at ho
      rw [w2 own ho.2, w1 own ho.1]
theorem g_tp (hc : X.calm = true) (h : PGs X xs (tGs X.K L g cl ts)) {k : Nat} (hn : (assignEach xs X.env).length = ts.len) (hst : (assignEach xs X.env).findIdx? (·.1) = none) : PG X (.Tuple xs k pos) (tG X.K L g cl (.tp ts)) :=
  PG.imp (pg_tup hc h hn hst) fun v σ H Q ⟨ρ, hp, env, d, r, re, rd, h⟩ => by
    unfold wTg at h
    cases rd with
    | @tup p vs ds hs t =>
      obtain ⟨hl, h⟩ := h
      exact ⟨p, vs, rfl, hs, by rw [← t.len, hl], ρ, hp, env, ds, r, re, t, h⟩
    | _ => exact False.elim h
theorem g_at (hm : ClMono cl) {S : Nm} {n : Nat} (T : TF S g X.prog X.w X.K X.mg X.base L n) {f : Nat} {nm : Str} (hf : S.attrs[f]? = some nm) (ha : PE X x (tE X.K L g cl W a)) : PG X (.Attribute x nm pos) (tG X.K L g cl (.at a f)) := by
  refine ⟨fun pins s σ H v u Q I rv ⟨ρ, hp, env, d, r, re, rd, h⟩ => ?_⟩
  unfold wTg at h
  rw [assign_Attribute]
  refine wpAny_bind (wpAny_holding (thn (ha.run pins s σ H (fun v1 H1 => ∃ ρ1 hp1 d1, Ext ρ H ρ1 H1 ∧ RelH X.K L ρ1 hp1 H1 ∧ RD X.K L ρ1 H1 d1 v1 ∧ (oSetF d1 f d hp1).app (KG X.K L ρ H (fun own => tgIn own (.at a f)) σ Q env)) I
    ⟨ρ, hp, env, r, re, wE_mono hm a env hp _ _ _ _ (fun d1 hp1 q1 => ?_) (fun _ _ _ z => False.elim z) h⟩) fun ov s1 ⟨x1, H1, I1, rx, q⟩ => ?_))
  · intro ρ1 H1 v1 e1 r1 d1r
    exact ⟨ρ1, hp1, d1, e1, r1, d1r, q1⟩
  · obtain ⟨ρ1, hp1, d1, e1, r1, d1r, q1⟩ := q
    cases d1r with
    | @ref i p hs =>
      unfold oSetF at q1
      cases e : gtI hp1 i with
      | none => simp only [e] at q1; exact False.elim q1
      | some cf =>
        obtain ⟨c, fs⟩ := cf
        simp only [e] at q1
        obtain ⟨hl, q1⟩ := q1
        obtain ⟨C, dx, vs, h1, h2, h3⟩ := r1.ins hs e
        obtain ⟨hc, hn⟩ := T.cls c C h1
        have hmem : nm ∈ S.attrs := List.mem_of_getElem? hf
        have hLa : L.attrs[f]? = some nm := by rw [T.att.1]; exact hf
        have hnd : L.attrs.Nodup := by rw [T.att.1]; exact T.att.2
        obtain rfl : ov = Value.ref p := rx
        obtain ⟨r2, e2⟩ := r1.put hs (.ins h1 (h3.put hnd hLa (rd.mono e1))) (by intro o k z; rw [h2] at z; cases z)
        refine wpAny_bind (wpAny_standAt (wpAny_bind (wpAny_holding (setattr_ok I1 h2 hc (hn nm hmem) (by rw [← h3.len]; omega) rv fun s3 I3 => ?_))))
        exact wpAny_release ⟨σ, _, I3, q1 ρ1 _ σ (e1.trans e2) r2 ((re.mono e1).mono e2) fun own ho => rfl⟩
    | _ => exact False.elim q1
theorem g_sb (hm : ClMono cl) (hu : X.A.units + 65 < cLine) (ha : PE X x (tE X.K L g cl W a)) (hb : PE X y (tE X.K L g cl W b)) (hns : isSub y = false) : PG X (.Subscript x y pos) (tG X.K L g cl (.sb a b)) :=
  PG.imp (pg_sub ha hb (mi_set (L := L) hu) (by intro v; cases y <;> first | rfl | cases hns)) fun v σ H Q ⟨ρ, hp, env, d, r, re, rd, h⟩ => by
    unfold wTg at h
    refine ⟨ρ, hp, env, r, re, wE_mono hm a env hp _ _ _ _ (fun d1 hp1 q1 => ?_) (fun _ _ _ z => False.elim z) h⟩
    intro ρ1 H1 v1 e1 r1 d1r
    refine ⟨ρ1, hp1, env, r1, re.mono e1, wE_mono hm b env hp1 _ _ _ _ (fun d2 hp2 q2 => ?_) (fun _ _ _ z => False.elim z) q1⟩
    intro ρ2 H2 v2 e2 r2 d2r
    refine ⟨ρ2, hp2, d1, d2, d, r2, d1r.mono e2, d2r, (rd.mono e1).mono e2, OutH.mono (fun hp3 k H3 e3 r3 => ?_) q2⟩
    exact k ρ2 H3 σ ((e1.trans e2).trans e3) r3 (((re.mono e1).mono e2).mono e3) fun own ho => rfl
end
end MI
/-! MI, part 14: statements. -/
namespace MI
open PySem PySem.Spec PyProof.Rows L2

def KSt (K : PySem.W.Frag) (L : Lay) (ρ : List Addr) (H : Hp) (D : Ends) (W : WX) : KS where
  nx := fun env' hp' => ∀ ρ' H' σ', Ext ρ H ρ' H' → RelH K L ρ' hp' H' → RE K L ρ' H' env' σ' → D.nx σ' H'
  bk := fun env' hp' => ∀ ρ' H' σ', Ext ρ H ρ' H' → RelH K L ρ' hp' H' → RE K L ρ' H' env' σ' → D.bk σ' H'
  ct := fun env' hp' => ∀ ρ' H' σ', Ext ρ H ρ' H' → RelH K L ρ' hp' H' → RE K L ρ' H' env' σ' → D.ct σ' H'
  rt := KQ K L ρ H D.rt
  ex := fun c i env' hp' => ∀ ρ' H' σ' a C, Ext ρ H ρ' H' → RelH K L ρ' hp' H' → RE K L ρ' H' env' σ' → ρ'[i]? = some a → L.exs[c]? = some C → W (.ref C) (some a) σ' H'
theorem KSt.ext {K : PySem.W.Frag} {L : Lay} {ρ ρ1 : List Addr} {H H1 : Hp} {D : Ends} {W : WX} (e : Ext ρ H ρ1 H1) : KS.le (KSt K L ρ H D W) (KSt K L ρ1 H1 D W) :=
  ⟨fun _ _ q ρ' H' σ' e' => q ρ' H' σ' (e.trans e'), fun _ _ q ρ' H' σ' e' => q ρ' H' σ' (e.trans e'), fun _ _ q ρ' H' σ' e' => q ρ' H' σ' (e.trans e'), fun _ _ q => KQ.ext q e, fun _ _ _ _ q ρ' H' σ' a C e' => q ρ' H' σ' a C (e.trans e')⟩
theorem KSt.kx {K : PySem.W.Frag} {L : Lay} {ρ ρ1 : List Addr} {H H1 : Hp} {D : Ends} {W : WX} {env : Env} {σ : L2.St} {c i : Nat} {hp : Hq} (re : RE K L ρ1 H1 env σ) (e : Ext ρ H ρ1 H1) (q : (KSt K L ρ H D W).ex c i env hp) : KX K L ρ1 H1 σ W c i hp :=
  fun ρ' H' a C e' r h1 h2 => q ρ' H' σ a C (e.trans e') r (re.mono e') h1 h2
section
variable (K : PySem.W.Frag) (L : Lay) (g : Glob) (cl : Cl) (W : WX)
def tS (s : MI.St) : TS := fun D σ H => ∃ ρ hp env, RelH K L ρ hp H ∧ RE K L ρ H env σ ∧ wS g cl s env hp (KSt K L ρ H D W)
def tSs (s : Sts) : TS := fun D σ H => ∃ ρ hp env, RelH K L ρ hp H ∧ RE K L ρ H env σ ∧ wSs g cl s env hp (KSt K L ρ H D W)
end
section
variable {X : Cx} {L : Lay} {g : Glob} {cl : Cl} {W : WX} {x y tg : Expr} {a b : Ex} {pos : Pos} {t : Tg} {s r : MI.St} {sb rs : Sts} {st : Stmt} {rest : List Stmt}
theorem ss_nil : PSs X [] (tSs X.K L g cl W .nil) :=
  PSs.imp pss_nil fun D σ H ⟨ρ, hp, env, r, re, h⟩ => by
    unfold wSs at h
    exact h ρ H σ (Ext.refl _ _) r re
theorem ss_cons (hm : ClMono cl) (h1 : PS X st (tS X.K L g cl W s)) (h2 : PSs X rest (tSs X.K L g cl W rs)) : PSs X (st :: rest) (tSs X.K L g cl W (.cons s rs)) :=
  PSs.imp (pss_cons h1 h2) fun D σ H ⟨ρ, hp, env, r, re, h⟩ => by
    unfold wSs at h
    refine ⟨ρ, hp, env, r, re, wS_mono hm s env hp { KSt X.K L ρ H D W with nx := fun env hp => wSs g cl rs env hp (KSt X.K L ρ H D W) } _ ⟨fun env' hp' q => ?_, fun _ _ q => q, fun _ _ q => q, fun _ _ q => q, fun _ _ _ _ q => q⟩ h⟩
    intro ρ' H' σ' e' r' re'
    exact ⟨ρ', hp', env', r', re', wSs_mono hm rs env' hp' _ _ (KSt.ext e') q⟩
theorem ss_never (h : PS X st tNever) : PSs X (st :: rest) (tSs X.K L g cl W (.cons .never rs)) := ⟨fun pins s σ H D I ⟨ρ, hp, env, r, re, h⟩ => by unfold wSs at h; exact False.elim h⟩
theorem s_never : PS X st (tS X.K L g cl W .never) := ⟨fun pins s σ H D I ⟨ρ, hp, env, r, re, h⟩ => False.elim h⟩
theorem s_pass : PS X (.Pass pos) (tS X.K L g cl W .pass) := PS.imp ps_pass fun D σ H ⟨ρ, hp, env, r, re, h⟩ => h ρ H σ (Ext.refl _ _) r re
theorem s_doc {z : Str} {j : Nat} {p : Pos} : PS X (.Expr (.Constant (.str z) j p) pos) (tS X.K L g cl W .pass) := PS.imp ps_doc fun D σ H ⟨ρ, hp, env, r, re, h⟩ => h ρ H σ (Ext.refl _ _) r re
theorem s_brk : PS X (.Break pos) (tS X.K L g cl W .brk) := PS.imp ps_break fun D σ H ⟨ρ, hp, env, r, re, h⟩ => h ρ H σ (Ext.refl _ _) r re
theorem s_cont : PS X (.Continue pos) (tS X.K L g cl W .cont) := PS.imp ps_continue fun D σ H ⟨ρ, hp, env, r, re, h⟩ => h ρ H σ (Ext.refl _ _) r re
theorem s_expr (hm : ClMono cl) (ha : PE X x (tE X.K L g cl W a)) (hs : swapsWith x none pos.line X.env = pure false) : PS X (.Expr x pos) (tS X.K L g cl W (.expr a)) :=
  PS.imp (ps_expr ha hs) fun D σ H ⟨ρ, hp, env, r, re, h⟩ => by
    unfold wS at h
    refine ⟨ρ, hp, env, r, re, wE_mono hm a env hp _ _ _ _ (fun d1 hp1 q1 => ?_) (fun c i hp1 z => KSt.kx re (Ext.refl _ _) z) h⟩
    intro ρ1 H1 v1 e1 r1 d1r
    exact q1 ρ1 H1 σ e1 r1 (re.mono e1)
theorem s_ret (hm : ClMono cl) (ha : PE X x (tE X.K L g cl W a)) : PS X (.Return (some x) pos) (tS X.K L g cl W (.ret (.so a))) :=
  PS.imp (ps_ret ha) fun D σ H ⟨ρ, hp, env, r, re, h⟩ => by
    unfold wS wEo at h
    exact ⟨ρ, hp, env, r, re, wE_mono hm a env hp _ _ _ _ (fun d1 hp1 q1 => q1) (fun c i hp1 z => KSt.kx re (Ext.refl _ _) z) h⟩
theorem s_retN : PS X (.Return none pos) (tS X.K L g cl W (.ret .no)) :=
  PS.imp ps_retN fun D σ H ⟨ρ, hp, env, r, re, h⟩ => by
    unfold wS wEo at h
    exact KQ.here h r .non
theorem s_asg (hm : ClMono cl) (ha : PE X x (tE X.K L g cl W a)) (hg : PG X tg (tG X.K L g cl t)) (hs : swapsWithSole [tg] x pos.line X.env = pure false) (hw : swappedStores [tg] x X.env = pure none) (h1 : (assignEach [tg] X.env).map (·.2) = [assign tg X.env]) : PS X (.Assign [tg] x pos) (tS X.K L g cl W (.asg t a)) :=
  PS.imp (ps_asg ha hg hs hw h1) fun D σ H ⟨ρ, hp, env, r, re, h⟩ => by
    unfold wS at h
    refine ⟨ρ, hp, env, r, re, wE_mono hm a env hp _ _ _ _ (fun d1 hp1 q1 => ?_) (fun c i hp1 z => KSt.kx re (Ext.refl _ _) z) h⟩
    intro ρ1 H1 v1 e1 r1 d1r
    refine ⟨ρ1, hp1, env, d1, r1, re.mono e1, d1r, wTg_mono hm t d1 env hp1 _ _ (fun env2 hp2 q2 => ?_) q1⟩
    intro ρ2 H2 σ2 e2 r2 re2 _
    exact q2 ρ2 H2 σ2 (e1.trans e2) r2 re2
theorem s_asgN (hm : ClMono cl) (ha : PE X x (tE X.K L g cl W a)) {i : Nat} {n : Str} {p : Pos} (hN : X.N.Nodup) (hi : X.N[i]? = some n) (hx : Loc X.env.scope n) (hs : swapsWith x (some (.Name n p)) pos.line X.env = pure false) (hf : X.fn n = true ∨ X.env.scope.names.lookup n = some .local) :
    PS X (.Assign [.Name n p] x pos) (tS X.K L g cl W (.asg (.nm i) a)) :=
  PS.imp (ps_set hN hi hx ha hs hf) fun D σ H ⟨ρ, hp, env, r, re, h⟩ => by
    unfold wS at h
    refine ⟨ρ, hp, env, r, re, wE_mono hm a env hp _ _ _ _ (fun d1 hp1 q1 => ?_) (fun c i hp1 z => KSt.kx re (Ext.refl _ _) z) h⟩
    intro ρ1 H1 v1 e1 r1 d1r
    unfold wTg at q1
    exact q1 ρ1 H1 _ e1 r1 ((re.mono e1).set i d1r)
theorem s_par (hm : ClMono cl) {i j : Nat} {u v : Str} {p q pt pt2 : Pos} {kt k2 : Nat} {xa xb : Expr} (hc : X.calm = true) (hN : X.N.Nodup) (hi : X.N[i]? = some u) (hj : X.N[j]? = some v) (hij : i ≠ j) (hx : X.env.scope.names.lookup u = some .local) (hy : X.env.scope.names.lookup v = some .local)
    (ha : PA X [xa, xb] (tEs X.K L g cl W (.cons a (.cons b .nil)))) (hw : swappedStores [.Tuple [.Name u p, .Name v q] kt pt] (.Tuple [xa, xb] k2 pt2) X.env = pure (some [u, v]))
    (hs : swapsWithSole [.Tuple [.Name u p, .Name v q] kt pt] (.Tuple [xa, xb] k2 pt2) pos.line X.env = pure false) :
    PS X (.Assign [.Tuple [.Name u p, .Name v q] kt pt] (.Tuple [xa, xb] k2 pt2) pos) (tS X.K L g cl W (.asg (.tp (.cons (.nm i) (.cons (.nm j) .nil))) (.tup (.cons a (.cons b .nil))))) :=
  PS.imp (ps_par hc hN hi hj hij hx hy ha hw hs) fun D σ H ⟨ρ, hp, env, r, re, h⟩ => by
    unfold wS wE at h
    refine ⟨ρ, hp, env, r, re, wEs_mono hm _ env hp _ _ _ _ (fun ds hp1 q1 => ?_) (fun c i hp1 z => KSt.kx re (Ext.refl _ _) z) h⟩
    intro ρ1 H1 vs e1 r1 dsr
    unfold wTg at q1
    obtain ⟨hl, q1⟩ := q1
    cases dsr with
    | nil => cases hl
    | cons d1r t =>
      cases t with
      | nil => cases hl
      | cons d2r t =>
        cases t with
        | cons _ _ => cases hl
        | nil =>
          have q1 := q1
          unfold wTgs wTg at q1
          unfold wTgs wTg at q1
          unfold wTgs at q1
          exact ⟨_, _, rfl, q1 ρ1 H1 _ e1 r1 (((re.mono e1).set i d1r).set j d2r)⟩
theorem mi_aug {o : BOp} {d e : D} {pins : List (Addr × Obj)} {s : Shared} {σ : L2.St} {H : Hp} {v w : V} {u u' : Value} {Q : VK} {ρ : List Addr} {hp : Hq} (I : Inv X pins σ H s) (rv : RelV v u) (rw' : RelV w u') (r : RelH X.K L ρ hp H) (q1 : RD X.K L ρ H d v) (q2 : RD X.K L ρ H e w) (h : (oAug o d e hp).app (KQ X.K L ρ H Q)) :
    wpAny (model X.prog X.w) X.A (inplaceOp (bopOf o) u u') (EP X pins σ Q) X.xe s := by
  cases o <;> cases d <;> cases e <;> first | exact False.elim h | skip
  · cases q1; cases q2
    exact ip_add pins s σ H _ _ u u' Q I rv rw' ⟨_, _, rfl, rfl, h.here r (.int _)⟩
  · cases q1; cases q2
    exact ip_sub pins s σ H _ _ u u' Q I rv rw' ⟨_, _, rfl, rfl, h.here r (.int _)⟩
def rAugMI (K : PySem.W.Frag) (L : Lay) (o : BOp) : TIp := fun x y H Q => ∃ ρ hp d e, RelH K L ρ hp H ∧ RD K L ρ H d x ∧ RD K L ρ H e y ∧ (oAug o d e hp).app (KQ K L ρ H Q)
theorem s_augn (hm : ClMono cl) {i : Nat} {n : Str} {p : Pos} {o : BOp} (hN : X.N.Nodup) (hi : X.N[i]? = some n) (hx : Loc X.env.scope n) (ha : PE X x (tE X.K L g cl W a)) (hf : X.fn n = true ∨ X.env.scope.names.lookup n = some .local) :
    PS X (.AugAssign (.Name n p) (bopOf o) x pos) (tS X.K L g cl W (.augn i o a)) :=
  PS.imp (ps_aug (ti := rAugMI X.K L o) hN hi hx ha (fun pins s σ H v w u u' Q I rv rw' ⟨ρ, hp, d, e, r, q1, q2, h⟩ => mi_aug I rv rw' r q1 q2 h) hf) fun D σ H ⟨ρ, hp, env, r, re, h⟩ => by
    unfold wS at h
    split at h
    · rename_i d eq
      obtain ⟨v, hv, rd⟩ := re.at_ i d eq
      refine ⟨v, hv, ρ, hp, env, r, re, wE_mono hm a env hp _ _ _ _ (fun d1 hp1 q1 => ?_) (fun c i hp1 z => KSt.kx re (Ext.refl _ _) z) h⟩
      intro ρ1 H1 v1 e1 r1 d1r
      refine ⟨ρ1, hp1, d, d1, r1, rd.mono e1, d1r, OutD.mono (fun d2 hp2 q2 => ?_) q1⟩
      intro ρ2 H2 v2 e2 r2 d2r
      exact q2 ρ2 H2 _ (e1.trans e2) r2 (((re.mono e1).mono e2).set i d2r)
    · exact False.elim h
theorem s_augf (hm : ClMono cl) {S : Nm} {n : Nat} (T : TF S g X.prog X.w X.K X.mg X.base L n) {f : Nat} {nm : Str} {tpos : Pos} {o : BOp} (hf : S.attrs[f]? = some nm) (ha : PE X x (tE X.K L g cl W a)) (hb : PE X y (tE X.K L g cl W b)) :
    PS X (.AugAssign (.Attribute x nm tpos) (bopOf o) y pos) (tS X.K L g cl W (.augf a f o b)) := by
  refine ⟨fun pins s σ H D I ⟨ρ, hp, env, r, re, h⟩ => ?_⟩
  unfold wS at h
  have hmem : nm ∈ S.attrs := List.mem_of_getElem? hf
  have hLa : L.attrs[f]? = some nm := by rw [T.att.1]; exact hf
  have hnd : L.attrs.Nodup := by rw [T.att.1]; exact T.att.2
  refine wpAny_AugAssign_AttributeAny (thn (ha.run pins s σ H (fun v1 H1 => ∃ ρ1 hp1 d1, Ext ρ H ρ1 H1 ∧ RelH X.K L ρ1 hp1 H1 ∧ RD X.K L ρ1 H1 d1 v1 ∧ (oGetF d1 f hp1).app fun x hp => wE g cl b env hp (fun y hp => (oAug o x y hp).app fun z hp => (oSetF d1 f z hp).app ((KSt X.K L ρ H D W).nx env)) fun c i hp => (KSt X.K L ρ H D W).ex c i env hp) I
    ⟨ρ, hp, env, r, re, wE_mono hm a env hp _ _ _ _ (fun d1 hp1 q1 => ?_) (fun c i hp1 z => KSt.kx re (Ext.refl _ _) z) h⟩) fun ov s1 ⟨x1, H1, I1, rx, q⟩ => ?_)
  · intro ρ1 H1 v1 e1 r1 d1r
    exact ⟨ρ1, hp1, d1, e1, r1, d1r, q1⟩
  · obtain ⟨ρ1, hp1, d1, e1, r1, d1r, q1⟩ := q
    cases d1r with
    | @ref i p hs =>
      unfold oGetF at q1
      cases e : gtI hp1 i with
      | none => simp only [e] at q1; exact False.elim q1
      | some cf =>
        obtain ⟨c, fs⟩ := cf
        simp only [e] at q1
        obtain ⟨C, dx, vs, h1, h2, h3⟩ := r1.ins hs e
        obtain ⟨hc, hn⟩ := T.cls c C h1
        obtain rfl : ov = Value.ref p := rx
        rcases h3.get hnd hLa with ⟨k1, k2⟩ | ⟨d', v', k1, k2, k3⟩
        · simp only [k1] at q1; exact False.elim q1
        · simp only [k1] at q1
          refine getattr_ok I1 h2 hc (hn nm hmem) k2 fun u s2 I2 ru => ?_
          refine thn (hb.run pins s2 σ H1 (fun v2 H2 => ∃ ρ2 hp2 d2, Ext ρ1 H1 ρ2 H2 ∧ RelH X.K L ρ2 hp2 H2 ∧ RD X.K L ρ2 H2 d2 v2 ∧ (oAug o d' d2 hp2).app fun z hp => (oSetF (.ref i) f z hp).app ((KSt X.K L ρ H D W).nx env)) I2
            ⟨ρ1, hp1, env, r1, re.mono e1, wE_mono hm b env hp1 _ _ _ _ (fun d2 hp2 q2 => ?_) (fun c i hp1 z => KSt.kx (re.mono e1) e1 z) q1⟩) fun w s3 ⟨x2, H2, I3, rx2, q2⟩ => ?_
          · intro ρ2 H2 v2 e2 r2 d2r
            exact ⟨ρ2, hp2, d2, e2, r2, d2r, q2⟩
          · obtain ⟨ρ2, hp2, d2, e2, r2, d2r, q2⟩ := q2
            refine thn (mi_aug (Q := fun v3 H3 => ∃ ρ3 hp3 d3, Ext ρ2 H2 ρ3 H3 ∧ RelH X.K L ρ3 hp3 H3 ∧ RD X.K L ρ3 H3 d3 v3 ∧ (oSetF (.ref i) f d3 hp3).app ((KSt X.K L ρ H D W).nx env)) I3 ru rx2 r2 (k3.mono e2) d2r (OutD.mono (fun d3 hp3 q3 => ?_) q2)) fun w4 s4 ⟨z, H3, I4, rz, q4⟩ => ?_
            · intro ρ3 H3 v3 e3 r3 d3r
              exact ⟨ρ3, hp3, d3, e3, r3, d3r, q3⟩
            · obtain ⟨ρ3, hp3, d3, e3, r3, d3r, q3⟩ := q4
              unfold oSetF at q3
              cases e5 : gtI hp3 i with
              | none => simp only [e5] at q3; exact False.elim q3
              | some cf =>
                obtain ⟨c', fs'⟩ := cf
                simp only [e5] at q3
                obtain ⟨hl, q3⟩ := q3
                have hs3 := e3.ix (e2.ix hs)
                obtain ⟨C', dx', vs', g1, g2, g3⟩ := r3.ins hs3 e5
                obtain ⟨hc', hn'⟩ := T.cls c' C' g1
                obtain ⟨r4, e4⟩ := r3.put hs3 (.ins g1 (g3.put hnd hLa d3r)) (by intro o k z; rw [g2] at z; cases z)
                have e14 := ((e1.trans e2).trans e3).trans e4
                exact setattr_ok I4 g2 hc' (hn' nm hmem) (by rw [← g3.len]; omega) rz fun s5 I5 => ⟨σ, _, I5, q3 ρ3 _ σ e14 r4 (re.mono e14)⟩
    | _ => exact False.elim q1
theorem s_if (hm : ClMono cl) {ca : Ex} {sa sb : Sts} {p q : List Stmt} (hc : PT X x (tT X.K L g cl W ca)) (ha : PSs X p (tSs X.K L g cl W sa)) (hb : PSs X q (tSs X.K L g cl W sb)) : PS X (.If x p q pos) (tS X.K L g cl W (.ifs ca sa sb)) :=
  PS.imp (ps_if hc ha hb) fun D σ H ⟨ρ, hp, env, r, re, h⟩ => by
    unfold wS at h
    refine ⟨ρ, hp, env, r, re, wE_mono hm ca env hp _ _ _ _ (fun d1 hp1 q1 => OutB.mono (fun k q2 ρ1 H1 e1 r1 => ?_) q1) (fun c i hp1 z => KSt.kx re (Ext.refl _ _) z) h⟩
    cases k with
    | true => exact ⟨ρ1, hp1, env, r1, re.mono e1, wSs_mono hm sa env hp1 _ _ (KSt.ext e1) q2⟩
    | false => exact ⟨ρ1, hp1, env, r1, re.mono e1, wSs_mono hm sb env hp1 _ _ (KSt.ext e1) q2⟩
theorem s_while (hm : ClMono cl) {ca : Ex} {sb : Sts} {body : List Stmt} (hp : PassesOwn (model X.prog X.w) X.A X.env X.xe) (hc : PT X x (tT X.K L g cl W ca)) (hb : PSs X body (tSs X.K L g cl W sb)) : PS X (.While x body [] pos) (tS X.K L g cl W (.whl ca sb)) :=
  PS.imp (ps_while hp hc hb) fun D σ H ⟨ρ, hp, env, r, re, h⟩ => by
    unfold wS at h
    obtain ⟨N, h⟩ := h
    refine ⟨fun m σ' H' => ∃ ρ' hp' env', Ext ρ H ρ' H' ∧ RelH X.K L ρ' hp' H' ∧ RE X.K L ρ' H' env' σ' ∧ whLoop (fun env hp kn ke => wE g cl ca env hp (fun x hp => (oTru x hp).app fun t => if t = true then wSs g cl sb env hp { KSt X.K L ρ H D W with nx := kn, ct := kn, bk := (KSt X.K L ρ H D W).nx } else ke env hp) fun c i hp => (KSt X.K L ρ H D W).ex c i env hp) m env' hp' (KSt X.K L ρ H D W).nx, ⟨N, ρ, hp, env, Ext.refl _ _, r, re, h⟩, fun m σ1 H1 hw => ?_⟩
    obtain ⟨ρ1, hp1, env1, e1, r1, re1, hw⟩ := hw
    cases m with
    | zero => exact False.elim hw
    | succ m =>
      unfold whLoop at hw
      refine ⟨ρ1, hp1, env1, r1, re1, wE_mono hm ca env1 hp1 _ _ _ _ (fun d2 hp2 q2 => OutB.mono (fun k q ρ2 H2 e2 r2 => ?_) q2) (fun c i hp1 z => KSt.kx re1 e1 z) hw⟩
      cases k with
      | true =>
        refine ⟨_, fun σ' H' w => ⟨m, Nat.lt_succ_self m, w⟩, ρ2, hp2, env1, r2, re1.mono e2, wSs_mono hm sb env1 hp2 _ _ ⟨fun env3 hp3 q3 => ?_, fun env3 hp3 q3 => ?_, fun env3 hp3 q3 => ?_, fun d3 hp3 q3 => ?_, fun c i env3 hp3 q3 => ?_⟩ q⟩
        · intro ρ3 H3 σ3 e3 r3 re3
          exact ⟨ρ3, hp3, env3, (e1.trans e2).trans e3, r3, re3, q3⟩
        · intro ρ3 H3 σ3 e3 r3 re3
          exact q3 ρ3 H3 σ3 ((e1.trans e2).trans e3) r3 re3
        · intro ρ3 H3 σ3 e3 r3 re3
          exact ⟨ρ3, hp3, env3, (e1.trans e2).trans e3, r3, re3, q3⟩
        · exact KQ.ext q3 (e1.trans e2)
        · intro ρ3 H3 σ3 a3 C3 e3 r3 re3
          exact q3 ρ3 H3 σ3 a3 C3 ((e1.trans e2).trans e3) r3 re3
      | false => exact q ρ2 H2 σ1 (e1.trans e2) r2 (re1.mono e2)
theorem s_for (hm : ClMono cl) {it : Ix} {sb : Sts} {body : List Stmt} (hp : PassesOwn (model X.prog X.w) X.A X.env X.xe) (hc : X.calm = true) (hi : PI X tg x (tI X.K L g cl W X.H_0 it)) (hg : PG X tg (tG X.K L g cl t)) (hb : PSs X body (tSs X.K L g cl W sb))
    (hs : ∀ z, foldedSetIterable x X.env z = pure z) : PS X (.For tg x body [] pos) (tS X.K L g cl W (.for_ t it sb)) := by
  refine PS.imp (ps_un (ps_for hp hc hi hg hb hs)) fun D σ H ⟨ρ, hp, env, r, re, h⟩ => ?_
  unfold wS at h
  refine ⟨ρ, hp, env, r, re, wIt_mono hm it env hp _ _ _ _ (fun itr hp1 q1 => ?_) (fun c i hp1 z => KSt.kx re (Ext.refl _ _) z) h⟩
  intro ρ1 Hu H1 J eu r1 ri ui
  obtain ⟨N, q1⟩ := q1
  have e1 : Ext ρ H ρ1 H1 := eu.trans ui.ext
  refine ⟨fun j m σ' H' => ∃ ρ' hp' env', Ext ρ1 H1 ρ' H' ∧ RelH X.K L ρ' hp' H' ∧ RE X.K L ρ' H' env' σ' ∧ forLoop itr.nx (fun d env hp kn => wTg g cl t d env hp fun env hp =>
      wSs g cl sb env hp { nx := kn, ct := kn, bk := fun env hp => (KSt X.K L ρ H D W).nx env (itr.un hp), rt := fun d hp => (KSt X.K L ρ H D W).rt d (itr.un hp), ex := (KSt X.K L ρ H D W).ex }) m j env' hp' (fun env hp => (KSt X.K L ρ H D W).nx env (itr.un hp)), ⟨N, ρ1, hp1, env, Ext.refl _ _, r1, re.mono e1, q1⟩, fun j m σ2 H2 hw => ?_⟩
  obtain ⟨ρ2, hp2, env2, e2, r2, re2, hw⟩ := hw
  -- the end
  have fin : ∀ {ρ3 : List Addr} {H3 : Hp} {σ3 : L2.St} {env3 : Env} {hp3 : Hq} {P : L2.St → Hp → Prop}, Ext ρ1 H1 ρ3 H3 → RelH X.K L ρ3 hp3 H3 → RE X.K L ρ3 H3 env3 σ3 → (∀ ρ' H' σ', Ext ρ H ρ' H' → RelH X.K L ρ' (itr.un hp3) H' → RE X.K L ρ' H' env3 σ' → P σ' H') → unP X.H_0 (P σ3) H3 := by
    intro ρ3 H3 σ3 env3 hp3 P e3 r3 re3 k
    exact ui.fin e3 r3 fun H4 e4 w4 _ r4 => k ρ3 H4 σ3 (eu.trans e4) r4 (re3.monoW w4)
  cases m with
  | zero => exact False.elim hw
  | succ m =>
    unfold forLoop at hw
    cases en : itr.nx j hp2 with
    | none => rw [en] at hw; exact False.elim hw
    | some o =>
      rw [en] at hw
      cases o with
      | none => exact .inl ⟨ri.stop j ρ2 H2 hp2 e2 r2 en, fin e2 r2 re2 hw⟩
      | some d =>
        obtain ⟨hgo, hy⟩ := ri.go j ρ2 H2 hp2 d e2 r2 en
        refine .inr ⟨hgo, _, fun σ' H' w => ⟨m, Nat.lt_succ_self m, w⟩, fun v H3 y3 => ?_⟩
        obtain ⟨e3, r3, rd⟩ := hy v H3 y3
        refine ⟨ρ2, hp2, env2, d, r3, re2.mono e3, rd, wTg_mono hm t d env2 hp2 _ _ (fun env4 hp4 q4 => ?_) hw⟩
        intro ρ4 H4 σ4 e4 r4 re4 _
        have e24 := (e2.trans e3).trans e4
        refine ⟨ρ4, hp4, env4, r4, re4, wSs_mono hm sb env4 hp4 _ _ ⟨fun env5 hp5 q5 => ?_, fun env5 hp5 q5 => ?_, fun env5 hp5 q5 => ?_, fun d5 hp5 q5 => ?_, fun c i env5 hp5 q5 => ?_⟩ q4⟩
        · intro ρ5 H5 σ5 e5 r5 re5
          exact ⟨ρ5, hp5, env5, e24.trans e5, r5, re5, q5⟩
        · intro ρ5 H5 σ5 e5 r5 re5
          exact fin (e24.trans e5) r5 re5 q5
        · intro ρ5 H5 σ5 e5 r5 re5
          exact ⟨ρ5, hp5, env5, e24.trans e5, r5, re5, q5⟩
        · intro ρ5 H5 v5 e5 r5 rd5
          exact ui.fin (e24.trans e5) r5 fun H6 e6 w6 _ r6 => q5 ρ5 H6 v5 (eu.trans e6) r6 (rd5.monoW w6)
        · intro ρ5 H5 σ5 a5 C5 e5 r5 re5
          exact q5 ρ5 H5 σ5 a5 C5 ((e1.trans e24).trans e5) r5 re5
end
end MI
/-! MI, part 15: list comprehensions. -/
namespace MI
open PySem PySem.Spec PyProof.Rows L2

theorem wipe_idem (σ : L2.St) (own : List Nat) : L2.wipe (L2.wipe σ own) own = L2.wipe σ own := by
  apply List.ext_getElem?
  intro k
  rw [wipe_get, wipe_get]
  by_cases hk : k ∈ own
  · rw [if_pos hk, if_pos hk]
    cases σ[k]? <;> rfl
  · rw [if_neg hk, if_neg hk]
theorem Ext.notin {ρ ρ' : List Addr} {H H' : Hp} {p : Addr} {u : HO} (e : Ext ρ H ρ' H') (hn : p ∉ ρ) (h : H p = some u) : p ∉ ρ' := fun z => by
  rcases e.new p z with q | q
  · exact hn q
  · rw [q] at h; cases h
def ttOf (K : PySem.W.Frag) (L : Lay) (g : Glob) (cl : Cl) : Exo → TT
  | .no => tYes
  | .so e => tT K L g cl (fun _ _ _ _ => False) e
section
variable {X : Cx} {L : Lay} {g : Glob} {cl : Cl} {W : WX}
theorem lc_imp (hm : ClMono cl) {own : List Nat} {t : Tg} {it : Ix} {c : Exo} {e : Ex} (ht : tgIn own t = true) {σ : L2.St} {H : Hp} {Q : VK} (h : tE X.K L g cl W (.lc own t it c e) σ H Q) :
    tLc (tI X.K L g cl W X.H_0 it) (tG X.K L g cl t) (ttOf X.K L g cl c) (tE X.K L g cl (fun _ _ _ _ => False) e) own σ H (fun v => unP X.H_0 (Q v)) := by
  obtain ⟨ρ, hp, env, r, re, h⟩ := h
  unfold wE at h
  refine ⟨ρ, hp, env, r, re, wIt_mono hm it env hp _ _ _ _ (fun itr hp1 q1 => ?_) (fun _ _ _ z => z) h⟩
  intro ρ1 Hu H1 J eu r1 ri ui Dd hD
  obtain ⟨N, q1⟩ := q1
  have e1 : Ext ρ H ρ1 H1 := eu.trans ui.ext
  have hDu : Hu Dd = none := by
    rcases ui with ⟨rfl, _⟩ | ⟨d, i, od, vs, kvs, hn, hd, ee, hi, rk, hu⟩
    · exact hD
    · subst ee
      have z : Dd ≠ d := fun z => by subst z; rw [upd_same] at hD; cases hD
      rw [upd_ne z] at hD
      exact hD
  obtain ⟨r1', e1'⟩ := r1.tmp (u := .lst []) hD
  let body : D → Hq → (Option D → Hq → Prop) → Prop := fun d hp k => wTg g cl t d (wipeE env own) hp fun env2 hp =>
      wEo g cl c env2 hp (fun r hp => match r with
        | none => wE g cl e env2 hp (fun y hp => k (some y) hp) fun _ _ _ => False
        | some x => (oTru x hp).app fun b => if b = true then wE g cl e env2 hp (fun y hp => k (some y) hp) fun _ _ _ => False else k none hp) fun _ _ _ => False
  let fk : List D → Hq → Prop := fun ds hp => KQ X.K L ρ H Q (.ref (itr.un hp).length) (itr.un hp ++ [.lst ds])
  have q1 : lcLoop itr.nx body N 0 [] hp1 fk := q1
  refine ⟨fun j m H' => ∃ ρ' hp' ds vs, Ext ρ1 H1 ρ' H' ∧ RelH X.K L ρ' hp' H' ∧ Dd ∉ ρ' ∧ H' Dd = some (.lst vs) ∧ RDs X.K L ρ' H' ds vs ∧ lcLoop itr.nx body m j ds hp' fk,
    ⟨N, ρ1, hp1, [], [], (Ext.refl ρ1 H1).side0 hD, r1', r1.notin hD, upd_same, .nil, q1⟩, fun j m H2 hw => ?_⟩
  obtain ⟨ρ2, hp2, ds, vs, e2, r2, hn2, hd2, rd2, hw⟩ := hw
  cases m with
  | zero => exact False.elim hw
  | succ m =>
    unfold lcLoop at hw
    cases en : itr.nx j hp2 with
    | none => rw [en] at hw; exact False.elim hw
    | some o =>
      rw [en] at hw
      cases o with
      | none =>
        refine .inl ⟨ri.stop j ρ2 H2 hp2 e2 r2 en, ui.fin e2 r2 fun H4 e4 w4 oth r4 => ?_⟩
        have hd4 : H4 Dd = some (.lst vs) := oth _ _ hd2 (fun _ _ z => by cases z)
        obtain ⟨r5, e5⟩ := r4.tell0 (o := .lst ds) (u := .lst vs) hn2 hd4 (.lst (rd2.monoW w4)) (eu.trans e4) (by
          cases hH : H Dd with
          | none => rfl
          | some z =>
            by_cases hm : Dd ∈ ρ
            · exact absurd (by obtain ⟨mo, hmo⟩ := (eu.trans e4).pre; rw [hmo]; exact List.mem_append_left _ hm) hn2
            · have := eu.out Dd z hH hm
              rw [hDu] at this; cases this)
        have hw : KQ X.K L ρ H Q (.ref (itr.un hp2).length) (itr.un hp2 ++ [.lst ds]) := hw
        refine hw _ H4 _ e5 r5 (.ref ?_)
        rw [← r4.len, List.getElem?_append_right (Nat.le_refl _)]
        simp
      | some d =>
        obtain ⟨hgo, hy⟩ := ri.go j ρ2 H2 hp2 d e2 r2 en
        refine .inr ⟨hgo, _, fun H' w => ⟨m, Nat.lt_succ_self m, w⟩, fun v H3 y3 => ?_⟩
        obtain ⟨e3, r3, rdv⟩ := hy v H3 y3
        have re3 : RE X.K L ρ2 H3 (wipeE env own) (L2.wipe σ own) := ((re.wipe own).mono e1).mono (e2.trans e3)
        have hd3 : H3 Dd = some (.lst vs) := e3.out _ _ hd2 hn2
        refine ⟨ρ2, hp2, _, d, r3, re3, rdv, wTg_mono hm t d _ hp2 _ _ (fun env4 hp4 q4 => ?_) hw⟩
        intro ρ4 H4 σ4 e4 r4 re4 w4
        refine ⟨by rw [w4 own ht, wipe_idem], ?_⟩
        -- the item
        have item : ∀ {ρ5 : List Addr} {H5 : Hp} {hp5 : Hq}, Ext ρ4 H4 ρ5 H5 → RelH X.K L ρ5 hp5 H5 → wE g cl e env4 hp5 (fun y hp => ds.length < SZ ∧ lcLoop itr.nx body m (j + 1) (ds ++ [y]) hp fk) (fun _ _ _ => False) →
            tE X.K L g cl (fun _ _ _ _ => False) e σ4 H5 fun y H6 => ∃ acc, H6 Dd = some (.lst acc) ∧ acc.length < sizeLine ∧ ∃ ρ' hp' ds vs, Ext ρ1 H1 ρ' (upd H6 Dd (.lst (acc ++ [y]))) ∧ RelH X.K L ρ' hp' (upd H6 Dd (.lst (acc ++ [y]))) ∧ Dd ∉ ρ' ∧ (upd H6 Dd (.lst (acc ++ [y]))) Dd = some (.lst vs) ∧ RDs X.K L ρ' (upd H6 Dd (.lst (acc ++ [y]))) ds vs ∧ lcLoop itr.nx body m (j + 1) ds hp' fk := by
          intro ρ5 H5 hp5 e5 r5 q5
          refine ⟨ρ5, hp5, env4, r5, re4.mono e5, wE_mono hm e env4 hp5 _ _ _ _ (fun y hp6 q6 => ?_) (fun _ _ _ z => False.elim z) q5⟩
          intro ρ6 H6 v6 e6 r6 rd6
          obtain ⟨hl, q6⟩ := q6
          have e36 := (e4.trans e5).trans e6
          have hd6 : H6 Dd = some (.lst vs) := e36.out _ _ hd3 hn2
          have hn6 := e36.notin hn2 hd3
          obtain ⟨r7, w7⟩ := r6.side0 (u := .lst (vs ++ [v6])) hn6 hd6 (fun z => by cases z)
          exact ⟨vs, hd6, by rw [← sz_line, ← rd2.len]; exact hl, ρ6, hp6, ds ++ [y], vs ++ [v6], ((e2.trans e3).trans e36).side0 hD, r7, hn6, upd_same, ((rd2.mono (e3.trans e36)).app (.one rd6)).monoW w7, q6⟩
        cases c with
        | no =>
          unfold wEo at q4
          dsimp only [ttOf, tYes]
          rw [if_pos rfl]
          exact item (Ext.refl _ _) r4 q4
        | so ce =>
          unfold wEo at q4
          refine ⟨ρ4, hp4, env4, r4, re4, wE_mono hm ce env4 hp4 _ _ _ _ (fun d5 hp5 q5 => OutB.mono (fun b q ρ5 H5 e5 r5 => ?_) q5) (fun _ _ _ z => False.elim z) q4⟩
          cases b with
          | true => exact item e5 r5 q
          | false =>
            have e35 := e4.trans e5
            exact ⟨ρ5, hp5, ds, vs, (e2.trans e3).trans e35, r5, e35.notin hn2 hd3, e35.out _ _ hd3 hn2, rd2.mono (e3.trans e35), q⟩
variable {x tg elt : Expr} {ifs : List Expr} {scope : Scope} {pos : Pos}
theorem s_lc (hm : ClMono cl) {own : List Nat} {ow : List (Str × Nat)} {t : Tg} {it : Ix} {c : Exo} {e : Ex} (how : ow.map (·.2) = own) (ht : tgIn own t = true) (hc : X.calm = true) (hN : X.N.Nodup) (hi : PI X tg x (tI X.K L g cl W X.H_0 it)) (ok : BlkOk X.N X.env.scope scope ow)
    (hg : ∀ (s : Shared) (H : Hp) (C : Addr) (ce : List (Str × Addr)) (fp : List Addr), PG (X.blk s H scope (compEnvC scope ce C X.env) fp) tg (tG X.K L g cl t)) (hif : ∀ (s : Shared) (H : Hp) (C : Addr) (ce : List (Str × Addr)) (fp : List Addr), PTs (X.blk s H scope (compEnvC scope ce C X.env) fp) ifs (ttOf X.K L g cl c))
    (he : ∀ (s : Shared) (H : Hp) (C : Addr) (ce : List (Str × Addr)) (fp : List Addr), PE (X.blk s H scope (compEnvC scope ce C X.env) fp) elt (tE X.K L g cl (fun _ _ _ _ => False) e)) (hs : ∀ z, foldedSetIterable x X.env z = pure z) :
    PE X (.ListComp elt [⟨tg, x, ifs, 0⟩] scope pos) (tE X.K L g cl W (.lc own t it c e)) :=
  PE.imp (pe_un (pe_lc hc hN hi ok hg hif he hs)) fun σ H Q h => by
    rw [how]
    exact lc_imp hm ht h
theorem s_setLc (hm : ClMono cl) {own : List Nat} {ow : List (Str × Nat)} {t : Tg} {it : Ix} {c : Exo} {e : Ex} {i : Nat} {n : Str} {py spos : Pos} (how : ow.map (·.2) = own) (ht : tgIn own t = true) (hc : X.calm = true) (hN : X.N.Nodup) (hy : X.N[i]? = some n) (hyl : X.env.scope.names.lookup n = some .local)
    (hsw : swapsWith (.ListComp elt [⟨tg, x, ifs, 0⟩] scope pos) (some (.Name n py)) spos.line X.env = pure true) (hi : PI X tg x (tI X.K L g cl W X.H_0 it)) (ok : BlkOk X.N X.env.scope scope ow)
    (hg : ∀ (s : Shared) (H : Hp) (C : Addr) (ce : List (Str × Addr)) (fp : List Addr), PG (X.blk s H scope (compEnvC scope ce C X.env) fp) tg (tG X.K L g cl t)) (hif : ∀ (s : Shared) (H : Hp) (C : Addr) (ce : List (Str × Addr)) (fp : List Addr), PTs (X.blk s H scope (compEnvC scope ce C X.env) fp) ifs (ttOf X.K L g cl c))
    (he : ∀ (s : Shared) (H : Hp) (C : Addr) (ce : List (Str × Addr)) (fp : List Addr), PE (X.blk s H scope (compEnvC scope ce C X.env) fp) elt (tE X.K L g cl (fun _ _ _ _ => False) e)) (hs : ∀ z, foldedSetIterable x X.env z = pure z) :
    PS X (.Assign [.Name n py] (.ListComp elt [⟨tg, x, ifs, 0⟩] scope pos) spos) (tS X.K L g cl W (.asg (.nm i) (.lc own t it c e))) :=
  PS.imp (ps_un (ps_setLc hc hN hy hyl hsw hi ok hg hif he hs)) fun D σ H ⟨ρ, hp, env, r, re, h⟩ => by
    unfold wS at h
    have h2 : tE X.K L g cl W (.lc own t it c e) σ H fun v H' => D.nx (σ.set i (some v)) H' := by
      refine ⟨ρ, hp, env, r, re, wE_mono hm _ env hp _ _ _ _ (fun d1 hp1 q1 => ?_) (fun c i hp1 z => KSt.kx re (Ext.refl _ _) z) h⟩
      intro ρ1 H1 v1 e1 r1 d1r
      unfold wTg at q1
      exact q1 ρ1 H1 _ e1 r1 ((re.mono e1).set i d1r)
    show tLc _ _ _ _ _ σ H _
    rw [how]
    exact lc_imp hm ht h2
end
end MI
/-! MI, part 15a: dict comprehensions, comprehensions of two clauses, len by an own __len__. -/
namespace MI
open PySem PySem.Spec PyProof.Rows L2
section
variable {X : Cx} {L : Lay} {g : Glob} {cl : Cl} {W : WX}
theorem dc_imp (hm : ClMono cl) {own : List Nat} {t : Tg} {it : Ix} {c : Exo} {kx e : Ex} (ht : tgIn own t = true) {σ : L2.St} {H : Hp} {Q : VK} (h : tE X.K L g cl W (.dc own t it c kx e) σ H Q) :
    tDc (tI X.K L g cl W X.H_0 it) (tG X.K L g cl t) (ttOf X.K L g cl c) (tE X.K L g cl (fun _ _ _ _ => False) kx) (tE X.K L g cl (fun _ _ _ _ => False) e) own σ H (fun v => unP X.H_0 (Q v)) := by
  obtain ⟨ρ, hp, env, r, re, h⟩ := h
  unfold wE at h
  refine ⟨ρ, hp, env, r, re, wIt_mono hm it env hp _ _ _ _ (fun itr hp1 q1 => ?_) (fun _ _ _ z => z) h⟩
  intro ρ1 Hu H1 J eu r1 ri ui Dd hD
  obtain ⟨N, q1⟩ := q1
  have e1 : Ext ρ H ρ1 H1 := eu.trans ui.ext
  have hDu : Hu Dd = none := by
    rcases ui with ⟨rfl, _⟩ | ⟨d, i, od, vs, kvs, hn, hd, ee, hi, rk, hu⟩
    · exact hD
    · subst ee
      have z : Dd ≠ d := fun z => by subst z; rw [upd_same] at hD; cases hD
      rw [upd_ne z] at hD
      exact hD
  obtain ⟨r1', e1'⟩ := r1.tmp (u := .dK []) hD
  let body : D → Hq → (Option (D × D) → Hq → Prop) → Prop := fun d hp kk => wTg g cl t d (wipeE env own) hp fun env2 hp =>
      wEo g cl c env2 hp (fun r hp => match r with
        | none => wE g cl kx env2 hp (fun y hp => wE g cl e env2 hp (fun z hp => kk (some (y, z)) hp) fun _ _ _ => False) fun _ _ _ => False
        | some x => (oTru x hp).app fun b => if b = true then wE g cl kx env2 hp (fun y hp => wE g cl e env2 hp (fun z hp => kk (some (y, z)) hp) fun _ _ _ => False) fun _ _ _ => False else kk none hp) fun _ _ _ => False
  let fk : List (Key × D) → Hq → Prop := fun ds hp => KQ X.K L ρ H Q (.ref (itr.un hp).length) (itr.un hp ++ [.dic ds])
  have q1 : dcLoop itr.nx body N 0 [] hp1 fk := q1
  refine ⟨fun j m H' => ∃ ρ' hp' ds vs, Ext ρ1 H1 ρ' H' ∧ RelH X.K L ρ' hp' H' ∧ Dd ∉ ρ' ∧ H' Dd = some (.dK vs) ∧ RKs X.K L ρ' H' ds vs ∧ dcLoop itr.nx body m j ds hp' fk,
    ⟨N, ρ1, hp1, [], [], (Ext.refl ρ1 H1).side0 hD, r1', r1.notin hD, upd_same, .nil, q1⟩, fun j m H2 hw => ?_⟩
  obtain ⟨ρ2, hp2, ds, vs, e2, r2, hn2, hd2, rd2, hw⟩ := hw
  cases m with
  | zero => exact False.elim hw
  | succ m =>
    unfold dcLoop at hw
    cases en : itr.nx j hp2 with
    | none => rw [en] at hw; exact False.elim hw
    | some o =>
      rw [en] at hw
      cases o with
      | none =>
        refine .inl ⟨ri.stop j ρ2 H2 hp2 e2 r2 en, ui.fin e2 r2 fun H4 e4 w4 oth r4 => ?_⟩
        have hd4 : H4 Dd = some (.dK vs) := oth _ _ hd2 (fun _ _ z => by cases z)
        obtain ⟨r5, e5⟩ := r4.tell0 (o := .dic ds) (u := .dK vs) hn2 hd4 (.dic (rd2.monoW w4)) (eu.trans e4) (by
          cases hH : H Dd with
          | none => rfl
          | some z =>
            by_cases hm : Dd ∈ ρ
            · exact absurd (by obtain ⟨mo, hmo⟩ := (eu.trans e4).pre; rw [hmo]; exact List.mem_append_left _ hm) hn2
            · have := eu.out Dd z hH hm
              rw [hDu] at this; cases this)
        have hw : KQ X.K L ρ H Q (.ref (itr.un hp2).length) (itr.un hp2 ++ [.dic ds]) := hw
        refine hw _ H4 _ e5 r5 (.ref ?_)
        rw [← r4.len, List.getElem?_append_right (Nat.le_refl _)]
        simp
      | some d =>
        obtain ⟨hgo, hy⟩ := ri.go j ρ2 H2 hp2 d e2 r2 en
        refine .inr ⟨hgo, _, fun H' w => ⟨m, Nat.lt_succ_self m, w⟩, fun v H3 y3 => ?_⟩
        obtain ⟨e3, r3, rdv⟩ := hy v H3 y3
        have re3 : RE X.K L ρ2 H3 (wipeE env own) (L2.wipe σ own) := ((re.wipe own).mono e1).mono (e2.trans e3)
        have hd3 : H3 Dd = some (.dK vs) := e3.out _ _ hd2 hn2
        refine ⟨ρ2, hp2, _, d, r3, re3, rdv, wTg_mono hm t d _ hp2 _ _ (fun env4 hp4 q4 => ?_) hw⟩
        intro ρ4 H4 σ4 e4 r4 re4 w4
        refine ⟨by rw [w4 own ht, wipe_idem], ?_⟩
        -- the pair
        have item : ∀ {ρ5 : List Addr} {H5 : Hp} {hp5 : Hq}, Ext ρ4 H4 ρ5 H5 → RelH X.K L ρ5 hp5 H5 →
            wE g cl kx env4 hp5 (fun y hp => wE g cl e env4 hp (fun z hp => match kOf y with | some key => ds.length < SZ ∧ dcLoop itr.nx body m (j + 1) (dput ds key z) hp fk | none => False) (fun _ _ _ => False)) (fun _ _ _ => False) →
            tE X.K L g cl (fun _ _ _ _ => False) kx σ4 H5 fun y H6 => tE X.K L g cl (fun _ _ _ _ => False) e σ4 H6 fun z H7 => ∃ kvs k, y = kV k ∧ H7 Dd = some (.dK kvs) ∧ kvs.length < sizeLine ∧
              ∃ ρ' hp' ds vs, Ext ρ1 H1 ρ' (upd H7 Dd (.dK (putK kvs k z))) ∧ RelH X.K L ρ' hp' (upd H7 Dd (.dK (putK kvs k z))) ∧ Dd ∉ ρ' ∧ (upd H7 Dd (.dK (putK kvs k z))) Dd = some (.dK vs) ∧ RKs X.K L ρ' (upd H7 Dd (.dK (putK kvs k z))) ds vs ∧ dcLoop itr.nx body m (j + 1) ds hp' fk := by
          intro ρ5 H5 hp5 e5 r5 q5
          refine ⟨ρ5, hp5, env4, r5, re4.mono e5, wE_mono hm kx env4 hp5 _ _ _ _ (fun y hp6 q6 => ?_) (fun _ _ _ z => False.elim z) q5⟩
          intro ρ6 H6 v6 e6 r6 rd6
          refine ⟨ρ6, hp6, env4, r6, (re4.mono e5).mono e6, wE_mono hm e env4 hp6 _ _ _ _ (fun z hp7 q7 => ?_) (fun _ _ _ z => False.elim z) q6⟩
          intro ρ7 H7 v7 e7 r7 rd7
          cases ek : kOf y with
          | none => simp only [ek] at q7
          | some key =>
            simp only [ek] at q7
            obtain ⟨hl, q7⟩ := q7
            have e37 := ((e4.trans e5).trans e6).trans e7
            have hd7 : H7 Dd = some (.dK vs) := e37.out _ _ hd3 hn2
            have hn7 := e37.notin hn2 hd3
            obtain ⟨r8, w8⟩ := r7.side0 (u := .dK (putK vs key v7)) hn7 hd7 (fun z => by cases z)
            exact ⟨vs, key, kOf_kV rd6 ek, hd7, by rw [← sz_line, ← rd2.len]; exact hl, ρ7, hp7, dput ds key z, putK vs key v7, ((e2.trans e3).trans e37).side0 hD, r8, hn7, upd_same, ((rd2.mono (e3.trans e37)).put key rd7).monoW w8, q7⟩
        cases c with
        | no =>
          unfold wEo at q4
          dsimp only [ttOf, tYes]
          rw [if_pos rfl]
          exact item (Ext.refl _ _) r4 q4
        | so ce =>
          unfold wEo at q4
          refine ⟨ρ4, hp4, env4, r4, re4, wE_mono hm ce env4 hp4 _ _ _ _ (fun d5 hp5 q5 => OutB.mono (fun b q ρ5 H5 e5 r5 => ?_) q5) (fun _ _ _ z => False.elim z) q4⟩
          cases b with
          | true => exact item e5 r5 q
          | false =>
            have e35 := e4.trans e5
            exact ⟨ρ5, hp5, ds, vs, (e2.trans e3).trans e35, r5, e35.notin hn2 hd3, e35.out _ _ hd3 hn2, rd2.mono (e3.trans e35), q⟩
variable {x tg kx' elt : Expr} {ifs : List Expr} {scope : Scope} {pos : Pos}
theorem s_dc (hm : ClMono cl) {own : List Nat} {ow : List (Str × Nat)} {t : Tg} {it : Ix} {c : Exo} {kx e : Ex} (how : ow.map (·.2) = own) (ht : tgIn own t = true) (hc : X.calm = true) (hN : X.N.Nodup) (hi : PI X tg x (tI X.K L g cl W X.H_0 it)) (ok : BlkOk X.N X.env.scope scope ow)
    (hg : ∀ (s : Shared) (H : Hp) (C : Addr) (ce : List (Str × Addr)) (fp : List Addr), PG (X.blk s H scope (compEnvC scope ce C X.env) fp) tg (tG X.K L g cl t)) (hif : ∀ (s : Shared) (H : Hp) (C : Addr) (ce : List (Str × Addr)) (fp : List Addr), PTs (X.blk s H scope (compEnvC scope ce C X.env) fp) ifs (ttOf X.K L g cl c))
    (hk : ∀ (s : Shared) (H : Hp) (C : Addr) (ce : List (Str × Addr)) (fp : List Addr), PE (X.blk s H scope (compEnvC scope ce C X.env) fp) kx' (tE X.K L g cl (fun _ _ _ _ => False) kx))
    (he : ∀ (s : Shared) (H : Hp) (C : Addr) (ce : List (Str × Addr)) (fp : List Addr), PE (X.blk s H scope (compEnvC scope ce C X.env) fp) elt (tE X.K L g cl (fun _ _ _ _ => False) e)) (hs : ∀ z, foldedSetIterable x X.env z = pure z) :
    PE X (.DictComp kx' elt [⟨tg, x, ifs, 0⟩] scope pos) (tE X.K L g cl W (.dc own t it c kx e)) :=
  PE.imp (pe_un (pe_dc hc hN hi ok hg hif hk he hs)) fun σ H Q h => by
    rw [how]
    exact dc_imp hm ht h
/-! ### two clauses -/
/-- how a list or tuple is walked, whatever comes in between -/
structure RItW (K : PySem.W.Frag) (L : Lay) (ρ1 : List Addr) (H1 : Hp) (J : It) (it : MI.Itr) : Prop where
  stop : ∀ (j : Nat) ρ H hp, ExtW ρ1 H1 ρ H → RelH K L ρ hp H → it.nx j hp = some none → J.stop j H
  go : ∀ (j : Nat) ρ H hp d, ExtW ρ1 H1 ρ H → RelH K L ρ hp H → it.nx j hp = some (some d) → J.go j H ∧ ∀ x H', J.yld j H x H' → H' = H ∧ RD K L ρ H d x
theorem ritw_list {K : PySem.W.Frag} {ρ1 : List Addr} {H1 : Hp} {i : Nat} {a : Addr} (ha : ρ1[i]? = some a) : RItW K L ρ1 H1 (Itl K a) (itLst i) where
  stop := fun j ρ H hp e r h => by
    cases g : gtL hp i with
    | none => simp [itLst, g] at h
    | some xs =>
      simp [itLst, g] at h
      obtain ⟨vs, h1, h2⟩ := r.lst (e.ix ha) g
      exact ⟨vs, .of h1, by rw [← h2.len]; exact h⟩
  go := fun j ρ H hp d e r h => by
    cases g : gtL hp i with
    | none => simp [itLst, g] at h
    | some xs =>
      have h : xs[j]? = some d := by simpa [itLst, g] using h
      obtain ⟨vs, h1, h2⟩ := r.lst (e.ix ha) g
      obtain ⟨v, h3, h4⟩ := h2.get h
      refine ⟨⟨vs, v, .of h1, h3⟩, fun x H' y => ?_⟩
      obtain ⟨rfl, y⟩ := y
      have := y vs (.of h1)
      rw [h3] at this
      cases this
      exact ⟨rfl, h4⟩
theorem ritw_fixL {K : PySem.W.Frag} {ρ1 : List Addr} {H1 : Hp} {ds : List D} {vs : List V} {a : Addr} (hs : KlL K H1 a vs) (t : RDs K L ρ1 H1 ds vs) : RItW K L ρ1 H1 (Itl K a) (itFix ds) where
  stop := fun j ρ H hp e r h => by
    have h : ds[j]? = none := by simpa [itFix] using h
    exact ⟨vs, (KlL.monoW e hs).sq, by rw [← t.len]; exact List.getElem?_eq_none_iff.mp h⟩
  go := fun j ρ H hp d e r h => by
    have h : ds[j]? = some d := by simpa [itFix] using h
    obtain ⟨v, h3, h4⟩ := t.get h
    refine ⟨⟨vs, v, (KlL.monoW e hs).sq, h3⟩, fun x H' y => ?_⟩
    obtain ⟨rfl, y⟩ := y
    have := y vs (KlL.monoW e hs).sq
    rw [h3] at this
    cases this
    exact ⟨rfl, h4.monoW e⟩
theorem ritw_fixT {K : PySem.W.Frag} {ρ1 : List Addr} {H1 : Hp} {ds : List D} {vs : List V} {a : Addr} (hs : SqT K H1 a vs) (t : RDs K L ρ1 H1 ds vs) : RItW K L ρ1 H1 (Itt K a) (itFix ds) where
  stop := fun j ρ H hp e r h => by
    have h : ds[j]? = none := by simpa [itFix] using h
    exact ⟨vs, SqT.monoW e hs, by rw [← t.len]; exact List.getElem?_eq_none_iff.mp h⟩
  go := fun j ρ H hp d e r h => by
    have h : ds[j]? = some d := by simpa [itFix] using h
    obtain ⟨v, h3, h4⟩ := t.get h
    refine ⟨⟨vs, v, SqT.monoW e hs, h3⟩, fun x H' y => ?_⟩
    obtain ⟨rfl, y⟩ := y
    have := y vs (SqT.monoW e hs)
    rw [h3] at this
    cases this
    exact ⟨rfl, h4.monoW e⟩
def KIs (K : PySem.W.Frag) (L : Lay) (ρ : List Addr) (H : Hp) (R : It → Hp → Prop) : MI.Itr → Hq → Prop := fun itr hp' => ∀ ρ1 H1 J, Ext ρ H ρ1 H1 → RelH K L ρ1 hp' H1 → RItW K L ρ1 H1 J itr → R J H1
def tIs (K : PySem.W.Frag) (L : Lay) (g : Glob) (cl : Cl) (W : WX) (a : Ex) : TI := fun σ H R => ∃ ρ hp env, RelH K L ρ hp H ∧ RE K L ρ H env σ ∧ wE g cl a env hp (fun x hp => match itSq hp x with | some it => KIs K L ρ H R it hp | none => False) (KX K L ρ H σ W)
theorem i_sq {a : Ex} {x tg : Expr} (hm : ClMono cl) (ha : PE X x (tE X.K L g cl W a)) : PI X tg x (tIs X.K L g cl W a) := by
  refine ⟨fun pins s σ H R I ⟨ρ, hp, env, r, re, h⟩ => ?_⟩
  refine thn (ha.run pins s σ H (fun v1 H1 => ∃ ρ1 hp1 d1, Ext ρ H ρ1 H1 ∧ RelH X.K L ρ1 hp1 H1 ∧ RD X.K L ρ1 H1 d1 v1 ∧ ∃ itr, itSq hp1 d1 = some itr ∧ KIs X.K L ρ H R itr hp1) I
    ⟨ρ, hp, env, r, re, wE_mono hm a env hp _ _ _ _ (fun d1 hp1 q1 => ?_) (fun _ _ _ z => z) h⟩) fun v s1 ⟨x1, H1, I1, rx, q⟩ => ?_
  · intro ρ1 H1 v1 e1 r1 d1r
    cases eq : itSq hp1 d1 with
    | none => simp only [eq] at q1
    | some itr =>
      simp only [eq] at q1
      exact ⟨ρ1, hp1, d1, e1, r1, d1r, itr, eq, q1⟩
  · obtain ⟨ρ1, hp1, d1, e1, r1, d1r, itr, eq, q1⟩ := q
    cases d1r with
    | @tup p xs ds hs t =>
      cases eq
      obtain rfl : v = Value.ref p := rx
      obtain ⟨its, rv, ht, hz⟩ := I1.tuple hs
      exact wpAny_pyIter_tuple (show s1.heap.IsTuple p its.toArray from ht) (pi_one (tk := s1.toks) I1 _ (turn_tuple p _) ⟨_, Heap.get?_push_size _ rfl, rfl, rfl⟩ (q1 ρ1 H1 _ e1 r1 (ritw_fixT hs t)))
    | @kl p xs ds hs t =>
      cases eq
      obtain rfl : v = Value.ref p := rx
      obtain ⟨its, rv, ht, hz⟩ := I1.list hs.sq
      exact wpAny_pyIter_list ht.isList (pi_one (tk := s1.toks) I1 _ (turn_list p _) ⟨_, Heap.get?_push_size _ rfl, rfl, rfl⟩ (q1 ρ1 H1 _ e1 r1 (ritw_fixL hs t)))
    | @ref i p hs =>
      obtain rfl : v = Value.ref p := rx
      obtain ⟨o, u, g1, g2, g3⟩ := r1.at2 hs
      unfold itSq at eq
      simp only [g1] at eq
      cases g3 with
      | @lst _ vs t =>
        cases eq
        obtain ⟨its, rv, ht, hz⟩ := I1.list (SqL.of g2)
        exact wpAny_pyIter_list ht.isList (pi_one (tk := s1.toks) I1 _ (turn_list p _) ⟨_, Heap.get?_push_size _ rfl, rfl, rfl⟩ (q1 ρ1 H1 _ e1 r1 (ritw_list hs)))
      | _ => cases eq
    | _ => cases eq
theorem ExtW.trans {ρ ρ1 ρ2 : List Addr} {H H1 H2 : Hp} (a : ExtW ρ H ρ1 H1) (b : ExtW ρ1 H1 ρ2 H2) : ExtW ρ H ρ2 H2 := by
  obtain ⟨m1, e1⟩ := a.pre
  obtain ⟨m2, e2⟩ := b.pre
  exact ⟨⟨m1 ++ m2, by rw [e2, e1, List.append_assoc]⟩, fun x o h s => b.st x o (a.st x o h s) s⟩
theorem wipe_in {σ2 σ3 : L2.St} {own own1 : List Nat} (hi : ∀ i ∈ own1, i ∈ own) (h : L2.wipe σ3 own1 = L2.wipe σ2 own1) : L2.wipe σ3 own = L2.wipe σ2 own := by
  apply List.ext_getElem?
  intro k
  have hk := congrArg (fun l : L2.St => l[k]?) h
  simp only [wipe_get] at hk ⊢
  by_cases h1 : k ∈ own1
  · rw [if_pos (hi k h1), if_pos (hi k h1)]
    rw [if_pos h1, if_pos h1] at hk
    exact hk
  · rw [if_neg h1, if_neg h1] at hk
    rw [hk]
theorem lc2_imp (hm : ClMono cl) {own own1 : List Nat} {t t1 : Tg} {it : Ix} {a e : Ex} (ht : tgIn own t = true) (ht1 : tgIn own1 t1 = true) {σ : L2.St} {H : Hp} {Q : VK} (h : tE X.K L g cl W (.lc2 own own1 t it t1 a e) σ H Q) :
    tLc2 (tI X.K L g cl W X.H_0 it) (tG X.K L g cl t) tYes (tIs X.K L g cl (fun _ _ _ _ => False) a) (tG X.K L g cl t1) tYes (tE X.K L g cl (fun _ _ _ _ => False) e) own own1 σ H (fun v => unP X.H_0 (Q v)) := by
  obtain ⟨ρ, hp, env, r, re, h⟩ := h
  unfold wE at h
  refine ⟨ρ, hp, env, r, re, wIt_mono hm it env hp _ _ _ _ (fun itr hp1 q1 => ?_) (fun _ _ _ z => z) h⟩
  intro ρ1 Hu H1 J eu r1 ri ui Dd hD
  obtain ⟨N, q1⟩ := q1
  have e1 : Ext ρ H ρ1 H1 := eu.trans ui.ext
  have hDu : Hu Dd = none := by
    rcases ui with ⟨rfl, _⟩ | ⟨d, i, od, vs, kvs, hn, hd, ee, hi, rk, hu⟩
    · exact hD
    · subst ee
      have z : Dd ≠ d := fun z => by subst z; rw [upd_same] at hD; cases hD
      rw [upd_ne z] at hD
      exact hD
  obtain ⟨r1', e1'⟩ := r1.tmp (u := .lst []) hD
  let body1 : Env → D → Hq → (Option D → Hq → Prop) → Prop := fun env2 d hp k1 => wTg g cl t1 d (wipeE env2 own1) hp fun env3 hp => wE g cl e env3 hp (fun y hp => k1 (some y) hp) fun _ _ _ => False
  let body : D → List D → Hq → (List D → Hq → Prop) → Prop := fun d acc hp k => wTg g cl t d (wipeE env own) hp fun env2 hp =>
      wE g cl a env2 hp (fun x hp => match itSq hp x with
        | some it1 => ∃ M, lcLoop it1.nx (body1 env2) M 0 acc hp k
        | none => False) fun _ _ _ => False
  let fk : List D → Hq → Prop := fun ds hp => KQ X.K L ρ H Q (.ref (itr.un hp).length) (itr.un hp ++ [.lst ds])
  have q1 : acLoop itr.nx body N 0 [] hp1 fk := q1
  refine ⟨fun j m H' => ∃ ρ' hp' ds vs, Ext ρ1 H1 ρ' H' ∧ RelH X.K L ρ' hp' H' ∧ Dd ∉ ρ' ∧ H' Dd = some (.lst vs) ∧ RDs X.K L ρ' H' ds vs ∧ acLoop itr.nx body m j ds hp' fk,
    ⟨N, ρ1, hp1, [], [], (Ext.refl ρ1 H1).side0 hD, r1', r1.notin hD, upd_same, .nil, q1⟩, fun j m H2 hw => ?_⟩
  obtain ⟨ρ2, hp2, ds, vs, e2, r2, hn2, hd2, rd2, hw⟩ := hw
  cases m with
  | zero => exact False.elim hw
  | succ m =>
    unfold acLoop at hw
    cases en : itr.nx j hp2 with
    | none => rw [en] at hw; exact False.elim hw
    | some o =>
      rw [en] at hw
      cases o with
      | none =>
        refine .inl ⟨ri.stop j ρ2 H2 hp2 e2 r2 en, ui.fin e2 r2 fun H4 e4 w4 oth r4 => ?_⟩
        have hd4 : H4 Dd = some (.lst vs) := oth _ _ hd2 (fun _ _ z => by cases z)
        obtain ⟨r5, e5⟩ := r4.tell0 (o := .lst ds) (u := .lst vs) hn2 hd4 (.lst (rd2.monoW w4)) (eu.trans e4) (by
          cases hH : H Dd with
          | none => rfl
          | some z =>
            by_cases hm : Dd ∈ ρ
            · exact absurd (by obtain ⟨mo, hmo⟩ := (eu.trans e4).pre; rw [hmo]; exact List.mem_append_left _ hm) hn2
            · have := eu.out Dd z hH hm
              rw [hDu] at this; cases this)
        have hw : KQ X.K L ρ H Q (.ref (itr.un hp2).length) (itr.un hp2 ++ [.lst ds]) := hw
        refine hw _ H4 _ e5 r5 (.ref ?_)
        rw [← r4.len, List.getElem?_append_right (Nat.le_refl _)]
        simp
      | some d =>
        obtain ⟨hgo, hy⟩ := ri.go j ρ2 H2 hp2 d e2 r2 en
        refine .inr ⟨hgo, _, fun H' w => ⟨m, Nat.lt_succ_self m, w⟩, fun v H3 y3 => ?_⟩
        obtain ⟨e3, r3, rdv⟩ := hy v H3 y3
        have re3 : RE X.K L ρ2 H3 (wipeE env own) (L2.wipe σ own) := ((re.wipe own).mono e1).mono (e2.trans e3)
        have hd3 : H3 Dd = some (.lst vs) := e3.out _ _ hd2 hn2
        refine ⟨ρ2, hp2, _, d, r3, re3, rdv, wTg_mono hm t d _ hp2 _ _ (fun env4 hp4 q4 => ?_) hw⟩
        intro ρ4 H4 σ4 e4 r4 re4 w4
        refine ⟨by rw [w4 own ht, wipe_idem], ?_⟩
        dsimp only [tYes]
        rw [if_pos rfl]
        refine ⟨ρ4, hp4, env4, r4, re4, wE_mono hm a env4 hp4 _ _ _ _ (fun x5 hp5 q5 => ?_) (fun _ _ _ z => False.elim z) q4⟩
        cases ei : itSq hp5 x5 with
        | none => simp only [ei] at q5
        | some it1 =>
          simp only [ei] at q5 ⊢
          obtain ⟨M, q5⟩ := q5
          intro ρ5 H5 J1 e5 r5 ri1
          have e35 := e4.trans e5
          have hd5 : H5 Dd = some (.lst vs) := e35.out _ _ hd3 hn2
          have hn5 := e35.notin hn2 hd3
          have re5 : RE X.K L ρ5 H5 env4 σ4 := re4.mono e5
          refine ⟨fun j1 m1 H' => ∃ ρ' hp' ds vs, Ext ρ1 H1 ρ' H' ∧ ExtW ρ5 H5 ρ' H' ∧ RelH X.K L ρ' hp' H' ∧ Dd ∉ ρ' ∧ H' Dd = some (.lst vs) ∧ RDs X.K L ρ' H' ds vs ∧ lcLoop it1.nx (body1 env4) m1 j1 ds hp' (fun acc' hp' => acLoop itr.nx body m (j + 1) acc' hp' fk),
            ⟨M, ρ5, hp5, ds, vs, (e2.trans e3).trans e35, ⟨⟨[], by simp⟩, fun _ _ h _ => h⟩, r5, hn5, hd5, rd2.mono (e3.trans e35), q5⟩, fun j1 m1 H6 hw6 => ?_⟩
          obtain ⟨ρ6, hp6, ds6, vs6, e6, w6, r6, hn6, hd6, rd6, hw6⟩ := hw6
          cases m1 with
          | zero => exact False.elim hw6
          | succ m1 =>
            unfold lcLoop at hw6
            cases en1 : it1.nx j1 hp6 with
            | none => rw [en1] at hw6; exact False.elim hw6
            | some o1 =>
              rw [en1] at hw6
              cases o1 with
              | none => exact .inl ⟨ri1.stop j1 ρ6 H6 hp6 w6 r6 en1, ρ6, hp6, ds6, vs6, e6, r6, hn6, hd6, rd6, hw6⟩
              | some d1 =>
                obtain ⟨hgo1, hy1⟩ := ri1.go j1 ρ6 H6 hp6 d1 w6 r6 en1
                refine .inr ⟨hgo1, _, fun H' w => ⟨m1, Nat.lt_succ_self m1, w⟩, fun v7 H7 y7 => ?_⟩
                obtain ⟨rfl, rdv7⟩ := hy1 v7 H7 y7
                have re7 : RE X.K L ρ6 H7 (wipeE env4 own1) (L2.wipe σ4 own1) := (re5.wipe own1).monoW w6
                refine ⟨ρ6, hp6, _, d1, r6, re7, rdv7, wTg_mono hm t1 d1 _ hp6 _ _ (fun env8 hp8 q8 => ?_) hw6⟩
                intro ρ8 H8 σ8 e8 r8 re8 w8
                refine ⟨by rw [w8 own1 ht1, wipe_idem], ?_⟩
                dsimp only [tYes]
                rw [if_pos trivial]
                refine ⟨ρ8, hp8, env8, r8, re8, wE_mono hm e env8 hp8 _ _ _ _ (fun y hp9 q9 => ?_) (fun _ _ _ z => False.elim z) q8⟩
                intro ρ9 H9 v9 e9 r9 rd9
                obtain ⟨hl, q9⟩ := q9
                have e69 := e8.trans e9
                have hd9 : H9 Dd = some (.lst vs6) := e69.out _ _ hd6 hn6
                have hn9 := e69.notin hn6 hd6
                obtain ⟨rA, wA⟩ := r9.side0 (u := .lst (vs6 ++ [v9])) hn9 hd9 (fun z => by cases z)
                exact ⟨vs6, hd9, by rw [← sz_line, ← rd6.len]; exact hl, ρ9, hp9, ds6 ++ [y], vs6 ++ [v9], (e6.trans e69).side0 hD, ((w6.trans e69.w).trans wA), rA, hn9, upd_same, ((rd6.mono e69).app (.one rd9)).monoW wA, q9⟩
variable {x tg elt tg1 iter1 : Expr} {scope : Scope} {pos : Pos}
theorem s_lc2 (hm : ClMono cl) {own own1 : List Nat} {ow : List (Str × Nat)} {t t1 : Tg} {it : Ix} {a e : Ex} (how : ow.map (·.2) = own) (hin : ∀ i ∈ own1, i ∈ own) (ht : tgIn own t = true) (ht1 : tgIn own1 t1 = true) (hc : X.calm = true) (hN : X.N.Nodup) (hi : PI X tg x (tI X.K L g cl W X.H_0 it)) (ok : BlkOk X.N X.env.scope scope ow)
    (hg : ∀ (s : Shared) (H : Hp) (C : Addr) (ce : List (Str × Addr)) (fp : List Addr), PG (X.blk s H scope (compEnvC scope ce C X.env) fp) tg (tG X.K L g cl t))
    (hg1 : ∀ (s : Shared) (H : Hp) (C : Addr) (ce : List (Str × Addr)) (fp : List Addr), PG (X.blk s H scope (compEnvC scope ce C X.env) fp) tg1 (tG X.K L g cl t1))
    (ha : ∀ (s : Shared) (H : Hp) (C : Addr) (ce : List (Str × Addr)) (fp : List Addr), PE (X.blk s H scope (compEnvC scope ce C X.env) fp) iter1 (tE X.K L g cl (fun _ _ _ _ => False) a))
    (he : ∀ (s : Shared) (H : Hp) (C : Addr) (ce : List (Str × Addr)) (fp : List Addr), PE (X.blk s H scope (compEnvC scope ce C X.env) fp) elt (tE X.K L g cl (fun _ _ _ _ => False) e)) (hs : ∀ z, foldedSetIterable x X.env z = pure z) (hs1 : ∀ env z, foldedSetIterable iter1 env z = pure z) :
    PE X (.ListComp elt [⟨tg, x, [], 0⟩, ⟨tg1, iter1, [], 0⟩] scope pos) (tE X.K L g cl W (.lc2 own own1 t it t1 a e)) :=
  PE.imp (pe_un (pe_lc2 (own := ow) (vs1 := own1) hc hN hi ok (by rw [how]; exact hin) hg (fun _ _ _ _ _ => pts_nil) (fun s H C ce fp => i_sq hm (ha s H C ce fp)) hg1 (fun _ _ _ _ _ => pts_nil) he hs hs1)) fun σ H Q h => by
    rw [how]
    exact lc2_imp hm ht ht1 h
/-! ### len by an own __len__ -/
def rLenD (K : PySem.W.Frag) (L : Lay) (g : Glob) (n m : Nat) : List V → Hp → VK → Prop := fun vs H Q => ∃ ρ hp d v, vs = [v] ∧ RelH K L ρ hp H ∧ RD K L ρ H d v ∧ match d with
    | .ref i => match gtI hp i with
      | some (c, _) => match g.meth c m with
        | some f => wCall g n f [.ref i] hp (fun v hp => match v with
          | .int n => (0 ≤ n ∧ n < 2 ^ 62) ∧ KQ K L ρ H Q (.int n) hp
          | _ => False) fun _ _ _ => False
        | none => False
      | none => (oBF .len [d] hp).app (KQ K L ρ H Q)
    | _ => (oBF .len [d] hp).app (KQ K L ρ H Q)
theorem takes_false : Takes X (fun _ _ _ _ => False) := fun u s' ⟨_, _, _, _, _, _, _, _, _, _, _, _, _, _, _, _, w⟩ => w.elim
theorem mi_lenD {S : Nm} {n m : Nat} (T : TF S g X.prog X.w X.K X.mg X.base L n) (hr : Room (2 * n + 3) X.A) (hc : X.calm = true) (hg : X.A.guards = some []) (hg1 : X.A.in1.guards = some []) (hu : X.A.units + 200 < cLine) (hf : S.mths[m]? = some "__len__") : CallR X (.builtin "len") (rLenD X.K L g n m) := by
  intro pins s σ H vs us Q I rv h
  obtain ⟨ρ, hp, d, v, rfl, r, q, h⟩ := h
  have plain : (oBF .len [d] hp).app (KQ X.K L ρ H Q) → wpAny (model X.prog X.w) X.A (call (.builtin "len") us) (EP X pins σ Q) X.xe s := fun h =>
    mi_bf (L := L) hc hg hu .len pins s σ H _ us Q I rv ⟨ρ, hp, [d], r, .cons q .nil, h⟩
  cases d with
  | ref i =>
    simp only at h
    cases e : gtI hp i with
    | none => simp only [e] at h; exact plain h
    | some cf =>
      obtain ⟨c, fs⟩ := cf
      simp only [e] at h
      cases e2 : g.meth c m with
      | none => simp only [e2] at h
      | some f =>
        simp only [e2] at h
        cases q with
        | @ref _ pa hs =>
          obtain ⟨u, rfl, ru⟩ := vals1 rv
          obtain rfl : u = Value.ref pa := ru
          obtain ⟨C, dx, vs, g1, g2, g3⟩ := r.ins hs e
          obtain ⟨fa, f1, hmeth⟩ := T.mth c C m "__len__" f g1 hf e2
          obtain ⟨fd, ps, hb, _, F⟩ := T.call f fa f1
          obtain ⟨mA, J, _⟩ := ins_get I.hok g2
          obtain ⟨od, J, _⟩ := J.look
          obtain ⟨mm, hF⟩ := I.fr
          refine PySem.W.len_K hF I.ok.mod.kin J hmeth.at_ hmeth.fn ?_
          have hsp : spI X.K L g n f [.ref pa] H (fun v H' => ∃ k : Int, v = .int k ∧ (0 ≤ k ∧ k < 2 ^ 62) ∧ Q (.int k) H') (fun _ _ _ => False) := by
            refine ⟨ρ, hp, [.ref i], r, .cons (.ref hs) .nil, wCall_mono g n f _ hp _ _ _ _ (fun d hp' z => ?_) (fun _ _ _ z => False.elim z) h⟩
            intro ρ' H' v' e' r' rd'
            cases rd' with
            | int k =>
              obtain ⟨z1, z2⟩ := z
              exact ⟨k, rfl, z1, z2 ρ' H' _ e' r' (.int k)⟩
            | _ => exact False.elim z
          have e0 : Env0 X.prog X.w X.K X.mg X.base X.A.in1 X.stack s H := by
            have e := I.env0
            exact ⟨e.frames, e.mod, e.bs, e.bsz, e.funs, e.frf, e.hok, e.bare⟩
          have hl := F.len _ _ _ _ hsp
          have r2 : Vals [V.ref pa] [Value.ref pa] := .cons rfl .nil
          have hb2 : BindsTo s fd ⟨[Value.ref pa], []⟩ (ps.zip [Value.ref pa]) := by
            have := hb s [Value.ref pa] I.kIn (by simpa using hl)
            simpa using this
          refine wpAny_call (codeAny_mono (F.run X.A.in1 X.stack s H ⟨[.ref pa], []⟩ [.ref pa] [.ref pa] _ _ hr.in1 hg1 e0 hb2 r2 hsp) fun rr s' hq => ?_)
          cases rr with
          | error e => exact takes_false e s' (XE.of_call I (fun cls d H' h => h) hq)
          | ok fl =>
            cases fl with
            | ret u =>
              obtain ⟨v', H', I', rv', k, rfl, ⟨k1, k2⟩, qq⟩ := I.after hq
              obtain ⟨t, rfl⟩ := rv'
              exact ⟨⟨k1, by omega⟩, .int k, H', I'.tok _, ⟨_, rfl⟩, qq⟩
            | next => exact False.elim hq
            | brk => exact False.elim hq
            | cont => exact False.elim hq
  | _ => exact plain h
theorem s_lenD {S : Nm} {n m : Nat} {a : Ex} {x : Expr} {p pos : Pos} (T : TF S g X.prog X.w X.K X.mg X.base L n) (hr : Room (2 * n + 3) X.A) (hc : X.calm = true) (hg : X.A.guards = some []) (hg1 : X.A.in1.guards = some []) (hu : X.A.units + 200 < cLine) (hf : S.mths[m]? = some "__len__") (hgl : Gl X "len") (hmg : X.mg "len" = none)
    (ha : PE X x (tE X.K L g (wCall g n) W a)) (hst : isSub x = false) : PE X (.Call (.Name "len" p) [x] [] pos) (tE X.K L g (wCall g n) W (.lenD a m)) := by
  have he : starEach [x] X.env = (false, eval x X.env) :: starEach [] X.env := by cases x <;> first | rfl | cases hst
  have hm := wCall_mono g n
  have imp : ∀ σ H Q, tE X.K L g (wCall g n) W (.lenD a m) σ H Q → tCB (rLenD X.K L g n m) (tEs X.K L g (wCall g n) W (.cons a .nil)) σ H Q := fun σ H Q ⟨ρ, hp, env, r, re, h⟩ => by
    unfold wE at h
    refine ⟨ρ, hp, env, r, re, ?_⟩
    show wE g (wCall g n) a env hp _ _
    refine wE_mono hm a env hp _ _ _ _ (fun d1 hp1 q1 => ?_) (fun _ _ _ z => z) h
    intro ρ1 H1 vs e1 r1 dsr
    cases dsr with
    | @cons _ v1 _ _ d1r t =>
      cases t
      refine ⟨ρ1, hp1, d1, v1, rfl, r1, d1r, ?_⟩
      have pl : (oBF .len [d1] hp1).app (KQ X.K L ρ H Q) → (oBF .len [d1] hp1).app (KQ X.K L ρ1 H1 Q) := OutD.mono fun _ _ k => k.ext e1
      cases d1 with
      | ref i =>
        simp only at q1 ⊢
        cases e : gtI hp1 i with
        | none => simp only [e] at q1; exact pl q1
        | some cf =>
          obtain ⟨c, fs⟩ := cf
          simp only [e] at q1
          cases e2 : g.meth c m with
          | none => simp only [e2] at q1
          | some f =>
            simp only [e2] at q1 ⊢
            refine hm _ _ _ _ _ _ _ (fun v h2 q2 => ?_) (fun _ _ _ z => z) q1
            split at q2
            · exact ⟨q2.1, q2.2.ext e1⟩
            · exact False.elim q2
      | _ => exact pl q1
  exact PE.imp (pe_callB (mi_lenD T hr hc hg hg1 hu hf) hgl hmg PySem.boot_len (sa_cons hm ha sa_nil he) (by decide) (by decide) he rfl) imp
end
end MI
set_option maxHeartbeats 1000000
/-! MI, part 16: what the check says of a tree. -/
namespace MI
open PySem PySem.Spec PyProof.Rows L2

/-! ### forms -/
theorem chk_sub {c : Ck} {e : Ex} {x : Expr} (h : chkE c e x = true) : isSub x = false := by
  cases x <;> first | rfl | skip
  all_goals
    cases e <;> first
      | cases h
      | (unfold chkE at h
         split at h <;> first | rfl | contradiction | (cases h; done))
theorem chk_tst {c : Ck} {e : Ex} {x : Expr} (h : chkE c e x = true) (k : tstK e = false) : tstX x = false := by
  cases e <;> first | cases k | skip
  all_goals
    first
      | cases h
      | (unfold chkE at h
         split at h <;> first | rfl | cases h)
theorem isTrue_of {x : Expr} {env : PySem.Env} (h : tstX x = false) : ∀ whole, isTrue x env whole = (do let v ← whole; standAt x.pos; holding [v] (truthy v)) := by
  intro whole
  cases x <;> first | rfl | cases h | skip
  rename_i op y p
  cases op <;> first | rfl | cases h
theorem star_of {x : Expr} {xs : List Expr} {env : PySem.Env} (h : isSub x = false) : starEach (x :: xs) env = (false, eval x env) :: starEach xs env := by
  cases x <;> first | rfl | cases h
theorem marks_of {op : CmpOp} {x : Expr} (h : isSub x = false) : behindInMarks op x = false := by
  cases x <;> first | rfl | cases h
theorem plain_of {x : Expr} (h : isSub x = false) : PlainIx x := by
  intro o i
  cases x <;> first | rfl | cases h
theorem fold_of {x : Expr} {env : PySem.Env} (h : isSub x = false) : ∀ z, foldedSetIterable x env z = pure z := by
  intro z
  cases x <;> first | rfl | cases h
theorem swap_of {x : Expr} {tg : Option Expr} {l : Nat} {env : PySem.Env} (h : noComp x = true) : swapsWith x tg l env = pure false := by
  cases x <;> first | rfl | cases h
theorem chks_sub {c : Ck} : ∀ {es : Exs} {xs : List Expr}, chkEs c es xs = true → ∀ x ∈ xs, isSub x = false
  | .nil, [], _, x, hx => by cases hx
  | .nil, _ :: _, h, _, _ => by cases h
  | .cons e r, [], h, _, _ => by cases h
  | .cons e r, y :: ys, h, x, hx => by
    have h : (chkE c e y && chkEs c r ys) = true := h
    rw [Bool.and_eq_true] at h
    rcases List.mem_cons.mp hx with q | q
    · subst q; exact chk_sub h.1
    · exact chks_sub h.2 x q
theorem chks_len {c : Ck} : ∀ {es : Exs} {xs : List Expr}, chkEs c es xs = true → es.len = xs.length
  | .nil, [], _ => rfl
  | .nil, _ :: _, h => by cases h
  | .cons e r, [], h => by cases h
  | .cons e r, y :: ys, h => by
    have h : (chkE c e y && chkEs c r ys) = true := h
    rw [Bool.and_eq_true] at h
    show r.len + 1 = ys.length + 1
    rw [chks_len h.2]
theorem any_of {pos : Pos} {env : PySem.Env} : ∀ {xs : List Expr}, (∀ x ∈ xs, isSub x = false) → (backTo pos (starEach xs env)).any (·.1) = false
  | [], _ => rfl
  | x :: xs, h => by
    rw [star_of (h x List.mem_cons_self)]
    show (false || (backTo pos (starEach xs env)).any (·.1)) = false
    rw [any_of fun y hy => h y (List.mem_cons_of_mem _ hy)]
    rfl
theorem all_of {pos : Pos} {env : PySem.Env} : ∀ {xs : List Expr}, (∀ x ∈ xs, isSub x = false) → (backTo pos (starEach xs env)).all (fun x => !x.1) = true
  | [], _ => rfl
  | x :: xs, h => by
    rw [star_of (h x List.mem_cons_self)]
    show (true && (backTo pos (starEach xs env)).all (fun x => !x.1)) = true
    rw [all_of fun y hy => h y (List.mem_cons_of_mem _ hy)]
    rfl
theorem few_of {pos : Pos} {env : PySem.Env} {xs : List Expr} (h : ∀ x ∈ xs, isSub x = false) (hl : xs.length ≤ 20) : ((backTo pos (starEach xs env)).all (fun x => !x.1) && (backToKw pos (keywordEach [] env)).all (fun x => x.1.isSome)
      && decide (xs.length + ([] : List Keyword).length + (if ([] : List Keyword).isEmpty then 0 else 1) < 30)) = true := by
  rw [all_of h]
  show (true && true && decide (xs.length + 0 + (if true = true then 0 else 1) < 30)) = true
  rw [if_pos rfl]
  simp
  omega
theorem form_of {pos : Pos} {env : PySem.Env} {xs : List Expr} (h : ∀ x ∈ xs, isSub x = false) (hl : xs.length ≤ 20) : methodCallForm (xs.length + ([] : List Keyword).length) (backTo pos (starEach xs env)) (backToKw pos (keywordEach [] env)) = true := few_of h hl
theorem shape_of {X : Cx} {pos : Pos} {xs : List Expr} (h : ∀ x ∈ xs, isSub x = false) : Shape X pos xs := by
  cases xs with
  | nil => exact .inl rfl
  | cons y ys => exact .inr ⟨y, ys, rfl, star_of (h y List.mem_cons_self), any_of fun x hx => h x (List.mem_cons_of_mem _ hx)⟩
theorem dis_form {c : Ck} : ∀ {es : Exs} {ks : List (Option Expr)} {vs : List Expr}, chkDi c es ks vs = true → evenX es = true ∧ ks.length = vs.length ∧ ks.all (·.isSome) = true ∧ es.len = 2 * ks.length
  | .nil, ks, vs, h => by
    unfold chkDi at h
    split at h
    · exact ⟨rfl, rfl, rfl, rfl⟩
    · cases h
  | .cons e .nil, ks, vs, h => by cases h
  | .cons e (.cons e' r), ks, vs, h => by
    unfold chkDi at h
    simp only at h
    split at h
    · simp only [Bool.and_eq_true] at h
      obtain ⟨f1, f2, f3, f4⟩ := dis_form h.2
      refine ⟨f1, by simp [f2], by simpa using f3, ?_⟩
      show r.len + 1 + 1 = 2 * (_ + 1)
      rw [f4]
      omega
    · cases h
theorem chkk_sub {c : Ck} : ∀ {es : Exs} {xs : List Expr} {ks : List Keyword}, chkEk c es xs ks = true → (∀ x ∈ xs, isSub x = false) ∧ es.len = xs.length + ks.length
  | .nil, xs, ks, h => by
    unfold chkEk at h
    split at h
    · exact ⟨fun x hx => (nomatch hx), rfl⟩
    · cases h
  | .cons e r, [], [], h => by cases h
  | .cons e r, [], k :: ks, h => by
    have h : (chkE c e k.value && chkEk c r [] ks) = true := h
    rw [Bool.and_eq_true] at h
    obtain ⟨_, h2⟩ := chkk_sub h.2
    refine ⟨fun x hx => (nomatch hx), ?_⟩
    show r.len + 1 = _
    rw [h2, List.length_cons]
    simp
  | .cons e r, y :: ys, ks, h => by
    have h : (chkE c e y && chkEk c r ys ks) = true := h
    rw [Bool.and_eq_true] at h
    obtain ⟨h1, h2⟩ := chkk_sub h.2
    refine ⟨fun x hx => ?_, ?_⟩
    · rcases List.mem_cons.mp hx with q | q
      · subst q; exact chk_sub h.1
      · exact h1 x q
    · show r.len + 1 = _
      rw [h2, List.length_cons]
      omega
theorem kws_form {pos : Pos} {env : PySem.Env} : ∀ {ks : List Keyword}, ks.all (fun z => z.arg.isSome) = true → (backToKw pos (keywordEach ks env)).all (·.1.isSome) = true ∧ (backToKw pos (keywordEach ks env)).any (·.1.isNone) = false ∧ (backToKw pos (keywordEach ks env)).filterMap (·.1) = kwNames ks ∧ (kwNames ks).length = ks.length
  | [], _ => ⟨rfl, rfl, rfl, rfl⟩
  | k :: ks, h => by
    rw [List.all_cons, Bool.and_eq_true] at h
    obtain ⟨h1, h2, h3, h4⟩ := kws_form (pos := pos) (env := env) h.2
    obtain ⟨kn, kv, kp⟩ := k
    cases kn with
    | none => cases h.1
    | some nm =>
      refine ⟨?_, ?_, ?_, ?_⟩
      · show (true && (backToKw pos (keywordEach ks env)).all (·.1.isSome)) = true
        rw [h1]; rfl
      · show (false || (backToKw pos (keywordEach ks env)).any (·.1.isNone)) = false
        rw [h2]; rfl
      · show nm :: (backToKw pos (keywordEach ks env)).filterMap (·.1) = nm :: kwNames ks
        rw [h3]
      · show (kwNames ks).length + 1 = ks.length + 1
        rw [h4]
theorem kform_of {pos : Pos} {env : PySem.Env} {xs : List Expr} {k : Keyword} {ks : List Keyword} (h : ∀ x ∈ xs, isSub x = false) (h2 : (backToKw pos (keywordEach (k :: ks) env)).all (·.1.isSome) = true) (hl : xs.length + (k :: ks).length ≤ 20) :
    methodCallForm (xs.length + (k :: ks).length) (backTo pos (starEach xs env)) (backToKw pos (keywordEach (k :: ks) env)) = true := by
  have e : ∀ a b, methodCallForm (xs.length + (k :: ks).length) a b = (a.all (fun x => !x.1) && b.all (fun x => x.1.isSome) && decide (xs.length + (k :: ks).length + (if b.isEmpty then 0 else 1) < 30)) := fun a b => rfl
  rw [e, all_of h, h2]
  have q : (if (backToKw pos (keywordEach (k :: ks) env)).isEmpty = true then 0 else 1) ≤ 1 := by split <;> decide
  generalize (if (backToKw pos (keywordEach (k :: ks) env)).isEmpty = true then 0 else 1) = z at q ⊢
  rw [decide_eq_true (show xs.length + (k :: ks).length + z < 30 by omega)]
  rfl
/-! ### targets' forms -/
theorem tgs_form {c : Ck} {env : PySem.Env} : ∀ {ts : Tgs} {xs : List Expr}, chkTgs c ts xs = true → (assignEach xs env).length = ts.len ∧ (assignEach xs env).findIdx? (·.1) = none
  | .nil, [], _ => ⟨rfl, rfl⟩
  | .nil, _ :: _, h => by cases h
  | .cons t r, [], h => by cases h
  | .cons t r, y :: ys, h => by
    have h : (chkTg c t y && chkTgs c r ys) = true := h
    rw [Bool.and_eq_true] at h
    have e : assignEach (y :: ys) env = (false, assign y env) :: assignEach ys env := by
      have h1 := h.1
      cases y <;> first
        | rfl
        | (cases t <;> cases h1)
    obtain ⟨a, b⟩ := tgs_form (env := env) h.2
    rw [e]
    refine ⟨?_, ?_⟩
    · show (assignEach ys env).length + 1 = r.len + 1
      rw [a]
    · rw [List.findIdx?_cons, b]
      rfl
theorem tg_ae {c : Ck} {t : Tg} {y : Expr} {ys : List Expr} {env : PySem.Env} (h : chkTg c t y = true) : (assignEach (y :: ys) env).map (·.2) = assign y env :: (assignEach ys env).map (·.2) := by
  cases y <;> first
    | rfl
    | (cases t <;> cases h)
/-! ### chains as tests -/
theorem cmp_isb {o : COp} {d1 d2 : D} {hp : Hq} {Q' : QD} (h : (oCmp o d1 d2 hp).app Q') : (oCmp o d1 d2 hp).app fun d h => (∃ t, d = .bl t) ∧ Q' d h := by
  have vb : ∀ {ob : OutB} {neg : Bool} {d : D} {h' : Hq}, ob.val neg hp = .ok d h' → ∃ t, d = .bl t := by
    intro ob neg d h' e
    cases ob <;> cases e
    exact ⟨_, rfl⟩
  have vc : ∀ {ob : OutB} {neg : Bool} {d : D} {h' : Hq} {C : Prop}, ob.val neg hp = .cd C d h' → ∃ t, d = .bl t := by
    intro ob neg d h' C e
    cases ob <;> cases e
    exact ⟨_, rfl⟩
  cases e : oCmp o d1 d2 hp with
  | no => rw [e] at h; exact h
  | ok d h' =>
    rw [e] at h
    refine ⟨?_, h⟩
    cases o <;> first
      | exact vb e
      | (cases d1 <;> cases d2 <;> first | (cases e; exact ⟨_, rfl⟩) | cases e)
  | cd C d h' =>
    rw [e] at h
    refine ⟨h.1, ?_, h.2⟩
    cases o <;> first
      | exact vc e
      | (cases d1 <;> cases d2 <;> cases e)
section
variable {X : Cx} {L : Lay} {g : Glob} {cl : Cl} {W : WX} {x y z : Expr} {a b c : Ex} {pos : Pos}
theorem t_cmp2 (hm : ClMono cl) (hu : X.A.units + 65 < cLine) {o p : COp} (ha : PE X x (tE X.K L g cl W a)) (hb : PE X y (tE X.K L g cl W b)) (hc : PE X z (tE X.K L g cl W c)) (hmk : lastMarks [copOf o, copOf p] [y, z] = false) :
    PT X (.Compare x [copOf o, copOf p] [y, z] pos) (tT X.K L g cl W (.cmp2 o p a b c)) :=
  PT.imp (pt_chain (mi_cmp (L := L) hu o) (mi_cmp (L := L) hu p) ha hb hc hmk) fun σ H Q ⟨ρ, hp, env, r, re, h⟩ => by
    unfold wE at h
    refine seq2 (b := b) hm (R := fun v1 v2 H2 => rMI X.K L (oCmp o) v1 v2 H2 fun z H3 => ∃ k, z = .bl k ∧ if k = true then tE X.K L g cl W c σ H3 fun w' H4 => rMI X.K L (oCmp p) v2 w' H4 fun x H' => ∃ k, x = .bl k ∧ Q k H' else (∃ k, V.bl false = .bl k ∧ Q k H3)) r re h fun ρ2 hp2 H2 d1 d2 v1 v2 e r2 q1 q2 q => ⟨ρ2, hp2, d1, d2, r2, q1, q2, OutD.mono (fun d3 hp3 k => ?_) q⟩
    intro ρ3 H3 v3 e3 r3 d3r
    cases d3r with
    | bl t =>
      refine ⟨t, rfl, ?_⟩
      cases t with
      | true =>
        rw [if_pos rfl]
        refine ⟨ρ3, hp3, env, r3, (re.mono e).mono e3, wE_mono hm c env hp3 _ _ _ _ (fun d4 hp4 q4 => ?_) (fun _ _ _ z => z.ext (e.trans e3)) k⟩
        intro ρ4 H4 v4 e4 r4 d4r
        refine ⟨ρ4, hp4, d2, d4, r4, (q2.mono e3).mono e4, d4r, OutD.mono (fun d5 hp5 k5 => ?_) (cmp_isb q4)⟩
        obtain ⟨⟨t, rfl⟩, k5⟩ := k5
        intro ρ5 H5 v5 e5 r5 d5r
        cases d5r
        exact ⟨t, rfl, k5 _ _ (((e.trans e3).trans e4).trans e5) r5⟩
      | false =>
        rw [if_neg Bool.false_ne_true]
        exact ⟨false, rfl, k _ _ (e.trans e3) r3⟩
    | _ => exact False.elim k
theorem e_bool1 {op : BoolOp} {t : TE} (h : PE X x t) : PE X (.BoolOp op [x] pos) t := ⟨fun pins s σ H Q I q => by
  have e : eval (.BoolOp op [x] pos) X.env = eval x X.env := by cases op <;> rfl
  rw [e]
  exact h.run pins s σ H Q I q⟩
end
end MI
set_option maxHeartbeats 4000000
/-! MI, exceptions 5: isinstance of a kept exception, its field. -/
namespace MI
open PySem PySem.Spec PySem.Calls PyProof.Rows L2
section
variable {prog : Program} {w : World} {A : Around} {E : Value → Shared → Prop} {s : Shared} {K : PySem.W.Frag} {a D : Addr} {ob dob : Obj}
/-- the class of an exception that has a dict, asked by name -/
theorem ask_class {Q : Option Value → Shared → Prop} (c : ExcC K D) (KI : K.In s.heap) (J : PySem.W.InstAt s.heap a ob D (some dob)) (h : Q (some (.ref D)) { s with toks := s.toks + 1 }) : wpAny (model prog w) A (getAttr? (.ref a) "__class__") Q E s := by
  have isC : (PySem.W.clsIn K D).isSome = true := by
    obtain ⟨cd, hcd, _⟩ := PySem.W.any_some c.hd
    rw [hcd]
    rfl
  have found := PySem.W.findObj_data (od := dob) isC c.ha c.hn c.ht
  obtain ⟨heap, gens, drawn, tok, os⟩ := s
  have T0 := J.type (M := model prog w)
  have T1 := PySem.W.looks_findIn (M := model prog w) KI c.hg
  have T2 := PySem.W.looks_findIn (M := model prog w) KI c.hk
  have T3 := PySem.W.looks_find (M := model prog w) KI J found
  have T4 : PySem.W.Looks (model prog w) heap (isInstance (.ref a) (.type "BaseException")) true := T0.andThen (PySem.W.looks_subIn KI c.hs)
  have z0 : (false && onTheHeap (Value.builtin "BaseException.__getattribute__")) = false := rfl
  have z1 : (onTheHeap (Value.ref D) && Value.builtin "BaseException.__getattribute__" == Value.builtin "object.__getattribute__") = false := by
    have : (Value.builtin "BaseException.__getattribute__" == Value.builtin "object.__getattribute__") = false := by decide +kernel
    rw [this]
    rfl
  unfold getAttr? getAttrBy? getAttrBy
  refine wpAny_bind (wpAny_mkText ?_)
  refine wpAny_bind (wpAny_attempt (wpAny_holding (wpAny_bind (T0.at (wpAny_bind (T1.at ?_))))))
  show wpAny _ _ (if (onTheHeap (Value.ref D) && (Value.builtin "BaseException.__getattribute__") == Value.builtin "object.__getattribute__") = true then _ else _) _ _ _
  rw [z1]
  rw [if_neg Bool.false_ne_true]
  unfold getAttrByItsOwn hookBefore
  refine wpAny_bind ?_
  have onH : onTheHeap (Value.ref D) = true := rfl
  rw [if_pos onH]
  refine T2.at ?_
  refine wpAny_bind (wpAny_attempt (wpAny_holding ?_))
  unfold callGetattribute
  rw [z0]
  rw [if_neg Bool.false_ne_true]
  unfold boundAndCalled
  have gb := PySem.F.excAttr_ValueError.ga.bind (.ref a)
  rw [gb]
  refine wpAny_bind (wpAny_pure ?_)
  show wpAny _ _ (call (.builtin "BaseException.__getattribute__") [.ref a, .str "__class__" tok]) _ _ _
  refine wpAny_call (codeAny_call_builtin PySem.F.excAttr_ValueError.ga.plain PySem.F.entry_bexc_ga ?_)
  refine @PySem.W.check_slot (model prog w) _ _ ⟨heap, gens, drawn, tok + 1, os⟩ "BaseException.__getattribute__" "BaseException" "__getattribute__" (.ref a) [.str "__class__" tok] [] _ (by decide +kernel) (by decide +kernel) T4 (PySem.F.args_bexc_ga (.ref a) (.str "__class__" tok)) ?_
  unfold Builtin.«object.__getattribute__»
  refine wpAny_bind (wpAny_of_eq (a := ((Value.ref a : Value), [Value.str "__class__" tok])) (by first | rfl | (simp only [slotArgs]; rfl)) ?_)
  refine wpAny_bind (wpAny_pure (wpAny_bind (T0.at (wpAny_bind (T3.at ?_)))))
  show wpAny _ _ (holding [Value.builtin "object.__class__"] (call (.builtin "getset_descriptor.__get__") [Value.builtin "object.__class__", Value.ref a, Value.ref D]) >>= ret) _ _ _
  refine wpAny_bind (wpAny_holding (wpAny_call (PySem.W.class_get (s := ⟨heap, gens, drawn, tok + 1, os⟩) (ox := ob) (od := some dob) KI J c.hm ?_)))
  refine wpAny_pure ?_
  show wpAny _ _ (handedOut (.ref D)) _ _ _
  have ho : handedOut (Value.ref D) = pure (Value.ref D) := PySem.W.handedOut_of (v := .ref D) rfl
  rw [ho]
  first
    | exact wpAny_pure (wpAny_pure h)
    | exact wpAny_pure h
    | exact wpAny_pure (wpAny_bind (wpAny_pure (wpAny_pure h)))
theorem kit_kept (c : ExcC K D) : PySem.W.KitX K (.ref a) (.ref D) (fun h => ∃ ob dob, PySem.W.InstAt h a ob D (some dob)) where
  ty := fun M h KI ⟨_, _, J⟩ => J.type
  it := fun M h KI _ => by
    obtain ⟨cd, hcd, _⟩ := PySem.W.any_some c.hd
    unfold PySem.W.clsIn at hcd
    split at hcd
    · rename_i q1 q2 q3 q4 ho
      intro A2 Q2 E2 s2 k2 q
      unfold isType loadHead
      exact wpAny_bind (wpAny_loadPart (k2 _ _ (KI _ _ ho)) (wpAny_pure q))
    · cases hcd
  ne := fun h tp dd its n sl KI htp => by
    obtain ⟨cd, hcd, _⟩ := PySem.W.any_some c.hd
    unfold PySem.W.clsIn at hcd
    refine Bool.eq_false_iff.mpr fun q => ?_
    have e : D = tp := Value.ref.inj (beq_iff_eq.mp q)
    subst e
    split at hcd
    · rename_i q1 q2 q3 q4 ho
      have z := (KI _ _ ho).symm.trans htp
      cases z
    · cases hcd
  ca := fun KI ⟨_, _, J⟩ k => ask_class c KI J k
end
end MI
set_option maxHeartbeats 4000000
/-! MI, exceptions 6: the rules for the small language's own things. -/
namespace MI
open PySem PySem.Spec PySem.Calls PyProof.Rows L2
section
variable {K : PySem.W.Frag} {L : Lay} {ρ : List Addr} {H : Hp} {hp : Hq}
theorem RelH.xob {i c j : Nat} {a : Addr} (r : RelH K L ρ hp H) (ha : ρ[i]? = some a) (h : gtX hp i = some (c, j)) : ∃ C d, H a = some (kx a C d) ∧ L.exs[c]? = some C ∧ ρ[j]? = some d := by
  obtain ⟨o, u, h1, h2, h3⟩ := r.at2 ha
  unfold gtX at h
  rw [h1] at h
  cases h3 with
  | @xob c' me j' a' C d q1 q2 q3 =>
    simp only at h
    by_cases e : me = i
    · rw [if_pos e] at h
      cases h
      subst e
      rw [ha] at q1
      cases q1
      exact ⟨C, d, h2, q2, q3⟩
    · rw [if_neg e] at h
      cases h
  | _ => cases h
theorem RelH.xo0 {i c : Nat} {a : Addr} (r : RelH K L ρ hp H) (ha : ρ[i]? = some a) (h : gtX0 hp i = some c) : ∃ C, H a = some (kx0 a C) ∧ L.exs[c]? = some C := by
  obtain ⟨o, u, h1, h2, h3⟩ := r.at2 ha
  unfold gtX0 at h
  rw [h1] at h
  cases h3 with
  | @xo0 c' me a' C q1 q2 =>
    simp only at h
    by_cases e : me = i
    · rw [if_pos e] at h
      cases h
      subst e
      rw [ha] at q1
      cases q1
      exact ⟨C, h2, q2⟩
    · rw [if_neg e] at h
      cases h
  | _ => cases h
theorem RelH.xdd {j c : Nat} {d : Addr} {fs : List (Nat × D)} (r : RelH K L ρ hp H) (hd : ρ[j]? = some d) (h : hp[j]? = some (.xd c fs)) : ∃ vs, H d = some (.xd vs) ∧ RFs K L ρ H fs vs := by
  obtain ⟨o, u, h1, h2, h3⟩ := r.at2 hd
  rw [h] at h1
  cases h1
  cases h3 with
  | xd q => exact ⟨_, h2, q⟩
end
section
variable {X : Cx} {pins : List (Addr × Obj)} {σ : L2.St} {H : Hp} {s : Shared} {a C d : Addr} {vs : List (Str × V)}
theorem inst_kept (I : Inv X pins σ H s) (ha : H a = some (kx a C d)) (hd : H d = some (.xd vs)) : ∃ (ob dob : Obj) (mA : Str → Option Value), PySem.W.InstAt s.heap a ob C (some dob) ∧ (∀ name, PySem.W.lookIn name dob = some (mA name)) ∧ ∀ f, RelO (vs.lookup f) (mA f) := by
  obtain ⟨ob, ws, e1, e2, e3⟩ := kx_at I.hok ha
  have y : ObjOk X.prog X.w H s.heap d (.xd vs) := I.hok d _ hd
  obtain ⟨mA, hns, hr⟩ := y
  obtain ⟨dob, ho, hl⟩ := lookIn_ns hns
  refine ⟨ob, dob, mA, ⟨e1, e2.1, ?_, ?_⟩, hl, hr⟩
  · unfold PySem.W.notCls
    rw [e3] <;> rfl
  · rw [e2.2]
    exact ho
end
theorem inst_kept0 {X : Cx} {pins : List (Addr × Obj)} {σ : L2.St} {H : Hp} {s : Shared} {a C : Addr} (I : Inv X pins σ H s) (ha : H a = some (kx0 a C)) : ∃ (ob : Obj), PySem.W.InstAt s.heap a ob C none := by
  obtain ⟨ob, ws, e1, e2, e3⟩ := kx0_at I.hok ha
  refine ⟨ob, e1, e2.1, ?_, ?_⟩
  · unfold PySem.W.notCls
    rw [e3] <;> rfl
  · rw [e2.2]
    trivial
/-- isinstance(e, R), e kept -/
def rIsK (K : PySem.W.Frag) (rv : V) (u : Value) : List V → Hp → VK → Prop := fun xs H Q => ∃ (p C : Addr) (b : Bool), xs = [.ref p, rv] ∧ ((∃ (d : Addr) (vs : List (Str × V)), H p = some (kx p C d) ∧ H d = some (.xd vs)) ∨ H p = some (kx0 p C)) ∧ ExcC K C ∧ PySem.W.kitOne K (.ref C) u = some b ∧ Q (.bl b) H
/-- .. of a tuple -/
def rIsT (K : PySem.W.Frag) (rvs : List V) (us : List Value) : List V → Hp → VK → Prop := fun xs H Q => ∃ (p C t : Addr) (b : Bool), xs = [.ref p, .ref t] ∧ H t = some (.tup rvs) ∧ ((∃ (d : Addr) (vs : List (Str × V)), H p = some (kx p C d) ∧ H d = some (.xd vs)) ∨ H p = some (kx0 p C)) ∧ ExcC K C ∧ PySem.W.kitAny K (.ref C) us = some b ∧ Q (.bl b) H
section
variable {X : Cx} {rv : V} {u : Value} {rvs : List V} {us0 : List Value}
theorem call_isK (hu : ∀ u', RelV rv u' → u' = u) : CallR X (.builtin "isinstance") (rIsK X.K rv u) := by
  intro pins s σ H xs us Q I r h
  obtain ⟨p, C, b, rfl, h12, c, e, q⟩ := h
  cases r with
  | cons rx rr =>
    cases rr with
    | cons rt rr =>
      cases rr
      cases rx
      have et := hu _ rt
      subst et
      rcases h12 with ⟨d, vs, h1, h2⟩ | h1
      · obtain ⟨ob, dob, _, J, _⟩ := inst_kept I h1 h2
        exact PySem.W.kia_one (kit_kept c) I.kIn ⟨ob, dob, J⟩ e (fun z => nomatch z) fun tk => ⟨.bl b, H, I.kept (t' := tk) fun _ _ z => z, rfl, q⟩
      · obtain ⟨ob, J⟩ := inst_kept0 I h1
        exact PySem.W.kia_one (PySem.W.handS_kitx_exc c.hg c.hk c.hs c.hd c.ha c.hn c.ht c.hm) I.kIn J e (fun z => nomatch z) fun tk => ⟨.bl b, H, I.kept (t' := tk) fun _ _ z => z, rfl, q⟩
theorem call_isT (hu : ∀ its, Vals rvs its → its = us0) : CallR X (.builtin "isinstance") (rIsT X.K rvs us0) := by
  intro pins s σ H xs us Q I r h
  obtain ⟨p, C, t, b, rfl, ht, h12, c, e, q⟩ := h
  cases r with
  | cons rx rr =>
    cases rr with
    | cons rt rr =>
      cases rr
      cases rx
      cases rt
      have y : ObjOk X.prog X.w H s.heap t (.tup rvs) := I.hok t _ ht
      obtain ⟨_, its, ri, ot, et, ct, nn, dt⟩ := y
      have hi := hu its ri
      subst hi
      obtain ⟨oc, od, oda, osl⟩ := ot
      have ct : oc = .type "tuple" := ct
      have dt : oda = _ := dt
      subst ct dt
      rcases h12 with ⟨d, vs, h1, h2⟩ | h1
      · obtain ⟨ob, dob, _, J, _⟩ := inst_kept I h1 h2
        exact PySem.W.kia_tup (kit_kept c) I.kIn ⟨ob, dob, J⟩ et e (fun z => nomatch z) fun tk => ⟨.bl b, H, I.kept (t' := tk) fun _ _ z => z, rfl, q⟩
      · obtain ⟨ob, J⟩ := inst_kept0 I h1
        exact PySem.W.kia_tup (PySem.W.handS_kitx_exc c.hg c.hk c.hs c.hd c.ha c.hn c.ht c.hm) I.kIn J et e (fun z => nomatch z) fun tk => ⟨.bl b, H, I.kept (t' := tk) fun _ _ z => z, rfl, q⟩
end
theorem kitAny_cons {K : PySem.W.Frag} {t c : Value} {cs : List Value} {b b2 : Bool} (h : PySem.W.kitOne K t c = some b) (h2 : PySem.W.kitAny K t cs = some b2) : PySem.W.kitAny K t (c :: cs) = some (b || b2) := by
  unfold PySem.W.kitAny
  rw [h]
  cases b with
  | true => rfl
  | false => exact h2
section
variable {S : Nm} {g : Glob} {L : Lay} {n : Nat} {X : Cx} {cl : Cl} {W : WX} {x y : Expr} {a : Ex} {p p2 p3 p4 pos : Pos} {bs bs1 bs2 bs3 : List Bool} {r1 r2 r3 : V} {u1 u2 u3 : Value} {z z2 z3 : Str}
theorem pe_gl (hg : Gl X z) (N : NamesV X.mg z r1 u1) (hdb : (z == ("__debug__" : Str)) = false) : PE X (.Name z p2) (tC r1) := ⟨fun pins s σ H Q I h => by
  rcases N.at_ with hm | ⟨hm, hv, hn⟩
  · exact ld_glob I hg hm ⟨r1, H, I, N.re, h⟩ hdb
  · exact ld_blt I hg hm hv ⟨r1, H, I, N.re, h⟩ hn hdb⟩
theorem s_isx (hm : ClMono cl) (T : TF S g X.prog X.w X.K X.mg X.base L n) (he : ExmAt X.K L u1 bs) (hgl : Gl X "isinstance") (hmg : X.mg "isinstance" = none) (hz : Gl X z) (N : NamesV X.mg z r1 u1) (hzd : (z == ("__debug__" : Str)) = false)
    (ha : PE X y (tE X.K L g cl W a)) (hst : isSub y = false) : PE X (.Call (.Name "isinstance" p) [y, .Name z p2] [] pos) (tE X.K L g cl W (.isx a bs)) := by
  have e1 : starEach [y, .Name z p2] X.env = (false, eval y X.env) :: starEach [.Name z p2] X.env := by cases y <;> first | rfl | cases hst
  have imp : ∀ σ H Q, tE X.K L g cl W (.isx a bs) σ H Q → tCB (rIsK X.K r1 u1) (tCons (tE X.K L g cl W a) (tCons (tC r1) tNil)) σ H Q := fun σ H Q ⟨ρ, hp, env, r, re, h⟩ => by
    unfold wE at h
    refine ⟨ρ, hp, env, r, re, wE_mono hm a env hp _ _ _ _ (fun d1 hp1 q1 => ?_) (fun _ _ _ z => z) h⟩
    intro ρ1 H1 v1 x1 ra d1r
    cases d1r with
    | @ref i q hs =>
      unfold oIsX at q1
      cases e : gtX hp1 i with
      | none =>
        simp only [e] at q1
        cases e2 : gtX0 hp1 i with
        | none => simp only [e2] at q1; exact q1.elim
        | some c =>
          simp only [e2] at q1
          obtain ⟨C, k1, k2⟩ := ra.xo0 hs e2
          cases hb : bs[c]? with
          | none => simp only [hb] at q1; exact q1.elim
          | some b =>
            simp only [hb] at q1
            exact ⟨q, C, b, rfl, .inr k1, (T.exf c C k2).c, (he c C b k2 hb).2, q1 ρ1 H1 _ x1 ra (.bl b)⟩
      | some cj =>
        obtain ⟨c, j⟩ := cj
        simp only [e] at q1
        obtain ⟨C, d, k1, k2, k3⟩ := ra.xob hs e
        split at q1
        · rename_i c' fs b hj hb
          obtain ⟨vs, k4, _⟩ := ra.xdd k3 hj
          exact ⟨q, C, b, rfl, .inl ⟨d, vs, k1, k4⟩, (T.exf c C k2).c, (he c C b k2 hb).2, q1 ρ1 H1 _ x1 ra (.bl b)⟩
        · exact q1.elim
    | _ => exact q1.elim
  exact PE.imp (pe_callB (call_isK N.un) hgl hmg (show bootBuiltins "isinstance" = some (.builtin "isinstance") by decide +kernel) (pa_cons ha (pa_cons (pe_gl hz N hzd) pa_nil) e1) (by decide) (by decide) e1 rfl) imp
/-- .. of a tuple of names, read by t -/
theorem s_isxT (hm : ClMono cl) (T : TF S g X.prog X.w X.K X.mg X.base L n) {es : List Expr} {rvs : List V} {us : List Value} {t : TA} (hu : ∀ its, Vals rvs its → its = us) (hes : PA X es t) (htp : ∀ σ H Q, Q rvs H → t σ H Q) (hl : rvs.length ≤ 100)
    (he : ∀ (c : Nat) (C : Addr) (b : Bool), L.exs[c]? = some C → bs[c]? = some b → PySem.W.kitAny X.K (.ref C) us = some b) (hgl : Gl X "isinstance") (hmg : X.mg "isinstance" = none)
    (ha : PE X y (tE X.K L g cl W a)) (hst : isSub y = false) {kt : Nat} {pt : Pos} : PE X (.Call (.Name "isinstance" p) [y, .Tuple es kt pt] [] pos) (tE X.K L g cl W (.isx a bs)) := by
  have e1 : starEach [y, .Tuple es kt pt] X.env = (false, eval y X.env) :: starEach [.Tuple es kt pt] X.env := by cases y <;> first | rfl | cases hst
  have imp : ∀ σ H Q, tE X.K L g cl W (.isx a bs) σ H Q → tCB (rIsT X.K rvs us) (tCons (tE X.K L g cl W a) (tCons (tTup t) tNil)) σ H Q := fun σ H Q ⟨ρ, hp, env, r, re, h⟩ => by
    unfold wE at h
    refine ⟨ρ, hp, env, r, re, wE_mono hm a env hp _ _ _ _ (fun d1 hp1 q1 => ?_) (fun _ _ _ z => z) h⟩
    intro ρ1 H1 v1 x1 ra d1r
    cases d1r with
    | @ref i q hs =>
      unfold oIsX at q1
      cases e : gtX hp1 i with
      | none =>
        simp only [e] at q1
        cases e2 : gtX0 hp1 i with
        | none => simp only [e2] at q1; exact q1.elim
        | some c =>
          simp only [e2] at q1
          obtain ⟨C, k1, k2⟩ := ra.xo0 hs e2
          cases hb : bs[c]? with
          | none => simp only [hb] at q1; exact q1.elim
          | some b =>
            simp only [hb] at q1
            refine htp _ _ _ ⟨by rw [sizeLine_eq]; omega, fun w hw => ?_⟩
            obtain ⟨rb, x2⟩ := ra.tmp (u := .tup rvs) hw
            exact ⟨q, C, w, b, rfl, upd_same, .inr (by rw [upd_ne (ne_of_none k1 hw)]; exact k1), (T.exf c C k2).c, he c C b k2 hb, q1 _ _ _ (x1.trans x2) rb (.bl _)⟩
      | some cj =>
        obtain ⟨c, j⟩ := cj
        simp only [e] at q1
        obtain ⟨C, d, k1, k2, k3⟩ := ra.xob hs e
        split at q1
        · rename_i c' fs b hj hb
          obtain ⟨vs, k4, _⟩ := ra.xdd k3 hj
          refine htp _ _ _ ⟨by rw [sizeLine_eq]; omega, fun w hw => ?_⟩
          obtain ⟨rb, x2⟩ := ra.tmp (u := .tup rvs) hw
          exact ⟨q, C, w, b, rfl, upd_same, .inl ⟨d, vs, by rw [upd_ne (ne_of_none k1 hw)]; exact k1, by rw [upd_ne (ne_of_none k4 hw)]; exact k4⟩, (T.exf c C k2).c, he c C b k2 hb, q1 _ _ _ (x1.trans x2) rb (.bl _)⟩
        · exact q1.elim
    | _ => exact q1.elim
  exact PE.imp (pe_callB (call_isT hu) hgl hmg (show bootBuiltins "isinstance" = some (.builtin "isinstance") by decide +kernel) (pa_cons ha (pa_cons (pe_tup hes) pa_nil) e1) (by decide) (by decide) e1 rfl) imp
theorem zw_some {c : Nat} {b : Bool} (h : (List.zipWith (· || ·) bs1 bs2)[c]? = some b) : ∃ b1 b2, bs1[c]? = some b1 ∧ bs2[c]? = some b2 ∧ b = (b1 || b2) := by
  rw [List.getElem?_zipWith] at h
  cases e1 : bs1[c]? with
  | none => rw [e1] at h; cases h
  | some v1 =>
    cases e2 : bs2[c]? with
    | none => rw [e1, e2] at h; cases h
    | some v2 =>
      rw [e1, e2] at h
      cases h
      exact ⟨v1, v2, rfl, rfl, rfl⟩
theorem s_isx2 (hm : ClMono cl) (T : TF S g X.prog X.w X.K X.mg X.base L n) (he : ExmAt X.K L u1 bs1) (he2 : ExmAt X.K L u2 bs2) (hbs : bs = List.zipWith (· || ·) bs1 bs2) (hgl : Gl X "isinstance") (hmg : X.mg "isinstance" = none)
    (hz : Gl X z) (N : NamesV X.mg z r1 u1) (hzd : (z == ("__debug__" : Str)) = false) (hz2 : Gl X z2) (N2 : NamesV X.mg z2 r2 u2) (hzd2 : (z2 == ("__debug__" : Str)) = false)
    (ha : PE X y (tE X.K L g cl W a)) (hst : isSub y = false) {kt : Nat} {pt : Pos} : PE X (.Call (.Name "isinstance" p) [y, .Tuple [.Name z p2, .Name z2 p3] kt pt] [] pos) (tE X.K L g cl W (.isx a bs)) := by
  refine s_isxT hm T (rvs := [r1, r2]) (us := [u1, u2]) (fun its hv => ?_) (pa_cons (pe_gl hz N hzd) (pa_cons (pe_gl hz2 N2 hzd2) pa_nil)) (fun σ H Q q => q) (show 2 ≤ 100 by decide) (fun c C b h1 h2 => ?_) hgl hmg ha hst
  · cases hv with
    | cons q1 t =>
      cases t with
      | cons q2 t =>
        cases t
        rw [N.un _ q1, N2.un _ q2]
  · rw [hbs] at h2
    obtain ⟨b1, b2, k1, k2, rfl⟩ := zw_some h2
    have := kitAny_cons (he c C b1 h1 k1).2 (kitAny_cons (he2 c C b2 h1 k2).2 (show PySem.W.kitAny X.K (.ref C) [] = some false from rfl))
    rwa [Bool.or_false] at this
theorem s_isx3 (hm : ClMono cl) (T : TF S g X.prog X.w X.K X.mg X.base L n) (he : ExmAt X.K L u1 bs1) (he2 : ExmAt X.K L u2 bs2) (he3 : ExmAt X.K L u3 bs3) (hbs : bs = List.zipWith (· || ·) bs1 (List.zipWith (· || ·) bs2 bs3)) (hgl : Gl X "isinstance") (hmg : X.mg "isinstance" = none)
    (hz : Gl X z) (N : NamesV X.mg z r1 u1) (hzd : (z == ("__debug__" : Str)) = false) (hz2 : Gl X z2) (N2 : NamesV X.mg z2 r2 u2) (hzd2 : (z2 == ("__debug__" : Str)) = false) (hz3 : Gl X z3) (N3 : NamesV X.mg z3 r3 u3) (hzd3 : (z3 == ("__debug__" : Str)) = false)
    (ha : PE X y (tE X.K L g cl W a)) (hst : isSub y = false) {kt : Nat} {pt : Pos} : PE X (.Call (.Name "isinstance" p) [y, .Tuple [.Name z p2, .Name z2 p3, .Name z3 p4] kt pt] [] pos) (tE X.K L g cl W (.isx a bs)) := by
  refine s_isxT hm T (rvs := [r1, r2, r3]) (us := [u1, u2, u3]) (fun its hv => ?_) (pa_cons (pe_gl hz N hzd) (pa_cons (pe_gl hz2 N2 hzd2) (pa_cons (pe_gl hz3 N3 hzd3) pa_nil))) (fun σ H Q q => q) (show 3 ≤ 100 by decide) (fun c C b h1 h2 => ?_) hgl hmg ha hst
  · cases hv with
    | cons q1 t =>
      cases t with
      | cons q2 t =>
        cases t with
        | cons q3 t =>
          cases t
          rw [N.un _ q1, N2.un _ q2, N3.un _ q3]
  · rw [hbs] at h2
    obtain ⟨b1, b2, k1, k2, rfl⟩ := zw_some h2
    obtain ⟨b3, b4, k3, k4, rfl⟩ := zw_some k2
    have := kitAny_cons (he c C b1 h1 k1).2 (kitAny_cons (he2 c C b3 h1 k3).2 (kitAny_cons (he3 c C b4 h1 k4).2 (show PySem.W.kitAny X.K (.ref C) [] = some false from rfl)))
    rwa [Bool.or_false] at this
theorem s_xfd (hm : ClMono cl) (T : TF S g X.prog X.w X.K X.mg X.base L n) {f : Nat} {nm : Str} (hf : S.attrs[f]? = some nm) (ha : PE X y (tE X.K L g cl W a)) (hb : attributeBase y nm X.env (eval y X.env) = eval y X.env) : PE X (.Attribute y nm pos) (tE X.K L g cl W (.xfd a f)) := by
  constructor
  intro pins s σ H Q I ⟨ρ, hp, env, r, re, h⟩
  unfold wE at h
  refine attr_of hb (thn (ha.run pins s σ H (fun v1 H1 => ∃ (p C d : Addr) (vs : List (Str × V)) (v : V), v1 = .ref p ∧ H1 p = some (kx p C d) ∧ H1 d = some (.xd vs) ∧ ExF X.K S.attrs C ∧ vs.lookup nm = some v ∧ Q v H1) I ⟨ρ, hp, env, r, re, wE_mono hm a env hp _ _ _ _ (fun d1 hp1 q1 => ?_) (fun _ _ _ z => z) h⟩) fun u s1 hh => ?_)
  · intro ρ1 H1 v1 x1 r1 d1r
    cases d1r with
    | @ref i q hs =>
      unfold oXF at q1
      cases e : gtX hp1 i with
      | none => simp only [e] at q1; exact q1.elim
      | some cj =>
        obtain ⟨c, j⟩ := cj
        simp only [e] at q1
        obtain ⟨C, d, k1, k2, k3⟩ := r1.xob hs e
        split at q1
        · rename_i c' f' d' hj
          obtain ⟨vs, k4, k5⟩ := r1.xdd k3 hj
          by_cases ef : f' = f
          · rw [if_pos ef] at q1
            subst ef
            cases k5 with
            | @cons _ pv _ vs' k6 k7 =>
              cases k7
              obtain ⟨nm', v'⟩ := pv
              have hn : nm' = nm := by
                have z1 := k6.1
                rw [T.att.1, hf] at z1
                exact (Option.some.inj z1).symm
              subst hn
              exact ⟨q, C, d, _, v', rfl, k1, k4, T.exf c C k2, by simp [List.lookup], q1 ρ1 H1 _ x1 r1 k6.2⟩
          · rw [if_neg ef] at q1; exact q1.elim
        · exact q1.elim
    | _ => exact q1.elim
  · obtain ⟨v1, H1, I1, rx, q, C, d, vs, v, rfl, k1, k2, F, lk, qq⟩ := hh
    obtain rfl : u = Value.ref q := rx
    obtain ⟨ob, dob, mA, J, hl, hr⟩ := inst_kept I1 k1 k2
    have hv := hr nm
    rw [lk] at hv
    obtain ⟨u, hu, ru⟩ := RelO.some_of (v := v) (o := mA nm) hv
    exact HandSPX.exc_get I1.kIn J F.f.ga F.f.gg F.f.exC (PySem.W.findObj_own F.f.hdC (F.no nm (List.mem_of_getElem? hf)) rfl (by rw [hl, hu])) (handed_of ru) ⟨v, H1, I1.tok _, ru, qq⟩
end
end MI
set_option maxHeartbeats 2000000
/-! MI, exceptions 4: the __init__ of an own class with one field. -/
namespace MI
open PySem PySem.Spec PyProof.Rows L2
/-- the text of such an __init__ -/
def xinB (c : Ck) (b f : Str) (body : List Stmt) : Bool := match body with
  | [.Expr (.Call (.Attribute (.Name b1 _) i p2) [.Name s1 _, .Constant (.str _) _ _] [] p5) _, .Assign [.Attribute (.Name s2 _) f1 _] (.Name y _) _] =>
    decide (b1 = b) && decide (i = "__init__") && decide (f1 = f) && decide (s1 = s2) && decide (c.N = [s1, y]) && c.glob b1 && c.vis s1 && c.vis y && (p2.endLine == p5.line)
  | _ => false
section
variable {K : PySem.W.Frag} {mg : Str → Option Value} {C R fI : Addr} {f b : Str} {mc : Value} {N : List Str}
theorem visB {c : Ck} {x : Str} (h : c.vis x = true) : Vis c.sc x ∧ (x == ("__debug__" : Str)) = false ∧ (x == ("__classdict__" : Str)) = false := by
  unfold Ck.vis at h
  simp only [Bool.and_eq_true, Bool.not_eq_true'] at h
  refine ⟨?_, h.1.2, h.2⟩
  have h1 := h.1.1
  split at h1
  · rename_i e; exact .inl e
  · rename_i e; exact .inr (.inl e)
  · rename_i e; exact .inr (.inr e)
  · cases h1
theorem globB {c : Ck} {x : Str} (h : c.glob x = true) : c.sc.names.lookup x = some .globalImplicit ∧ (x == ("__debug__" : Str)) = false := by
  unfold Ck.glob at h
  simp only [Bool.and_eq_true, Bool.not_eq_true', decide_eq_true_eq] at h
  exact ⟨h.1.1.1, h.1.1.2⟩
theorem exk_of {name qual : Str} {params : Arguments} {body : List Stmt} {scope : Scope} {dV kV doc pm cdv ct oc : Value} {an od : Option Addr} {osl : Array (Option Value)} {xb : XB} (T : OexG K C xb) (hno : PySem.W.findIn K (.ref C) f = some none)
    (gR : mg b = some (.ref R)) (r : ClX.CRead K R mc) (at_ : PySem.W.findCls K (.ref R) mc "__init__" = some (.val (.builtin xb.ini)))
    (iC : PySem.W.findIn K (.ref C) "__init__" = some (some (.ref fI))) (tI : PySem.W.typeIn K (.ref fI) = some (.type "function"))
    (lk : K.lookup fI = some ⟨oc, od, .func (PySem.W.fnOf name qual params body scope dV kV doc pm an cdv ct), osl⟩) (hcd : PySem.W.codeIn K cdv qual = true) (hsc : fnScopeB N 2 scope = true) (hb : Binds K (PySem.W.fnOf name qual params body scope dV kV doc pm an cdv ct) (N.take 2) [])
    (hx : xinB ⟨{ fnN := [], clsN := [], constN := [], attrs := [], mths := [], blts := [] }, scope, N, true⟩ b f body = true) : ∃ fI fd ps, ∃ xb, OexG K C xb ∧ PySem.W.findIn K (.ref C) "__init__" = some (some (.ref fI)) ∧ PySem.W.typeIn K (.ref fI) = some (.type "function") ∧ Binds K fd ps [] ∧ ∀ P w base, FnOk P w K mg base (L2.CX P w) 1 fI fd ps (spX K C f) := by
  have SC := fnScope_by hsc
  refine ⟨fI, _, N.take 2, xb, T, iC, tI, hb, fun P w base => ?_⟩
  unfold xinB at hx
  split at hx
  · rename_i b1 p1 i p2 s1 p3 t1 j1 p4 p5 p6 s2 p7 f1 p8 y p9 p10
    simp only [Bool.and_eq_true, decide_eq_true_eq] at hx
    obtain ⟨⟨⟨⟨⟨⟨⟨⟨rfl, rfl⟩, rfl⟩, rfl⟩, hN⟩, hg⟩, hv1⟩, hv2⟩, hli⟩ := hx
    have hN : N = [s1, y] := hN
    subst hN
    refine fn_of lk hcd SC (fun vs H Q E h => ?_) fun A outer s H vs Q E hr h => ?_
    · obtain ⟨a, z, rfl, _⟩ := h
      rfl
    · obtain ⟨a, z, rfl, ha, h⟩ := h
      have V1 := visB hv1
      have V2 := visB hv2
      have G1 := globB hg
      have n0 : ([s1, y] : List Str)[0]? = some s1 := rfl
      have n1 : ([s1, y] : List Str)[1]? = some y := rfl
      refine ⟨_, pss_cons (ps_expr (pe_rini (X := cxOf (L2.CX P w) P w K mg base [s1, y] qual scope fI cdv A outer s H E) (b := xb) G1.1 gR r T.ok at_ (pa_cons (pe_var n0 V1.1 V1.2.1 V1.2.2) (pa_cons pe_str pa_nil)) G1.2 hli rfl rfl rfl))
        (pss_cons (ps_osx (b := xb) (pe_var n0 V1.1 V1.2.1 V1.2.2) (pe_var n1 V2.1 V2.2.1 V2.2.2)) pss_nil), ?_⟩
      refine ⟨.ref a, rfl, a, C, [.str t1], rfl, (show 1 ≤ 1000 by decide), T, ha, z, rfl, .ref a, rfl, a, C, rfl, T, hno, ha, fun dx n ne => ?_⟩
      exact h dx n ne
  · cases hx
theorem exk_b {name qual : Str} {params : Arguments} {body : List Stmt} {scope : Scope} {dV kV doc pm cdv ct oc : Value} {an od : Option Addr} {osl : Array (Option Value)} {xb : XB} (T : OexG K C xb) (hno : PySem.W.findIn K (.ref C) f = some none)
    (gR : mg b = none) (eb : b = Str.ofString xb.B) (nb : b ≠ "__name__") (at_ : PySem.W.findCls K (.type xb.B) (.type "type") "__init__" = some (.val (.builtin xb.ini)))
    (iC : PySem.W.findIn K (.ref C) "__init__" = some (some (.ref fI))) (tI : PySem.W.typeIn K (.ref fI) = some (.type "function"))
    (lk : K.lookup fI = some ⟨oc, od, .func (PySem.W.fnOf name qual params body scope dV kV doc pm an cdv ct), osl⟩) (hcd : PySem.W.codeIn K cdv qual = true) (hsc : fnScopeB N 2 scope = true) (hb : Binds K (PySem.W.fnOf name qual params body scope dV kV doc pm an cdv ct) (N.take 2) [])
    (hx : xinB ⟨{ fnN := [], clsN := [], constN := [], attrs := [], mths := [], blts := [] }, scope, N, true⟩ b f body = true) : ∃ fI fd ps, ∃ xb, OexG K C xb ∧ PySem.W.findIn K (.ref C) "__init__" = some (some (.ref fI)) ∧ PySem.W.typeIn K (.ref fI) = some (.type "function") ∧ Binds K fd ps [] ∧ ∀ P w base, FnOk P w K mg base (L2.CX P w) 1 fI fd ps (spX K C f) := by
  have SC := fnScope_by hsc
  refine ⟨fI, _, N.take 2, xb, T, iC, tI, hb, fun P w base => ?_⟩
  unfold xinB at hx
  split at hx
  · rename_i b1 p1 i p2 s1 p3 t1 j1 p4 p5 p6 s2 p7 f1 p8 y p9 p10
    simp only [Bool.and_eq_true, decide_eq_true_eq] at hx
    obtain ⟨⟨⟨⟨⟨⟨⟨⟨rfl, rfl⟩, rfl⟩, rfl⟩, hN⟩, hg⟩, hv1⟩, hv2⟩, hli⟩ := hx
    have hN : N = [s1, y] := hN
    subst hN
    refine fn_of lk hcd SC (fun vs H Q E h => ?_) fun A outer s H vs Q E hr h => ?_
    · obtain ⟨a, z, rfl, _⟩ := h
      rfl
    · obtain ⟨a, z, rfl, ha, h⟩ := h
      have V1 := visB hv1
      have V2 := visB hv2
      have G1 := globB hg
      have n0 : ([s1, y] : List Str)[0]? = some s1 := rfl
      have n1 : ([s1, y] : List Str)[1]? = some y := rfl
      refine ⟨_, pss_cons (ps_expr (pe_bini (X := cxOf (L2.CX P w) P w K mg base [s1, y] qual scope fI cdv A outer s H E) (b := xb) G1.1 gR eb nb T.ok at_ (pa_cons (pe_var n0 V1.1 V1.2.1 V1.2.2) (pa_cons pe_str pa_nil)) G1.2 hli rfl rfl rfl))
        (pss_cons (ps_osx (b := xb) (pe_var n0 V1.1 V1.2.1 V1.2.2) (pe_var n1 V2.1 V2.2.1 V2.2.2)) pss_nil), ?_⟩
      refine ⟨.ref a, rfl, a, C, [.str t1], rfl, (show 1 ≤ 1000 by decide), T, ha, z, rfl, .ref a, rfl, a, C, rfl, T, hno, ha, fun dx n ne => ?_⟩
      exact h dx n ne
  · cases hx
end
end MI
set_option maxHeartbeats 4000000
/-! MI, exceptions 7: raise, try. -/
namespace MI
open PySem PySem.Spec PySem.Calls PyProof.Rows L2
section
variable {S : Nm} {g : Glob} {L : Lay} {n : Nat} {X : Cx} {cl : Cl} {W : WX} {x : Str} {y : Expr} {a : Ex} {p pos rpos : Pos}
theorem RE.setN {K : PySem.W.Frag} {ρ : List Addr} {H : Hp} {env : Env} {σ : L2.St} (h : RE K L ρ H env σ) (i : Nat) : RE K L ρ H (env.set i none) (σ.set i none) := h.wipe [i]
/-- a new thing that may tell of its own place -/
theorem RelH.pushN {K : PySem.W.Frag} {ρ : List Addr} {H : Hp} {hp : Hq} {p : Addr} {o : O} {u : HO} (r : RelH K L ρ hp H) (hn : H p = none) (q : RHO K L (ρ ++ [p]) (upd H p u) o u) : RelH K L (ρ ++ [p]) (hp ++ [o]) (upd H p u) ∧ Ext ρ H (ρ ++ [p]) (upd H p u) := by
  have e : Ext ρ H (ρ ++ [p]) (upd H p u) := by
    refine ⟨⟨[p], rfl⟩, fun a ha => ?_, fun a o' h _ => ?_, fun a o' h _ => ?_, fun a o' k h => ?_⟩
    · rcases List.mem_append.mp ha with h | h
      · exact .inl h
      · have : a = p := by simpa using h
        subst this
        exact .inr hn
    · rw [upd_ne (ne_of_none h hn)]; exact h
    · rw [upd_ne (ne_of_none h hn)]; exact h
    · rw [upd_ne (ne_of_none h hn)]; exact h
  refine ⟨⟨?_, by simp [r.len], fun i o' h => ?_⟩, e⟩
  · rw [List.nodup_append]
    refine ⟨r.nd, by simp, fun a ha b hb => ?_⟩
    have : b = p := by simpa using hb
    subst this
    exact fun z => r.notin hn (z ▸ ha)
  · by_cases hi : i < hp.length
    · rw [List.getElem?_append_left hi] at h
      obtain ⟨a, u', h1, h2, h3⟩ := r.at_ i o' h
      exact ⟨a, u', e.ix h1, by rw [upd_ne (ne_of_none h2 hn)]; exact h2, h3.mono e⟩
    · have hl : i < (hp ++ [o]).length := (List.getElem?_eq_some_iff.mp h).1
      have hi2 : i = hp.length := by
        rw [List.length_append, List.length_singleton] at hl
        omega
      subst hi2
      rw [List.getElem?_append_right (Nat.le_refl _)] at h
      have : o = o' := by simpa using h
      subst this
      refine ⟨p, u, ?_, upd_same, q⟩
      rw [← r.len, List.getElem?_append_right (Nat.le_refl _)]
      simp
theorem s_raise (hm : ClMono cl) (T : TF S g X.prog X.w X.K X.mg X.base L n) (hr : Room 2 X.A) (hc : X.calm = true) (tk : Takes X W) {k f : Nat} (hk : S.excN[k]? = some (x, f)) (hg : Gl X x) (hdb : (x == ("__debug__" : Str)) = false)
    (ha : PE X y (tE X.K L g cl W a)) (hst : isSub y = false) : PS X (.Raise (some (.Call (.Name x p) [y] [] pos)) none rpos) (tS X.K L g cl W (.raise k f a)) := by
  obtain ⟨C, nm, h1, h2, h3, fI, fd, ps, xb, h4, h5, h6, h7, h8⟩ := T.exc k x f hk
  have e1 : starEach [y] X.env = (false, eval y X.env) :: starEach [] X.env := by cases y <;> first | rfl | cases hst
  refine PS.imp (ps_raise hc tk (pmk_x h4 h5 h6 h8 hr h7 passL hg h2 (pa_cons ha pa_nil e1) hdb e1 rfl)) fun D σ H ⟨ρ, hp, env, r, re, h⟩ => ?_
  unfold wS at h
  refine ⟨ρ, hp, env, r, re, wE_mono hm a env hp _ _ _ _ (fun d1 hp1 q1 => ?_) (fun c i hp1 z => KSt.kx re (Ext.refl _ _) z) h⟩
  intro ρ1 H1 v1 x1 r1 d1r
  refine ⟨show 1 ≤ 1000 by decide, fun o hn => ⟨o, v1, rfl, upd_same, fun dx nx ne => ⟨rfl, dx, [(nm, v1)], upd_same, ?_, ?_, ?_⟩⟩⟩
  · rw [upd_ne ne, upd_same]
  · rw [upd_ne ne] at nx
    exact nx
  · have nx1 : H1 dx = none := by
      rw [upd_ne ne] at nx
      exact nx
    have eH : upd (del (upd (upd (upd H1 o (exo o C none)) dx (exd dx [(nm, v1)])) o (exo o C (some dx))) o) dx (.xd [(nm, v1)]) = upd H1 dx (.xd [(nm, v1)]) := by
      funext b
      by_cases hb : b = dx
      · rw [hb, upd_same, upd_same]
      · rw [upd_ne hb, upd_ne hb]
        by_cases hb2 : b = o
        · rw [hb2, del_same, hn]
        · rw [del_ne hb2, upd_ne hb2, upd_ne hb, upd_ne hb2]
    rw [eH]
    have fr : RFs X.K L ρ1 H1 [(f, d1)] [(nm, v1)] := .cons ⟨by rw [T.att.1]; exact h3, d1r⟩ .nil
    obtain ⟨r2, x2⟩ := r1.push nx1 (RHO.xd (c := k) fr)
    refine q1 _ _ _ dx C (x1.trans x2) r2 (re.mono (x1.trans x2)) ?_ h1
    rw [← r1.len, List.getElem?_append_right (Nat.le_refl _)]
    simp
theorem s_xnew (hm : ClMono cl) (T : TF S g X.prog X.w X.K X.mg X.base L n) (hr : Room 2 X.A) {k f : Nat} (hk : S.excN[k]? = some (x, f)) (hg : Gl X x) (hdb : (x == ("__debug__" : Str)) = false)
    (ha : PE X y (tE X.K L g cl W a)) (hst : isSub y = false) : PE X (.Call (.Name x p) [y] [] pos) (tE X.K L g cl W (.xnew k f a)) := by
  obtain ⟨C, nm, h1, h2, h3, fI, fd, ps, xb, h4, h5, h6, h7, h8⟩ := T.exc k x f hk
  have e1 : starEach [y] X.env = (false, eval y X.env) :: starEach [] X.env := by cases y <;> first | rfl | cases hst
  refine PE.imp (pe_mkx h4 h5 h6 h8 hr h7 passL hg h2 (pa_cons ha pa_nil e1) hdb e1 rfl) fun σ H Q ⟨ρ, hp, env, r, re, h⟩ => ?_
  unfold wE at h
  refine ⟨ρ, hp, env, r, re, wE_mono hm a env hp _ _ _ _ (fun d1 hp1 q1 => ?_) (fun _ _ _ z => z) h⟩
  intro ρ1 H1 v1 x1 r1 d1r
  refine ⟨show 1 ≤ 1000 by decide, fun o hn => ⟨o, v1, rfl, upd_same, fun dx nx ne => ⟨rfl, dx, [(nm, v1)], upd_same, ?_, ne, ?_⟩⟩⟩
  · rw [upd_ne ne, upd_same]
  · have nx1 : H1 dx = none := by
      rw [upd_ne ne] at nx
      exact nx
    have eH : upd (upd (upd (upd (upd H1 o (exo o C none)) dx (exd dx [(nm, v1)])) o (exo o C (some dx))) dx (.xd [(nm, v1)])) o (kx o C dx) = upd (upd H1 dx (.xd [(nm, v1)])) o (kx o C dx) := by
      funext c
      by_cases hc : c = o
      · rw [hc, upd_same, upd_same]
      · rw [upd_ne hc, upd_ne hc]
        by_cases hd : c = dx
        · rw [hd, upd_same, upd_same]
        · rw [upd_ne hd, upd_ne hc, upd_ne hd, upd_ne hc, upd_ne hd]
    rw [eH]
    have fr : RFs X.K L ρ1 H1 [(f, d1)] [(nm, v1)] := .cons ⟨by rw [T.att.1]; exact h3, d1r⟩ .nil
    obtain ⟨r2, x2⟩ := r1.push nx1 (RHO.xd (c := k) fr)
    have no : upd H1 dx (.xd [(nm, v1)]) o = none := by
      rw [upd_ne (Ne.symm ne)]
      exact hn
    have l1 : ρ1.length = hp1.length := r1.len
    have me : (ρ1 ++ [dx] ++ [o])[hp1.length + 1]? = some o := by
      rw [List.getElem?_append_right (by simp [l1])]
      simp [l1]
    have di : (ρ1 ++ [dx] ++ [o])[hp1.length]? = some dx := by
      rw [List.getElem?_append_left (by simp [l1]), ← l1, List.getElem?_append_right (Nat.le_refl _)]
      simp
    obtain ⟨r3, x3⟩ := r2.pushN (o := .xob k (hp1.length + 1) hp1.length) (u := kx o C dx) no (.xob me h1 di)
    exact q1 _ _ _ (x1.trans (x2.trans x3)) r3 (.ref me)
theorem s_xnw0 (T : TF S g X.prog X.w X.K X.mg X.base L n) {k : Nat} (hk : (k, x) ∈ S.exc0) (hg : Gl X x) (hdb : (x == ("__debug__" : Str)) = false) : PE X (.Call (.Name x p) [] [] pos) (tE X.K L g cl W (.xnw0 k)) := by
  obtain ⟨C, b, h1, h2, h3, h4⟩ := T.ex0 k x hk
  refine PE.imp (pe_mk0 h3 hg h2 hdb h4) fun σ H Q ⟨ρ, hp, env, r, re, h⟩ => ?_
  unfold wE at h
  intro o hn
  have l1 : ρ.length = hp.length := r.len
  have me : (ρ ++ [o])[hp.length]? = some o := by
    rw [← l1, List.getElem?_append_right (Nat.le_refl _)]
    simp
  obtain ⟨r2, x2⟩ := r.pushN (o := .xo0 k hp.length) (u := kx0 o C) hn (.xo0 me h1)
  exact h _ _ _ x2 r2 (.ref me)
theorem s_tryK (hm : ClMono cl) (hs : X.stack = X.env :: X.outer) (hf : X.env.frame = some X.env.locals) (hex : X.ex = []) (tk : Takes X W) {b : Sts} {bs : List Bool} {i j : Nat} {m kn : Str} {rv : V} {u : Value} {body : List Stmt} {np pos' p1 p2 p3 : Pos} (he : ExmAt X.K L u bs)
    (hN : X.N.Nodup) (hi : X.N[i]? = some m) (hln : X.env.scope.names.lookup m = some .local) (hj : X.N[j]? = some kn) (hlj : X.env.scope.names.lookup kn = some .local) (hij : i ≠ j) (hg : Gl X x) (hgm : NamesV X.mg x rv u) (hdb : (x == ("__debug__" : Str)) = false)
    (hv : (m == ("__debug__" : Str)) = false) (hv2 : (m == ("__classdict__" : Str)) = false)
    (hb : ∀ (W' : WX) (pn : List (Addr × Obj)) (xe : Value → Shared → Prop), Takes (X.tr pn xe) W' → PassesOwn (model X.prog X.w) X.A X.env xe → PSs (X.tr pn xe) body (tSs X.K L g cl W' b)) :
    PS X (.Try body [.ExceptHandler (some (.Name x np)) (some m) [.Assign [.Name kn p1] (.Name m p2) p3] pos'] [] [] pos) (tS X.K L g cl W (.tryK b bs i j)) := by
  refine PS.imp (ps_try_keep (tb := fun W' => tSs X.K L g cl W' b) (c := u) hs hf hN hi hln hj hlj hij hex ⟨hg, hdb, hgm.at_⟩ tk (fun a ob pn => ?_) hb) fun D σ H ⟨ρ, hp, env, r, re, h⟩ => ?_
  · refine PSs.imp (pss_cons (ps_set (X := X.suite a ((a, ob) :: pn)) hN hj (.inl hlj) (pe_var (X := X.suite a ((a, ob) :: pn)) hi (.inl hln) hv hv2) rfl (.inr hlj)) pss_nil) fun D σ H q => ?_
    cases z : σ[i]? with
    | none => rw [z] at q; exact q.elim
    | some ov =>
      cases ov with
      | none => rw [z] at q; exact q.elim
      | some v =>
        rw [z] at q
        exact ⟨v, z, q⟩
  · unfold wS at h
    refine ⟨ρ, hp, env, r, re, wSs_mono hm b env hp _ (KSt X.K L ρ H D (wKeep X.K u i j W D)) ?_ h⟩
    refine ⟨fun _ _ q => q, fun _ _ q => q, fun _ _ q => q, fun _ _ q => q, fun c i' env' hp' q => ?_⟩
    intro ρ' H' σ' d C x1 r1 re1 h1 h2
    have q : (match bs[c]? with
      | some true => (KSt X.K L ρ H D W).nx ((env'.set j (some (.ref hp'.length))).set i none) (hp' ++ [.xob c hp'.length i'])
      | some false => (KSt X.K L ρ H D W).ex c i' env' hp'
      | none => False) := q
    cases z : bs[c]? with
    | none => rw [z] at q; exact q.elim
    | some bb =>
      rw [z] at q
      refine ⟨bb, (he c C bb h2 z).1, fun eb => ?_, fun eb => ?_⟩
      · subst eb
        refine ⟨C, d, rfl, rfl, fun o hn => ?_⟩
        have le : ρ'.length = hp'.length := r1.len
        have me : (ρ' ++ [o])[hp'.length]? = some o := by
          rw [← le, List.getElem?_append_right (Nat.le_refl _)]
          simp
        have di : (ρ' ++ [o])[i']? = some d := by
          rw [List.getElem?_append_left (List.getElem?_eq_some_iff.mp h1).1]
          exact h1
        obtain ⟨r2, x2⟩ := r1.pushN (o := .xob c hp'.length i') (u := kx o C d) hn (.xob me h2 di)
        exact q _ _ _ (x1.trans x2) r2 (((re1.mono x2).set j (.ref me)).setN i)
      · subst eb
        exact q ρ' H' σ' d C x1 r1 re1 h1 h2
end
end MI
set_option maxHeartbeats 4000000
/-! MI, part 17: the check is enough (expressions). -/
namespace MI
open PySem PySem.Spec PyProof.Rows L2

structure Good (S : Nm) (g : Glob) (L : Lay) (n : Nat) (X : Cx) (c : Ck) (W : WX) : Prop where
  nm : c.nm = S
  sc : c.sc = X.env.scope
  N : c.N = X.N
  nd : X.N.Nodup
  fn : c.top = true → ∀ x, X.fn x = true
  calm : X.calm = true
  gd : X.A.guards = some []
  room : Room (2 * n + 3) X.A
  tk : Takes X W
  po : PassesOwn (model X.prog X.w) X.A X.env X.xe
  kind : X.env.scope.kind = .function
  tf : TF S g X.prog X.w X.K X.mg X.base L n
  tp : c.top = true → X.ex = [] ∧ X.stack = X.env :: X.outer ∧ X.env.frame = some X.env.locals
section
variable {S : Nm} {g : Glob} {L : Lay} {n : Nat} {X : Cx} {c : Ck} {W : WX}
theorem Good.u200 (G : Good S g L n X c W) : X.A.units + 200 < cLine := by have := G.room.un; omega
theorem Good.u65 (G : Good S g L n X c W) : X.A.units + 65 < cLine := by have := G.room.un; omega
theorem Good.hr (G : Good S g L n X c W) : Room (2 * n + 2) X.A := G.room.mono (by omega)
theorem Good.blk (G : Good S g L n X c W) {scope : Scope} (hk : scope.kind = .function) (s : Shared) (H : Hp) (C : Addr) (ce : List (Str × Addr)) (fp : List Addr) :
    Good S g L n (X.blk s H scope (compEnvC scope ce C X.env) fp) (c.inner scope) (fun _ _ _ _ => False) where
  nm := G.nm
  sc := by rw [show (c.inner scope).sc = relS scope c.sc from rfl, G.sc]; rfl
  N := G.N
  nd := G.nd
  fn := fun h => by cases h
  calm := G.calm
  gd := G.gd
  room := G.room
  tk := fun u s' ⟨_, _, _, _, _, _, _, _, _, _, _, _, _, _, _, _, w⟩ => w
  po := PassesOwn.never
  kind := by
    show (relS scope X.env.scope).kind = .function
    exact hk
  tf := G.tf
  tp := fun h => by cases h
theorem Good.tr (G : Good S g L n X c W) {W' : WX} {pn : List (Addr × Obj)} {xe : Value → Shared → Prop} (tk : Takes (X.tr pn xe) W') (po : PassesOwn (model X.prog X.w) X.A X.env xe) : Good S g L n (X.tr pn xe) c W' :=
  ⟨G.nm, G.sc, G.N, G.nd, G.fn, G.calm, G.gd, G.room, tk, po, G.kind, G.tf, G.tp⟩
theorem Good.loc (G : Good S g L n X c W) {x : Str} (h : c.loc x = true) : Loc X.env.scope x ∧ (X.fn x = true ∨ X.env.scope.names.lookup x = some .local) := by
  unfold Ck.loc at h
  rw [G.sc] at h
  split at h
  · rename_i e
    exact ⟨.inl e, .inr e⟩
  · rename_i e
    exact ⟨.inr e, .inl (G.fn h x)⟩
  · cases h
theorem Good.vis (G : Good S g L n X c W) {x : Str} (h : c.vis x = true) : Vis X.env.scope x ∧ (x == ("__debug__" : Str)) = false ∧ (x == ("__classdict__" : Str)) = false := by
  unfold Ck.vis at h
  rw [G.sc] at h
  simp only [Bool.and_eq_true, Bool.not_eq_true'] at h
  obtain ⟨⟨h1, h2⟩, h3⟩ := h
  refine ⟨?_, h2, h3⟩
  split at h1
  · rename_i e; exact .inl e
  · rename_i e; exact .inr (.inl e)
  · rename_i e; exact .inr (.inr e)
  · cases h1
theorem Good.glob (G : Good S g L n X c W) {x : Str} (h : c.glob x = true) : Gl X x ∧ (x == ("__debug__" : Str)) = false ∧ x ≠ "__name__" ∧ (x != ("super" : Str)) = true := by
  unfold Ck.glob at h
  rw [G.sc] at h
  simp only [Bool.and_eq_true, Bool.not_eq_true', decide_eq_true_eq] at h
  obtain ⟨⟨⟨h1, h2⟩, h3⟩, h4⟩ := h
  exact ⟨h1, h2, h3, h4⟩
theorem Good.blt (G : Good S g L n X c W) {x : Str} (h : c.nm.blts.contains x = true) : X.mg x = none := G.tf.blt x (by rw [← G.nm]; simpa using h)
/-- super() is no base of the text's -/
theorem base_of {e : Ex} {x : Expr} (G : Good S g L n X c W) (h : chkE c e x = true) (nm : Str) : attributeBase x nm X.env (eval x X.env) = eval x X.env := by
  refine ab_ok fun id p pos hx => ?_
  subst hx
  cases e <;> first
    | cases h
    | skip
  all_goals
    first
      | (rename_i d; cases d <;> cases h; done)
      | (unfold chkE at h
         simp only [Bool.and_eq_true] at h
         exact (G.glob h.1.2).2.2.2)
      | (unfold chkE at h
         simp only [Bool.and_eq_true] at h
         exact (G.glob h.2).2.2.2)
end

structure EOk (X : Cx) (L : Lay) (g : Glob) (cl : Cl) (W : WX) (e : Ex) (x : Expr) : Prop where
  pe : PE X x (tE X.K L g cl W e)
  pt : PT X x (tT X.K L g cl W e)
  pw : isBoolX x = true → PW X x (tT X.K L g cl W e)
theorem EOk.of {X : Cx} {L : Lay} {g : Glob} {cl : Cl} {W : WX} {e : Ex} {x : Expr} (hm : ClMono cl) (h : PE X x (tE X.K L g cl W e)) (ht : tstX x = false) : EOk X L g cl W e x :=
  ⟨h, t_plain hm h (isTrue_of ht), fun hb => by cases x <;> first | (cases hb; done) | (cases ht; done)⟩

section
variable {S : Nm} {g : Glob} {L : Lay} {n : Nat}
mutual
theorem okE : ∀ (e : Ex) {X : Cx} {c : Ck} {W : WX} {x : Expr}, Good S g L n X c W → chkE c e x = true → EOk X L g (wCall g n) W e x
  | .var i, X, c, W, x, G, h => by
    refine EOk.of (wCall_mono g n) ?_ (chk_tst h rfl)
    unfold chkE at h
    split at h
    · simp only [Bool.and_eq_true, decide_eq_true_eq] at h
      obtain ⟨a, b, d⟩ := G.vis h.2
      exact s_var (by rw [← G.N]; exact h.1) a b d
    · cases h
  | .lit d, X, c, W, x, G, h => by
    refine EOk.of (wCall_mono g n) ?_ (chk_tst h rfl)
    unfold chkE at h
    split at h
    · exact s_non
    · have h := beq_iff_eq.mp h
      subst h
      exact s_bl
    · have h := of_decide_eq_true h
      subst h
      exact s_int
    · have h := of_decide_eq_true h
      subst h
      exact s_str
    · cases h
  | .glob k, X, c, W, x, G, h => by
    refine EOk.of (wCall_mono g n) ?_ (chk_tst h rfl)
    unfold chkE at h
    split at h
    · simp only [Bool.and_eq_true, decide_eq_true_eq] at h
      obtain ⟨a, b, _⟩ := G.glob h.2
      obtain ⟨d, u, v, h1, h2, h3, h4⟩ := G.tf.con k _ (by rw [← G.nm]; exact h.1)
      exact s_glob a h2 h3 h1 h4 b
    · cases h
  | .bin o a b, X, c, W, x, G, h => by
    refine EOk.of (wCall_mono g n) ?_ (chk_tst h rfl)
    unfold chkE at h
    split at h
    · simp only [Bool.and_eq_true, decide_eq_true_eq] at h
      obtain ⟨⟨rfl, h1⟩, h2⟩ := h
      exact s_bin (wCall_mono g n) (okE a G h1).pe (okE b G h2).pe
    · cases h
  | .neg a, X, c, W, x, G, h => by
    refine EOk.of (wCall_mono g n) ?_ (chk_tst h rfl)
    unfold chkE at h
    split at h
    · exact s_neg (wCall_mono g n) (okE a G h).pe
    · cases h
  | .cmp o a b, X, c, W, x, G, h => by
    unfold chkE at h
    split at h
    · simp only [Bool.and_eq_true, decide_eq_true_eq] at h
      obtain ⟨⟨rfl, h1⟩, h2⟩ := h
      have pa := (okE a G h1).pe
      have pb := (okE b G h2).pe
      exact ⟨s_cmp (wCall_mono g n) G.u65 pa pb (marks_of (chk_sub h2)), t_cmp (wCall_mono g n) G.u65 pa pb (marks_of (chk_sub h2)), fun z => by cases z⟩
    · cases h
  | .cmp2 o p a b d, X, c, W, x, G, h => by
    unfold chkE at h
    split at h
    · simp only [Bool.and_eq_true, decide_eq_true_eq] at h
      obtain ⟨⟨⟨⟨rfl, rfl⟩, h1⟩, h2⟩, h3⟩ := h
      have pa := (okE a G h1).pe
      have pb := (okE b G h2).pe
      have pd := (okE d G h3).pe
      have hmk : ∀ {y z : Expr}, isSub z = false → lastMarks [copOf o, copOf p] [y, z] = false := fun hz => marks_of hz
      exact ⟨s_cmp2 (wCall_mono g n) G.u65 pa pb pd (hmk (chk_sub h3)), t_cmp2 (wCall_mono g n) G.u65 pa pb pd (hmk (chk_sub h3)), fun z => by cases z⟩
    · cases h
  | .and a b, X, c, W, x, G, h => by
    unfold chkE at h
    split at h
    · rename_i y z rest p
      rw [Bool.and_eq_true] at h
      obtain ⟨h1, h2⟩ := h
      have oa := okE a G h1
      cases rest with
      | nil =>
        have ob := okE b G h2
        have w := t_and (pos := p) (wCall_mono g n) oa.pt (PW.imp (pw_and1 ob.pt) fun _ _ _ q => q)
        exact ⟨s_and (wCall_mono g n) oa.pe (e_bool1 ob.pe), w.pt, fun _ => w⟩
      | cons z2 rest =>
        have ob := okE b G h2
        have w := t_and (pos := p) (wCall_mono g n) oa.pt (ob.pw rfl)
        exact ⟨s_and (wCall_mono g n) oa.pe ob.pe, w.pt, fun _ => w⟩
    · cases h
  | .or a b, X, c, W, x, G, h => by
    unfold chkE at h
    split at h
    · rename_i y z rest p
      rw [Bool.and_eq_true] at h
      obtain ⟨h1, h2⟩ := h
      have oa := okE a G h1
      cases rest with
      | nil =>
        have ob := okE b G h2
        have w := t_or (pos := p) (wCall_mono g n) oa.pt (PW.imp (pw_or1 ob.pt) fun _ _ _ q => q)
        exact ⟨s_or (wCall_mono g n) oa.pe (e_bool1 ob.pe), w.pt, fun _ => w⟩
      | cons z2 rest =>
        have ob := okE b G h2
        have w := t_or (pos := p) (wCall_mono g n) oa.pt (ob.pw rfl)
        exact ⟨s_or (wCall_mono g n) oa.pe ob.pe, w.pt, fun _ => w⟩
    · cases h
  | .not a, X, c, W, x, G, h => by
    unfold chkE at h
    split at h
    · have oa := okE a G h
      exact ⟨s_not (wCall_mono g n) oa.pe, t_not oa.pt (wCall_mono g n), fun z => by cases z⟩
    · cases h
  | .ite t a b, X, c, W, x, G, h => by
    unfold chkE at h
    split at h
    · simp only [Bool.and_eq_true] at h
      obtain ⟨⟨h1, h2⟩, h3⟩ := h
      have ot := okE t G h1
      have oa := okE a G h2
      have ob := okE b G h3
      exact ⟨s_ite (wCall_mono g n) ot.pt oa.pe ob.pe, t_ite (wCall_mono g n) ot.pt oa.pt ob.pt, fun z => by cases z⟩
    · cases h
  | .tup es, X, c, W, x, G, h => by
    refine EOk.of (wCall_mono g n) ?_ (chk_tst h rfl)
    unfold chkE at h
    split at h
    · simp only [Bool.and_eq_true, decide_eq_true_eq] at h
      exact s_tup (wCall_mono g n) (okEs es G h.1) (by rw [chks_len h.1]; exact h.2)
    · cases h
  | .lst es, X, c, W, x, G, h => by
    refine EOk.of (wCall_mono g n) ?_ (chk_tst h rfl)
    unfold chkE at h
    split at h
    · simp only [Bool.and_eq_true, decide_eq_true_eq] at h
      exact s_lst (wCall_mono g n) (okEs es G h.1) (by rw [chks_len h.1]; exact h.2)
    · cases h
  | .dic es, X, c, W, x, G, h => by
    refine EOk.of (wCall_mono g n) ?_ (chk_tst h rfl)
    unfold chkE at h
    split at h
    · rename_i ks vs p
      simp only [Bool.and_eq_true, decide_eq_true_eq] at h
      cases ks with
      | nil =>
        cases es with
        | nil =>
          cases vs with
          | nil => exact s_dic0
          | cons _ _ => cases h.1
        | cons e r => cases r <;> cases h.1
      | cons k ks =>
        obtain ⟨f1, f2, f3, f4⟩ := dis_form h.1
        exact s_dic (wCall_mono g n) (okDi es G h.1) f1 f2 f3 h.2 f4 (by intro z; cases z)
    · cases h
  | .bty b, X, c, W, x, G, h => by
    refine EOk.of (wCall_mono g n) ?_ (chk_tst h rfl)
    unfold chkE at h
    split at h
    · simp only [Bool.and_eq_true, decide_eq_true_eq] at h
      obtain ⟨⟨⟨rfl, h2⟩, h3⟩, h4⟩ := h
      obtain ⟨ga, gb, gn, _⟩ := G.glob h3
      exact s_bty (by simpa using h2) ga (G.blt h4) gn gb
    · cases h
  | .mmd mx a d, X, c, W, x, G, h => by
    refine EOk.of (wCall_mono g n) ?_ (chk_tst h rfl)
    unfold chkE at h
    split at h
    · simp only [Bool.and_eq_true, decide_eq_true_eq] at h
      obtain ⟨⟨⟨⟨⟨rfl, rfl⟩, h3⟩, h4⟩, h5⟩, h6⟩ := h
      obtain ⟨ga, gb, gn, _⟩ := G.glob h3
      exact s_mmd (wCall_mono g n) G.calm G.u200 ga (G.blt h4) (okE a G h5).pe (okE d G h6).pe (chk_sub h5)
    · cases h
  | .ix a i, X, c, W, x, G, h => by
    refine EOk.of (wCall_mono g n) ?_ (chk_tst h rfl)
    unfold chkE at h
    split at h
    · rw [Bool.and_eq_true] at h
      exact s_ix (wCall_mono g n) G.u65 (okE a G h.1).pe (okE i G h.2).pe (plain_of (chk_sub h.2))
    · cases h
  | .sl a lo hi, X, c, W, x, G, h => by
    refine EOk.of (wCall_mono g n) ?_ (chk_tst h rfl)
    unfold chkE at h
    split at h
    · simp only [Bool.and_eq_true] at h
      exact s_sl (wCall_mono g n) (okE a G h.1.1).pe ((okEo lo).1 G h.1.2) ((okEo hi).1 G h.2)
    · cases h
  | .fld a f, X, c, W, x, G, h => by
    refine EOk.of (wCall_mono g n) ?_ (chk_tst h rfl)
    unfold chkE at h
    split at h
    · simp only [Bool.and_eq_true, decide_eq_true_eq] at h
      exact s_fld (wCall_mono g n) G.tf (by rw [← G.nm]; exact h.1) (okE a G h.2).pe (base_of G h.2 _)
    · cases h
  | .call f es, X, c, W, x, G, h => by
    refine EOk.of (wCall_mono g n) ?_ (chk_tst h rfl)
    unfold chkE at h
    split at h
    · simp only [Bool.and_eq_true, decide_eq_true_eq] at h
      obtain ⟨a, b, _⟩ := G.glob h.1.2
      exact s_call G.tf G.hr G.gd G.tk (by rw [← G.nm]; exact h.1.1) a b (okEs es G h.2) (shape_of (chks_sub h.2)) fun z => by cases z
    · simp only [Bool.and_eq_true, decide_eq_true_eq] at h
      obtain ⟨a, b, _⟩ := G.glob h.1.2
      cases es with
      | nil => exact s_call G.tf G.hr G.gd G.tk (by rw [← G.nm]; exact h.1.1) a b sa_nil (.inl rfl) fun _ => rfl
      | cons _ _ => cases h.2
    · cases h
  | .make k es, X, c, W, x, G, h => by
    refine EOk.of (wCall_mono g n) ?_ (chk_tst h rfl)
    unfold chkE at h
    split at h
    · simp only [Bool.and_eq_true, decide_eq_true_eq] at h
      obtain ⟨a, b, _⟩ := G.glob h.1.2
      have hk := h.1.1
      rw [G.nm] at hk
      exact s_make G.tf G.room G.gd G.tk hk a b (G.tf.ini _ _ hk) (okEs es G h.2) (shape_of (chks_sub h.2)) fun z => by cases z
    · simp only [Bool.and_eq_true, decide_eq_true_eq] at h
      obtain ⟨a, b, _⟩ := G.glob h.1.2
      have hk := h.1.1
      rw [G.nm] at hk
      cases es with
      | nil => exact s_make G.tf G.room G.gd G.tk hk a b (G.tf.ini _ _ hk) sa_nil (.inl rfl) fun _ => rfl
      | cons _ _ => cases h.2
    · cases h
  | .meth a m es, X, c, W, x, G, h => by
    refine EOk.of (wCall_mono g n) ?_ (chk_tst h rfl)
    unfold chkE at h
    split at h
    · simp only [Bool.and_eq_true, decide_eq_true_eq] at h
      obtain ⟨⟨⟨⟨h1, h2⟩, h3⟩, h4⟩, h5⟩ := h
      exact s_meth G.tf G.hr G.gd G.tk (by rw [← G.nm]; exact h1) (okE a G h2).pe (okEs es G h3) (shape_of (chks_sub h3)) (fun z => by cases z) (base_of G h2 _) h5 (form_of (chks_sub h3) h4)
    · simp only [Bool.and_eq_true, decide_eq_true_eq] at h
      obtain ⟨⟨⟨h1, h2⟩, h3⟩, h5⟩ := h
      cases es with
      | nil => exact s_meth G.tf G.hr G.gd G.tk (by rw [← G.nm]; exact h1) (okE a G h2).pe sa_nil (.inl rfl) (fun _ => rfl) (base_of G h2 _) h5 rfl
      | cons _ _ => cases h3
    · cases h
  | .blt b es, X, c, W, x, G, h => by
    refine EOk.of (wCall_mono g n) ?_ (chk_tst h rfl)
    unfold chkE at h
    split at h
    · simp only [Bool.and_eq_true, decide_eq_true_eq] at h
      obtain ⟨⟨⟨⟨rfl, h2⟩, h3⟩, h4⟩, h5⟩ := h
      obtain ⟨ga, gb, _⟩ := G.glob h2
      have hs := chks_sub h4
      exact s_blt (wCall_mono g n) G.calm G.gd G.u200 ga (G.blt h3) (okEs es G h4) (star_of (hs _ List.mem_cons_self)) (any_of fun y hy => hs y (List.mem_cons_of_mem _ hy))
    · cases h
  | .bm m a es, X, c, W, x, G, h => by
    refine EOk.of (wCall_mono g n) ?_ (chk_tst h rfl)
    unfold chkE at h
    split at h
    · simp only [Bool.and_eq_true, decide_eq_true_eq] at h
      obtain ⟨⟨⟨⟨rfl, h2⟩, h3⟩, h4⟩, h5⟩ := h
      have hs := chks_sub h3
      exact s_bm (wCall_mono g n) G.calm G.u65 (okE a G h2).pe (okEs es G h3) (base_of G h2 _) (few_of hs (by omega)) h5 (star_of (hs _ List.mem_cons_self)) (any_of fun y hy => hs y (List.mem_cons_of_mem _ hy))
    · simp only [Bool.and_eq_true, decide_eq_true_eq] at h
      obtain ⟨⟨⟨rfl, h2⟩, h3⟩, h5⟩ := h
      cases es with
      | nil => exact s_bm0 (wCall_mono g n) G.calm G.u65 (okE a G h2).pe (base_of G h2 _) h5
      | cons _ _ => cases h3
    · cases h
  | .lc own t it d e', X, c, W, x, G, h => by
    refine EOk.of (wCall_mono g n) ?_ (chk_tst h rfl)
    unfold chkE at h
    split at h
    · rename_i elt tg iter ifs scope pos
      simp only [Bool.and_eq_true] at h
      obtain ⟨⟨⟨⟨⟨⟨h1, h2⟩, h3⟩, h4⟩, h5⟩, h6⟩, h7⟩ := h
      rw [G.N, G.sc] at h1
      have ok := blkOk_by h1
      have how : (ownOf X.N own).map (·.2) = own := by
        unfold ownOf
        rw [List.map_map]
        exact List.map_id' own
      have G2 := fun s H C ce fp => G.blk ok.kind s H C ce fp
      exact s_lc (wCall_mono g n) how h3 G.calm G.nd (okIt it G h4 h5).1 ok (fun s H C ce fp => okTg t (G2 s H C ce fp) h2) (fun s H C ce fp => (okEo d).2 (G2 s H C ce fp) h6) (fun s H C ce fp => (okE e' (G2 s H C ce fp) h7).pe) (okIt it G h4 h5).2
    · cases h
  | .dc own t it d k e', X, c, W, x, G, h => by
    refine EOk.of (wCall_mono g n) ?_ (chk_tst h rfl)
    unfold chkE at h
    split at h
    · rename_i kx elt tg iter ifs scope pos
      simp only [Bool.and_eq_true] at h
      obtain ⟨⟨⟨⟨⟨⟨⟨h1, h2⟩, h3⟩, h4⟩, h5⟩, h6⟩, h7⟩, h8⟩ := h
      rw [G.N, G.sc] at h1
      have ok := blkOk_by h1
      have how : (ownOf X.N own).map (·.2) = own := by
        unfold ownOf
        rw [List.map_map]
        exact List.map_id' own
      have G2 := fun s H C ce fp => G.blk ok.kind s H C ce fp
      exact s_dc (wCall_mono g n) how h3 G.calm G.nd (okIt it G h4 h5).1 ok (fun s H C ce fp => okTg t (G2 s H C ce fp) h2) (fun s H C ce fp => (okEo d).2 (G2 s H C ce fp) h6) (fun s H C ce fp => (okE k (G2 s H C ce fp) h7).pe) (fun s H C ce fp => (okE e' (G2 s H C ce fp) h8).pe) (okIt it G h4 h5).2
    · cases h
  | .lc2 own own1 t it t1 a e', X, c, W, x, G, h => by
    refine EOk.of (wCall_mono g n) ?_ (chk_tst h rfl)
    unfold chkE at h
    split at h
    · rename_i elt tg iter tg1 iter1 scope pos
      simp only [Bool.and_eq_true] at h
      obtain ⟨⟨⟨⟨⟨⟨⟨⟨⟨h1, h2⟩, h3⟩, h4⟩, h5⟩, h6⟩, h7⟩, h8⟩, h9⟩, h10⟩ := h
      rw [G.N, G.sc] at h1
      have ok := blkOk_by h1
      have how : (ownOf X.N own).map (·.2) = own := by
        unfold ownOf
        rw [List.map_map]
        exact List.map_id' own
      have G2 := fun s H C ce fp => G.blk ok.kind s H C ce fp
      have hin : ∀ i ∈ own1, i ∈ own := fun i hi => by simpa using List.all_eq_true.mp h8 i hi
      exact s_lc2 (wCall_mono g n) how hin h3 h7 G.calm G.nd (okIt it G h4 h5).1 ok (fun s H C ce fp => okTg t (G2 s H C ce fp) h2) (fun s H C ce fp => okTg t1 (G2 s H C ce fp) h6) (fun s H C ce fp => (okE a (G2 s H C ce fp) h9).pe) (fun s H C ce fp => (okE e' (G2 s H C ce fp) h10).pe) (okIt it G h4 h5).2 (fun env => fold_of (chk_sub h9))
    · cases h
  | .lenD a m, X, c, W, x, G, h => by
    refine EOk.of (wCall_mono g n) ?_ (chk_tst h rfl)
    unfold chkE at h
    split at h
    · simp only [Bool.and_eq_true, decide_eq_true_eq] at h
      obtain ⟨⟨⟨⟨rfl, h2⟩, h3⟩, h4⟩, h5⟩ := h
      obtain ⟨ga, gb, gn, _⟩ := G.glob h2
      exact s_lenD G.tf G.room G.calm G.gd G.gd G.u200 (by rw [← G.nm]; exact h4) ga (G.blt h3) (okE a G h5).pe (chk_sub h5)
    · cases h
  | .isx a bs, X, c, W, x, G, h => by
    refine EOk.of (wCall_mono g n) ?_ (chk_tst h rfl)
    unfold chkE at h
    split at h
    · simp only [Bool.and_eq_true, decide_eq_true_eq] at h
      obtain ⟨⟨⟨⟨⟨rfl, h2⟩, h3⟩, h4⟩, h5⟩, h6⟩ := h
      obtain ⟨ga, _⟩ := G.glob h2
      obtain ⟨gz, gzd, _⟩ := G.glob h5
      obtain ⟨rv, u, r1, r2⟩ := G.tf.exm _ (show _ ∈ S.exm by rw [← G.nm]; simpa using h6)
      exact s_isx (wCall_mono g n) G.tf r2 ga (G.blt h3) gz r1 gzd (okE a G h4).pe (chk_sub h4)
    · simp only [Bool.and_eq_true, decide_eq_true_eq, List.any_eq_true, beq_iff_eq] at h
      obtain ⟨⟨⟨⟨⟨⟨rfl, h2⟩, h3⟩, h4⟩, h5⟩, h6⟩, ⟨u, hu, rfl, v, hv, rfl, hbs⟩⟩ := h
      obtain ⟨ga, _⟩ := G.glob h2
      obtain ⟨gz, gzd, _⟩ := G.glob h5
      obtain ⟨gz2, gzd2, _⟩ := G.glob h6
      obtain ⟨_, _, r1, r2⟩ := G.tf.exm u (by rw [← G.nm]; exact hu)
      obtain ⟨_, _, q1, q2⟩ := G.tf.exm v (by rw [← G.nm]; exact hv)
      exact s_isx2 (wCall_mono g n) G.tf r2 q2 hbs ga (G.blt h3) gz r1 gzd gz2 q1 gzd2 (okE a G h4).pe (chk_sub h4)
    · simp only [Bool.and_eq_true, decide_eq_true_eq, List.any_eq_true, beq_iff_eq] at h
      obtain ⟨⟨⟨⟨⟨⟨⟨rfl, h2⟩, h3⟩, h4⟩, h5⟩, h6⟩, h7⟩, ⟨u, hu, rfl, v, hv, rfl, w, hw, rfl, hbs⟩⟩ := h
      obtain ⟨ga, _⟩ := G.glob h2
      obtain ⟨gz, gzd, _⟩ := G.glob h5
      obtain ⟨gz2, gzd2, _⟩ := G.glob h6
      obtain ⟨gz3, gzd3, _⟩ := G.glob h7
      obtain ⟨_, _, r1, r2⟩ := G.tf.exm u (by rw [← G.nm]; exact hu)
      obtain ⟨_, _, q1, q2⟩ := G.tf.exm v (by rw [← G.nm]; exact hv)
      obtain ⟨_, _, m1, m2⟩ := G.tf.exm w (by rw [← G.nm]; exact hw)
      exact s_isx3 (wCall_mono g n) G.tf r2 q2 m2 hbs ga (G.blt h3) gz r1 gzd gz2 q1 gzd2 gz3 m1 gzd3 (okE a G h4).pe (chk_sub h4)
    · cases h
  | .xfd a f, X, c, W, x, G, h => by
    refine EOk.of (wCall_mono g n) ?_ (chk_tst h rfl)
    unfold chkE at h
    split at h
    · simp only [Bool.and_eq_true, decide_eq_true_eq] at h
      exact s_xfd (wCall_mono g n) G.tf (by rw [← G.nm]; exact h.1.1) (okE a G h.2).pe (base_of G h.2 _)
    · cases h
  | .xnew k f a, X, c, W, x, G, h => by
    refine EOk.of (wCall_mono g n) ?_ (chk_tst h rfl)
    unfold chkE at h
    split at h
    · simp only [Bool.and_eq_true, decide_eq_true_eq] at h
      obtain ⟨gx, gd, _⟩ := G.glob h.1.2
      exact s_xnew (wCall_mono g n) G.tf (G.room.mono (by omega)) (by rw [← G.nm]; exact h.1.1) gx gd (okE a G h.2).pe (chk_sub h.2)
    · cases h
  | .xnw0 k, X, c, W, x, G, h => by
    refine EOk.of (wCall_mono g n) ?_ (chk_tst h rfl)
    unfold chkE at h
    split at h
    · simp only [Bool.and_eq_true] at h
      obtain ⟨gx, gd, _⟩ := G.glob h.2
      exact s_xnw0 G.tf (by rw [← G.nm]; simpa using h.1) gx gd
    · cases h
  | .callK f es pm, X, c, W, x, G, h => by
    refine EOk.of (wCall_mono g n) ?_ (chk_tst h rfl)
    unfold chkE at h
    split at h
    · rename_i u p xs k ks q
      simp only [Bool.and_eq_true, decide_eq_true_eq, List.any_eq_true] at h
      obtain ⟨⟨⟨⟨h1, h2⟩, h3⟩, h4⟩, ⟨e, he, ⟨⟨e1, e2⟩, e3⟩, e4⟩⟩ := h
      obtain ⟨gz, gd, _⟩ := G.glob h2
      obtain ⟨pa, pk⟩ := okEk es G h3
      obtain ⟨s1, s2⟩ := chkk_sub h3
      obtain ⟨k1, k2, k3, k4⟩ := kws_form (pos := q) (env := X.env) h4
      obtain ⟨ef, en, ek, ep⟩ := e
      simp only at e1 e2 e3 e4
      subst e1 e2 e3
      exact s_callK G.tf G.hr G.gd G.tk (by rw [← G.nm]; exact h1) gz gd pa pk (shape_of s1) s2 k1 k2 k3 k4 (by rw [← G.nm]; exact he) (perm_inl e4)
    · cases h
  | .makeK _ _ _, X, c, W, x, G, h => by cases h
  | .methK a m es pm, X, c, W, x, G, h => by
    refine EOk.of (wCall_mono g n) ?_ (chk_tst h rfl)
    unfold chkE at h
    split at h
    · rename_i o nm p xs k ks q
      simp only [Bool.and_eq_true, decide_eq_true_eq, List.any_eq_true] at h
      obtain ⟨⟨⟨⟨⟨⟨h1, h2⟩, h3⟩, h4⟩, ⟨e, he, ⟨⟨e1, e2⟩, e3⟩, e4⟩⟩, h6⟩, h7⟩ := h
      obtain ⟨pa, pk⟩ := okEk es G h3
      obtain ⟨s1, s2⟩ := chkk_sub h3
      obtain ⟨k1, k2, k3, k4⟩ := kws_form (pos := q) (env := X.env) h4
      obtain ⟨em, en, ek, ep⟩ := e
      simp only at e1 e2 e3 e4
      subst e1 e2 e3
      exact s_methK G.tf G.hr G.gd G.tk (by rw [← G.nm]; exact h1) (okE a G h2).pe pa pk (shape_of s1) (base_of G h2 _) h7 (kform_of s1 k1 h6) s2 k1 k2 k3 k4 (by rw [← G.nm]; exact he) (perm_inl e4)
    · cases h
theorem okEs : ∀ (es : Exs) {X : Cx} {c : Ck} {W : WX} {xs : List Expr}, Good S g L n X c W → chkEs c es xs = true → PA X xs (tEs X.K L g (wCall g n) W es)
  | .nil, X, c, W, xs, G, h => by
    cases xs with
    | nil => exact sa_nil
    | cons _ _ => cases h
  | .cons e r, X, c, W, xs, G, h => by
    cases xs with
    | nil => cases h
    | cons y ys =>
      have h : (chkE c e y && chkEs c r ys) = true := h
      rw [Bool.and_eq_true] at h
      exact sa_cons (wCall_mono g n) (okE e G h.1).pe (okEs r G h.2) (star_of (chk_sub h.1))
theorem okEk : ∀ (es : Exs) {X : Cx} {c : Ck} {W : WX} {xs : List Expr} {ks : List Keyword}, Good S g L n X c W → chkEk c es xs ks = true → PA X xs (tEs X.K L g (wCall g n) W (takeX xs.length es)) ∧ PK X ks (tEs X.K L g (wCall g n) W (dropX xs.length es))
  | .nil, X, c, W, xs, ks, G, h => by
    unfold chkEk at h
    split at h
    · exact ⟨sa_nil, sk_nil⟩
    · cases h
  | .cons e r, X, c, W, xs, ks, G, h => by
    cases xs with
    | nil =>
      cases ks with
      | nil => cases h
      | cons k ks =>
        have h : (chkE c e k.value && chkEk c r [] ks) = true := h
        rw [Bool.and_eq_true] at h
        have q := (okEk r G h.2).2
        refine ⟨sa_nil, sk_cons (wCall_mono g n) (okE e G h.1).pe ?_⟩
        cases r <;> exact q
    | cons y ys =>
      have h : (chkE c e y && chkEk c r ys ks) = true := h
      rw [Bool.and_eq_true] at h
      have q := okEk r G h.2
      exact ⟨sa_cons (wCall_mono g n) (okE e G h.1).pe q.1 (star_of (chk_sub h.1)), q.2⟩
theorem okDi : ∀ (es : Exs) {X : Cx} {c : Ck} {W : WX} {ks : List (Option Expr)} {vs : List Expr} {pos : Pos}, Good S g L n X c W → chkDi c es ks vs = true → PPs X pos ks vs (trsOf X.K L g (wCall g n) W es)
  | .nil, X, c, W, ks, vs, pos, G, h => by
    unfold chkDi at h
    split at h
    · exact pps_nil
    · cases h
  | .cons e .nil, X, c, W, ks, vs, pos, G, h => by cases h
  | .cons e (.cons e' r), X, c, W, ks, vs, pos, G, h => by
    unfold chkDi at h
    simp only at h
    split at h
    · simp only [Bool.and_eq_true] at h
      exact pps_cons (okE e G h.1.1).pe (okE e' G h.1.2).pe (okDi r G h.2)
    · cases h
theorem okEo : ∀ (eo : Exo), (∀ {X : Cx} {c : Ck} {W : WX} {x : Option Expr}, Good S g L n X c W → chkEo c eo x = true → PO X x (tEo X.K L g (wCall g n) W eo)) ∧
    (∀ {X : Cx} {c : Ck} {x : List Expr}, Good S g L n X c (fun _ _ _ _ => False) → chkIf c eo x = true → PTs X x (ttOf X.K L g (wCall g n) eo))
  | .no => by
    refine ⟨fun {X c W x} G h => ?_, fun {X c x} G h => ?_⟩
    · cases x with
      | none => exact so_no
      | some _ => cases h
    · cases x with
      | nil => exact pts_nil
      | cons _ _ => cases h
  | .so e => by
    refine ⟨fun {X c W x} G h => ?_, fun {X c x} G h => ?_⟩
    · cases x with
      | none => cases h
      | some y => exact so_so (wCall_mono g n) (okE e G h).pe
    · cases x with
      | nil => cases h
      | cons y ys =>
        cases ys with
        | nil => exact pts_one (okE e G h).pt
        | cons _ _ => cases h
theorem okTg : ∀ (t : Tg) {X : Cx} {c : Ck} {W : WX} {x : Expr}, Good S g L n X c W → chkTg c t x = true → PG X x (tG X.K L g (wCall g n) t)
  | .nm i, X, c, W, x, G, h => by
    unfold chkTg at h
    split at h
    · simp only [Bool.and_eq_true, decide_eq_true_eq] at h
      obtain ⟨a, b⟩ := G.loc h.2
      exact g_nm G.nd (by rw [← G.N]; exact h.1) a b
    · cases h
  | .tp ts, X, c, W, x, G, h => by
    unfold chkTg at h
    split at h
    · exact g_tp G.calm (okTgs ts G h) (tgs_form h).1 (tgs_form h).2
    · cases h
  | .at o f, X, c, W, x, G, h => by
    unfold chkTg at h
    split at h
    · simp only [Bool.and_eq_true, decide_eq_true_eq] at h
      exact g_at (wCall_mono g n) G.tf (by rw [← G.nm]; exact h.1) (okE o G h.2).pe
    · cases h
  | .sb o i, X, c, W, x, G, h => by
    unfold chkTg at h
    split at h
    · rw [Bool.and_eq_true] at h
      exact g_sb (wCall_mono g n) G.u65 (okE o G h.1).pe (okE i G h.2).pe (chk_sub h.2)
    · cases h
theorem okTgs : ∀ (ts : Tgs) {X : Cx} {c : Ck} {W : WX} {xs : List Expr}, Good S g L n X c W → chkTgs c ts xs = true → PGs X xs (tGs X.K L g (wCall g n) ts)
  | .nil, X, c, W, xs, G, h => by
    cases xs with
    | nil => exact gs_nil
    | cons _ _ => cases h
  | .cons t r, X, c, W, xs, G, h => by
    cases xs with
    | nil => cases h
    | cons y ys =>
      have h : (chkTg c t y && chkTgs c r ys) = true := h
      rw [Bool.and_eq_true] at h
      exact gs_cons (wCall_mono g n) (okTg t G h.1) (okTgs r G h.2) (tg_ae h.1)
theorem okIt : ∀ (it : Ix) {X : Cx} {c : Ck} {W : WX} {tg x : Expr}, Good S g L n X c W → itTg it tg = true → chkIt c it x = true → PI X tg x (tI X.K L g (wCall g n) W X.H_0 it) ∧ ∀ z, foldedSetIterable x X.env z = pure z
  | .vl e, X, c, W, tg, x, G, ht, h => by
    have h : chkE c e x = true := h
    exact ⟨i_vl (wCall_mono g n) (okE e G h).pe, fold_of (chk_sub h)⟩
  | .rng1 e, X, c, W, tg, x, G, ht, h => by
    unfold chkIt at h
    split at h
    · simp only [Bool.and_eq_true, decide_eq_true_eq] at h
      obtain ⟨⟨⟨rfl, h2⟩, h3⟩, h4⟩ := h
      obtain ⟨ga, gb, _⟩ := G.glob h2
      exact ⟨i_rng1 (wCall_mono g n) ga (G.blt h3) (okE e G h4).pe (star_of (chk_sub h4)) rfl, fun _ => rfl⟩
    · cases h
  | .rng2 a b, X, c, W, tg, x, G, ht, h => by
    unfold chkIt at h
    split at h
    · simp only [Bool.and_eq_true, decide_eq_true_eq] at h
      obtain ⟨⟨⟨⟨rfl, h2⟩, h3⟩, h4⟩, h5⟩ := h
      obtain ⟨ga, gb, _⟩ := G.glob h2
      have e2 := star_of (xs := []) (env := X.env) (chk_sub h5)
      exact ⟨i_rng2 (wCall_mono g n) ga (G.blt h3) (okE a G h4).pe (okE b G h5).pe ((star_of (chk_sub h4)).trans (by rw [e2]; rfl)) e2 rfl, fun _ => rfl⟩
    · cases h
  | .enum e, X, c, W, tg, x, G, ht, h => by
    unfold chkIt at h
    split at h
    · simp only [Bool.and_eq_true, decide_eq_true_eq] at h
      obtain ⟨⟨⟨rfl, h2⟩, h3⟩, h4⟩ := h
      obtain ⟨ga, gb, _⟩ := G.glob h2
      cases tg <;> first | cases ht | skip
      exact ⟨i_enum (wCall_mono g n) ga (G.blt h3) (okE e G h4).pe (star_of (chk_sub h4)) rfl, fun _ => rfl⟩
    · cases h
  | .zip2 a b, X, c, W, tg, x, G, ht, h => by
    unfold chkIt at h
    split at h
    · simp only [Bool.and_eq_true, decide_eq_true_eq] at h
      obtain ⟨⟨⟨⟨rfl, h2⟩, h3⟩, h4⟩, h5⟩ := h
      obtain ⟨ga, gb, _⟩ := G.glob h2
      cases tg <;> first | cases ht | skip
      have e2 := star_of (xs := []) (env := X.env) (chk_sub h5)
      exact ⟨i_zip (wCall_mono g n) ga (G.blt h3) (okE a G h4).pe (okE b G h5).pe (star_of (chk_sub h4)) e2 rfl (by rw [e2]; rfl), fun _ => rfl⟩
    · cases h
  | .items e, X, c, W, tg, x, G, ht, h => by
    unfold chkIt at h
    split at h
    · simp only [Bool.and_eq_true, decide_eq_true_eq] at h
      obtain ⟨⟨rfl, h2⟩, h3⟩ := h
      cases tg <;> first | cases ht | skip
      exact ⟨i_items (wCall_mono g n) (okE e G h2).pe (base_of G h2 _) h3, fun _ => rfl⟩
    · cases h
  | .vals e, X, c, W, tg, x, G, ht, h => by
    unfold chkIt at h
    split at h
    · simp only [Bool.and_eq_true, decide_eq_true_eq] at h
      obtain ⟨⟨rfl, h2⟩, h3⟩ := h
      exact ⟨i_vals (wCall_mono g n) (okE e G h2).pe (base_of G h2 _) h3, fun _ => rfl⟩
    · cases h
end
end
end MI
set_option maxHeartbeats 4000000
/-! MI, part 18: the check is enough (statements). -/
namespace MI
open PySem PySem.Spec PyProof.Rows L2

section
variable {S : Nm} {g : Glob} {L : Lay} {n : Nat}
theorem blockKind_fn {env : PySem.Env} (h : env.scope.kind = .function) : env.blockKind = .function := by
  unfold PySem.Env.blockKind
  rw [h]
  rfl
theorem swap_par {env : PySem.Env} {u v : Str} {p q pt pt2 : Pos} {kt k2 : Nat} {xa xb : Expr} (hk : env.scope.kind = .function) (hx : env.scope.names.lookup u = some .local) (hy : env.scope.names.lookup v = some .local) (hl : (q.line == p.line) = true) (hne : u ≠ v) (ha : isSub xa = false) (hb : isSub xb = false)
    (hf : ([xa, xb].all (foldedForSure 8)) = false) (hc : ([xa, xb].all (constantsAlone 8)) = false) : swappedStores [.Tuple [.Name u p, .Name v q] kt pt] (.Tuple [xa, xb] k2 pt2) env = pure (some [u, v]) := by
  have hst : ([xa, xb].any fun | .Starred .. => true | _ => false) = false := by
    cases xa <;> first | cases ha | skip
    all_goals cases xb <;> first | rfl | cases hb
  have hbk := blockKind_fn hk
  have ku : env.kindOf u = some .local := hx
  have kv : env.kindOf v = some .local := hy
  have hl' : q.line = p.line := beq_iff_eq.mp hl
  unfold swappedStores
  simp only [hbk, hst, hf, hc, ku, kv, Expr.pos, hl', List.length_cons, List.length_nil, List.head?_cons, Option.map_some, Option.getD_some, List.filterMap_cons, List.filterMap_nil]
  simp [List.eraseDups_cons, hne, Ne.symm hne]
  intro h
  exfalso
  rcases h with h | h
  · cases xa <;> first | (cases ha; done) | (cases h; done)
  · cases xb <;> first | (cases hb; done) | (cases h; done)
theorem okS_setLc {X : Cx} {c : Ck} {W : WX} (G : Good S g L n X c W) {i : Nat} {x : Str} {p spos : Pos} {y : Expr} {e : Ex} (hi : X.N[i]? = some x) (hl : Loc X.env.scope x ∧ (X.fn x = true ∨ X.env.scope.names.lookup x = some .local)) (h : chkE c e y = true) (hn : (noComp y || isLc e) = true) :
    PS X (.Assign [.Name x p] y spos) (tS X.K L g (wCall g n) W (.asg (.nm i) e)) := by
  rw [Bool.or_eq_true] at hn
  rcases hn with hn | hn
  · exact s_asgN (wCall_mono g n) (okE e G h).pe G.nd hi hl.1 (swap_of hn) hl.2
  · cases e with
    | lc own t it d e' =>
      have hpe := (okE _ G h).pe
      unfold chkE at h
      split at h
      · rename_i elt tg iter ifs scope pos
        simp only [Bool.and_eq_true] at h
        obtain ⟨⟨⟨⟨⟨⟨h1, h2⟩, h3⟩, h4⟩, h5⟩, h6⟩, h7⟩ := h
        rw [G.N, G.sc] at h1
        have ok := blkOk_by h1
        have how : (ownOf X.N own).map (·.2) = own := by
          unfold ownOf
          rw [List.map_map]
          exact List.map_id' own
        have G2 := fun s H C ce fp => G.blk ok.kind s H C ce fp
        by_cases hcase : X.env.scope.names.lookup x = some .local ∧ (p.line == pos.line) = true ∧ (scope.names.any fun (n, k) => n == x && (k == .local || k == .cell)) = false
        · obtain ⟨c1, c2, c3⟩ := hcase
          exact s_setLc (wCall_mono g n) how h3 G.calm G.nd hi c1 (sw_true G.kind c1 c2 c3) (okIt it G h4 h5).1 ok (fun s H C ce fp => okTg t (G2 s H C ce fp) h2) (fun s H C ce fp => (okEo d).2 (G2 s H C ce fp) h6) (fun s H C ce fp => (okE e' (G2 s H C ce fp) h7).pe) (okIt it G h4 h5).2
        · refine s_asgN (wCall_mono g n) hpe G.nd hi hl.1 ?_ hl.2
          have hbk := blockKind_fn G.kind
          show (pure (X.env.blockKind == .function && X.env.kindOf x == some .local && p.line == pos.line && !(scope.names.any fun (n, k) => n == x && (k == .local || k == .cell))) : Sem Bool) = pure false
          congr 1
          cases hb : (X.env.blockKind == .function && X.env.kindOf x == some .local && p.line == pos.line && !(scope.names.any fun (n, k) => n == x && (k == .local || k == .cell))) with
          | false => rfl
          | true =>
            exfalso
            simp only [Bool.and_eq_true, Bool.not_eq_true'] at hb
            obtain ⟨⟨⟨b1, b2⟩, b3⟩, b4⟩ := hb
            exact hcase ⟨beq_iff_eq.mp b2, b3, b4⟩
      · cases h
    | _ => cases hn
mutual
theorem okS : ∀ (s : MI.St) {X : Cx} {c : Ck} {W : WX} {st : Stmt}, Good S g L n X c W → chkS c s st = true → PS X st (tS X.K L g (wCall g n) W s)
  | .pass, X, c, W, st, G, h => by
    unfold chkS at h
    split at h
    · exact s_pass
    · exact s_doc
    · cases h
  | .brk, X, c, W, st, G, h => by
    unfold chkS at h
    split at h
    · exact s_brk
    · cases h
  | .cont, X, c, W, st, G, h => by
    unfold chkS at h
    split at h
    · exact s_cont
    · cases h
  | .expr e, X, c, W, st, G, h => by
    unfold chkS at h
    split at h
    · rw [Bool.and_eq_true] at h
      exact s_expr (wCall_mono g n) (okE e G h.1).pe (swap_of h.2)
    · cases h
  | .ret eo, X, c, W, st, G, h => by
    unfold chkS at h
    split at h
    · rename_i x p
      cases eo with
      | no =>
        cases x with
        | none => exact s_retN
        | some _ => cases h
      | so e =>
        cases x with
        | none => cases h
        | some y => exact s_ret (wCall_mono g n) (okE e G h).pe
    · cases h
  | .asg t e, X, c, W, st, G, h => by
    unfold chkS at h
    split at h
    · rename_i x y p
      split at h
      · rename_i ts
        split at h
        · rename_i es
          -- a, b = x, y
          unfold chkPar at h
          split at h
          · split at h
            · simp only [Bool.and_eq_true, decide_eq_true_eq, Bool.not_eq_true'] at h
              obtain ⟨⟨⟨⟨⟨⟨⟨⟨⟨⟨h1, h2⟩, h3⟩, h4⟩, h5⟩, h6⟩, h7⟩, h8⟩, h9⟩, h10⟩, h11⟩ := h
              rw [G.N] at h3 h4
              rw [G.sc] at h5 h6
              have sa := chk_sub h8
              have sb := chk_sub h9
              exact s_par (wCall_mono g n) G.calm G.nd h3 h4 h1 h5 h6 (sa_cons (wCall_mono g n) (okE _ G h8).pe (sa_cons (wCall_mono g n) (okE _ G h9).pe sa_nil (star_of sb)) (star_of sa)) (swap_par G.kind h5 h6 h7 h2 sa sb h10 h11) rfl
            · cases h
          · cases h
        · rename_i hne
          simp only [Bool.and_eq_true, Bool.not_eq_true'] at h
          obtain ⟨⟨h1, h2⟩, h3⟩ := h
          have hx : ∃ xs k q, x = .Tuple xs k q := by
            cases x <;> first | exact ⟨_, _, _, rfl⟩ | cases h1
          obtain ⟨xs, k, q, rfl⟩ := hx
          refine s_asg (wCall_mono g n) (okE e G h2).pe (okTg _ G h1) ?_ ?_ rfl
          · show swapsWith y (some (.Tuple xs k q)) p.line X.env = pure false
            cases y <;> rfl
          · cases y <;> first | rfl | cases h3
      · rename_i i
        simp only [Bool.and_eq_true] at h
        obtain ⟨⟨h1, h2⟩, h3⟩ := h
        unfold chkTg at h1
        split at h1
        · simp only [Bool.and_eq_true, decide_eq_true_eq] at h1
          exact okS_setLc G (by rw [← G.N]; exact h1.1) (G.loc h1.2) h2 h3
        · cases h1
      · rename_i hn1 hn2
        rw [Bool.and_eq_true] at h
        obtain ⟨h1, h2⟩ := h
        cases t with
        | nm i => exact absurd rfl (hn2 i)
        | tp ts => exact absurd rfl (hn1 ts)
        | «at» o f =>
          have hx : ∃ a b q, x = .Attribute a b q := by
            cases x <;> first | exact ⟨_, _, _, rfl⟩ | cases h1
          obtain ⟨a, b, q, rfl⟩ := hx
          refine s_asg (wCall_mono g n) (okE e G h2).pe (okTg _ G h1) ?_ rfl rfl
          show swapsWith y (some (.Attribute a b q)) p.line X.env = pure false
          cases y <;> rfl
        | sb o i =>
          have hx : ∃ a b q, x = .Subscript a b q := by
            cases x <;> first | exact ⟨_, _, _, rfl⟩ | cases h1
          obtain ⟨a, b, q, rfl⟩ := hx
          refine s_asg (wCall_mono g n) (okE e G h2).pe (okTg _ G h1) ?_ rfl rfl
          show swapsWith y (some (.Subscript a b q)) p.line X.env = pure false
          cases y <;> rfl
    · cases h
  | .augn i o e, X, c, W, st, G, h => by
    unfold chkS at h
    split at h
    · simp only [Bool.and_eq_true, decide_eq_true_eq] at h
      obtain ⟨⟨⟨⟨h1, h2⟩, rfl⟩, h4⟩, h5⟩ := h
      obtain ⟨a, b⟩ := G.loc h2
      exact s_augn (wCall_mono g n) G.nd (by rw [← G.N]; exact h1) a (okE e G h5).pe b
    · cases h
  | .augf a f o e, X, c, W, st, G, h => by
    unfold chkS at h
    split at h
    · simp only [Bool.and_eq_true, decide_eq_true_eq] at h
      obtain ⟨⟨⟨⟨h1, rfl⟩, h3⟩, h4⟩, h5⟩ := h
      exact s_augf (wCall_mono g n) G.tf (by rw [← G.nm]; exact h1) (okE a G h4).pe (okE e G h5).pe
    · cases h
  | .ifs t a b, X, c, W, st, G, h => by
    unfold chkS at h
    split at h
    · simp only [Bool.and_eq_true] at h
      exact s_if (wCall_mono g n) (okE t G h.1.1).pt (okSs a G h.1.2) (okSs b G h.2)
    · cases h
  | .whl t b, X, c, W, st, G, h => by
    unfold chkS at h
    split at h
    · rw [Bool.and_eq_true] at h
      exact s_while (wCall_mono g n) G.po (okE t G h.1).pt (okSs b G h.2)
    · cases h
  | .for_ t it b, X, c, W, st, G, h => by
    unfold chkS at h
    split at h
    · simp only [Bool.and_eq_true] at h
      obtain ⟨⟨⟨h1, h2⟩, h3⟩, h4⟩ := h
      exact s_for (wCall_mono g n) G.po G.calm (okIt it G h2 h3).1 (okTg t G h1) (okSs b G h4) (okIt it G h2 h3).2
    · cases h
  | .raise k f e, X, c, W, st, G, h => by
    unfold chkS at h
    split at h
    · simp only [Bool.and_eq_true, decide_eq_true_eq] at h
      obtain ⟨gx, gd, _⟩ := G.glob h.1.2
      exact s_raise (wCall_mono g n) G.tf (G.room.mono (by omega)) G.calm G.tk (by rw [← G.nm]; exact h.1.1) gx gd (okE e G h.2).pe (chk_sub h.2)
    · cases h
  | .tryK b bs i j, X, c, W, st, G, h => by
    unfold chkS at h
    split at h
    · simp only [Bool.and_eq_true, decide_eq_true_eq] at h
      obtain ⟨⟨⟨⟨⟨⟨⟨⟨⟨⟨h0, h1⟩, h2⟩, rfl⟩, h4⟩, h5⟩, h6⟩, h7⟩, h8⟩, h9⟩, h10⟩ := h
      obtain ⟨gx, gd, _⟩ := G.glob h1
      obtain ⟨rv, u, r1, r2⟩ := G.tf.exm _ (show _ ∈ S.exm by rw [← G.nm]; simpa using h2)
      obtain ⟨t1, t2, t3⟩ := G.tp h0
      obtain ⟨_, v2, v3⟩ := G.vis h9
      rw [G.N] at h4 h5
      rw [G.sc] at h7 h8
      exact s_tryK (wCall_mono g n) t2 t3 t1 G.tk r2 G.nd h4 h7 h5 h8 h6 gx r1 gd v2 v3 fun W' pn xe tk po => okSs b (G.tr tk po) h10
    · cases h
  | .never, X, c, W, st, G, h => s_never
theorem okSs : ∀ (ss : Sts) {X : Cx} {c : Ck} {W : WX} {sts : List Stmt}, Good S g L n X c W → chkSs c ss sts = true → PSs X sts (tSs X.K L g (wCall g n) W ss)
  | .nil, X, c, W, sts, G, h => by
    cases sts with
    | nil => exact ss_nil
    | cons _ _ => cases h
  | .cons s r, X, c, W, sts, G, h => by
    cases sts with
    | nil => cases h
    | cons x xs =>
      have h : (chkS c s x && chkSs c r xs) = true := h
      rw [Bool.and_eq_true] at h
      exact ss_cons (wCall_mono g n) (okS s G h.1) (okSs r G h.2)
end
end
end MI
set_option maxHeartbeats 4000000
/-! MI, part 19: the text's functions, level by level; the end. -/
namespace MI
open PySem PySem.Spec PyProof.Rows L2

/-- the f-th def of the text stands at fa and its body is the f-th body -/
structure FnT (S : Nm) (g : Glob) (K : PySem.W.Frag) (f : Nat) (fa : Addr) : Prop where
  ex : ∃ (name qual : Str) (params : Arguments) (body : List Stmt) (scope : Scope) (dV kV doc pm cdv ct oc : Value) (an od : Option Addr) (osl : Array (Option Value)) (N : List Str) (fi : FnI),
    g.fns[f]? = some fi ∧ K.lookup fa = some ⟨oc, od, .func (PySem.W.fnOf name qual params body scope dV kV doc pm an cdv ct), osl⟩ ∧ PySem.W.codeIn K cdv qual = true ∧ FnScope N (N.take fi.np) scope ∧ fi.np ≤ N.length ∧ fi.ns = N.length ∧
      Binds K (PySem.W.fnOf name qual params body scope dV kV doc pm an cdv ct) (N.take fi.np) [] ∧ (∀ sh ∈ S.shp, sh.1 = f → ShpOk K (PySem.W.fnOf name qual params body scope dV kV doc pm an cdv ct) (N.take fi.np) sh.2.1 sh.2.2.1 sh.2.2.2) ∧ chkSs ⟨S, scope, N, true⟩ fi.body body = true
/-- what does not hang on the level -/
structure TFS (S : Nm) (g : Glob) (K : PySem.W.Frag) (mg : Str → Option Value) (L : Lay) : Prop where
  blt : ∀ x ∈ S.blts, mg x = none
  att : L.attrs = S.attrs ∧ S.attrs.Nodup
  fn : ∀ (f : Nat) (x : Str), S.fnN[f]? = some (some x) → ∃ a, L.fns[f]? = some a ∧ mg x = some (.ref a) ∧ PySem.W.keepIn K (.ref a) = true
  fnt : ∀ (f : Nat) (a : Addr), L.fns[f]? = some a → FnT S g K f a
  mak : ∀ (c : Nat) (x : Str) (f : Nat), S.clsN[c]? = some x → g.init c = some f → ∃ C a, L.clss[c]? = some C ∧ mg x = some (.ref C) ∧ L.fns[f]? = some a ∧ Mk K C a
  ini : ∀ (k : Nat) (x : Str), S.clsN[k]? = some x → g.init k ≠ none
  cls : ∀ (c : Nat) (C : Addr), L.clss[c]? = some C → Cls K C ∧ (∀ x ∈ S.attrs, NoAttr K C x)
  mth : ∀ (c : Nat) (C : Addr) (m : Nat) (nm : Str) (f : Nat), L.clss[c]? = some C → S.mths[m]? = some nm → g.meth c m = some f → ∃ a, L.fns[f]? = some a ∧ Meth K C nm a
  mna : ∀ (m : Nat) (nm : Str), S.mths[m]? = some nm → nm ∉ S.attrs
  mks : ∀ e ∈ S.mks, ∀ c f, g.meth c e.1 = some f → (f, e.2.1 + 1, e.2.2.1, 0 :: e.2.2.2.map (· + 1)) ∈ S.shp
  exc : ∀ (k : Nat) (x : Str) (f : Nat), S.excN[k]? = some (x, f) → ∃ C nm, L.exs[k]? = some C ∧ mg x = some (.ref C) ∧ S.attrs[f]? = some nm ∧ ∃ fI fd ps, ∃ b, OexG K C b ∧ PySem.W.findIn K (.ref C) "__init__" = some (some (.ref fI)) ∧ PySem.W.typeIn K (.ref fI) = some (.type "function") ∧ Binds K fd ps [] ∧ ∀ P w base, FnOk P w K mg base (L2.CX P w) 1 fI fd ps (spX K C nm)
  ex0 : ∀ (k : Nat) (x : Str), (k, x) ∈ S.exc0 → ∃ C b, L.exs[k]? = some C ∧ mg x = some (.ref C) ∧ Oex0 K C b ∧ b.ntl = b.tl
  exf : ∀ (k : Nat) (C : Addr), L.exs[k]? = some C → ExF K S.attrs C
  exm : ∀ p ∈ S.exm, ∃ rv u, NamesV mg p.1 rv u ∧ ExmAt K L u p.2
  con : ∀ (k : Nat) (x : Str), S.constN[k]? = some x → ∃ d u v, g.consts[k]? = some d ∧ mg x = some u ∧ RelV v u ∧ ∀ ρ H, RD K L ρ H d v

section
variable {S : Nm} {g : Glob} {P : Program} {w : World} {K : PySem.W.Frag} {mg : Str → Option Value} {base : Heap} {L : Lay}
theorem spI_len {n f : Nat} {fi : FnI} {N : List Str} (hf : g.fns[f]? = some fi) (hnp : fi.np ≤ N.length) {vs : List V} {H : Hp} {Q : VK} {E : XK} (h : spI K L g n f vs H Q E) : vs.length = (N.take fi.np).length := by
  obtain ⟨ρ, hp, ds, r, rd, h⟩ := h
  cases n with
  | zero => exact False.elim h
  | succ n =>
    unfold wCall at h
    simp only [hf] at h
    rw [← rd.len, h.1, List.length_take, Nat.min_eq_left hnp]
/-- the context of a body is good -/
theorem good_cx {n : Nat} (T : TF S g P w K mg base L n) {N : List Str} {qual : Str} {scope : Scope} {f : Addr} {cd : Value} {A : Around} {outer : List PySem.Env} {s : Shared} {H : Hp} {E : XK} (nd : N.Nodup) (hk : scope.kind = .function) (hg : A.guards = some []) (hr : Room (2 * n + 3) (A.deeper (envOfC qual scope s.heap.objs.size f cd))) :
    Good S g L n (cxOf (L2.CX P w) P w K mg base N qual scope f cd A outer s H E) ⟨S, scope, N, true⟩ (fun cls d _ H' => E cls d H') where
  nm := rfl
  sc := rfl
  N := rfl
  nd := nd
  fn := fun _ _ => rfl
  calm := rfl
  gd := hg
  room := hr
  tk := takes_of (X := cxOf (L2.CX P w) P w K mg base N qual scope f cd A outer s H E) rfl rfl rfl rfl
  po := passes_of (X := cxOf (L2.CX P w) P w K mg base N qual scope f cd A outer s H E) rfl
  kind := hk
  tf := T
  tp := fun _ => ⟨rfl, rfl, rfl⟩
theorem fnG_of {n f : Nat} {fa : Addr} {name qual : Str} {params : Arguments} {body : List Stmt} {scope : Scope} {dV kV doc pm cdv ct oc : Value} {an od : Option Addr} {osl : Array (Option Value)} {N : List Str} {fi : FnI} (T : TF S g P w K mg base L n)
    (hf : g.fns[f]? = some fi) (lk : K.lookup fa = some ⟨oc, od, .func (PySem.W.fnOf name qual params body scope dV kV doc pm an cdv ct), osl⟩) (hcd : PySem.W.codeIn K cdv qual = true) (SC : FnScope N (N.take fi.np) scope) (hnp : fi.np ≤ N.length) (hns : fi.ns = N.length)
    (hchk : chkSs ⟨S, scope, N, true⟩ fi.body body = true) : FnG P w K mg base (2 * (n + 1) + 2) fa (PySem.W.fnOf name qual params body scope dV kV doc pm an cdv ct) (N.take fi.np) (spI K L g (n + 1) f) := by
  refine ⟨fun vs H Q E h => spI_len hf hnp h, fun A outer s H args us vs Q E hr hg e0 hb rv hsp => ?_⟩
  have hl := spI_len hf hnp hsp
  have hKs : K.In s.heap := e0.mod.kin.keeps fun b o e => (e0.bs b o e).1
  have lim : s.heap.NoLimit := e0.mod.nolimit.keeps fun b o e => (e0.bs b o e).1
  have kinds : ∀ y ∈ (N.take fi.np).zip us, scope.names.lookup y.1 = some .local ∨ (scope.names.lookup y.1 = some .cell ∧ ((cellsFrom (s.heap.objs.size + 1) scope.names []).lookup y.1).isSome = true) := fun y hy => by
    rcases SC.par y.1 (List.of_mem_zip (show (y.1, y.2) ∈ _ from hy)).1 with q | q
    · exact .inl q
    · exact .inr ⟨q, PySem.W.cellsFrom_some _ _ _ (.inl q)⟩
  have hrd : Room (2 * n + 3) (A.deeper (envOfC qual scope s.heap.objs.size fa cdv)) := (show Room ((2 * n + 3) + 1) A from hr).deeper _
  refine codeAny_call_function hr.depth (hKs _ _ lk) rfl SC.co SC.gen rfl (PySem.W.codeRec_of hKs hcd) (hb _ _ _ _ ?_)
  refine wpAny_newFunctionEnv_cells SC.kind kinds fun env he s1 x => ?_
  subst he
  refine ⟨lim.keeps x.toInCall.keep, codeAny_func ?_⟩
  have G := good_cx (N := N) (qual := qual) (f := fa) (cd := cdv) (outer := outer) (H := H) (E := E) T SC.nd SC.kind hg hrd
  have hps := okSs fi.body G hchk
  have I : Inv (cxOf (L2.CX P w) P w K mg base N qual scope fa cdv A outer s H E) [] (L2.start N vs) H s1 := inv_start SC hr.hd e0 hl rv x
  obtain ⟨ρ, hp, ds, r, rd, h⟩ := hsp
  unfold wCall at h
  simp only [hf] at h
  obtain ⟨hdl, h⟩ := h
  have hrt : tSs K L g (wCall g n) (fun cls d _ H' => E cls d H') fi.body { nx := fun _ H' => Q .non H', rt := Q } (L2.start N vs) H := by
    refine ⟨ρ, hp, _, r, ⟨?_, fun i d hd => ?_⟩, wSs_mono (wCall_mono g n) fi.body _ hp { nx := fun _ hp => KQ K L ρ H Q .non hp, bk := fun _ _ => False, ct := fun _ _ => False, rt := KQ K L ρ H Q, ex := fun c i _ hp => KE K L ρ H E c i hp } _ ⟨fun env' hp' q => ?_, fun _ _ q => False.elim q, fun _ _ q => False.elim q, fun _ _ q => q, fun c i env' hp' q => ?_⟩ h⟩
    · unfold L2.start
      rw [List.length_append, List.length_append, List.length_map, List.length_map, List.length_replicate, List.length_replicate, ← rd.len, hdl, hns]
    · have hi : i < ds.length := by
        by_cases hi : i < ds.length
        · exact hi
        · rw [List.getElem?_append_right (by simpa using hi), List.getElem?_replicate] at hd
          split at hd <;> cases hd
      rw [List.getElem?_append_left (by simpa using hi), List.getElem?_map] at hd
      cases e : ds[i]? with
      | none => rw [e] at hd; cases hd
      | some d' =>
        rw [e] at hd
        cases hd
        obtain ⟨v, h1, h2⟩ := rd.get e
        refine ⟨v, ?_, h2⟩
        unfold L2.start
        rw [List.getElem?_append_left (by rw [List.length_map, ← rd.len]; exact hi), List.getElem?_map, h1]
        rfl
    · intro ρ' H' σ' e' r' _
      exact q ρ' H' .non e' r' .non
    · intro ρ' H' σ' a C e' r' _ h1 h2
      exact q ρ' H' a C e' r' h1 h2
  refine wpAny_mono (hps.run [] s1 (L2.start N vs) H _ I hrt) (fun fl s' hs => ?_) fun e s' hs => hs
  cases fl with
  | ret u =>
    obtain ⟨v, σ', H', J, rv', q⟩ := hs
    exact ⟨v, H', J.os, J.bare, J.base, J.hok, rv', q⟩
  | next =>
    obtain ⟨σ', H', J, q⟩ := hs
    exact ⟨.non, H', J.os, J.bare, J.base, J.hok, rfl, q⟩
  | brk =>
    obtain ⟨_, _, _, q⟩ := hs
    exact False.elim q
  | cont =>
    obtain ⟨_, _, _, q⟩ := hs
    exact False.elim q
theorem tf_of (T : TFS S g K mg L) (P : Program) (w : World) (base : Heap) : ∀ n, TF S g P w K mg base L n := by
  intro n
  induction n with
  | zero =>
    refine ⟨T.blt, T.att, T.fn, fun f a ha => ?_, T.mks, T.mak, T.ini, T.cls, T.mth, T.mna, fun k x f h => let ⟨C, nm, h1, h2, h3, fI, fd, ps, xb, h4, h5, h6, h7, h8⟩ := T.exc k x f h; ⟨C, nm, h1, h2, h3, fI, fd, ps, xb, h4, h5, h6, h7, h8 P w base⟩, T.ex0, T.exf, T.exm, T.con⟩
    obtain ⟨name, qual, params, body, scope, dV, kV, doc, pm, cdv, ct, oc, an, od, osl, N, fi, hf, lk, hcd, SC, hnp, hns, hb, hsh, hchk⟩ := (T.fnt f a ha).ex
    refine ⟨_, N.take fi.np, hb, hsh, fun vs H Q E h => spI_len hf hnp h, fun A outer s H args us vs Q E hr hg e0 hb rv hsp => ?_⟩
    obtain ⟨ρ, hp, ds, r, rd, h⟩ := hsp
    exact False.elim h
  | succ n ih =>
    refine ⟨T.blt, T.att, T.fn, fun f a ha => ?_, T.mks, T.mak, T.ini, T.cls, T.mth, T.mna, fun k x f h => let ⟨C, nm, h1, h2, h3, fI, fd, ps, xb, h4, h5, h6, h7, h8⟩ := T.exc k x f h; ⟨C, nm, h1, h2, h3, fI, fd, ps, xb, h4, h5, h6, h7, h8 P w base⟩, T.ex0, T.exf, T.exm, T.con⟩
    obtain ⟨name, qual, params, body, scope, dV, kV, doc, pm, cdv, ct, oc, an, od, osl, N, fi, hf, lk, hcd, SC, hnp, hns, hb, hsh, hchk⟩ := (T.fnt f a ha).ex
    exact ⟨_, _, hb, hsh, fnG_of ih hf lk hcd SC hnp hns hchk⟩

/-! ### the end: the law is called with the script -/
/-- nothing is tracked but the script, if it is none of the written part -/
def hS (K : PySem.W.Frag) (a : Addr) (vs : List Value) (ns : List Int) : Hp := fun b => if b = a ∧ K.lookup a = none then some (.frz { cls := .type "list", data := .seq vs.toArray } (.lst (ns.map V.int))) else none
theorem hS_some {a b : Addr} {vs : List Value} {ns : List Int} {u : HO} (h : hS K a vs ns b = some u) : b = a ∧ K.lookup a = none ∧ u = .frz { cls := .type "list", data := .seq vs.toArray } (.lst (ns.map V.int)) := by
  unfold hS at h
  split at h
  · rename_i q
    exact ⟨q.1, q.2, (Option.some.inj h).symm⟩
  · cases h
theorem end_call {mb : Str → Option Value} {k : Nat} {fa a : Addr} {sp : Sp} {s₁ : Shared} {vs : List Value} {ns : List Int}
    (hK : K.In s₁.heap) (hmg : s₁.heap.Ns mainGlobals mg) (hmb : s₁.heap.Ns builtinsNs mb) (hbb : ∀ x : Str, x ≠ "__name__" → mb x = bootBuiltins x) (hlim : s₁.heap.NoLimit) (hgn : s₁.gens = #[])
    (ha : s₁.heap.get? a = some { cls := .type "list", data := .seq vs.toArray }) (hi : IntsAre vs ns) (hl : ns.length ≤ sizeLine) (hr : Room k callerA)
    (F : ∀ base : Heap, ∃ fd ps, Binds K fd ps [] ∧ FnG P w K mg base k fa fd ps sp)
    (hsp : KlL K (hS K a vs ns) a (ns.map V.int) → sp [.ref a] (hS K a vs ns) (fun v _ => v = .bl true) fun _ _ _ => False) :
    codeAny (model P w) callerA (.call (.ref fa) ⟨[.ref a], []⟩) (fun r s' => r = .ok (.ret (.bool true)) ∧ OldK s₁.heap s'.heap ∧ s'.os = s₁.os ∧ AllBare s'.gens) s₁ := by
  have rv := vals_ints hi
  generalize hH : hS K a vs ns = H at hsp
  have hsome : ∀ {b : Addr} {u : HO}, H b = some u → b = a ∧ K.lookup a = none ∧ u = .frz { cls := .type "list", data := .seq vs.toArray } (.lst (ns.map V.int)) := fun {b u} h => hS_some (by rw [hH]; exact h)
  -- what is not the script is not tracked
  have hnone : ∀ {b : Addr} {o : Obj}, s₁.heap.get? b = some o → (∀ vs n, o.data ≠ .seq vs n) → H b = none := fun {b o} e hd => by
    cases q : H b with
    | none => rfl
    | some u =>
      obtain ⟨rfl, _, _⟩ := hsome q
      rw [ha] at e
      cases e
      exact absurd rfl (hd _ _)
  have ns2 : ∀ {b : Addr} {m : Str → Option Value}, s₁.heap.Ns b m → (hidT s₁.heap H).Ns b m := fun {b m} ⟨o, es, ep, e, d, r⟩ => ⟨o, es, ep, hidT_get e (hnone e fun _ _ z => by rw [d] at z; cases z), d, r⟩
  have hKb : K.In (hidT s₁.heap H) := fun b o e => hidT_get (hK b o e) (by
    cases q : H b with
    | none => rfl
    | some u =>
      obtain ⟨rfl, q2, _⟩ := hsome q
      rw [q2] at e
      cases e)
  have hM : Mod K mg (hidT s₁.heap H) := ⟨hKb, ns2 hmg, ⟨mb, ns2 hmb, hbb⟩, let ⟨mc, h1, h2⟩ := hlim; ⟨mc, ns2 h1, h2⟩⟩
  have hok : HOk P w H s₁.heap := fun b u e => by
    obtain ⟨rfl, _, rfl⟩ := hsome e
    exact ⟨ha, by rw [List.length_map]; exact hl, vs, _, rv, ha⟩
  have e0 : Env0 P w K mg (hidT s₁.heap H) callerA [] s₁ H := ⟨rfl, hM, fun b o e => of_hidT e, Nat.le_of_eq (hidT_size _ _), trivial, fun b hb => absurd (show b ∈ ([] : List Addr) from hb) (by simp), hok, .of_eq hgn⟩
  have hkl : KlL K H a (ns.map V.int) := by
    cases q : K.lookup a with
    | none =>
      left
      refine ⟨{ cls := .type "list", data := .seq vs.toArray }, ?_⟩
      rw [← hH]
      exact if_pos ⟨rfl, q⟩
    | some o =>
      right
      have e := hK a o q
      rw [ha] at e
      cases e
      exact ⟨_, vs.toArray, _, q, rfl, rfl, rfl, by rw [List.size_toArray, hi.length]; exact hl, by simpa using rv⟩
  obtain ⟨fd, ps, hbind, F⟩ := F (hidT s₁.heap H)
  have hsp := hsp hkl
  have hln := F.len _ _ _ _ hsp
  have hbd : BindsTo s₁ fd ⟨[.ref a], []⟩ (ps.zip [.ref a]) := by
    have q := hbind s₁ [.ref a] hK hln
    rw [List.append_nil] at q
    exact q
  refine codeAny_mono (F.run callerA [] s₁ H ⟨[.ref a], []⟩ [.ref a] [.ref a] _ _ hr rfl e0 hbd (.cons rfl .nil) hsp) fun r s' h => ?_
  cases r with
  | error e =>
    -- no exception is let out
    exfalso
    obtain ⟨_, _, _, _, _, _, _, _, _, _, _, _, z⟩ := h
    exact z
  | ok fl =>
    cases fl with
    | next => exact False.elim h
    | brk => exact False.elim h
    | cont => exact False.elim h
    | ret u =>
      obtain ⟨v, H', os, bare, un, hok', rv', q⟩ := h
      have q' : v = .bl true := q
      subst q'
      obtain rfl : u = Value.bool true := rv'
      refine ⟨rfl, OldK.of_keep fun b o e => ?_, os, bare⟩
      cases q : H b with
      | none => exact un.keep b o e q (by intro z; exact absurd (show b ∈ ([] : List Addr) from z) (by simp)) (by simp)
      | some u =>
        obtain ⟨rfl, _, rfl⟩ := hsome q
        have z2 := un.frzs b _ _ q
        obtain ⟨e1, _⟩ := hok b _ q
        obtain ⟨e2, _⟩ := hok' b _ z2
        rw [e] at e1
        cases e1
        exact e2
end
theorem rds_ints {K : PySem.W.Frag} {L : Lay} {ρ : List Addr} {H : Hp} : ∀ ns : List Int, RDs K L ρ H (ns.map D.int) (ns.map V.int)
  | [] => .nil
  | n :: r => .cons (.int n) (rds_ints r)
/-- the promise of the law, from its run in the small language -/
theorem law_run {K : PySem.W.Frag} {L : Lay} {g : Glob} {N lf : Nat} {a : Addr} {H : Hp} {ns : List Int} (h : wCall g N lf [.kl (ns.map D.int)] [] (fun d _ => d = .bl true) fun _ _ _ => False) (hk : KlL K H a (ns.map V.int)) :
    spI K L g N lf [.ref a] H (fun v _ => v = .bl true) fun _ _ _ => False := by
  refine ⟨[], [], [.kl (ns.map D.int)], ⟨List.nodup_nil, rfl, fun i o h => by simp at h⟩, .cons (.kl hk (rds_ints ns)) .nil, wCall_mono g N lf _ _ _ _ _ _ (fun d hp q => ?_) (fun _ _ _ z => False.elim z) h⟩
  intro ρ' H' v _ _ rd
  subst q
  cases rd
  rfl
theorem walk_mi {l : PySem.W.OpenLaw} {n N : Nat} {q : Program} {loose : List Str} {XP : (Str → Option Value) → Heap → Prop} {YP : World → Heap → Prop} {d : DefRec} {K : Params → PySem.W.Frag} {S : Nm} {g : Glob} {lf : Nat}
    (hn : l.most = some n) (hn2 : n ≤ sizeLine) (hdf : d.params.defaults = []) (hr : Room (2 * N + 2) callerA)
    (hY : ∀ (w : World) (h : Heap), YP w h → (K w.params).In h)
    (F : ∀ (w : World) (mg : Str → Option Value) (fa : Addr) (h : Heap), (K w.params).In h → h.Ns mainGlobals mg → mg d.name = some (.ref fa) → ∃ L : Lay, TFS S g (K w.params) mg L ∧ L.fns[lf]? = some fa)
    (run : ∀ ns : List Int, ns.length ≤ n → wCall g N lf [.kl (ns.map D.int)] [] (fun d _ => d = .bl true) fun _ _ _ => False) :
    PySem.W.WalkO q loose XP YP l.row.toRowW d [] (fun f vs => PySem.call f vs) := by
  refine Att.attach_call hn hdf fun w s₀ s₁ mg mb fa o pm cd doc a vs ns G Y ho hd hcd hmg hobj hints hlen hg => ?_
  have hK := hY w _ Y
  obtain ⟨L, T, hL⟩ := F w mg fa _ hK G.T.g hmg
  exact end_call (sp := spI (K w.params) L g N lf) hK G.T.g G.T.b G.T.builtins G.T.nolimit hg hobj hints (Nat.le_trans hlen hn2) hr (fun base => let ⟨fd, ps, hb, _, F⟩ := (tf_of T l.prog w base N).call lf fa hL; ⟨fd, ps, hb, F⟩) fun hk => law_run (run ns hlen) hk
/-- .. where no int of the script is above 2^1048576 or so -/
theorem walk_miB {l : PySem.W.OpenLaw} {n N : Nat} {q : Program} {loose : List Str} {XP : (Str → Option Value) → Heap → Prop} {YP : World → Heap → Prop} {d : DefRec} {K : Params → PySem.W.Frag} {S : Nm} {g : Glob} {lf : Nat}
    (hn : l.most = some n) (hn2 : n ≤ sizeLine) (hdf : d.params.defaults = []) (hr : Room (2 * N + 2) callerA)
    (hY : ∀ (w : World) (h : Heap), YP w h → (K w.params).In h)
    (F : ∀ (w : World) (mg : Str → Option Value) (fa : Addr) (h : Heap), (K w.params).In h → h.Ns mainGlobals mg → mg d.name = some (.ref fa) → ∃ L : Lay, TFS S g (K w.params) mg L ∧ L.fns[lf]? = some fa)
    (run : ∀ ns : List Int, ns.length ≤ n → (∀ k ∈ ns, Builtin.Int.intBits k ≤ 1048576) → wCall g N lf [.kl (ns.map D.int)] [] (fun d _ => d = .bl true) fun _ _ _ => False) :
    PySem.W.WalkO q loose XP YP l.row.toRowW d [] (fun f vs => PySem.call f vs) := by
  refine Att.attach_callB hn hdf fun w s₀ s₁ mg mb fa o pm cd doc a vs ns G Y ho hd hcd hmg hobj hints hlen hbits hg => ?_
  have hK := hY w _ Y
  obtain ⟨L, T, hL⟩ := F w mg fa _ hK G.T.g hmg
  exact end_call (sp := spI (K w.params) L g N lf) hK G.T.g G.T.b G.T.builtins G.T.nolimit hg hobj hints (Nat.le_trans hlen hn2) hr (fun base => let ⟨fd, ps, hb, _, F⟩ := (tf_of T l.prog w base N).call lf fa hL; ⟨fd, ps, hb, F⟩) fun hk => law_run (run ns hlen hbits) hk
end MI
/-! MI, part 20: the head's facts, gathered. -/
namespace MI
open PySem PySem.Spec PyProof.Rows L2

inductive AllM {α : Type} (P : α → Prop) : List α → Prop
  | nil : AllM P []
  | cons {a : α} {l : List α} : P a → AllM P l → AllM P (a :: l)
theorem all_mem {α : Type} {P : α → Prop} : ∀ {l : List α}, AllM P l → ∀ x ∈ l, P x
  | _, .cons h t, x, hx => by
    rcases List.mem_cons.mp hx with e | e
    · subst e; exact h
    · exact all_mem t x e
inductive AllI {α : Type} (P : Nat → α → Prop) : Nat → List α → Prop
  | nil {n : Nat} : AllI P n []
  | cons {n : Nat} {a : α} {l : List α} : P n a → AllI P (n + 1) l → AllI P n (a :: l)
theorem all_ix0 {α : Type} {P : Nat → α → Prop} : ∀ {l : List α} {n : Nat}, AllI P n l → ∀ i a, l[i]? = some a → P (n + i) a
  | _, n, .nil, i, a, h => by simp at h
  | _, n, .cons p t, 0, a, h => by
    have h : some _ = some a := h
    cases h
    exact p
  | _, n, .cons p t, i + 1, a, h => by
    have := all_ix0 t i a (by simpa using h)
    rw [show n + (i + 1) = n + 1 + i by omega]
    exact this
theorem all_ix {α : Type} {P : Nat → α → Prop} {l : List α} (h : AllI P 0 l) : ∀ i a, l[i]? = some a → P i a := fun i a e => by
  have := all_ix0 h i a e
  rwa [Nat.zero_add] at this
section
variable {S : Nm} {g : Glob} {K : PySem.W.Frag} {mg : Str → Option Value} {L : Lay}
inductive AllF (K : PySem.W.Frag) (mg : Str → Option Value) (fns : List Addr) : Nat → List (Option Str) → Prop
  | nil {n : Nat} : AllF K mg fns n []
  | none {n : Nat} {l : List (Option Str)} : AllF K mg fns (n + 1) l → AllF K mg fns n (.none :: l)
  | some {n : Nat} {x : Str} {a : Addr} {l : List (Option Str)} : fns[n]? = .some a → mg x = .some (.ref a) → PySem.W.keepIn K (.ref a) = true → AllF K mg fns (n + 1) l → AllF K mg fns n (.some x :: l)
theorem all_fn0 {fns : List Addr} : ∀ {l : List (Option Str)} {n : Nat}, AllF K mg fns n l → ∀ (f : Nat) (x : Str), l[f]? = some (some x) → ∃ a, fns[n + f]? = some a ∧ mg x = some (.ref a) ∧ PySem.W.keepIn K (.ref a) = true
  | _, n, .nil, f, x, h => by simp at h
  | _, n, .none t, 0, x, h => by simp at h
  | _, n, .none t, f + 1, x, h => by
    have := all_fn0 t f x (by simpa using h)
    rwa [show n + (f + 1) = n + 1 + f by omega]
  | _, n, .some a b c t, 0, x, h => by
    have h : some (some _) = some (some x) := h
    cases h
    exact ⟨_, a, b, c⟩
  | _, n, .some a b c t, f + 1, x, h => by
    have := all_fn0 t f x (by simpa using h)
    rwa [show n + (f + 1) = n + 1 + f by omega]
theorem all_fn {fns : List Addr} {l : List (Option Str)} (h : AllF K mg fns 0 l) (f : Nat) (x : Str) (e : l[f]? = some (some x)) : ∃ a, fns[f]? = some a ∧ mg x = some (.ref a) ∧ PySem.W.keepIn K (.ref a) = true := by
  have := all_fn0 h f x e
  rwa [Nat.zero_add] at this
theorem fnt_mk {f : Nat} {fi : FnI} {N : List Str} {a : Addr} {name qual : Str} {params : Arguments} {body : List Stmt} {scope : Scope} {dV kV doc pm cdv ct oc : Value} {an od : Option Addr} {osl : Array (Option Value)} (hf : g.fns[f]? = some fi)
    (l : K.lookup a = some ⟨oc, od, .func (PySem.W.fnOf name qual params body scope dV kV doc pm an cdv ct), osl⟩) (c : PySem.W.codeIn K cdv qual = true) (hsc : fnScopeB N fi.np scope = true) (hns : fi.ns = N.length)
    (hchk : chkSs ⟨S, scope, N, true⟩ fi.body body = true) (hb : Binds K (PySem.W.fnOf name qual params body scope dV kV doc pm an cdv ct) (N.take fi.np) []) (hsh : ∀ sh ∈ S.shp, sh.1 = f → ShpOk K (PySem.W.fnOf name qual params body scope dV kV doc pm an cdv ct) (N.take fi.np) sh.2.1 sh.2.2.1 sh.2.2.2) : FnT S g K f a := by
  have hnp : fi.np ≤ N.length := by
    unfold fnScopeB at hsc
    simp only [Bool.and_eq_true, decide_eq_true_eq] at hsc
    exact hsc.1.1.2
  exact ⟨name, qual, params, body, scope, dV, kV, doc, pm, cdv, ct, oc, an, od, osl, N, fi, hf, l, c, fnScope_by hsc, hnp, hns, hb, hsh, hchk⟩
theorem all_mak (h : AllI (fun c x => ∃ f C a, g.init c = some f ∧ L.clss[c]? = some C ∧ mg x = some (.ref C) ∧ L.fns[f]? = some a ∧ Mk K C a) 0 S.clsN) (c : Nat) (x : Str) (f : Nat) (e : S.clsN[c]? = some x) (e2 : g.init c = some f) :
    ∃ C a, L.clss[c]? = some C ∧ mg x = some (.ref C) ∧ L.fns[f]? = some a ∧ Mk K C a := by
  obtain ⟨f', C, a, h1, h2, h3, h4, h5⟩ := all_ix h c x e
  rw [e2] at h1
  cases h1
  exact ⟨C, a, h2, h3, h4, h5⟩
theorem all_ini (h : ((List.range S.clsN.length).all fun k => (g.init k).isSome) = true) (k : Nat) (x : Str) (e : S.clsN[k]? = some x) : g.init k ≠ none := by
  have hl := (List.getElem?_eq_some_iff.mp e).1
  have := List.all_eq_true.mp h k (List.mem_range.mpr hl)
  intro z
  rw [z] at this
  cases this
theorem nfind_mem : ∀ {l : List (Nat × Nat)} {m f : Nat}, nfind l m = some f → (m, f) ∈ l
  | [], m, f, h => by cases h
  | (k, v) :: r, m, f, h => by
    unfold nfind at h
    split at h
    · rename_i e
      cases h
      subst e
      exact List.mem_cons_self
    · exact List.mem_cons_of_mem _ (nfind_mem h)
theorem all_mth (h : AllI (fun c C => ∃ ci, g.clss[c]? = some ci ∧ AllM (fun p : Nat × Nat => ∃ nm a, S.mths[p.1]? = some nm ∧ L.fns[p.2]? = some a ∧ Meth K C nm a) ci.meths) 0 L.clss) (c : Nat) (C : Addr) (m : Nat) (nm : Str) (f : Nat)
    (e : L.clss[c]? = some C) (e1 : S.mths[m]? = some nm) (e2 : g.meth c m = some f) : ∃ a, L.fns[f]? = some a ∧ Meth K C nm a := by
  obtain ⟨ci, h1, h2⟩ := all_ix h c C e
  unfold Glob.meth at e2
  simp only [h1] at e2
  obtain ⟨nm', a, h3, h4, h5⟩ := all_mem h2 _ (nfind_mem e2)
  have h3 : S.mths[m]? = some nm' := h3
  rw [e1] at h3
  cases h3
  exact ⟨a, h4, h5⟩
theorem all_mna (h : (S.mths.all fun nm => !S.attrs.contains nm) = true) (m : Nat) (nm : Str) (e : S.mths[m]? = some nm) : nm ∉ S.attrs := by
  have := List.all_eq_true.mp h nm (List.mem_of_getElem? e)
  simpa using this
def mksB (S : Nm) (g : Glob) : Bool := S.mks.all fun e => (List.range g.clss.length).all fun c =>
  match g.meth c e.1 with
  | some f => decide ((f, e.2.1 + 1, e.2.2.1, 0 :: e.2.2.2.map (· + 1)) ∈ S.shp)
  | none => true
theorem all_mks (h : mksB S g = true) : ∀ e ∈ S.mks, ∀ c f, g.meth c e.1 = some f → (f, e.2.1 + 1, e.2.2.1, 0 :: e.2.2.2.map (· + 1)) ∈ S.shp := fun e he c f hm => by
  have h1 := List.all_eq_true.mp h e he
  have hc : c < g.clss.length := by
    unfold Glob.meth at hm
    cases hg : g.clss[c]? with
    | none => rw [hg] at hm; cases hm
    | some _ => exact (List.getElem?_eq_some_iff.mp hg).1
  have h2 := List.all_eq_true.mp h1 c (List.mem_range.mpr hc)
  rw [hm] at h2
  exact of_decide_eq_true h2
theorem all_con (h : AllI (fun k x => ∃ d u v, g.consts[k]? = some d ∧ mg x = some u ∧ RelV v u ∧ ∀ ρ H, RD K L ρ H d v) 0 S.constN) (k : Nat) (x : Str) (e : S.constN[k]? = some x) : ∃ d u v, g.consts[k]? = some d ∧ mg x = some u ∧ RelV v u ∧ ∀ ρ H, RD K L ρ H d v := all_ix h k x e
theorem all_exc (h : AllI (fun k p => ∃ C nm, L.exs[k]? = some C ∧ mg p.1 = some (.ref C) ∧ S.attrs[p.2]? = some nm ∧ ∃ fI fd ps, ∃ b, OexG K C b ∧ PySem.W.findIn K (.ref C) "__init__" = some (some (.ref fI)) ∧ PySem.W.typeIn K (.ref fI) = some (.type "function") ∧ Binds K fd ps [] ∧ ∀ P w base, FnOk P w K mg base (L2.CX P w) 1 fI fd ps (spX K C nm)) 0 S.excN) (k : Nat) (x : Str) (f : Nat) (e : S.excN[k]? = some (x, f)) :
    ∃ C nm, L.exs[k]? = some C ∧ mg x = some (.ref C) ∧ S.attrs[f]? = some nm ∧ ∃ fI fd ps, ∃ b, OexG K C b ∧ PySem.W.findIn K (.ref C) "__init__" = some (some (.ref fI)) ∧ PySem.W.typeIn K (.ref fI) = some (.type "function") ∧ Binds K fd ps [] ∧ ∀ P w base, FnOk P w K mg base (L2.CX P w) 1 fI fd ps (spX K C nm) := all_ix h k (x, f) e
inductive AllZ {α β : Type} (P : α → β → Prop) : List α → List β → Prop
  | nil : AllZ P [] []
  | cons {a : α} {b : β} {as : List α} {bs : List β} : P a b → AllZ P as bs → AllZ P (a :: as) (b :: bs)
theorem all_z {α β : Type} {P : α → β → Prop} : ∀ {as : List α} {bs : List β}, AllZ P as bs → ∀ (k : Nat) (a : α) (b : β), as[k]? = some a → bs[k]? = some b → P a b
  | _, _, .nil, k, a, b, h, _ => by simp at h
  | _, _, .cons p t, 0, a, b, h1, h2 => by
    simp at h1 h2
    subst h1 h2
    exact p
  | _, _, .cons p t, k + 1, a, b, h1, h2 => all_z t k a b (by simpa using h1) (by simpa using h2)
theorem kit_ref {C R : Addr} {b : Bool} (h4 : PySem.W.subIn K (.ref C) (.ref R) = some b) (hs : PySem.W.subIn K (.ref C) (.ref C) = some true) (hd : PySem.W.hasDictIn K R = true) (ht : PySem.W.typeIn K (.ref R) = some (.type "type")) : PySem.W.kitOne K (.ref C) (.ref R) = some b := by
  unfold PySem.W.kitOne
  by_cases e : C = R
  · subst e
    rw [h4] at hs
    cases hs
    rw [if_pos (by simp)]
  · rw [if_neg (by simpa using e)]
    obtain ⟨cd, hc, _⟩ := PySem.W.any_some hd
    show (if ((PySem.W.clsIn K R).isSome && PySem.W.typeIn K (.ref R) == some (.type "type")) = true then PySem.W.subIn K (.ref C) (.ref R) else none) = some b
    rw [if_pos (by rw [hc, ht] <;> rfl)]
    exact h4
theorem exm_of {C R : Addr} {b : Bool} (h1 : PySem.W.subIn K (.ref R) (.type "BaseException") = some true) (hd : PySem.W.hasDictIn K R = true) (ht : PySem.W.typeIn K (.ref R) = some (.type "type")) (hs : PySem.W.subIn K (.ref C) (.ref C) = some true) (h4 : PySem.W.subIn K (.ref C) (.ref R) = some b) :
    PySem.W.exmOne K (.ref C) (.ref R) = some b ∧ PySem.W.kitOne K (.ref C) (.ref R) = some b := ⟨PySem.W.exm_ref h1 hd ht h4, kit_ref h4 hs hd ht⟩
theorem exm_ty {C : Addr} {b : Bool} {T : String} (h1 : PySem.W.subIn K (.type T) (.type "BaseException") = some true) (hk : PySem.W.kitCls K (.ref C) (.type T) = some b) :
    PySem.W.exmOne K (.ref C) (.type T) = some b ∧ PySem.W.kitOne K (.ref C) (.type T) = some b := by
  refine ⟨?_, ?_⟩
  · unfold PySem.W.exmOne
    rw [h1, if_pos (by rfl)]
    exact hk
  · unfold PySem.W.kitOne
    rw [if_neg (by simp)]
    exact hk
/-! the mro of the own exception classes, told by places in a list of addresses -/
def MroOf (K : PySem.W.Frag) (C : Addr) (cs : List Addr) (tl : List Value) : Prop := ∃ cd, PySem.W.clsIn K C = some cd ∧ cd.mro = .ref C :: (cs.map Value.ref ++ tl)
def isTyB : Value → Bool
  | .type _ => true
  | _ => false
def ixs (A : List Addr) (ps : List Nat) : Option (List Addr) := mapO (fun i => A[i]?) ps
theorem ixs_mem {A : List Addr} : ∀ {ps : List Nat} {cs : List Addr}, ixs A ps = some cs → ∀ m D, A.Nodup → A[m]? = some D → (D ∈ cs ↔ m ∈ ps)
  | [], cs, h, m, D, nd, hD => by
    cases h
    simp
  | p :: ps, cs, h, m, D, nd, hD => by
    unfold ixs mapO at h
    cases e : A[p]? with
    | none => simp only [e] at h; cases h
    | some c =>
      simp only [e] at h
      cases e2 : mapO (fun i => A[i]?) ps with
      | none => simp only [e2] at h; cases h
      | some r =>
        simp only [e2] at h
        cases h
        have ih := ixs_mem (ps := ps) (cs := r) e2 m D nd hD
        rw [List.mem_cons, List.mem_cons, ih]
        constructor
        · rintro (q | q)
          · subst q
            exact .inl (nodup_at nd hD e)
          · exact .inr q
        · rintro (q | q)
          · subst q
            rw [e] at hD
            cases hD
            exact .inl rfl
          · exact .inr q
theorem sub_mro {C : Addr} {cs : List Addr} {tl : List Value} {v : Value} (h : MroOf K C cs tl) : PySem.W.subIn K (.ref C) v = some ((Value.ref C :: (cs.map Value.ref ++ tl)).contains v) := by
  obtain ⟨cd, h1, h2⟩ := h
  show PySem.W.mroIn K C v = _
  unfold PySem.W.mroIn
  rw [h1, Option.bind_some, h2, if_neg (by simp)]
theorem ty_noref {D : Addr} : ∀ {tl : List Value}, tl.all isTyB = true → tl.contains (.ref D) = false
  | [], _ => rfl
  | .type T :: r, h => by
    rw [List.contains_cons, ty_noref (tl := r) (by simpa [isTyB] using h)]
    rfl
  | .ref c :: _, h => by simp [isTyB] at h
  | .none :: _, h => by simp [isTyB] at h
  | .ellipsis :: _, h => by simp [isTyB] at h
  | .notImplemented :: _, h => by simp [isTyB] at h
  | .bool _ :: _, h => by simp [isTyB] at h
  | .int _ _ :: _, h => by simp [isTyB] at h
  | .float _ _ :: _, h => by simp [isTyB] at h
  | .str _ _ :: _, h => by simp [isTyB] at h
  | .bytes _ _ :: _, h => by simp [isTyB] at h
  | .builtin _ :: _, h => by simp [isTyB] at h
theorem map_ref_ty {T : String} : ∀ cs : List Addr, (cs.map Value.ref).contains (.type T) = false
  | [] => rfl
  | c :: r => by
    rw [List.map_cons, List.contains_cons, map_ref_ty r]
    rfl
theorem contains_app {l r : List Value} {v : Value} : (l ++ r).contains v = (l.contains v || r.contains v) := by
  induction l with
  | nil => rfl
  | cons a l ih => rw [List.cons_append, List.contains_cons, List.contains_cons, ih, Bool.or_assoc]
theorem sub_own {A : List Addr} {C D : Addr} {cs : List Addr} {ps : List Nat} {tl : List Value} {k m : Nat} (mr : MroOf K C cs tl) (hp : A[k]? = some C) (hi : ixs A ps = some cs) (nd : A.Nodup) (hD : A[m]? = some D) (ht : tl.all isTyB = true) :
    PySem.W.subIn K (.ref C) (.ref D) = some (k == m || ps.contains m) := by
  rw [sub_mro mr, List.contains_cons, contains_app, ty_noref ht, Bool.or_false]
  congr 1
  have e1 : (Value.ref D == Value.ref C) = (k == m) := by
    by_cases q : k = m
    · subst q
      rw [hp] at hD
      cases hD
      simp
    · have : ¬ D = C := fun z => q (nodup_at nd hp (z ▸ hD))
      have h1 : (Value.ref D == Value.ref C) = false := beq_eq_false_iff_ne.mpr fun z => this (Value.ref.inj z)
      have h2 : (k == m) = false := beq_eq_false_iff_ne.mpr q
      rw [h1, h2]
  have e2 : (cs.map Value.ref).contains (.ref D) = ps.contains m := by
    have z := ixs_mem hi m D nd hD
    rw [Bool.eq_iff_iff]
    rw [List.contains_iff_mem, List.contains_iff_mem, ← z, List.mem_map]
    constructor
    · rintro ⟨x, hx, e⟩
      cases e
      exact hx
    · intro hx
      exact ⟨D, hx, rfl⟩
  rw [e1, e2]
theorem sub_tyo {C : Addr} {cs : List Addr} {tl : List Value} {T : String} (mr : MroOf K C cs tl) : PySem.W.subIn K (.ref C) (.type T) = some (tl.contains (.type T)) := by
  rw [sub_mro mr, List.contains_cons, contains_app, map_ref_ty]
  rfl
/-- all own classes' mros -/
def Mros (K : PySem.W.Frag) (A exs : List Addr) (par : List (List Nat)) (tls : List (List Value)) : Prop :=
  (∀ (k : Nat) (C : Addr), exs[k]? = some C → A[k]? = some C) ∧ A.Nodup ∧ ∀ (k : Nat) (C : Addr), exs[k]? = some C → ∃ ps tl cs, par[k]? = some ps ∧ tls[k]? = some tl ∧ ixs A ps = some cs ∧ MroOf K C cs tl ∧ tl.all isTyB = true
theorem exm_row {A : List Addr} {par : List (List Nat)} {tls : List (List Value)} {D : Addr} {m : Nat} {bs : List Bool} (M : Mros K A L.exs par tls) (hD : A[m]? = some D) (h1 : PySem.W.subIn K (.ref D) (.type "BaseException") = some true) (hd : PySem.W.hasDictIn K D = true) (ht : PySem.W.typeIn K (.ref D) = some (.type "type"))
    (hb : ((List.range bs.length).all fun k => bs[k]? == some (k == m || (par.getD k []).contains m)) = true) : ExmAt K L (.ref D) bs := fun k C b hC hk => by
  obtain ⟨pre, nd, mm⟩ := M
  obtain ⟨ps, tl, cs, p1, p2, p3, p4, p5⟩ := mm k C hC
  have hl := (List.getElem?_eq_some_iff.mp hk).1
  have q := List.all_eq_true.mp hb k (List.mem_range.mpr hl)
  rw [hk] at q
  have eb : b = (k == m || ps.contains m) := by
    have : par.getD k [] = ps := by rw [List.getD_eq_getElem?_getD, p1]; rfl
    rw [this] at q
    simpa using q
  have s1 := sub_own p4 (pre k C hC) p3 nd hD p5
  rw [← eb] at s1
  have s2 : PySem.W.subIn K (.ref C) (.ref C) = some true := by
    rw [sub_mro p4, List.contains_cons]
    simp
  exact ⟨PySem.W.exm_ref h1 hd ht s1, kit_ref s1 s2 hd ht⟩
theorem exm_rowT {A : List Addr} {par : List (List Nat)} {tls : List (List Value)} {T : String} {bs : List Bool} (M : Mros K A L.exs par tls) (h1 : PySem.W.subIn K (.type T) (.type "BaseException") = some true) (hm : PySem.W.kitMeta T = true)
    (hb : ((List.range bs.length).all fun k => bs[k]? == some ((tls.getD k []).contains (.type T))) = true) : ExmAt K L (.type T) bs := fun k C b hC hk => by
  obtain ⟨pre, nd, mm⟩ := M
  obtain ⟨ps, tl, cs, p1, p2, p3, p4, p5⟩ := mm k C hC
  have hl := (List.getElem?_eq_some_iff.mp hk).1
  have q := List.all_eq_true.mp hb k (List.mem_range.mpr hl)
  rw [hk] at q
  have eb : b = tl.contains (.type T) := by
    have : tls.getD k [] = tl := by rw [List.getD_eq_getElem?_getD, p2]; rfl
    rw [this] at q
    simpa using q
  refine exm_ty h1 ?_
  show (if PySem.W.kitMeta T = true then PySem.W.subIn K (.ref C) (.type T) else none) = some b
  rw [if_pos hm, sub_tyo p4, eb]
theorem mro_of {C N : Addr} {xa xb : Str} {cs : List Addr} {tl : List Value} {bs : List Value} {h : Bool} {sn : List Str} {sub : List Value} {ab : Bool} {col : Option Bool} {dd : Option Addr} {k0 k1 k2 k3 k5 : Option Value} {nw : String}
    (l : K.lookup C = some (excClassObj xa xb C N bs (cs.map Value.ref ++ tl) h sn sub ab col dd k0 k1 k2 k3 k5 nw)) : MroOf K C cs tl := by
  have e : PySem.W.clsIn K C = some { name := xa, bases := bs, mro := .ref C :: (cs.map Value.ref ++ tl), ns := N, qualname := xb, hasDict := h, slotNames := sn, subclasses := sub, abstract := ab, collection := col, hasDel := false } := by
    unfold PySem.W.clsIn
    rw [l] <;> rfl
  exact ⟨_, e, rfl⟩
theorem refsT_cs (tl : List Value) (hne : ∀ x ∈ tl.head?, isTyB x = true) : ∀ cs : List Addr, refsT tl (cs.map Value.ref ++ tl) = true
  | [] => by
    cases tl with
    | nil => rfl
    | cons a r =>
      have := hne a (by simp)
      cases a <;> first | (simp [isTyB] at this; done) | (show (_ == _) = true; exact beq_self_eq_true _)
  | c :: r => refsT_cs tl hne r
theorem sub_bi {T : String} (h : ((PySem.fastBuiltinMro T).map (·.contains (.type "BaseException"))) = some true) : PySem.W.subIn K (.type T) (.type "BaseException") = some true := h
theorem pre_of {α : Type} (ys : List α) {xs : List α} {k : Nat} {c : α} (h : xs[k]? = some c) : (xs ++ ys)[k]? = some c := by
  rw [List.getElem?_append_left (List.getElem?_eq_some_iff.mp h).1]
  exact h
theorem all_ex0 (h : AllM (fun p : Nat × Str => ∃ C b, L.exs[p.1]? = some C ∧ mg p.2 = some (.ref C) ∧ Oex0 K C b ∧ b.ntl = b.tl) S.exc0) (k : Nat) (x : Str) (e : (k, x) ∈ S.exc0) : ∃ C b, L.exs[k]? = some C ∧ mg x = some (.ref C) ∧ Oex0 K C b ∧ b.ntl = b.tl := all_mem h (k, x) e
theorem exf_of {C : Addr} {as : List Str} (g1 : PySem.W.findIn K (.ref C) "__getattribute__" = some (some (.builtin "BaseException.__getattribute__"))) (g2 : PySem.W.findIn K (.ref C) "__getattr__" = some none) (g3 : PySem.W.subIn K (.ref C) (.type "BaseException") = some true) (g4 : PySem.W.hasDictIn K C = true)
    (g5 : PySem.W.findIn K (.ref C) "__class__" = some (some (.builtin "object.__class__"))) (g6 : PySem.W.specialIn K (.builtin "object.__class__") "__get__" = some (some (.builtin "getset_descriptor.__get__"))) (g7 : PySem.W.takesIn K (.builtin "object.__class__") = some true) (g8 : PySem.W.mroIn K C (.type "object") = some true)
    (no : AllM (fun x => PySem.W.findIn K (.ref C) x = some none) as) : ExF K as C := ⟨⟨g1, g2, g3, g4, g5, g6, g7, g8⟩, ⟨g1, g2, g3, g4⟩, all_mem no⟩
end
end MI
/-! MI, part 21: running the small language by hand. -/
namespace MI
open PySem L2

/-- a loop, by what holds ahead of each turn -/
theorem for_run {nx : Nat → Hq → Option (Option D)} {body : D → Env → Hq → (Env → Hq → Prop) → Prop} {k : Env → Hq → Prop} (M : Nat) (Inv : Nat → Env → Hq → Prop)
    (step : ∀ j env hp kn, j < M → Inv j env hp → (∀ env' hp', Inv (j + 1) env' hp' → kn env' hp') → ∃ d, nx j hp = some (some d) ∧ body d env hp kn)
    (fin : ∀ env hp, Inv M env hp → nx M hp = some none ∧ k env hp) {env : Env} {hp : Hq} (h0 : Inv 0 env hp) : ∃ N, forLoop nx body N 0 env hp k := by
  have go : ∀ m j env hp, m + j = M → Inv j env hp → forLoop nx body (m + 1) j env hp k := by
    intro m
    induction m with
    | zero =>
      intro j env hp e h
      have e : j = M := by omega
      subst e
      obtain ⟨h1, h2⟩ := fin env hp h
      unfold forLoop
      rw [h1]
      exact h2
    | succ m ih =>
      intro j env hp e h
      unfold forLoop
      obtain ⟨d, h1, h2⟩ := step j env hp (fun env' hp' => forLoop nx body (m + 1) (j + 1) env' hp' k) (by omega) h fun env' hp' h' => ih (j + 1) env' hp' (by omega) h'
      rw [h1]
      exact h2
  exact ⟨M + 1, go M 0 env hp (by omega) h0⟩
/-- a comprehension, likewise: acc is what stands so far -/
theorem lc_run {nx : Nat → Hq → Option (Option D)} {body : D → Hq → (Option D → Hq → Prop) → Prop} {k : List D → Hq → Prop} (M : Nat) (Inv : Nat → List D → Hq → Prop)
    (step : ∀ j acc hp kn, j < M → Inv j acc hp → (∀ hp', Inv (j + 1) acc hp' → kn none hp') → (∀ y hp', Inv (j + 1) (acc ++ [y]) hp' → kn (some y) hp') → ∃ d, nx j hp = some (some d) ∧ body d hp kn)
    (small : ∀ j acc hp, Inv j acc hp → acc.length < SZ)
    (fin : ∀ acc hp, Inv M acc hp → nx M hp = some none ∧ k acc hp) {hp : Hq} (h0 : Inv 0 [] hp) : ∃ N, lcLoop nx body N 0 [] hp k := by
  have go : ∀ m j acc hp, m + j = M → Inv j acc hp → lcLoop nx body (m + 1) j acc hp k := by
    intro m
    induction m with
    | zero =>
      intro j acc hp e h
      have e : j = M := by omega
      subst e
      obtain ⟨h1, h2⟩ := fin acc hp h
      unfold lcLoop
      rw [h1]
      exact h2
    | succ m ih =>
      intro j acc hp e h
      unfold lcLoop
      obtain ⟨d, h1, h2⟩ := step j acc hp (fun r hp' => match r with
        | none => lcLoop nx body (m + 1) (j + 1) acc hp' k
        | some y => acc.length < SZ ∧ lcLoop nx body (m + 1) (j + 1) (acc ++ [y]) hp' k) (by omega) h (fun hp' h' => ih (j + 1) acc hp' (by omega) h') fun y hp' h' => ⟨small j acc hp h, ih (j + 1) (acc ++ [y]) hp' (by omega) h'⟩
      rw [h1]
      exact h2
  exact ⟨M + 1, go M 0 [] hp (by omega) h0⟩
theorem set_same {hp : Hq} {i : Nat} {o o' : O} (h : hp[i]? = some o) : (hp.set i o')[i]? = some o' := List.getElem?_set_self (List.getElem?_eq_some_iff.mp h).1
theorem set_other {hp : Hq} {i j : Nat} {o' : O} (h : i ≠ j) : (hp.set i o')[j]? = hp[j]? := List.getElem?_set_ne h
theorem app_old {hp : Hq} {i : Nat} {o : O} {l : List O} (h : hp[i]? = some o) : (hp ++ l)[i]? = some o := by
  rw [List.getElem?_append_left (List.getElem?_eq_some_iff.mp h).1]
  exact h
theorem lt_of {hp : Hq} {i : Nat} {o : O} (h : hp[i]? = some o) : i < hp.length := (List.getElem?_eq_some_iff.mp h).1
/-! ### steps -/
section
variable {hp : Hq} {Q : QD} {k : Bool → Prop} {kh : Hq → Prop} {i j : Int} {x y : Str} {a b : Bool} {n : Nat} {d e : D} {xs ys : List D} {C : Prop}
theorem a_ok : (OutD.ok d hp).app Q = Q d hp := rfl
theorem a_cd : (OutD.cd C d hp).app Q = (C ∧ Q d hp) := rfl
theorem a_no : OutD.no.app Q = False := rfl
theorem ab_okB : (OutB.ok a).app k = k a := rfl
theorem ab_cd : (OutB.cd C a).app k = (C ∧ k a) := rfl
theorem ah_ok : (OutH.ok hp).app kh = kh hp := rfl
theorem ah_cd : (OutH.cd C hp).app kh = (C ∧ kh hp) := rfl
theorem o_add : oBin .add (.int i) (.int j) hp = .ok (.int (i + j)) hp := rfl
theorem o_addt : oBin .add (.tup xs) (.tup ys) hp = .cd (xs.length + ys.length ≤ SZ) (.tup (xs ++ ys)) hp := rfl
theorem o_adds : oBin .add (.str x) (.str y) hp = .cd (x.length + y.length ≤ SZ) (.str (x ++ y)) hp := rfl
theorem o_addl {p q : Nat} : oBin .add (.ref p) (.ref q) hp = (match gtL hp p, gtL hp q with
    | some xs, some ys => .cd (xs.length + ys.length ≤ SZ) (.ref hp.length) (hp ++ [.lst (xs ++ ys)])
    | _, _ => .no) := rfl
theorem o_mull {p : Nat} : oBin .mul (.ref p) (.int i) hp = (match gtL hp p with
    | some xs => .cd (-(2 ^ 63) ≤ i ∧ i < 2 ^ 63 ∧ xs.length * i.toNat ≤ SZ) (.ref hp.length) (hp ++ [.lst (List.replicate i.toNat xs).flatten])
    | none => .no) := rfl
theorem o_sub : oBin .sub (.int i) (.int j) hp = .ok (.int (i - j)) hp := rfl
theorem o_mul : oBin .mul (.int i) (.int j) hp = .cd ((-(2 ^ 64) < i ∧ i < 2 ^ 64) ∨ (-(2 ^ 64) < j ∧ j < 2 ^ 64)) (.int (i * j)) hp := rfl
theorem o_fdiv : oBin .fdiv (.int i) (.int j) hp = .cd (0 < j ∧ j < 1073741824) (.int (i / j)) hp := rfl
theorem o_mod : oBin .mod (.int i) (.int j) hp = .cd (0 < j) (.int (i % j)) hp := rfl
theorem o_pow : oBin .pow (.int i) (.int j) hp = .cd (0 ≤ j ∧ j ≤ 1000000 ∧ i.natAbs < 2 ^ 64) (.int (i ^ j.toNat)) hp := rfl
theorem t_non : oTru .non hp = .ok false := rfl
theorem t_bl : oTru (.bl a) hp = .ok a := rfl
theorem t_int : oTru (.int i) hp = .ok (i != 0) := rfl
theorem t_tup : oTru (.tup xs) hp = .ok (!xs.isEmpty) := rfl
theorem c_eqi : oCmp .eq (.int i) (.int j) hp = .ok (.bl (decide (i = j))) hp := rfl
theorem c_eqs : oCmp .eq (.str x) (.str y) hp = .ok (.bl (decide (x = y))) hp := rfl
theorem c_eqb : oCmp .eq (.bl a) (.bl b) hp = .ok (.bl (decide (a = b))) hp := rfl
theorem c_nei : oCmp .ne (.int i) (.int j) hp = .ok (.bl (!decide (i = j))) hp := rfl
theorem c_nes : oCmp .ne (.str x) (.str y) hp = .ok (.bl (!decide (x = y))) hp := rfl
theorem c_eqt : oCmp .eq (.tup xs) d hp = (oEqG (.tup xs) d hp).val false hp := by cases d <;> rfl
theorem c_net : oCmp .ne (.tup xs) d hp = (oEqG (.tup xs) d hp).val true hp := by cases d <;> rfl
theorem c_eqr : oCmp .eq (.ref n) d hp = (oEqG (.ref n) d hp).val false hp := by cases d <;> rfl
theorem c_ner : oCmp .ne (.ref n) d hp = (oEqG (.ref n) d hp).val true hp := by cases d <;> rfl
theorem c_lt : oCmp .lt (.int i) (.int j) hp = .ok (.bl (decide (i < j))) hp := rfl
theorem c_le : oCmp .le (.int i) (.int j) hp = .ok (.bl (decide (i ≤ j))) hp := rfl
theorem c_gt : oCmp .gt (.int i) (.int j) hp = .ok (.bl (decide (j < i))) hp := rfl
theorem c_ge : oCmp .ge (.int i) (.int j) hp = .ok (.bl (decide (j ≤ i))) hp := rfl
theorem c_is : oCmp .is d .non hp = .ok (.bl (isNon d)) hp := by cases d <;> rfl
theorem c_nis : oCmp .nis d .non hp = .ok (.bl (!isNon d)) hp := by cases d <;> rfl
theorem c_in : oCmp .isin d e hp = (oIn d e hp).val false hp := rfl
theorem c_nin : oCmp .nin d e hp = (oIn d e hp).val true hp := rfl
theorem v_ok {neg : Bool} : (OutB.ok a).val neg hp = .ok (.bl (if neg then !a else a)) hp := rfl
theorem v_cd {neg : Bool} : (OutB.cd C a).val neg hp = .cd C (.bl (if neg then !a else a)) hp := rfl
theorem x_tup : oIx (.tup xs) (.int i) hp = oAtI xs i hp := rfl
theorem x_kl : oIx (.kl xs) (.int i) hp = oAtI xs i hp := rfl
theorem x_refi {p : Nat} : oIx (.ref p) (.int i) hp = (match hp[p]? with
    | some (.dic kvs) => oAtK kvs (.int i) hp
    | some (.fdic kvs) => oAtK kvs (.int i) hp
    | some (.lst xs) => oAtI xs i hp
    | _ => .no) := rfl
theorem x_refs {p : Nat} : oIx (.ref p) (.str x) hp = (match hp[p]? with
    | some (.dic kvs) => oAtK kvs (.str x) hp
    | some (.fdic kvs) => oAtK kvs (.str x) hp
    | _ => .no) := by
  show (match hp[p]? with
    | some (.dic kvs) => oAtK kvs (.str x) hp
    | some (.fdic kvs) => oAtK kvs (.str x) hp
    | some (.lst xs) => OutD.no
    | _ => .no) = _
  rcases hp[p]? with _ | (_ | _ | _ | _ | _) <;> rfl
theorem s_refi {p : Nat} : oSet (.ref p) (.int i) d hp = (match hp[p]? with
    | some (.dic kvs) => .cd (kvs.length < SZ) (hp.set p (.dic (dput kvs (.inl i) d)))
    | some (.lst xs) => (match L2.ixN xs.length i with
        | some j => .ok (hp.set p (.lst (xs.set j d)))
        | none => .no)
    | _ => .no) := by
  show (match hp[p]? with
    | some (.dic kvs) => _
    | some (.lst xs) => _
    | _ => _) = _
  rcases hp[p]? with _ | (_ | _ | _ | _ | _) <;> rfl
theorem s_refs {p : Nat} : oSet (.ref p) (.str x) d hp = (match hp[p]? with
    | some (.dic kvs) => .cd (kvs.length < SZ) (hp.set p (.dic (dput kvs (.inr x) d)))
    | _ => .no) := by
  show (match hp[p]? with
    | some (.dic kvs) => _
    | some (.lst xs) => OutH.no
    | _ => _) = _
  rcases hp[p]? with _ | (_ | _ | _ | _ | _) <;> rfl
theorem f_ref {p f : Nat} : oGetF (.ref p) f hp = (match gtI hp p with
    | some (_, fs) => (match fget fs f with
      | some d => .ok d hp
      | none => .no)
    | none => .no) := rfl
theorem sf_ref {p f : Nat} : oSetF (.ref p) f d hp = (match gtI hp p with
    | some (c, fs) => .cd (fs.length < 900) (hp.set p (.ins c (fput fs f d)))
    | none => .no) := rfl
theorem atI_nat {α : Type} (xs : List α) (k : Nat) : L2.atI xs (k : Int) = xs[k]? := by
  unfold L2.atI L2.ixN
  by_cases h : k < xs.length
  · rw [if_pos (Int.natCast_nonneg k), if_pos (by exact_mod_cast h)]
    simp
  · rw [if_pos (Int.natCast_nonneg k), if_neg (by omega)]
    rw [List.getElem?_eq_none (Nat.le_of_not_lt h)]
    rfl
theorem oAt_nat (k : Nat) : oAtI xs (k : Int) hp = (match xs[k]? with | some d => .ok d hp | none => .no) := by
  unfold oAtI
  rw [atI_nat]
  all_goals (cases xs[k]? <;> rfl)
theorem at_0 {x : D} : oAtI (x :: xs) 0 hp = .ok x hp := oAt_nat 0
theorem at_1 {x y : D} : oAtI (x :: y :: xs) 1 hp = .ok y hp := oAt_nat 1
theorem at_2 {x y z : D} : oAtI (x :: y :: z :: xs) 2 hp = .ok z hp := oAt_nat 2
theorem ixN_nat {n k : Nat} (h : k < n) : L2.ixN n (k : Int) = some k := by
  unfold L2.ixN
  rw [if_pos (Int.natCast_nonneg k), if_pos (by exact_mod_cast h)]
  simp
theorem ixN_0 {n : Nat} : L2.ixN (n + 1) 0 = some 0 := ixN_nat (k := 0) (Nat.succ_pos n)
theorem ixN_1 {n : Nat} : L2.ixN (n + 1 + 1) 1 = some 1 := ixN_nat (k := 1) (by omega)
theorem atI_m1 {α : Type} (xs : List α) (h : xs ≠ []) : L2.atI xs (-1) = xs.getLast? := by
  have hl : 0 < xs.length := List.length_pos_iff.mpr h
  unfold L2.atI L2.ixN
  rw [if_neg (by decide), if_pos (by omega)]
  show xs[((-1 : Int) + (xs.length : Int)).toNat]? = _
  rw [List.getLast?_eq_getElem?]
  congr 1
  omega
theorem sl_lst {p : Nat} {l h : Option Int} (e : hp[p]? = some (.lst xs)) : oSl (.ref p) l h hp = .ok (.ref hp.length) (hp ++ [.lst (cutD xs l h)]) := by
  show (match gtL hp p with | some xs => oNew hp (.lst (cutD xs l h)) | none => OutD.no) = _
  unfold gtL
  rw [e]
  rfl
theorem sl_tup {l h : Option Int} : oSl (.tup xs) l h hp = .ok (.tup (cutD xs l h)) hp := rfl
theorem list_l {p : Nat} (e : hp[p]? = some (.lst xs)) : oBF .list1 [.ref p] hp = .ok (.ref hp.length) (hp ++ [.lst xs]) := by
  show (match gtL hp p with | some xs => oNew hp (.lst xs) | none => OutD.no) = _
  unfold gtL
  rw [e]
  rfl
theorem seq_lst {p : Nat} (h : hp[p]? = some (.lst xs)) : itSeq hp (.ref p) = some (itLst p, hp) := by
  unfold itSeq
  simp only [h]
theorem app_k {p : Nat} (e : hp[p]? = some (.lst xs)) : bmK .append (.ref p) hp = some .lst := by
  unfold bmK
  simp only [e]
theorem app_l {p : Nat} (e : hp[p]? = some (.lst xs)) : oBM .append .lst (.ref p) [d] hp = .cd (xs.length < SZ) .non (hp.set p (.lst (xs ++ [d]))) := by
  show (match gtL hp p with | some xs => OutD.cd (xs.length < SZ) .non (hp.set p (.lst (xs ++ [d]))) | none => .no) = _
  unfold gtL
  rw [e]
theorem mapO_map {α β γ : Type} {f : β → Option γ} {u : α → β} {v : α → γ} : ∀ xs : List α, (∀ x ∈ xs, f (u x) = some (v x)) → mapO f (xs.map u) = some (xs.map v)
  | [], _ => rfl
  | k :: r, h => by
    rw [List.map_cons]
    unfold mapO
    rw [h k List.mem_cons_self, mapO_map r fun x hx => h x (List.mem_cons_of_mem _ hx)]
    rfl
theorem mapO_ints (n : Nat) (hp : Hq) (ns : List Int) : mapO (toP (n + 1) hp) (ns.map D.int) = some (ns.map PyData.int) := mapO_map ns fun _ _ => rfl
theorem sh_ints (ns : List Int) : SeqAt.shaped (.list (ns.map PyData.int)) = true := by
  have h1 : ∀ ns : List Int, PyData.canLayAll0 (ns.map PyData.int) = true := by
    intro ns
    induction ns with
    | nil => rfl
    | cons k r ih => simp [PyData.canLayAll0, PyData.canLay0, ih]
  have h2 := depth_ints ns
  have h3 : (PyData.list (ns.map PyData.int)).depth ≤ 64 := by
    simp only [PyData.depth]
    omega
  unfold SeqAt.shaped
  rw [Bool.and_eq_true]
  exact ⟨by simpa [PyData.canLay0] using h1 ns, decide_eq_true h3⟩
theorem sh_int (n : Int) : SeqAt.shaped (.int n) = true := by
  unfold SeqAt.shaped
  simp [PyData.canLay0, PyData.depth]
theorem any_ints (n : Int) : ∀ ns : List Int, ((ns.map PyData.int).any fun b => PyData.eqv b (.int n)) = decide (n ∈ ns)
  | [] => rfl
  | k :: r => by
    rw [List.map_cons, List.any_cons, any_ints n r]
    simp only [PyData.eqv, List.mem_cons]
    by_cases h : k = n
    · subst h; simp
    · simp [h, Ne.symm h]
theorem in_ints {p : Nat} {ns : List Int} (e : hp[p]? = some (.lst (ns.map D.int))) : oIn (.int i) (.ref p) hp = .cd (SeqAt.shaped (.int i) = true ∧ SeqAt.shaped (.list (ns.map PyData.int)) = true) (decide (i ∈ ns)) := by
  have h : oIn (.int i) (.ref p) hp = oInS (.int i) (ns.map D.int) hp := by
    unfold oIn
    simp only [e]
  rw [h]
  unfold oInS
  rw [mapO_ints 39 hp ns, show toP 40 hp (.int i) = some (.int i) from rfl]
  simp only [any_ints]
theorem isi_tt : oBF .isi [.tup xs, .ty "tuple"] hp = .ok (.bl true) hp := by
  show (if tyAll.contains "tuple" then OutD.ok (.bl (isiB "tuple" "tuple")) hp else .no) = _
  rw [if_pos (by decide +kernel), show isiB "tuple" "tuple" = true by decide +kernel]
theorem isi_ss : oBF .isi [.str x, .ty "str"] hp = .ok (.bl true) hp := by
  show (if tyAll.contains "str" then OutD.ok (.bl (isiB "str" "str")) hp else .no) = _
  rw [if_pos (by decide +kernel), show isiB "str" "str" = true by decide +kernel]
theorem isi_ii : oBF .isi [.int i, .ty "int"] hp = .ok (.bl true) hp := by
  show (if tyAll.contains "int" then OutD.ok (.bl (isiB "int" "int")) hp else .no) = _
  rw [if_pos (by decide +kernel), show isiB "int" "int" = true by decide +kernel]
theorem isi_ib : oBF .isi [.int i, .ty "bool"] hp = .ok (.bl false) hp := by
  show (if tyAll.contains "bool" then OutD.ok (.bl (isiB "int" "bool")) hp else .no) = _
  rw [if_pos (by decide +kernel), show isiB "int" "bool" = false by decide +kernel]
theorem isi_ll {p : Nat} (h : hp[p]? = some (.lst xs)) : oBF .isi [.ref p, .ty "list"] hp = .ok (.bl true) hp := by
  show (match tyOf hp (.ref p) with | some a => if tyAll.contains "list" then OutD.ok (.bl (isiB a "list")) hp else .no | none => .no) = _
  have : tyOf hp (.ref p) = some "list" := by simp only [tyOf, h]
  rw [this]
  show (if tyAll.contains "list" then OutD.ok (.bl (isiB "list" "list")) hp else .no) = _
  rw [if_pos (by decide +kernel), show isiB "list" "list" = true by decide +kernel]
theorem len_t : oBF .len [.tup xs] hp = .ok (.int xs.length) hp := rfl
theorem len_t0 : oBF .len [.tup []] hp = .ok (.int 0) hp := rfl
theorem len_t1 : oBF .len [.tup [d]] hp = .ok (.int 1) hp := rfl
theorem len_t2 : oBF .len [.tup [d, e]] hp = .ok (.int 2) hp := rfl
theorem len_k : oBF .len [.kl xs] hp = .ok (.int xs.length) hp := rfl
theorem max_2 : oBF .max2 [.int i, .int j] hp = .ok (.int (if j > i then j else i)) hp := rfl
theorem min_2 : oBF .min2 [.int i, .int j] hp = .ok (.int (if j < i then j else i)) hp := rfl
theorem int_b : oBF .int1 [.bl a] hp = .ok (.int (if a then 1 else 0)) hp := rfl
theorem gtL_of {p : Nat} (h : hp[p]? = some (.lst xs)) : gtL hp p = some xs := by unfold gtL; rw [h]
theorem gtI_of {p c : Nat} {fs : List (Nat × D)} (h : hp[p]? = some (.ins c fs)) : gtI hp p = some (c, fs) := by unfold gtI; rw [h]
theorem gtD_of {p : Nat} {kvs : List (L2.Key × D)} (h : hp[p]? = some (.dic kvs)) : gtD hp p = some kvs := by unfold gtD; rw [h]
end
/-- old places stay, but some -/
structure Keep (P : Nat → Prop) (hp hp' : Hq) : Prop where
  len : hp.length ≤ hp'.length
  at_ : ∀ i, i < hp.length → ¬ P i → hp'[i]? = hp[i]?
theorem Keep.refl (P : Nat → Prop) (hp : Hq) : Keep P hp hp := ⟨Nat.le_refl _, fun _ _ _ => rfl⟩
theorem Keep.trans {P : Nat → Prop} {a b c : Hq} (h1 : Keep P a b) (h2 : Keep P b c) : Keep P a c :=
  ⟨Nat.le_trans h1.len h2.len, fun i hi hp => (h2.at_ i (Nat.lt_of_lt_of_le hi h1.len) hp).trans (h1.at_ i hi hp)⟩
theorem Keep.set {P : Nat → Prop} {hp : Hq} {i : Nat} {o : O} (h : P i) : Keep P hp (hp.set i o) := ⟨by simp, fun j _ hj => List.getElem?_set_ne (fun e : i = j => hj (by rw [← e]; exact h))⟩
theorem Keep.app {P : Nat → Prop} {hp : Hq} {l : List O} : Keep P hp (hp ++ l) := ⟨by simp, fun j hj _ => List.getElem?_append_left hj⟩
theorem Keep.get {P : Nat → Prop} {a b : Hq} (h : Keep P a b) {i : Nat} {o : O} (e : a[i]? = some o) (hn : ¬ P i) : b[i]? = some o := (h.at_ i (lt_of e) hn).trans e
theorem Keep.mono {P Q : Nat → Prop} {a b : Hq} (h : Keep P a b) (hq : ∀ i, i < a.length → P i → Q i) : Keep Q a b := ⟨h.len, fun i hi hn => h.at_ i hi fun p => hn (hq i hi p)⟩
end MI
set_option maxHeartbeats 4000000
/-! MI, part 22: how a law draws its numbers. -/
local macro_rules | `(tactic| walk_at "mi") => `(tactic| simp (disch := (first | assumption | omega | (simp only [List.length_append, List.length_cons, List.length_nil, List.length_set]; omega))) only [*, MI.wSs, MI.wS, MI.wE, MI.wEs, MI.wEo, MI.wTg, MI.wTgs, MI.a_ok, MI.a_cd, MI.a_no, MI.ab_okB, MI.ab_cd, MI.ah_ok, MI.ah_cd, MI.o_add, MI.o_addt, MI.o_adds, MI.o_addl, MI.o_mull, MI.o_sub, MI.o_mul, MI.o_fdiv, MI.o_mod, MI.o_pow, MI.t_non, MI.t_bl, MI.t_int, MI.t_tup, MI.c_eqi, MI.c_eqs, MI.c_eqb, MI.c_nei, MI.c_nes, MI.c_eqt, MI.c_net, MI.c_eqr, MI.c_ner, MI.c_lt, MI.c_le, MI.c_gt, MI.c_ge, MI.c_is, MI.c_nis, MI.c_in, MI.c_nin, MI.v_ok, MI.v_cd, MI.x_tup, MI.x_kl, MI.x_refi, MI.x_refs, MI.s_refi, MI.s_refs, MI.f_ref, MI.sf_ref, MI.at_0, MI.at_1, MI.at_2, MI.ixN_0, MI.ixN_1, List.getElem?_cons_zero, List.getElem?_cons_succ, List.set_cons_zero, List.set_cons_succ, List.map_cons, List.map_nil, List.cons_append, List.nil_append, List.replicate, Option.getD_some, Option.getD_none, Bool.false_eq_true, if_true, if_false, List.length_cons, List.length_nil, List.getElem?_set_self', Option.map_eq_map, Option.map_some, Function.const_apply, List.set_set, decide_eq_true_eq, true_and, and_true])
namespace MI
open PySem L2

def bCell : Sts :=
  (.cons (.ifs (.cmp .lt (.var 1) (.blt .len (.cons (.var 0) .nil))) (.cons (.ret (.so (.ix (.var 0) (.var 1)))) .nil) .nil) (.cons (.ret (.so (.lit (.int 0)))) .nil))
def bPool (f : Nat) : Sts :=
  (.cons (.asg (.nm 2) (.call f (.cons (.var 0) (.cons (.var 1) .nil)))) (.cons (.asg (.nm 3) (.bin .mod (.bin .mul (.bin .add (.bin .add (.bin .mod (.var 2) (.lit (.int 2147483629))) (.bin .mul (.bin .mul (.lit (.int 7919)) (.var 1)) (.var 1))) (.lit (.int 1))) (.lit (.int 48271))) (.lit (.int 2147483647)))) (.cons (.ifs (.cmp .lt (.var 2) (.bin .pow (.lit (.int 10)) (.lit (.int 18)))) (.cons (.asg (.nm 2) (.lit (.int 0))) .nil) .nil) (.cons (.ret (.so (.lst (.cons (.var 2) (.cons (.bin .mod (.bin .mul (.var 3) (.var 3)) (.lit (.int 2147483629))) .nil))))) .nil))))
def bTake : Sts :=
  (.cons (.ifs (.cmp .gt (.ix (.var 0) (.lit (.int 0))) (.lit (.int 0))) (.cons (.asg (.nm 2) (.bin .mod (.ix (.var 0) (.lit (.int 0))) (.var 1))) (.cons (.asg (.sb (.var 0) (.lit (.int 0))) (.bin .fdiv (.ix (.var 0) (.lit (.int 0))) (.var 1))) (.cons (.ret (.so (.var 2))) .nil))) .nil) (.cons (.asg (.sb (.var 0) (.lit (.int 1))) (.bin .mod (.bin .add (.bin .mul (.ix (.var 0) (.lit (.int 1))) (.lit (.int 48271))) (.lit (.int 11))) (.lit (.int 2147483647)))) (.cons (.ret (.so (.bin .mod (.bin .fdiv (.bin .mod (.bin .mul (.ix (.var 0) (.lit (.int 1))) (.ix (.var 0) (.lit (.int 1)))) (.lit (.int 2147483629))) (.lit (.int 64))) (.var 1)))) .nil)))
theorem call_of {g : Glob} {f np ns : Nat} {b : Sts} (h : g.fns[f]? = some ⟨np, ns, b⟩) (n : Nat) (ds : List D) (hp : Hq) (Q : QD) (E : QX) :
    wCall g (n + 1) f ds hp Q E = (ds.length = np ∧ wSs g (wCall g n) b (ds.map some ++ List.replicate (ns - np) none) hp { nx := fun _ hp => Q .non hp, bk := fun _ _ => False, ct := fun _ _ => False, rt := Q, ex := fun c i _ hp => E c i hp }) := by
  show (match g.fns[f]? with | none => False | some fi => _) = _
  rw [h]
section
variable {g : Glob} {f n : Nat} {hp : Hq} {Q : QD} {E : QX}
/-- the pool: what is left of the cell, a seed -/
def PoolAt (hp : Hq) (i : Nat) : Prop := ∃ c s : Int, hp[i]? = some (.lst [.int c, .int s]) ∧ 0 ≤ c ∧ 0 ≤ s ∧ s < 2147483647
theorem take_run (hf : g.fns[f]? = some ⟨2, 3, bTake⟩) {i : Nat} {m : Int} (h : PoolAt hp i) (hm : 0 < m) (hm2 : m < 1073741824)
    (k : ∀ (r : Int) hp', 0 ≤ r → r < m → Keep (· = i) hp hp' → hp'.length = hp.length → PoolAt hp' i → Q (.int r) hp') : wCall g (n + 1) f [.ref i, .int m] hp Q E := by
  obtain ⟨c, s, h, hc, hs, hs2⟩ := h
  have fin : ∀ r c' s' : Int, 0 ≤ r → r < m → 0 ≤ c' → 0 ≤ s' → s' < 2147483647 → Q (.int r) (hp.set i (.lst [.int c', .int s'])) := fun r c' s' h1 h2 h3 h4 h5 =>
    k r _ h1 h2 (Keep.set rfl) (by simp) ⟨c', s', set_same h, h3, h4, h5⟩
  clear k
  rw [call_of hf]
  refine ⟨rfl, ?_⟩
  unfold bTake
  revert fin
  walk_at "mi"
  intro fin
  split
  · exact fin _ _ _ (Int.emod_nonneg _ (by omega)) (Int.emod_lt_of_pos _ hm) (Int.ediv_nonneg hc (by omega)) hs hs2
  · have q1 := Int.emod_nonneg (s * 48271 + 11) (b := 2147483647) (by decide)
    have q2 := Int.emod_lt_of_pos (s * 48271 + 11) (b := 2147483647) (by decide)
    refine ⟨.inr ⟨by decide, by decide⟩, by decide, .inl ⟨by omega, by omega⟩, by decide, ⟨by decide, by decide⟩, fin _ _ _ (Int.emod_nonneg _ (by omega)) (Int.emod_lt_of_pos _ hm) hc q1 q2⟩
theorem cell_run (hf : g.fns[f]? = some ⟨2, 2, bCell⟩) {ns : List Int} {j : Nat} (k : ∀ c : Int, Q (.int c) hp) : wCall g (n + 1) f [.kl (ns.map D.int), .int j] hp Q E := by
  rw [call_of hf]
  refine ⟨rfl, ?_⟩
  unfold bCell
  by_cases h : j < ns.length
  · have e : L2.atI (ns.map D.int) (j : Int) = some (.int ns[j]) := by rw [atI_nat]; simp [h]
    have h' : (j : Int) < ((ns.map D.int).length : Int) := by simpa using h
    simp only [wSs, wS, wE, wEs, wEo, a_ok, ab_okB, oBF, c_lt, t_bl, x_kl, oAtI, e, List.map_cons, List.map_nil, List.cons_append, List.nil_append, List.replicate, List.getElem?_cons_zero, List.getElem?_cons_succ, Option.getD_some, h', decide_true, if_true]
    exact k _
  · have h' : ¬ (j : Int) < ((ns.map D.int).length : Int) := by simpa using h
    simp only [wSs, wS, wE, wEs, wEo, a_ok, ab_okB, oBF, c_lt, t_bl, x_kl, oAtI, List.map_cons, List.map_nil, List.cons_append, List.nil_append, List.replicate, List.getElem?_cons_zero, List.getElem?_cons_succ, Option.getD_some, h', decide_false, if_false, Bool.false_eq_true]
    exact k _
theorem pool_run {fc : Nat} (hf : g.fns[f]? = some ⟨2, 4, bPool fc⟩) (hc : g.fns[fc]? = some ⟨2, 2, bCell⟩) {ns : List Int} {j : Nat} (hj : j < 1000)
    (k : ∀ hp', hp' = hp ++ [hp'.getD hp.length (.lst [])] → PoolAt hp' hp.length → Q (.ref hp.length) hp') : wCall g (n + 2) f [.kl (ns.map D.int), .int j] hp Q E := by
  have fin : ∀ c s : Int, 0 ≤ c → 0 ≤ s → s < 2147483647 → Q (.ref hp.length) (hp ++ [.lst [.int c, .int s]]) := fun c s h1 h2 h3 => k _ (by simp) ⟨c, s, by simp, h1, h2, h3⟩
  clear k
  rw [call_of hf]
  refine ⟨rfl, ?_⟩
  unfold bPool
  simp only [wSs, wS, wE, wEs, wTg, List.map_cons, List.map_nil, List.cons_append, List.nil_append, List.replicate, List.getElem?_cons_zero, List.getElem?_cons_succ]
  refine cell_run hc fun c => ?_
  have sd : ∀ x : Int, 0 ≤ x % 2147483629 ∧ x % 2147483629 < 2147483629 := fun x => ⟨Int.emod_nonneg _ (by decide), Int.emod_lt_of_pos _ (by decide)⟩
  have sd2 : ∀ x : Int, 0 ≤ x % 2147483647 ∧ x % 2147483647 < 2147483647 := fun x => ⟨Int.emod_nonneg _ (by decide), Int.emod_lt_of_pos _ (by decide)⟩
  have p18 : (10 : Int) ^ (18 : Int).toNat = 1000000000000000000 := by decide
  simp only [wEs, wEo, wE, a_ok, a_cd, ab_okB, o_add, o_mul, o_mod, o_pow, c_lt, t_bl, p18, List.set_cons_zero, List.set_cons_succ, List.getElem?_cons_zero, List.getElem?_cons_succ]
  refine ⟨by decide, .inl ⟨by decide, by decide⟩, .inr ⟨by omega, by omega⟩, .inr ⟨by decide, by decide⟩, by decide, by decide, ?_⟩
  have q := sd2 ((c % 2147483629 + 7919 * (j : Int) * (j : Int) + 1) * 48271)
  generalize (c % 2147483629 + 7919 * (j : Int) * (j : Int) + 1) * 48271 % 2147483647 = s at q ⊢
  by_cases h : c < 1000000000000000000
  · simp only [h, decide_true, if_true]
    refine ⟨.inl ⟨by omega, by omega⟩, by decide, fin 0 _ (by decide) (sd _).1 ?_⟩
    have := (sd (s * s)).2
    omega
  · simp only [h, decide_false, if_false, Bool.false_eq_true]
    refine ⟨.inl ⟨by omega, by omega⟩, by decide, fin c _ (by omega) (sd _).1 ?_⟩
    have := (sd (s * s)).2
    omega
end
end MI
set_option maxHeartbeats 4000000
/-! MI, part 23: repr of small data. -/
namespace MI
open PySem L2
mutual
def smal : PyData → Bool
  | .none => true
  | .bool _ => true
  | .int i => decide (-999999999999 ≤ i) && decide (i ≤ 999999999999)
  | .str x => PyData.strOk x && x.cps.toList.all fun c => decide (c < 16 ^ 8)
  | .list xs => smalAll xs
  | .tuple xs => smalAll xs
  | .dict _ => false
def smalAll : List PyData → Bool
  | [] => true
  | x :: xs => smal x && smalAll xs
end
theorem log2_small {i : Int} (h1 : -999999999999 ≤ i) (h2 : i ≤ 999999999999) : i.natAbs.log2 < 1920 := by
  have h : i.natAbs ≤ 999999999999 := by omega
  by_cases z : i.natAbs = 0
  · rw [z]; decide
  · have : i.natAbs.log2 < 40 := (Nat.log2_lt z).mpr (by omega)
    omega
mutual
theorem smal_ok : ∀ d : PyData, smal d = true → d.leavesShort 13 = true ∧ d.showable = true ∧ d.canLay0 = true
  | .none, _ => by simp [PyData.leavesShort, PyData.showable, PyData.canLay0]
  | .bool b, _ => by simp [PyData.leavesShort, PyData.showable, PyData.canLay0]
  | .int i, h => by
    have h' : -999999999999 ≤ i ∧ i ≤ 999999999999 := by simpa [smal] using h
    refine ⟨?_, ?_, by simp [PyData.canLay0]⟩
    · simp only [PyData.leavesShort, decide_eq_true_eq]
      exact PyData.shown_int_le2 h'.1 h'.2
    · simp only [PyData.showable, decide_eq_true_eq]
      exact log2_small h'.1 h'.2
  | .str x, h => by
    unfold smal at h
    rw [Bool.and_eq_true] at h
    refine ⟨?_, by simp [PyData.showable], ?_⟩
    · unfold PyData.leavesShort; exact h.2
    · unfold PyData.canLay0; exact h.1
  | .list xs, h => by
    have q := smalAll_ok xs (by simpa [smal] using h)
    simpa [PyData.leavesShort, PyData.showable, PyData.canLay0] using q
  | .tuple xs, h => by
    have q := smalAll_ok xs (by simpa [smal] using h)
    simpa [PyData.leavesShort, PyData.showable, PyData.canLay0] using q
  | .dict kvs, h => by simp [smal] at h
theorem smalAll_ok : ∀ xs : List PyData, smalAll xs = true → PyData.leavesShortAll 13 xs = true ∧ PyData.showableAll xs = true ∧ PyData.canLayAll0 xs = true
  | [], _ => by simp [PyData.leavesShortAll, PyData.showableAll, PyData.canLayAll0]
  | x :: xs, h => by
    have h' : smal x = true ∧ smalAll xs = true := by simpa [smalAll] using h
    have q1 := smal_ok x h'.1
    have q2 := smalAll_ok xs h'.2
    simp [PyData.leavesShortAll, PyData.showableAll, PyData.canLayAll0, q1, q2]
end
def RpOk (a : PyData) : Prop := SeqAt.shaped a = true ∧ a.showable = true ∧ a.shown.length ≤ SZ
theorem rp_of {a : PyData} (h : smal a = true) (hd : a.depth ≤ 64) (hb : a.bulk ≤ 100000) : RpOk a := by
  obtain ⟨h1, h2, h3⟩ := smal_ok a h
  refine ⟨?_, h2, ?_⟩
  · unfold SeqAt.shaped
    rw [Bool.and_eq_true]
    exact ⟨h3, decide_eq_true hd⟩
  · have := PyData.shown_le_bulk 13 (by decide) a h1
    show _ ≤ 16777216
    omega
theorem repr_at {x : D} {a : PyData} {hp : Hq} (h : toP 40 hp x = some a) : oBF .repr [x] hp = .cd (RpOk a) (.str a.shown) hp := by
  unfold oBF
  simp only [h]
  rfl
theorem repr_atR {x : D} {a : PyData} {hp : Hq} (h0 : toP 40 hp x = none) (h : toR 40 hp x = some a) : oBF .repr [x] hp = .cd (a.depth ≤ 64 ∧ a.showable = true ∧ a.shown.length ≤ SZ) (.str a.shown) hp := by
  unfold oBF
  simp only [h0, h]
theorem smal_ints : ∀ ns : List Int, (∀ n ∈ ns, -999999999999 ≤ n ∧ n ≤ 999999999999) → smalAll (ns.map .int) = true
  | [], _ => by simp [smalAll]
  | n :: r, h => by
    have q := h n List.mem_cons_self
    have q2 := smal_ints r fun x hx => h x (List.mem_cons_of_mem _ hx)
    simp [smalAll, smal, q, q2]
theorem bulk_ints : ∀ ns : List Int, PyData.bulkAll (ns.map .int) = ns.length
  | [] => rfl
  | n :: r => by
    have := bulk_ints r
    simp only [List.map_cons, PyData.bulkAll, PyData.bulk, List.length_cons]
    omega
end MI
set_option maxHeartbeats 4000000
/-! MI, part 24: dicts by their keys. -/
namespace MI
open PySem L2
section
variable {α β : Type}
theorem dget_map (k : Key) (f : Key × α → β) : ∀ kvs : List (Key × α), dget (kvs.map fun kv => (kv.1, f kv)) k = (dget kvs k).map fun v => f (k, v)
  | [] => rfl
  | (k', v) :: r => by
    show (if k' = k then some (f (k', v)) else dget (r.map fun kv => (kv.1, f kv)) k) = (if k' = k then some v else dget r k).map _
    by_cases h : k' = k
    · rw [if_pos h, if_pos h, h]; rfl
    · rw [if_neg h, if_neg h]; exact dget_map k f r
theorem dget_mem {k : Key} {v : α} : ∀ {kvs : List (Key × α)}, dget kvs k = some v → (k, v) ∈ kvs
  | (k', v') :: r, h => by
    have h : (if k' = k then some v' else dget r k) = some v := h
    by_cases e : k' = k
    · rw [if_pos e] at h; cases h; rw [e]; exact List.mem_cons_self
    · rw [if_neg e] at h; exact List.mem_cons_of_mem _ (dget_mem h)
theorem dget_none {k : Key} : ∀ {kvs : List (Key × α)}, (∀ kv ∈ kvs, kv.1 ≠ k) → dget kvs k = none
  | [], _ => rfl
  | (k', v') :: r, h => by
    show (if k' = k then some v' else dget r k) = none
    rw [if_neg (h (k', v') List.mem_cons_self)]
    exact dget_none fun kv hk => h kv (List.mem_cons_of_mem _ hk)
theorem dget_of_mem {k : Key} {v : α} : ∀ {kvs : List (Key × α)}, (kvs.map (·.1)).Nodup → (k, v) ∈ kvs → dget kvs k = some v
  | (k', v') :: r, hn, h => by
    have hn' := List.nodup_cons.mp hn
    show (if k' = k then some v' else dget r k) = some v
    rcases List.mem_cons.mp h with e | e
    · cases e; rw [if_pos rfl]
    · rw [if_neg fun z => hn'.1 (List.mem_map.mpr ⟨_, e, z.symm⟩)]
      exact dget_of_mem hn'.2 e
theorem dget_app {k : Key} : ∀ (a b : List (Key × α)), dget (a ++ b) k = match dget a k with | some v => some v | none => dget b k
  | [], b => rfl
  | (k', v') :: r, b => by
    show (if k' = k then some v' else dget (r ++ b) k) = match (if k' = k then some v' else dget r k) with | some v => some v | none => dget b k
    by_cases e : k' = k
    · simp only [if_pos e]
    · simp only [if_neg e]; exact dget_app r b
theorem any_key {k : Key} {kvs : List (Key × α)} : ((kvs.any fun kv => decide (kv.1 = k)) = true) ↔ k ∈ kvs.map (·.1) := by
  simp only [List.any_eq_true, decide_eq_true_eq, List.mem_map]
theorem dput_new {k : Key} {v : α} {kvs : List (Key × α)} (h : k ∉ kvs.map (·.1)) : dput kvs k v = kvs ++ [(k, v)] := by
  unfold dput
  rw [if_neg fun z => h (any_key.mp z)]
theorem dput_keys {k : Key} {v : α} {kvs : List (Key × α)} (hn : (kvs.map (·.1)).Nodup) : ((dput kvs k v).map (·.1)).Nodup ∧ ∀ kv ∈ dput kvs k v, kv.1 = k ∨ kv.1 ∈ kvs.map (·.1) := by
  by_cases h : k ∈ kvs.map (·.1)
  · have e : (dput kvs k v).map (·.1) = kvs.map (·.1) := by
      unfold dput
      rw [if_pos (any_key.mpr h), List.map_map]
      exact List.map_congr_left fun kv _ => by
        show (if kv.1 = k then (kv.1, v) else kv).1 = kv.1
        split <;> rfl
    refine ⟨e ▸ hn, fun kv hk => .inr ?_⟩
    rw [← e]
    exact List.mem_map.mpr ⟨kv, hk, rfl⟩
  · rw [dput_new h]
    refine ⟨?_, fun kv hk => ?_⟩
    · rw [List.map_append, List.nodup_append]
      refine ⟨hn, by simp, fun a ha b hb => ?_⟩
      have : b = k := by simpa using hb
      intro e
      exact h (by rw [← this, ← e]; exact ha)
    · rcases List.mem_append.mp hk with z | z
      · exact .inr (List.mem_map.mpr ⟨kv, z, rfl⟩)
      · have : kv = (k, v) := by simpa using z
        exact .inl (by rw [this])
theorem dget_put_map {k k' : Key} {v : α} : ∀ kvs : List (Key × α), dget (kvs.map fun kv => if kv.1 = k then (kv.1, v) else kv) k' = if k = k' then (dget kvs k').map fun _ => v else dget kvs k'
  | [] => by simp [dget]
  | (k1, v1) :: r => by
    have ih := dget_put_map (k := k) (k' := k') (v := v) r
    rw [List.map_cons]
    by_cases h1 : k1 = k
    · subst h1
      simp only [if_true]
      show (if k1 = k' then some v else _) = if k1 = k' then (if k1 = k' then some v1 else dget r k').map _ else if k1 = k' then some v1 else dget r k'
      by_cases h2 : k1 = k'
      · simp [h2]
      · simp only [if_neg h2] at ih ⊢; exact ih
    · simp only [if_neg h1]
      show (if k1 = k' then some v1 else _) = if k = k' then (if k1 = k' then some v1 else dget r k').map _ else if k1 = k' then some v1 else dget r k'
      by_cases h2 : k1 = k'
      · have h3 : k ≠ k' := fun z => h1 (h2.trans z.symm)
        simp only [if_pos h2, if_neg h3]
      · simp only [if_neg h2]; exact ih
theorem dget_dput {k k' : Key} {v : α} {kvs : List (Key × α)} : dget (dput kvs k v) k' = if k = k' then some v else dget kvs k' := by
  by_cases h : k ∈ kvs.map (·.1)
  · unfold dput
    rw [if_pos (any_key.mpr h), dget_put_map]
    by_cases e : k = k'
    · subst e
      rw [if_pos rfl, if_pos rfl]
      cases z : dget kvs k with
      | some w => rfl
      | none =>
        exfalso
        obtain ⟨kv, h1, h2⟩ := List.mem_map.mp h
        clear h
        induction kvs with
        | nil => cases h1
        | cons a r ih =>
          have z : (if a.1 = k then some a.2 else dget r k) = none := z
          by_cases q : a.1 = k
          · rw [if_pos q] at z; cases z
          · rw [if_neg q] at z
            rcases List.mem_cons.mp h1 with w | w
            · subst w; exact q h2
            · exact ih z w
    · rw [if_neg e, if_neg e]
  · rw [dput_new h, dget_app]
    by_cases e : k = k'
    · subst e
      rw [if_pos rfl, dget_none fun kv hk z => h (List.mem_map.mpr ⟨kv, hk, z⟩)]
      show (if k = k then some v else none) = some v
      rw [if_pos rfl]
    · rw [if_neg e]
      cases dget kvs k' with
      | some w => rfl
      | none =>
        show (if k = k' then some v else none) = none
        rw [if_neg e]
theorem dget_ddrop {k k' : Key} : ∀ kvs : List (Key × α), dget (ddrop kvs k) k' = if k = k' then none else dget kvs k'
  | [] => by simp [ddrop, dget]
  | (k1, v1) :: r => by
    have ih := dget_ddrop (k := k) (k' := k') r
    unfold ddrop at ih ⊢
    by_cases h1 : k1 = k
    · subst h1
      rw [List.filter_cons_of_neg (by simp), ih]
      show _ = if k1 = k' then none else if k1 = k' then some v1 else dget r k'
      by_cases h2 : k1 = k'
      · rw [if_pos h2, if_pos h2]
      · rw [if_neg h2, if_neg h2, if_neg h2]
    · rw [List.filter_cons_of_pos (by simpa using h1)]
      show (if k1 = k' then some v1 else _) = if k = k' then none else if k1 = k' then some v1 else dget r k'
      by_cases h2 : k1 = k'
      · have h3 : k ≠ k' := fun z => h1 (h2.trans z.symm)
        simp only [if_pos h2, if_neg h3]
      · simp only [if_neg h2]; exact ih
theorem ddrop_sub {k : Key} {kvs : List (Key × α)} : (ddrop kvs k).Sublist kvs := List.filter_sublist
/-- a fold of puts over new keys hangs them on -/
theorem fold_put : ∀ (l acc : List (Key × α)), ((acc ++ l).map (·.1)).Nodup → l.foldl (fun a kv => dput a kv.1 kv.2) acc = acc ++ l
  | [], acc, _ => by simp
  | (k, v) :: r, acc, h => by
    show r.foldl _ (dput acc k v) = _
    have hk : k ∉ acc.map (·.1) := by
      intro z
      rw [List.map_append, List.nodup_append] at h
      exact h.2.2 k z k (by simp) rfl
    rw [dput_new hk, fold_put r _ (by simpa using h)]
    simp
end
/-- the keys are 0 .. n-1, each once -/
structure Kys {α : Type} (n : Nat) (kvs : List (Key × α)) : Prop where
  nd : (kvs.map (·.1)).Nodup
  lt : ∀ kv ∈ kvs, ∃ j : Nat, j < n ∧ kv.1 = .inl (j : Int)
section
variable {α : Type} {n : Nat} {kvs : List (Key × α)}
theorem Kys.nil : Kys n ([] : List (Key × α)) := ⟨by simp, fun _ h => by cases h⟩
theorem Kys.put (h : Kys n kvs) {j : Nat} (hj : j < n) (v : α) : Kys n (dput kvs (.inl (j : Int)) v) :=
  ⟨(dput_keys h.nd).1, fun kv hk => by
    rcases (dput_keys h.nd).2 kv hk with e | e
    · exact ⟨j, hj, e⟩
    · obtain ⟨w, h1, h2⟩ := List.mem_map.mp e
      obtain ⟨i, h3, h4⟩ := h.lt w h1
      exact ⟨i, h3, h2 ▸ h4⟩⟩
theorem Kys.drop (h : Kys n kvs) (k : Key) : Kys n (ddrop kvs k) :=
  ⟨(ddrop_sub.map _).nodup h.nd, fun kv hk => h.lt kv (ddrop_sub.subset hk)⟩
theorem Kys.big (h : Kys n kvs) {j : Nat} (hj : n ≤ j) : dget kvs (.inl (j : Int)) = none := dget_none fun kv hk e => by
  obtain ⟨i, h1, h2⟩ := h.lt kv hk
  rw [h2] at e
  have : (i : Int) = j := by injection e
  omega
def wsum (w : Key → α → Nat) (kvs : List (Key × α)) : Nat → Nat
  | 0 => 0
  | n + 1 => wsum w kvs n + (match dget kvs (.inl (n : Int)) with | some v => w (.inl (n : Int)) v | none => 0)
theorem wsum_cons {w : Key → α → Nat} {j : Nat} {v : α} (hk : (.inl (j : Int)) ∉ kvs.map (·.1)) : ∀ n, wsum w ((.inl (j : Int), v) :: kvs) n = wsum w kvs n + (if j < n then w (.inl (j : Int)) v else 0)
  | 0 => by simp [wsum]
  | n + 1 => by
    have ih := wsum_cons (w := w) (v := v) hk n
    show wsum w _ n + (match (if (Sum.inl (j : Int) : Key) = .inl (n : Int) then some v else dget kvs (.inl (n : Int))) with | some v => w (.inl (n : Int)) v | none => 0) = wsum w kvs n + (match dget kvs (.inl (n : Int)) with | some v => w (.inl (n : Int)) v | none => 0) + _
    rw [ih]
    by_cases e : j = n
    · subst e
      rw [dget_none (kvs := kvs) fun kv h z => hk (List.mem_map.mpr ⟨kv, h, z⟩)]
      simp
    · have e' : ¬ (Sum.inl (j : Int) : Key) = .inl (n : Int) := fun z => e (by injection z with z; omega)
      rw [if_neg e']
      by_cases l : j < n
      · rw [if_pos l, if_pos (by omega)]; omega
      · rw [if_neg l, if_neg (show ¬ j < n + 1 by omega)]; simp only [Nat.add_zero]
theorem sum_keys {w : Key → α → Nat} : ∀ {kvs : List (Key × α)}, Kys n kvs → (kvs.map fun kv => w kv.1 kv.2).sum = wsum w kvs n
  | [], hz => by
    clear hz
    show 0 = _
    induction n with
    | zero => rfl
    | succ n ih => show 0 = wsum w [] n + 0; exact ih
  | (k, v) :: r, h => by
    have hn := List.nodup_cons.mp h.nd
    obtain ⟨j, hj, e⟩ := h.lt (k, v) List.mem_cons_self
    have e : k = .inl (j : Int) := e
    subst e
    rw [wsum_cons hn.1, List.map_cons, List.sum_cons, sum_keys (kvs := r) ⟨hn.2, fun kv hk => h.lt kv (List.mem_cons_of_mem _ hk)⟩, if_pos hj]
    exact Nat.add_comm _ _
theorem wsum_congr {β : Type} {w : Key → α → Nat} {w' : Key → β → Nat} {ls : List (Key × β)} : ∀ n, (∀ j : Nat, j < n → (match dget kvs (.inl (j : Int)) with | some v => w (.inl (j : Int)) v | none => 0) = (match dget ls (.inl (j : Int)) with | some v => w' (.inl (j : Int)) v | none => 0)) → wsum w kvs n = wsum w' ls n
  | 0, _ => rfl
  | n + 1, h => by
    show wsum w kvs n + _ = wsum w' ls n + _
    rw [wsum_congr n fun j hj => h j (by omega), h n (by omega)]
theorem Kys.len (h : Kys n kvs) : kvs.length ≤ n := by
  have h1 : kvs.length = (kvs.map fun kv => (fun (_ : Key) (_ : α) => 1) kv.1 kv.2).sum := by
    clear h
    induction kvs with
    | nil => rfl
    | cons a r ih => rw [List.length_cons, List.map_cons, List.sum_cons, ih]; exact Nat.add_comm _ _
  rw [h1, sum_keys (w := fun _ _ => 1) h]
  clear h1 h
  induction n with
  | zero => exact Nat.le_refl _
  | succ n ih =>
    show wsum _ kvs n + _ ≤ n + 1
    have : (match dget kvs (.inl (n : Int)) with | some v => (fun (_ : Key) (_ : α) => 1) (.inl (n : Int)) v | none => 0) ≤ 1 := by split <;> simp
    omega
end
end MI
set_option maxHeartbeats 4000000
/-! ### the text, as tables (written by gen.py) -/
namespace MI
open PySem PySem.Spec PyProof.Rows L2 MI
namespace T
def top (i : Nat) : Stmt := PySem.Challenge.pw_rowstold_k04_refusals_apart.main.body.getD i (.Pass ⟨0, 0, 0, 0⟩)
abbrev s__law_cell_at : Stmt := top 30
/- slots: 0 _law_script, 1 _law_k -/
def b__law_cell_at : Sts :=
  (.cons (.ifs (.cmp .lt (.var 1) (.blt .len (.cons (.var 0) .nil))) (.cons (.ret (.so (.ix (.var 0) (.var 1)))) .nil) .nil) (.cons (.ret (.so (.lit (.int 0)))) .nil))
def n__law_cell_at : List Str := ["_law_script", "_law_k"]
def i__law_cell_at : FnI := ⟨2, 2, b__law_cell_at⟩
abbrev s__law_pool : Stmt := top 31
/- slots: 0 _law_script, 1 _law_k, 2 _law_cell, 3 _law_seed -/
def b__law_pool : Sts :=
  (.cons (.asg (.nm 2) (.call 0 (.cons (.var 0) (.cons (.var 1) .nil)))) (.cons (.asg (.nm 3) (.bin .mod (.bin .mul (.bin .add (.bin .add (.bin .mod (.var 2) (.lit (.int 2147483629))) (.bin .mul (.bin .mul (.lit (.int 7919)) (.var 1)) (.var 1))) (.lit (.int 1))) (.lit (.int 48271))) (.lit (.int 2147483647)))) (.cons (.ifs (.cmp .lt (.var 2) (.bin .pow (.lit (.int 10)) (.lit (.int 18)))) (.cons (.asg (.nm 2) (.lit (.int 0))) .nil) .nil) (.cons (.ret (.so (.lst (.cons (.var 2) (.cons (.bin .mod (.bin .mul (.var 3) (.var 3)) (.lit (.int 2147483629))) .nil))))) .nil))))
def n__law_pool : List Str := ["_law_script", "_law_k", "_law_cell", "_law_seed"]
def i__law_pool : FnI := ⟨2, 4, b__law_pool⟩
abbrev s__law_take : Stmt := top 32
/- slots: 0 _law_pool_here, 1 _law_many, 2 _law_found -/
def b__law_take : Sts :=
  (.cons (.ifs (.cmp .gt (.ix (.var 0) (.lit (.int 0))) (.lit (.int 0))) (.cons (.asg (.nm 2) (.bin .mod (.ix (.var 0) (.lit (.int 0))) (.var 1))) (.cons (.asg (.sb (.var 0) (.lit (.int 0))) (.bin .fdiv (.ix (.var 0) (.lit (.int 0))) (.var 1))) (.cons (.ret (.so (.var 2))) .nil))) .nil) (.cons (.asg (.sb (.var 0) (.lit (.int 1))) (.bin .mod (.bin .add (.bin .mul (.ix (.var 0) (.lit (.int 1))) (.lit (.int 48271))) (.lit (.int 11))) (.lit (.int 2147483647)))) (.cons (.ret (.so (.bin .mod (.bin .fdiv (.bin .mod (.bin .mul (.ix (.var 0) (.lit (.int 1))) (.ix (.var 0) (.lit (.int 1)))) (.lit (.int 2147483629))) (.lit (.int 64))) (.var 1)))) .nil)))
def n__law_take : List Str := ["_law_pool_here", "_law_many", "_law_found"]
def i__law_take : FnI := ⟨2, 3, b__law_take⟩
abbrev s__law_made : Stmt := top 33
/- slots: 0 _law_thing, 1 _law_found -/
def b__law_made : Sts :=
  (.cons (.asg (.nm 1) (.lst (.cons (.xnew 0 0 (.var 0)) (.cons (.xnew 1 1 (.var 0)) (.cons (.xnew 2 2 (.var 0)) (.cons (.xnew 3 3 (.var 0)) (.cons (.xnew 4 4 (.var 0)) (.cons (.xnew 5 1 (.var 0)) (.cons (.xnew 6 1 (.var 0)) .nil))))))))) (.cons (.asg (.nm 1) (.bin .add (.var 1) (.lst (.cons (.xnew 7 5 (.var 0)) (.cons (.xnew 8 1 (.var 0)) (.cons (.xnew 9 0 (.var 0)) (.cons (.xnew 10 2 (.var 0)) (.cons (.xnew 11 6 (.var 0)) (.cons (.xnew 12 7 (.var 0)) .nil))))))))) (.cons (.asg (.nm 1) (.bin .add (.var 1) (.lst (.cons (.xnew 13 8 (.var 0)) (.cons (.xnew 14 9 (.var 0)) (.cons (.xnew 15 7 (.var 0)) (.cons (.xnew 16 10 (.var 0)) (.cons (.xnew 17 11 (.var 0)) (.cons (.xnew 18 11 (.var 0)) .nil))))))))) (.cons (.asg (.nm 1) (.bin .add (.var 1) (.lst (.cons (.xnew 19 12 (.var 0)) (.cons (.xnew 20 8 (.var 0)) (.cons (.xnew 21 11 (.var 0)) (.cons (.xnew 22 1 (.var 0)) (.cons (.xnew 23 11 (.var 0)) (.cons (.xnew 24 7 (.var 0)) .nil))))))))) (.cons (.ret (.so (.bin .add (.var 1) (.lst (.cons (.xnew 25 7 (.var 0)) (.cons (.xnw0 26) .nil)))))) .nil)))))
def n__law_made : List Str := ["_law_thing", "_law_found"]
def i__law_made : FnI := ⟨1, 2, b__law_made⟩
abbrev s__law_fields : Stmt := top 34
/- slots: 0 _law_some, 1 _law_found -/
def b__law_fields : Sts :=
  (.cons (.asg (.nm 1) (.lst (.cons (.xfd (.ix (.var 0) (.lit (.int 0))) 0) (.cons (.xfd (.ix (.var 0) (.lit (.int 1))) 1) (.cons (.xfd (.ix (.var 0) (.lit (.int 2))) 2) (.cons (.xfd (.ix (.var 0) (.lit (.int 3))) 3) (.cons (.xfd (.ix (.var 0) (.lit (.int 4))) 4) (.cons (.xfd (.ix (.var 0) (.lit (.int 5))) 1) (.cons (.xfd (.ix (.var 0) (.lit (.int 6))) 1) .nil))))))))) (.cons (.asg (.nm 1) (.bin .add (.var 1) (.lst (.cons (.xfd (.ix (.var 0) (.lit (.int 7))) 5) (.cons (.xfd (.ix (.var 0) (.lit (.int 8))) 1) (.cons (.xfd (.ix (.var 0) (.lit (.int 9))) 0) (.cons (.xfd (.ix (.var 0) (.lit (.int 10))) 2) (.cons (.xfd (.ix (.var 0) (.lit (.int 11))) 6) (.cons (.xfd (.ix (.var 0) (.lit (.int 12))) 7) .nil))))))))) (.cons (.asg (.nm 1) (.bin .add (.var 1) (.lst (.cons (.xfd (.ix (.var 0) (.lit (.int 13))) 8) (.cons (.xfd (.ix (.var 0) (.lit (.int 14))) 9) (.cons (.xfd (.ix (.var 0) (.lit (.int 15))) 7) (.cons (.xfd (.ix (.var 0) (.lit (.int 16))) 10) (.cons (.xfd (.ix (.var 0) (.lit (.int 17))) 11) (.cons (.xfd (.ix (.var 0) (.lit (.int 18))) 11) .nil))))))))) (.cons (.asg (.nm 1) (.bin .add (.var 1) (.lst (.cons (.xfd (.ix (.var 0) (.lit (.int 19))) 12) (.cons (.xfd (.ix (.var 0) (.lit (.int 20))) 8) (.cons (.xfd (.ix (.var 0) (.lit (.int 21))) 11) (.cons (.xfd (.ix (.var 0) (.lit (.int 22))) 1) (.cons (.xfd (.ix (.var 0) (.lit (.int 23))) 11) (.cons (.xfd (.ix (.var 0) (.lit (.int 24))) 7) .nil))))))))) (.cons (.ret (.so (.bin .add (.var 1) (.lst (.cons (.xfd (.ix (.var 0) (.lit (.int 25))) 7) .nil))))) .nil)))))
def n__law_fields : List Str := ["_law_some", "_law_found"]
def i__law_fields : FnI := ⟨1, 2, b__law_fields⟩
abbrev s__law_kinds : Stmt := top 35
/- slots: 0 _law_e, 1 _law_found -/
def b__law_kinds : Sts :=
  (.cons (.asg (.nm 1) (.lst (.cons (.isx (.var 0) [true, false, false, false, false, false, false, false, false, false, false, false, false, false, false, false, false, false, false, false, false, false, false, false, false, false, false]) (.cons (.isx (.var 0) [false, true, false, false, false, false, false, false, false, false, false, false, false, false, false, false, false, false, false, false, false, false, false, false, false, false, false]) (.cons (.isx (.var 0) [false, false, true, false, false, false, false, false, false, false, false, false, false, false, false, false, false, false, false, false, false, false, false, false, false, false, false]) (.cons (.isx (.var 0) [false, false, false, true, false, false, false, false, false, false, false, false, false, false, false, false, false, false, false, false, false, false, false, false, false, false, false]) .nil)))))) (.cons (.asg (.nm 1) (.bin .add (.var 1) (.lst (.cons (.isx (.var 0) [false, false, false, false, true, false, false, false, false, false, false, false, false, false, false, false, false, false, false, false, false, false, false, false, false, false, false]) (.cons (.isx (.var 0) [false, false, false, false, false, true, false, false, false, false, false, false, false, false, false, false, false, false, false, false, false, false, false, false, false, false, false]) (.cons (.isx (.var 0) [false, false, false, false, false, false, true, false, false, false, false, false, false, false, false, false, false, false, false, false, false, false, false, false, false, false, false]) (.cons (.isx (.var 0) [false, false, false, false, false, false, false, true, false, false, false, false, false, false, false, false, false, false, false, false, false, false, false, false, false, false, false]) .nil))))))) (.cons (.asg (.nm 1) (.bin .add (.var 1) (.lst (.cons (.isx (.var 0) [false, false, false, false, false, false, false, false, true, false, false, false, false, false, false, false, false, false, false, false, false, false, false, false, false, false, false]) (.cons (.isx (.var 0) [false, false, false, false, false, false, false, false, false, true, false, false, false, false, false, false, false, false, false, false, false, false, false, false, false, false, false]) (.cons (.isx (.var 0) [false, false, false, false, false, false, false, false, false, false, true, false, false, false, false, false, false, false, false, false, false, false, false, false, false, false, false]) (.cons (.isx (.var 0) [false, false, false, false, false, false, false, false, false, false, false, true, false, false, false, false, false, false, false, false, false, false, false, false, false, false, false]) .nil))))))) (.cons (.asg (.nm 1) (.bin .add (.var 1) (.lst (.cons (.isx (.var 0) [false, false, false, false, false, false, false, false, false, false, false, false, true, false, false, false, false, false, false, false, false, false, false, false, false, false, false]) (.cons (.isx (.var 0) [false, false, false, false, false, false, false, false, false, false, false, false, false, true, false, false, false, false, false, false, false, false, false, false, false, false, false]) (.cons (.isx (.var 0) [false, false, false, false, false, false, false, false, false, false, false, false, false, false, true, false, false, false, false, false, false, false, false, false, false, false, false]) (.cons (.isx (.var 0) [false, false, false, false, false, false, false, false, false, false, false, false, false, false, false, true, false, false, false, false, false, false, false, false, false, false, false]) .nil))))))) (.cons (.asg (.nm 1) (.bin .add (.var 1) (.lst (.cons (.isx (.var 0) [false, false, false, false, false, false, false, false, false, false, false, false, false, false, false, false, true, false, false, false, false, false, false, false, false, false, false]) (.cons (.isx (.var 0) [false, false, false, false, false, false, false, false, false, false, false, false, false, false, false, false, false, true, false, false, false, false, false, false, false, false, false]) (.cons (.isx (.var 0) [false, false, false, false, false, false, false, false, false, false, false, false, false, false, false, false, false, false, true, false, false, false, false, false, false, false, false]) (.cons (.isx (.var 0) [false, false, false, false, false, false, false, false, false, false, false, false, false, false, false, false, false, false, false, true, false, false, false, false, false, false, false]) .nil))))))) (.cons (.asg (.nm 1) (.bin .add (.var 1) (.lst (.cons (.isx (.var 0) [false, false, false, false, false, false, false, false, false, false, false, false, false, false, false, false, false, false, false, false, true, false, false, false, false, false, false]) (.cons (.isx (.var 0) [false, false, false, false, false, false, false, false, false, false, false, false, false, false, false, false, false, false, false, false, false, true, false, false, false, false, false]) (.cons (.isx (.var 0) [false, false, false, false, false, false, false, false, false, false, false, false, false, false, false, false, false, false, false, false, false, false, true, false, false, false, false]) (.cons (.isx (.var 0) [false, false, false, false, false, false, false, false, false, false, false, false, false, false, false, false, false, false, false, false, false, false, false, true, false, false, false]) .nil))))))) (.cons (.ret (.so (.bin .add (.var 1) (.lst (.cons (.isx (.var 0) [false, false, false, false, false, false, false, false, false, false, false, false, false, false, false, false, false, false, false, false, false, false, false, false, true, false, false]) (.cons (.isx (.var 0) [false, false, false, false, false, false, false, false, false, false, false, false, false, false, false, false, false, false, false, false, false, false, false, false, false, true, false]) (.cons (.isx (.var 0) [false, false, false, false, false, false, false, false, false, false, false, false, false, false, false, false, false, false, false, false, false, false, false, false, false, false, true]) .nil))))))) .nil)))))))
def n__law_kinds : List Str := ["_law_e", "_law_found"]
def i__law_kinds : FnI := ⟨1, 2, b__law_kinds⟩
abbrev s__law_bases : Stmt := top 36
/- slots: 0 _law_e, 1 _law_found -/
def b__law_bases : Sts :=
  (.cons (.asg (.nm 1) (.lst (.cons (.isx (.var 0) [true, true, true, true, true, true, true, true, true, true, true, true, false, false, false, false, false, false, false, false, false, false, false, false, false, false, false]) (.cons (.isx (.var 0) [true, true, true, true, true, true, true, true, true, true, true, true, false, false, false, false, false, false, false, false, false, false, false, false, false, false, false]) (.cons (.isx (.var 0) [false, false, false, false, false, false, false, false, false, false, false, false, true, true, false, false, false, false, false, false, false, false, false, false, false, false, false]) (.cons (.isx (.var 0) [false, false, false, false, false, false, false, false, false, false, false, false, false, false, false, false, true, true, true, false, false, false, false, false, false, false, false]) .nil)))))) (.cons (.ret (.so (.bin .add (.var 1) (.lst (.cons (.isx (.var 0) [false, false, false, false, false, false, false, false, false, false, false, false, true, true, true, true, true, true, true, false, false, false, false, false, false, false, false]) (.cons (.isx (.var 0) [false, false, false, false, false, false, false, false, false, false, false, false, false, false, false, false, false, false, false, true, false, false, false, false, false, false, false]) (.cons (.isx (.var 0) [false, false, false, false, false, false, false, false, false, false, false, false, false, false, false, false, false, false, false, false, true, true, true, true, true, true, true]) .nil))))))) .nil))
def n__law_bases : List Str := ["_law_e", "_law_found"]
def i__law_bases : FnI := ⟨1, 2, b__law_bases⟩
abbrev s__law_due_bases : Stmt := top 37
/- slots: 0 _law_number, 1 _law_some, 2 _law_k -/
def b__law_due_bases : Sts :=
  (.cons (.asg (.nm 1) (.bin .add (.bin .add (.bin .add (.bin .add (.bin .add (.bin .mul (.lst (.cons (.lst (.cons (.lit (.int 0)) (.cons (.lit (.int 1)) .nil))) .nil)) (.lit (.int 12))) (.bin .mul (.lst (.cons (.lst (.cons (.lit (.int 2)) (.cons (.lit (.int 4)) .nil))) .nil)) (.lit (.int 2)))) (.bin .mul (.lst (.cons (.lst (.cons (.lit (.int 4)) .nil)) .nil)) (.lit (.int 2)))) (.bin .mul (.lst (.cons (.lst (.cons (.lit (.int 3)) (.cons (.lit (.int 4)) .nil))) .nil)) (.lit (.int 3)))) (.lst (.cons (.lst (.cons (.lit (.int 5)) .nil)) .nil))) (.bin .mul (.lst (.cons (.lst (.cons (.lit (.int 6)) .nil)) .nil)) (.lit (.int 7))))) (.cons (.ret (.so (.lc [2] (.nm 2) (.rng1 (.lit (.int 7))) .no (.cmp .isin (.var 2) (.ix (.var 1) (.var 0)))))) .nil))
def n__law_due_bases : List Str := ["_law_number", "_law_some", "_law_k"]
def i__law_due_bases : FnI := ⟨1, 3, b__law_due_bases⟩
abbrev s__law_raised : Stmt := top 38
/- slots: 0 _law_thing, 1 _law_kept, 2 _law_e -/
def b__law_raised : Sts :=
  (.cons (.asg (.nm 1) (.lit .non)) (.cons (.tryK (.cons (.raise 2 2 (.var 0)) .nil) [true, true, true, true, true, true, true, true, true, true, true, true, false, false, false, false, false, false, false, false, false, false, false, false, false, false, false] 2 1) (.cons (.ret (.so (.cmp .eq (.blt .repr (.cons (.xfd (.var 1) 2) .nil)) (.blt .repr (.cons (.var 0) .nil))))) .nil)))
def n__law_raised : List Str := ["_law_thing", "_law_kept", "_law_e"]
def i__law_raised : FnI := ⟨1, 3, b__law_raised⟩
abbrev s_law : Stmt := top 39
/- slots: 0 _law_script, 1 _law_k, 2 _law_pool_here, 3 _law_menu, 4 _law_thing, 5 _law_some, 6 _law_one, 7 _law_number, 8 _law_error -/
def b_law : Sts :=
  (.cons (.for_ (.nm 1) (.rng1 (.blt .max2 (.cons (.lit (.int 1)) (.cons (.blt .min2 (.cons (.blt .len (.cons (.var 0) .nil)) (.cons (.lit (.int 20)) .nil))) .nil)))) (.cons (.asg (.nm 2) (.call 1 (.cons (.var 0) (.cons (.var 1) .nil)))) (.cons (.asg (.nm 3) (.lst (.cons (.lit .non) (.cons (.call 2 (.cons (.var 2) (.cons (.bin .pow (.lit (.int 10)) (.lit (.int 9))) .nil))) (.cons (.bin .mul (.lit (.str "a")) (.call 2 (.cons (.var 2) (.cons (.lit (.int 9)) .nil)))) (.cons (.lst (.cons (.lit (.int 1)) .nil)) (.cons (.tup (.cons (.lit (.int 1)) (.cons (.lit (.str "b")) .nil))) (.cons (.lit (.bl true)) (.cons (.neg (.lit (.int 1))) (.cons (.dic .nil) .nil)))))))))) (.cons (.asg (.nm 4) (.ix (.var 3) (.call 2 (.cons (.var 2) (.cons (.lit (.int 8)) .nil))))) (.cons (.asg (.nm 5) (.call 3 (.cons (.var 4) .nil))) (.cons (.ifs (.or (.cmp .ne (.lc [6] (.nm 6) (.vl (.call 4 (.cons (.var 5) .nil))) (.so (.cmp .ne (.blt .repr (.cons (.var 6) .nil)) (.blt .repr (.cons (.var 4) .nil)))) (.var 6)) (.lst .nil)) (.not (.call 8 (.cons (.var 4) .nil)))) (.cons (.ret (.so (.lit (.bl false)))) .nil) .nil) (.cons (.for_ (.tp (.cons (.nm 7) (.cons (.nm 8) .nil))) (.enum (.var 5)) (.cons (.ifs (.or (.cmp .ne (.call 5 (.cons (.var 8) .nil)) (.lc [1] (.nm 1) (.rng1 (.lit (.int 27))) .no (.cmp .eq (.var 1) (.var 7)))) (.cmp .ne (.call 6 (.cons (.var 8) .nil)) (.call 7 (.cons (.var 7) .nil)))) (.cons (.ret (.so (.lit (.bl false)))) .nil) .nil) .nil)) .nil))))))) (.cons (.ret (.so (.lit (.bl true)))) .nil))
def n_law : List Str := ["_law_script", "_law_k", "_law_pool_here", "_law_menu", "_law_thing", "_law_some", "_law_one", "_law_number", "_law_error"]
def i_law : FnI := ⟨1, 9, b_law⟩
/- defs: 0 _law_cell_at, 1 _law_pool, 2 _law_take, 3 _law_made, 4 _law_fields, 5 _law_kinds, 6 _law_bases, 7 _law_due_bases, 8 _law_raised, 9 law -/
/- attributes: 0 number, 1 thing, 2 row, 3 word, 4 most, 5 telling, 6 line, 7 place, 8 dealing, 9 table, 10 key, 11 name, 12 many -/
/- methods:  -/
def g : Glob := ⟨[i__law_cell_at, i__law_pool, i__law_take, i__law_made, i__law_fields, i__law_kinds, i__law_bases, i__law_due_bases, i__law_raised, i_law], [], []⟩
def S : Nm where
  fnN := [some "_law_cell_at", some "_law_pool", some "_law_take", some "_law_made", some "_law_fields", some "_law_kinds", some "_law_bases", some "_law_due_bases", some "_law_raised", some "law"]
  clsN := []
  constN := []
  attrs := ["number", "thing", "row", "word", "most", "telling", "line", "place", "dealing", "table", "key", "name", "many"]
  mths := []
  blts := ["len", "isinstance", "KeyError", "IndexError", "ValueError", "RuntimeError", "OverflowError", "LookupError", "range", "repr", "max", "min", "enumerate"]
  shp := []
  mks := []
  excN := [("NoLog", 0), ("NoForm", 1), ("NoRow", 2), ("NoWord", 3), ("NoMost", 4), ("NoState", 1), ("NoKeys", 1), ("NoTelling", 5), ("NoRing", 1), ("NoSteps", 0), ("NoText", 2), ("NoLine", 6), ("NoPlace", 7), ("NoDealing", 8), ("NoTable", 9), ("Gone", 7), ("NoKey", 10), ("NoSlot", 11), ("NoHearer", 11), ("TooMany", 12), ("Held", 8), ("Named", 11), ("Twice", 1), ("Begins", 11), ("Behind", 7), ("Unfit", 7)]
  exm := [(("NoWord" : Str), [false, false, false, true, false, false, false, false, false, false, false, false, false, false, false, false, false, false, false, false, false, false, false, false, false, false, false]), (("NoRow" : Str), [false, false, true, false, false, false, false, false, false, false, false, false, false, false, false, false, false, false, false, false, false, false, false, false, false, false, false]), (("NoForm" : Str), [false, true, false, false, false, false, false, false, false, false, false, false, false, false, false, false, false, false, false, false, false, false, false, false, false, false, false]), (("NoLog" : Str), [true, false, false, false, false, false, false, false, false, false, false, false, false, false, false, false, false, false, false, false, false, false, false, false, false, false, false]), (("NoTelling" : Str), [false, false, false, false, false, false, false, true, false, false, false, false, false, false, false, false, false, false, false, false, false, false, false, false, false, false, false]), (("NoKeys" : Str), [false, false, false, false, false, false, true, false, false, false, false, false, false, false, false, false, false, false, false, false, false, false, false, false, false, false, false]), (("NoState" : Str), [false, false, false, false, false, true, false, false, false, false, false, false, false, false, false, false, false, false, false, false, false, false, false, false, false, false, false]), (("NoMost" : Str), [false, false, false, false, true, false, false, false, false, false, false, false, false, false, false, false, false, false, false, false, false, false, false, false, false, false, false]), (("NoLine" : Str), [false, false, false, false, false, false, false, false, false, false, false, true, false, false, false, false, false, false, false, false, false, false, false, false, false, false, false]), (("NoText" : Str), [false, false, false, false, false, false, false, false, false, false, true, false, false, false, false, false, false, false, false, false, false, false, false, false, false, false, false]), (("NoSteps" : Str), [false, false, false, false, false, false, false, false, false, true, false, false, false, false, false, false, false, false, false, false, false, false, false, false, false, false, false]), (("NoRing" : Str), [false, false, false, false, false, false, false, false, true, false, false, false, false, false, false, false, false, false, false, false, false, false, false, false, false, false, false]), (("Gone" : Str), [false, false, false, false, false, false, false, false, false, false, false, false, false, false, false, true, false, false, false, false, false, false, false, false, false, false, false]), (("NoTable" : Str), [false, false, false, false, false, false, false, false, false, false, false, false, false, false, true, false, false, false, false, false, false, false, false, false, false, false, false]), (("NoDealing" : Str), [false, false, false, false, false, false, false, false, false, false, false, false, false, true, false, false, false, false, false, false, false, false, false, false, false, false, false]), (("NoPlace" : Str), [false, false, false, false, false, false, false, false, false, false, false, false, true, false, false, false, false, false, false, false, false, false, false, false, false, false, false]), (("TooMany" : Str), [false, false, false, false, false, false, false, false, false, false, false, false, false, false, false, false, false, false, false, true, false, false, false, false, false, false, false]), (("NoHearer" : Str), [false, false, false, false, false, false, false, false, false, false, false, false, false, false, false, false, false, false, true, false, false, false, false, false, false, false, false]), (("NoSlot" : Str), [false, false, false, false, false, false, false, false, false, false, false, false, false, false, false, false, false, true, false, false, false, false, false, false, false, false, false]), (("NoKey" : Str), [false, false, false, false, false, false, false, false, false, false, false, false, false, false, false, false, true, false, false, false, false, false, false, false, false, false, false]), (("Begins" : Str), [false, false, false, false, false, false, false, false, false, false, false, false, false, false, false, false, false, false, false, false, false, false, false, true, false, false, false]), (("Twice" : Str), [false, false, false, false, false, false, false, false, false, false, false, false, false, false, false, false, false, false, false, false, false, false, true, false, false, false, false]), (("Named" : Str), [false, false, false, false, false, false, false, false, false, false, false, false, false, false, false, false, false, false, false, false, false, true, false, false, false, false, false]), (("Held" : Str), [false, false, false, false, false, false, false, false, false, false, false, false, false, false, false, false, false, false, false, false, true, false, false, false, false, false, false]), (("Followed" : Str), [false, false, false, false, false, false, false, false, false, false, false, false, false, false, false, false, false, false, false, false, false, false, false, false, false, false, true]), (("Unfit" : Str), [false, false, false, false, false, false, false, false, false, false, false, false, false, false, false, false, false, false, false, false, false, false, false, false, false, true, false]), (("Behind" : Str), [false, false, false, false, false, false, false, false, false, false, false, false, false, false, false, false, false, false, false, false, false, false, false, false, true, false, false]), (("KeyError" : Str), [false, false, false, false, false, false, false, false, false, false, false, false, false, false, false, false, true, true, true, false, false, false, false, false, false, false, false]), (("IndexError" : Str), [false, false, false, false, false, false, false, false, false, false, false, false, true, true, false, false, false, false, false, false, false, false, false, false, false, false, false]), (("ValueError" : Str), [true, true, true, true, true, true, true, true, true, true, true, true, false, false, false, false, false, false, false, false, false, false, false, false, false, false, false]), (("RowsError" : Str), [true, true, true, true, true, true, true, true, true, true, true, true, false, false, false, false, false, false, false, false, false, false, false, false, false, false, false]), (("RuntimeError" : Str), [false, false, false, false, false, false, false, false, false, false, false, false, false, false, false, false, false, false, false, false, true, true, true, true, true, true, true]), (("OverflowError" : Str), [false, false, false, false, false, false, false, false, false, false, false, false, false, false, false, false, false, false, false, true, false, false, false, false, false, false, false]), (("LookupError" : Str), [false, false, false, false, false, false, false, false, false, false, false, false, true, true, true, true, true, true, true, false, false, false, false, false, false, false, false])]
  exc0 := [(26, "Followed")]
abbrev s_NoLog___init__ : Stmt := inClass (top 2) 0
def n_NoLog___init__ : List Str := ["self", "number"]
theorem q_NoLog___init__ : fnScopeB n_NoLog___init__ 2 (defScope s_NoLog___init__) = true := by decide +kernel
theorem x_NoLog___init__ : xinB ⟨{ fnN := [], clsN := [], constN := [], attrs := [], mths := [], blts := [] }, defScope s_NoLog___init__, n_NoLog___init__, true⟩ "RowsError" "number" (defBody s_NoLog___init__) = true := by decide +kernel
abbrev s_NoForm___init__ : Stmt := inClass (top 3) 0
def n_NoForm___init__ : List Str := ["self", "thing"]
theorem q_NoForm___init__ : fnScopeB n_NoForm___init__ 2 (defScope s_NoForm___init__) = true := by decide +kernel
theorem x_NoForm___init__ : xinB ⟨{ fnN := [], clsN := [], constN := [], attrs := [], mths := [], blts := [] }, defScope s_NoForm___init__, n_NoForm___init__, true⟩ "RowsError" "thing" (defBody s_NoForm___init__) = true := by decide +kernel
abbrev s_NoRow___init__ : Stmt := inClass (top 4) 0
def n_NoRow___init__ : List Str := ["self", "row"]
theorem q_NoRow___init__ : fnScopeB n_NoRow___init__ 2 (defScope s_NoRow___init__) = true := by decide +kernel
theorem x_NoRow___init__ : xinB ⟨{ fnN := [], clsN := [], constN := [], attrs := [], mths := [], blts := [] }, defScope s_NoRow___init__, n_NoRow___init__, true⟩ "RowsError" "row" (defBody s_NoRow___init__) = true := by decide +kernel
abbrev s_NoWord___init__ : Stmt := inClass (top 5) 0
def n_NoWord___init__ : List Str := ["self", "word"]
theorem q_NoWord___init__ : fnScopeB n_NoWord___init__ 2 (defScope s_NoWord___init__) = true := by decide +kernel
theorem x_NoWord___init__ : xinB ⟨{ fnN := [], clsN := [], constN := [], attrs := [], mths := [], blts := [] }, defScope s_NoWord___init__, n_NoWord___init__, true⟩ "RowsError" "word" (defBody s_NoWord___init__) = true := by decide +kernel
abbrev s_NoMost___init__ : Stmt := inClass (top 6) 0
def n_NoMost___init__ : List Str := ["self", "most"]
theorem q_NoMost___init__ : fnScopeB n_NoMost___init__ 2 (defScope s_NoMost___init__) = true := by decide +kernel
theorem x_NoMost___init__ : xinB ⟨{ fnN := [], clsN := [], constN := [], attrs := [], mths := [], blts := [] }, defScope s_NoMost___init__, n_NoMost___init__, true⟩ "RowsError" "most" (defBody s_NoMost___init__) = true := by decide +kernel
abbrev s_NoState___init__ : Stmt := inClass (top 7) 0
def n_NoState___init__ : List Str := ["self", "thing"]
theorem q_NoState___init__ : fnScopeB n_NoState___init__ 2 (defScope s_NoState___init__) = true := by decide +kernel
theorem x_NoState___init__ : xinB ⟨{ fnN := [], clsN := [], constN := [], attrs := [], mths := [], blts := [] }, defScope s_NoState___init__, n_NoState___init__, true⟩ "RowsError" "thing" (defBody s_NoState___init__) = true := by decide +kernel
abbrev s_NoKeys___init__ : Stmt := inClass (top 8) 0
def n_NoKeys___init__ : List Str := ["self", "thing"]
theorem q_NoKeys___init__ : fnScopeB n_NoKeys___init__ 2 (defScope s_NoKeys___init__) = true := by decide +kernel
theorem x_NoKeys___init__ : xinB ⟨{ fnN := [], clsN := [], constN := [], attrs := [], mths := [], blts := [] }, defScope s_NoKeys___init__, n_NoKeys___init__, true⟩ "RowsError" "thing" (defBody s_NoKeys___init__) = true := by decide +kernel
abbrev s_NoTelling___init__ : Stmt := inClass (top 9) 0
def n_NoTelling___init__ : List Str := ["self", "telling"]
theorem q_NoTelling___init__ : fnScopeB n_NoTelling___init__ 2 (defScope s_NoTelling___init__) = true := by decide +kernel
theorem x_NoTelling___init__ : xinB ⟨{ fnN := [], clsN := [], constN := [], attrs := [], mths := [], blts := [] }, defScope s_NoTelling___init__, n_NoTelling___init__, true⟩ "RowsError" "telling" (defBody s_NoTelling___init__) = true := by decide +kernel
abbrev s_NoRing___init__ : Stmt := inClass (top 10) 0
def n_NoRing___init__ : List Str := ["self", "thing"]
theorem q_NoRing___init__ : fnScopeB n_NoRing___init__ 2 (defScope s_NoRing___init__) = true := by decide +kernel
theorem x_NoRing___init__ : xinB ⟨{ fnN := [], clsN := [], constN := [], attrs := [], mths := [], blts := [] }, defScope s_NoRing___init__, n_NoRing___init__, true⟩ "RowsError" "thing" (defBody s_NoRing___init__) = true := by decide +kernel
abbrev s_NoSteps___init__ : Stmt := inClass (top 11) 0
def n_NoSteps___init__ : List Str := ["self", "number"]
theorem q_NoSteps___init__ : fnScopeB n_NoSteps___init__ 2 (defScope s_NoSteps___init__) = true := by decide +kernel
theorem x_NoSteps___init__ : xinB ⟨{ fnN := [], clsN := [], constN := [], attrs := [], mths := [], blts := [] }, defScope s_NoSteps___init__, n_NoSteps___init__, true⟩ "RowsError" "number" (defBody s_NoSteps___init__) = true := by decide +kernel
abbrev s_NoText___init__ : Stmt := inClass (top 12) 0
def n_NoText___init__ : List Str := ["self", "row"]
theorem q_NoText___init__ : fnScopeB n_NoText___init__ 2 (defScope s_NoText___init__) = true := by decide +kernel
theorem x_NoText___init__ : xinB ⟨{ fnN := [], clsN := [], constN := [], attrs := [], mths := [], blts := [] }, defScope s_NoText___init__, n_NoText___init__, true⟩ "RowsError" "row" (defBody s_NoText___init__) = true := by decide +kernel
abbrev s_NoLine___init__ : Stmt := inClass (top 13) 0
def n_NoLine___init__ : List Str := ["self", "line"]
theorem q_NoLine___init__ : fnScopeB n_NoLine___init__ 2 (defScope s_NoLine___init__) = true := by decide +kernel
theorem x_NoLine___init__ : xinB ⟨{ fnN := [], clsN := [], constN := [], attrs := [], mths := [], blts := [] }, defScope s_NoLine___init__, n_NoLine___init__, true⟩ "RowsError" "line" (defBody s_NoLine___init__) = true := by decide +kernel
abbrev s_NoPlace___init__ : Stmt := inClass (top 14) 0
def n_NoPlace___init__ : List Str := ["self", "place"]
theorem q_NoPlace___init__ : fnScopeB n_NoPlace___init__ 2 (defScope s_NoPlace___init__) = true := by decide +kernel
theorem x_NoPlace___init__ : xinB ⟨{ fnN := [], clsN := [], constN := [], attrs := [], mths := [], blts := [] }, defScope s_NoPlace___init__, n_NoPlace___init__, true⟩ "IndexError" "place" (defBody s_NoPlace___init__) = true := by decide +kernel
abbrev s_NoDealing___init__ : Stmt := inClass (top 15) 0
def n_NoDealing___init__ : List Str := ["self", "dealing"]
theorem q_NoDealing___init__ : fnScopeB n_NoDealing___init__ 2 (defScope s_NoDealing___init__) = true := by decide +kernel
theorem x_NoDealing___init__ : xinB ⟨{ fnN := [], clsN := [], constN := [], attrs := [], mths := [], blts := [] }, defScope s_NoDealing___init__, n_NoDealing___init__, true⟩ "IndexError" "dealing" (defBody s_NoDealing___init__) = true := by decide +kernel
abbrev s_NoTable___init__ : Stmt := inClass (top 16) 0
def n_NoTable___init__ : List Str := ["self", "table"]
theorem q_NoTable___init__ : fnScopeB n_NoTable___init__ 2 (defScope s_NoTable___init__) = true := by decide +kernel
theorem x_NoTable___init__ : xinB ⟨{ fnN := [], clsN := [], constN := [], attrs := [], mths := [], blts := [] }, defScope s_NoTable___init__, n_NoTable___init__, true⟩ "LookupError" "table" (defBody s_NoTable___init__) = true := by decide +kernel
abbrev s_Gone___init__ : Stmt := inClass (top 17) 0
def n_Gone___init__ : List Str := ["self", "place"]
theorem q_Gone___init__ : fnScopeB n_Gone___init__ 2 (defScope s_Gone___init__) = true := by decide +kernel
theorem x_Gone___init__ : xinB ⟨{ fnN := [], clsN := [], constN := [], attrs := [], mths := [], blts := [] }, defScope s_Gone___init__, n_Gone___init__, true⟩ "LookupError" "place" (defBody s_Gone___init__) = true := by decide +kernel
abbrev s_NoKey___init__ : Stmt := inClass (top 18) 0
def n_NoKey___init__ : List Str := ["self", "key"]
theorem q_NoKey___init__ : fnScopeB n_NoKey___init__ 2 (defScope s_NoKey___init__) = true := by decide +kernel
theorem x_NoKey___init__ : xinB ⟨{ fnN := [], clsN := [], constN := [], attrs := [], mths := [], blts := [] }, defScope s_NoKey___init__, n_NoKey___init__, true⟩ "KeyError" "key" (defBody s_NoKey___init__) = true := by decide +kernel
abbrev s_NoSlot___init__ : Stmt := inClass (top 19) 0
def n_NoSlot___init__ : List Str := ["self", "name"]
theorem q_NoSlot___init__ : fnScopeB n_NoSlot___init__ 2 (defScope s_NoSlot___init__) = true := by decide +kernel
theorem x_NoSlot___init__ : xinB ⟨{ fnN := [], clsN := [], constN := [], attrs := [], mths := [], blts := [] }, defScope s_NoSlot___init__, n_NoSlot___init__, true⟩ "KeyError" "name" (defBody s_NoSlot___init__) = true := by decide +kernel
abbrev s_NoHearer___init__ : Stmt := inClass (top 20) 0
def n_NoHearer___init__ : List Str := ["self", "name"]
theorem q_NoHearer___init__ : fnScopeB n_NoHearer___init__ 2 (defScope s_NoHearer___init__) = true := by decide +kernel
theorem x_NoHearer___init__ : xinB ⟨{ fnN := [], clsN := [], constN := [], attrs := [], mths := [], blts := [] }, defScope s_NoHearer___init__, n_NoHearer___init__, true⟩ "KeyError" "name" (defBody s_NoHearer___init__) = true := by decide +kernel
abbrev s_TooMany___init__ : Stmt := inClass (top 21) 0
def n_TooMany___init__ : List Str := ["self", "many"]
theorem q_TooMany___init__ : fnScopeB n_TooMany___init__ 2 (defScope s_TooMany___init__) = true := by decide +kernel
theorem x_TooMany___init__ : xinB ⟨{ fnN := [], clsN := [], constN := [], attrs := [], mths := [], blts := [] }, defScope s_TooMany___init__, n_TooMany___init__, true⟩ "OverflowError" "many" (defBody s_TooMany___init__) = true := by decide +kernel
abbrev s_Held___init__ : Stmt := inClass (top 22) 0
def n_Held___init__ : List Str := ["self", "dealing"]
theorem q_Held___init__ : fnScopeB n_Held___init__ 2 (defScope s_Held___init__) = true := by decide +kernel
theorem x_Held___init__ : xinB ⟨{ fnN := [], clsN := [], constN := [], attrs := [], mths := [], blts := [] }, defScope s_Held___init__, n_Held___init__, true⟩ "RuntimeError" "dealing" (defBody s_Held___init__) = true := by decide +kernel
abbrev s_Named___init__ : Stmt := inClass (top 23) 0
def n_Named___init__ : List Str := ["self", "name"]
theorem q_Named___init__ : fnScopeB n_Named___init__ 2 (defScope s_Named___init__) = true := by decide +kernel
theorem x_Named___init__ : xinB ⟨{ fnN := [], clsN := [], constN := [], attrs := [], mths := [], blts := [] }, defScope s_Named___init__, n_Named___init__, true⟩ "RuntimeError" "name" (defBody s_Named___init__) = true := by decide +kernel
abbrev s_Twice___init__ : Stmt := inClass (top 24) 0
def n_Twice___init__ : List Str := ["self", "thing"]
theorem q_Twice___init__ : fnScopeB n_Twice___init__ 2 (defScope s_Twice___init__) = true := by decide +kernel
theorem x_Twice___init__ : xinB ⟨{ fnN := [], clsN := [], constN := [], attrs := [], mths := [], blts := [] }, defScope s_Twice___init__, n_Twice___init__, true⟩ "RuntimeError" "thing" (defBody s_Twice___init__) = true := by decide +kernel
abbrev s_Begins___init__ : Stmt := inClass (top 25) 0
def n_Begins___init__ : List Str := ["self", "name"]
theorem q_Begins___init__ : fnScopeB n_Begins___init__ 2 (defScope s_Begins___init__) = true := by decide +kernel
theorem x_Begins___init__ : xinB ⟨{ fnN := [], clsN := [], constN := [], attrs := [], mths := [], blts := [] }, defScope s_Begins___init__, n_Begins___init__, true⟩ "RuntimeError" "name" (defBody s_Begins___init__) = true := by decide +kernel
abbrev s_Behind___init__ : Stmt := inClass (top 26) 0
def n_Behind___init__ : List Str := ["self", "place"]
theorem q_Behind___init__ : fnScopeB n_Behind___init__ 2 (defScope s_Behind___init__) = true := by decide +kernel
theorem x_Behind___init__ : xinB ⟨{ fnN := [], clsN := [], constN := [], attrs := [], mths := [], blts := [] }, defScope s_Behind___init__, n_Behind___init__, true⟩ "RuntimeError" "place" (defBody s_Behind___init__) = true := by decide +kernel
abbrev s_Unfit___init__ : Stmt := inClass (top 27) 0
def n_Unfit___init__ : List Str := ["self", "place"]
theorem q_Unfit___init__ : fnScopeB n_Unfit___init__ 2 (defScope s_Unfit___init__) = true := by decide +kernel
theorem x_Unfit___init__ : xinB ⟨{ fnN := [], clsN := [], constN := [], attrs := [], mths := [], blts := [] }, defScope s_Unfit___init__, n_Unfit___init__, true⟩ "RuntimeError" "place" (defBody s_Unfit___init__) = true := by decide +kernel
theorem k__law_cell_at : chkSs ⟨S, defScope s__law_cell_at, n__law_cell_at, true⟩ b__law_cell_at (defBody s__law_cell_at) = true := by decide +kernel
theorem q__law_cell_at : fnScopeB n__law_cell_at 2 (defScope s__law_cell_at) = true := by decide +kernel
theorem k__law_pool : chkSs ⟨S, defScope s__law_pool, n__law_pool, true⟩ b__law_pool (defBody s__law_pool) = true := by decide +kernel
theorem q__law_pool : fnScopeB n__law_pool 2 (defScope s__law_pool) = true := by decide +kernel
theorem k__law_take : chkSs ⟨S, defScope s__law_take, n__law_take, true⟩ b__law_take (defBody s__law_take) = true := by decide +kernel
theorem q__law_take : fnScopeB n__law_take 2 (defScope s__law_take) = true := by decide +kernel
theorem k__law_made : chkSs ⟨S, defScope s__law_made, n__law_made, true⟩ b__law_made (defBody s__law_made) = true := by decide +kernel
theorem q__law_made : fnScopeB n__law_made 1 (defScope s__law_made) = true := by decide +kernel
theorem k__law_fields : chkSs ⟨S, defScope s__law_fields, n__law_fields, true⟩ b__law_fields (defBody s__law_fields) = true := by decide +kernel
theorem q__law_fields : fnScopeB n__law_fields 1 (defScope s__law_fields) = true := by decide +kernel
theorem k__law_kinds : chkSs ⟨S, defScope s__law_kinds, n__law_kinds, true⟩ b__law_kinds (defBody s__law_kinds) = true := by decide +kernel
theorem q__law_kinds : fnScopeB n__law_kinds 1 (defScope s__law_kinds) = true := by decide +kernel
theorem k__law_bases : chkSs ⟨S, defScope s__law_bases, n__law_bases, true⟩ b__law_bases (defBody s__law_bases) = true := by decide +kernel
theorem q__law_bases : fnScopeB n__law_bases 1 (defScope s__law_bases) = true := by decide +kernel
theorem k__law_due_bases : chkSs ⟨S, defScope s__law_due_bases, n__law_due_bases, true⟩ b__law_due_bases (defBody s__law_due_bases) = true := by decide +kernel
theorem q__law_due_bases : fnScopeB n__law_due_bases 1 (defScope s__law_due_bases) = true := by decide +kernel
theorem k__law_raised : chkSs ⟨S, defScope s__law_raised, n__law_raised, true⟩ b__law_raised (defBody s__law_raised) = true := by decide +kernel
theorem q__law_raised : fnScopeB n__law_raised 1 (defScope s__law_raised) = true := by decide +kernel
theorem k_law : chkSs ⟨S, defScope s_law, n_law, true⟩ b_law (defBody s_law) = true := by decide +kernel
theorem q_law : fnScopeB n_law 1 (defScope s_law) = true := by decide +kernel
section
variable {w : World} {K : PySem.W.Frag} {h : Heap} {mg : Str → Option Value}
theorem t__law_cell_at {a : Addr} {od an : Option Addr} {sl : Array (Option Value)} {oc kV dc pm cd ct : Value} (l : K.lookup a = some ⟨oc, od, .func (PySem.W.fnOf "_law_cell_at" "_law_cell_at" (defArgs s__law_cell_at) (defBody s__law_cell_at) (defScope s__law_cell_at) .none kV dc pm an cd ct), sl⟩) (c : PySem.W.codeIn K cd "_law_cell_at" = true) : FnT S g K 0 a :=
  by
    refine fnt_mk (fi := i__law_cell_at) rfl l c q__law_cell_at rfl k__law_cell_at (Binds.all fun us hl => match us, hl with | [_, _], _ => rfl) (fun sh h e => ?_)
    cases h
theorem t__law_pool {a : Addr} {od an : Option Addr} {sl : Array (Option Value)} {oc kV dc pm cd ct : Value} (l : K.lookup a = some ⟨oc, od, .func (PySem.W.fnOf "_law_pool" "_law_pool" (defArgs s__law_pool) (defBody s__law_pool) (defScope s__law_pool) .none kV dc pm an cd ct), sl⟩) (c : PySem.W.codeIn K cd "_law_pool" = true) : FnT S g K 1 a :=
  by
    refine fnt_mk (fi := i__law_pool) rfl l c q__law_pool rfl k__law_pool (Binds.all fun us hl => match us, hl with | [_, _], _ => rfl) (fun sh h e => ?_)
    cases h
theorem t__law_take {a : Addr} {od an : Option Addr} {sl : Array (Option Value)} {oc kV dc pm cd ct : Value} (l : K.lookup a = some ⟨oc, od, .func (PySem.W.fnOf "_law_take" "_law_take" (defArgs s__law_take) (defBody s__law_take) (defScope s__law_take) .none kV dc pm an cd ct), sl⟩) (c : PySem.W.codeIn K cd "_law_take" = true) : FnT S g K 2 a :=
  by
    refine fnt_mk (fi := i__law_take) rfl l c q__law_take rfl k__law_take (Binds.all fun us hl => match us, hl with | [_, _], _ => rfl) (fun sh h e => ?_)
    cases h
theorem t__law_made {a : Addr} {od an : Option Addr} {sl : Array (Option Value)} {oc kV dc pm cd ct : Value} (l : K.lookup a = some ⟨oc, od, .func (PySem.W.fnOf "_law_made" "_law_made" (defArgs s__law_made) (defBody s__law_made) (defScope s__law_made) .none kV dc pm an cd ct), sl⟩) (c : PySem.W.codeIn K cd "_law_made" = true) : FnT S g K 3 a :=
  by
    refine fnt_mk (fi := i__law_made) rfl l c q__law_made rfl k__law_made (Binds.all fun us hl => match us, hl with | [_], _ => rfl) (fun sh h e => ?_)
    cases h
theorem t__law_fields {a : Addr} {od an : Option Addr} {sl : Array (Option Value)} {oc kV dc pm cd ct : Value} (l : K.lookup a = some ⟨oc, od, .func (PySem.W.fnOf "_law_fields" "_law_fields" (defArgs s__law_fields) (defBody s__law_fields) (defScope s__law_fields) .none kV dc pm an cd ct), sl⟩) (c : PySem.W.codeIn K cd "_law_fields" = true) : FnT S g K 4 a :=
  by
    refine fnt_mk (fi := i__law_fields) rfl l c q__law_fields rfl k__law_fields (Binds.all fun us hl => match us, hl with | [_], _ => rfl) (fun sh h e => ?_)
    cases h
theorem t__law_kinds {a : Addr} {od an : Option Addr} {sl : Array (Option Value)} {oc kV dc pm cd ct : Value} (l : K.lookup a = some ⟨oc, od, .func (PySem.W.fnOf "_law_kinds" "_law_kinds" (defArgs s__law_kinds) (defBody s__law_kinds) (defScope s__law_kinds) .none kV dc pm an cd ct), sl⟩) (c : PySem.W.codeIn K cd "_law_kinds" = true) : FnT S g K 5 a :=
  by
    refine fnt_mk (fi := i__law_kinds) rfl l c q__law_kinds rfl k__law_kinds (Binds.all fun us hl => match us, hl with | [_], _ => rfl) (fun sh h e => ?_)
    cases h
theorem t__law_bases {a : Addr} {od an : Option Addr} {sl : Array (Option Value)} {oc kV dc pm cd ct : Value} (l : K.lookup a = some ⟨oc, od, .func (PySem.W.fnOf "_law_bases" "_law_bases" (defArgs s__law_bases) (defBody s__law_bases) (defScope s__law_bases) .none kV dc pm an cd ct), sl⟩) (c : PySem.W.codeIn K cd "_law_bases" = true) : FnT S g K 6 a :=
  by
    refine fnt_mk (fi := i__law_bases) rfl l c q__law_bases rfl k__law_bases (Binds.all fun us hl => match us, hl with | [_], _ => rfl) (fun sh h e => ?_)
    cases h
theorem t__law_due_bases {a : Addr} {od an : Option Addr} {sl : Array (Option Value)} {oc kV dc pm cd ct : Value} (l : K.lookup a = some ⟨oc, od, .func (PySem.W.fnOf "_law_due_bases" "_law_due_bases" (defArgs s__law_due_bases) (defBody s__law_due_bases) (defScope s__law_due_bases) .none kV dc pm an cd ct), sl⟩) (c : PySem.W.codeIn K cd "_law_due_bases" = true) : FnT S g K 7 a :=
  by
    refine fnt_mk (fi := i__law_due_bases) rfl l c q__law_due_bases rfl k__law_due_bases (Binds.all fun us hl => match us, hl with | [_], _ => rfl) (fun sh h e => ?_)
    cases h
theorem t__law_raised {a : Addr} {od an : Option Addr} {sl : Array (Option Value)} {oc kV dc pm cd ct : Value} (l : K.lookup a = some ⟨oc, od, .func (PySem.W.fnOf "_law_raised" "_law_raised" (defArgs s__law_raised) (defBody s__law_raised) (defScope s__law_raised) .none kV dc pm an cd ct), sl⟩) (c : PySem.W.codeIn K cd "_law_raised" = true) : FnT S g K 8 a :=
  by
    refine fnt_mk (fi := i__law_raised) rfl l c q__law_raised rfl k__law_raised (Binds.all fun us hl => match us, hl with | [_], _ => rfl) (fun sh h e => ?_)
    cases h
theorem t_law {a : Addr} {od an : Option Addr} {sl : Array (Option Value)} {oc kV dc pm cd ct : Value} (l : K.lookup a = some ⟨oc, od, .func (PySem.W.fnOf "law" "law" (defArgs s_law) (defBody s_law) (defScope s_law) .none kV dc pm an cd ct), sl⟩) (c : PySem.W.codeIn K cd "law" = true) : FnT S g K 9 a :=
  by
    refine fnt_mk (fi := i_law) rfl l c q_law rfl k_law (Binds.all fun us hl => match us, hl with | [_], _ => rfl) (fun sh h e => ?_)
    cases h
theorem tfs {fa : Addr} {f0 f1 f2 f3 f4 f5 f6 f7 f8 f9 : Addr} (X : K.In h) (G : h.Ns mainGlobals mg) (hfa : mg "law" = some (.ref fa))
    {X0 F0 X1 F1 X2 F2 X3 F3 X4 F4 X5 F5 X6 F6 X7 F7 X8 F8 X9 F9 X10 F10 X11 F11 X12 F12 X13 F13 X14 F14 X15 F15 X16 F16 X17 F17 X18 F18 X19 F19 X20 F20 X21 F21 X22 F22 X23 F23 X24 F24 X25 F25 X26 Y0 : Addr}
    {od0 an0 : Option Addr} {sl0 : Array (Option Value)} {oc0 kV0 dc0 pm0 cd0 ct0 : Value}
    {od1 an1 : Option Addr} {sl1 : Array (Option Value)} {oc1 kV1 dc1 pm1 cd1 ct1 : Value}
    {od2 an2 : Option Addr} {sl2 : Array (Option Value)} {oc2 kV2 dc2 pm2 cd2 ct2 : Value}
    {od3 an3 : Option Addr} {sl3 : Array (Option Value)} {oc3 kV3 dc3 pm3 cd3 ct3 : Value}
    {od4 an4 : Option Addr} {sl4 : Array (Option Value)} {oc4 kV4 dc4 pm4 cd4 ct4 : Value}
    {od5 an5 : Option Addr} {sl5 : Array (Option Value)} {oc5 kV5 dc5 pm5 cd5 ct5 : Value}
    {od6 an6 : Option Addr} {sl6 : Array (Option Value)} {oc6 kV6 dc6 pm6 cd6 ct6 : Value}
    {od7 an7 : Option Addr} {sl7 : Array (Option Value)} {oc7 kV7 dc7 pm7 cd7 ct7 : Value}
    {od8 an8 : Option Addr} {sl8 : Array (Option Value)} {oc8 kV8 dc8 pm8 cd8 ct8 : Value}
    {od9 an9 : Option Addr} {sl9 : Array (Option Value)} {oc9 kV9 dc9 pm9 cd9 ct9 : Value}
    {xa0 xb0 : Str} {xN0 : Addr} {xs0 xu0 : List Value} {xt0 : List Str} {xc0 : Bool} {xe0 : Option Bool} {xd0 : Option Addr} {xk0 xl0 xo0 xp0 xq0 : Option Value}
    {xod0 xan0 : Option Addr} {xsl0 : Array (Option Value)} {xoc0 xkV0 xdc0 xpm0 xcd0 xct0 : Value}
    {xa1 xb1 : Str} {xN1 : Addr} {xs1 xu1 : List Value} {xt1 : List Str} {xc1 : Bool} {xe1 : Option Bool} {xd1 : Option Addr} {xk1 xl1 xo1 xp1 xq1 : Option Value}
    {xod1 xan1 : Option Addr} {xsl1 : Array (Option Value)} {xoc1 xkV1 xdc1 xpm1 xcd1 xct1 : Value}
    {xa2 xb2 : Str} {xN2 : Addr} {xs2 xu2 : List Value} {xt2 : List Str} {xc2 : Bool} {xe2 : Option Bool} {xd2 : Option Addr} {xk2 xl2 xo2 xp2 xq2 : Option Value}
    {xod2 xan2 : Option Addr} {xsl2 : Array (Option Value)} {xoc2 xkV2 xdc2 xpm2 xcd2 xct2 : Value}
    {xa3 xb3 : Str} {xN3 : Addr} {xs3 xu3 : List Value} {xt3 : List Str} {xc3 : Bool} {xe3 : Option Bool} {xd3 : Option Addr} {xk3 xl3 xo3 xp3 xq3 : Option Value}
    {xod3 xan3 : Option Addr} {xsl3 : Array (Option Value)} {xoc3 xkV3 xdc3 xpm3 xcd3 xct3 : Value}
    {xa4 xb4 : Str} {xN4 : Addr} {xs4 xu4 : List Value} {xt4 : List Str} {xc4 : Bool} {xe4 : Option Bool} {xd4 : Option Addr} {xk4 xl4 xo4 xp4 xq4 : Option Value}
    {xod4 xan4 : Option Addr} {xsl4 : Array (Option Value)} {xoc4 xkV4 xdc4 xpm4 xcd4 xct4 : Value}
    {xa5 xb5 : Str} {xN5 : Addr} {xs5 xu5 : List Value} {xt5 : List Str} {xc5 : Bool} {xe5 : Option Bool} {xd5 : Option Addr} {xk5 xl5 xo5 xp5 xq5 : Option Value}
    {xod5 xan5 : Option Addr} {xsl5 : Array (Option Value)} {xoc5 xkV5 xdc5 xpm5 xcd5 xct5 : Value}
    {xa6 xb6 : Str} {xN6 : Addr} {xs6 xu6 : List Value} {xt6 : List Str} {xc6 : Bool} {xe6 : Option Bool} {xd6 : Option Addr} {xk6 xl6 xo6 xp6 xq6 : Option Value}
    {xod6 xan6 : Option Addr} {xsl6 : Array (Option Value)} {xoc6 xkV6 xdc6 xpm6 xcd6 xct6 : Value}
    {xa7 xb7 : Str} {xN7 : Addr} {xs7 xu7 : List Value} {xt7 : List Str} {xc7 : Bool} {xe7 : Option Bool} {xd7 : Option Addr} {xk7 xl7 xo7 xp7 xq7 : Option Value}
    {xod7 xan7 : Option Addr} {xsl7 : Array (Option Value)} {xoc7 xkV7 xdc7 xpm7 xcd7 xct7 : Value}
    {xa8 xb8 : Str} {xN8 : Addr} {xs8 xu8 : List Value} {xt8 : List Str} {xc8 : Bool} {xe8 : Option Bool} {xd8 : Option Addr} {xk8 xl8 xo8 xp8 xq8 : Option Value}
    {xod8 xan8 : Option Addr} {xsl8 : Array (Option Value)} {xoc8 xkV8 xdc8 xpm8 xcd8 xct8 : Value}
    {xa9 xb9 : Str} {xN9 : Addr} {xs9 xu9 : List Value} {xt9 : List Str} {xc9 : Bool} {xe9 : Option Bool} {xd9 : Option Addr} {xk9 xl9 xo9 xp9 xq9 : Option Value}
    {xod9 xan9 : Option Addr} {xsl9 : Array (Option Value)} {xoc9 xkV9 xdc9 xpm9 xcd9 xct9 : Value}
    {xa10 xb10 : Str} {xN10 : Addr} {xs10 xu10 : List Value} {xt10 : List Str} {xc10 : Bool} {xe10 : Option Bool} {xd10 : Option Addr} {xk10 xl10 xo10 xp10 xq10 : Option Value}
    {xod10 xan10 : Option Addr} {xsl10 : Array (Option Value)} {xoc10 xkV10 xdc10 xpm10 xcd10 xct10 : Value}
    {xa11 xb11 : Str} {xN11 : Addr} {xs11 xu11 : List Value} {xt11 : List Str} {xc11 : Bool} {xe11 : Option Bool} {xd11 : Option Addr} {xk11 xl11 xo11 xp11 xq11 : Option Value}
    {xod11 xan11 : Option Addr} {xsl11 : Array (Option Value)} {xoc11 xkV11 xdc11 xpm11 xcd11 xct11 : Value}
    {xa12 xb12 : Str} {xN12 : Addr} {xs12 xu12 : List Value} {xt12 : List Str} {xc12 : Bool} {xe12 : Option Bool} {xd12 : Option Addr} {xk12 xl12 xo12 xp12 xq12 : Option Value}
    {xod12 xan12 : Option Addr} {xsl12 : Array (Option Value)} {xoc12 xkV12 xdc12 xpm12 xcd12 xct12 : Value}
    {xa13 xb13 : Str} {xN13 : Addr} {xs13 xu13 : List Value} {xt13 : List Str} {xc13 : Bool} {xe13 : Option Bool} {xd13 : Option Addr} {xk13 xl13 xo13 xp13 xq13 : Option Value}
    {xod13 xan13 : Option Addr} {xsl13 : Array (Option Value)} {xoc13 xkV13 xdc13 xpm13 xcd13 xct13 : Value}
    {xa14 xb14 : Str} {xN14 : Addr} {xs14 xu14 : List Value} {xt14 : List Str} {xc14 : Bool} {xe14 : Option Bool} {xd14 : Option Addr} {xk14 xl14 xo14 xp14 xq14 : Option Value}
    {xod14 xan14 : Option Addr} {xsl14 : Array (Option Value)} {xoc14 xkV14 xdc14 xpm14 xcd14 xct14 : Value}
    {xa15 xb15 : Str} {xN15 : Addr} {xs15 xu15 : List Value} {xt15 : List Str} {xc15 : Bool} {xe15 : Option Bool} {xd15 : Option Addr} {xk15 xl15 xo15 xp15 xq15 : Option Value}
    {xod15 xan15 : Option Addr} {xsl15 : Array (Option Value)} {xoc15 xkV15 xdc15 xpm15 xcd15 xct15 : Value}
    {xa16 xb16 : Str} {xN16 : Addr} {xs16 xu16 : List Value} {xt16 : List Str} {xc16 : Bool} {xe16 : Option Bool} {xd16 : Option Addr} {xk16 xl16 xo16 xp16 xq16 : Option Value}
    {xod16 xan16 : Option Addr} {xsl16 : Array (Option Value)} {xoc16 xkV16 xdc16 xpm16 xcd16 xct16 : Value}
    {xa17 xb17 : Str} {xN17 : Addr} {xs17 xu17 : List Value} {xt17 : List Str} {xc17 : Bool} {xe17 : Option Bool} {xd17 : Option Addr} {xk17 xl17 xo17 xp17 xq17 : Option Value}
    {xod17 xan17 : Option Addr} {xsl17 : Array (Option Value)} {xoc17 xkV17 xdc17 xpm17 xcd17 xct17 : Value}
    {xa18 xb18 : Str} {xN18 : Addr} {xs18 xu18 : List Value} {xt18 : List Str} {xc18 : Bool} {xe18 : Option Bool} {xd18 : Option Addr} {xk18 xl18 xo18 xp18 xq18 : Option Value}
    {xod18 xan18 : Option Addr} {xsl18 : Array (Option Value)} {xoc18 xkV18 xdc18 xpm18 xcd18 xct18 : Value}
    {xa19 xb19 : Str} {xN19 : Addr} {xs19 xu19 : List Value} {xt19 : List Str} {xc19 : Bool} {xe19 : Option Bool} {xd19 : Option Addr} {xk19 xl19 xo19 xp19 xq19 : Option Value}
    {xod19 xan19 : Option Addr} {xsl19 : Array (Option Value)} {xoc19 xkV19 xdc19 xpm19 xcd19 xct19 : Value}
    {xa20 xb20 : Str} {xN20 : Addr} {xs20 xu20 : List Value} {xt20 : List Str} {xc20 : Bool} {xe20 : Option Bool} {xd20 : Option Addr} {xk20 xl20 xo20 xp20 xq20 : Option Value}
    {xod20 xan20 : Option Addr} {xsl20 : Array (Option Value)} {xoc20 xkV20 xdc20 xpm20 xcd20 xct20 : Value}
    {xa21 xb21 : Str} {xN21 : Addr} {xs21 xu21 : List Value} {xt21 : List Str} {xc21 : Bool} {xe21 : Option Bool} {xd21 : Option Addr} {xk21 xl21 xo21 xp21 xq21 : Option Value}
    {xod21 xan21 : Option Addr} {xsl21 : Array (Option Value)} {xoc21 xkV21 xdc21 xpm21 xcd21 xct21 : Value}
    {xa22 xb22 : Str} {xN22 : Addr} {xs22 xu22 : List Value} {xt22 : List Str} {xc22 : Bool} {xe22 : Option Bool} {xd22 : Option Addr} {xk22 xl22 xo22 xp22 xq22 : Option Value}
    {xod22 xan22 : Option Addr} {xsl22 : Array (Option Value)} {xoc22 xkV22 xdc22 xpm22 xcd22 xct22 : Value}
    {xa23 xb23 : Str} {xN23 : Addr} {xs23 xu23 : List Value} {xt23 : List Str} {xc23 : Bool} {xe23 : Option Bool} {xd23 : Option Addr} {xk23 xl23 xo23 xp23 xq23 : Option Value}
    {xod23 xan23 : Option Addr} {xsl23 : Array (Option Value)} {xoc23 xkV23 xdc23 xpm23 xcd23 xct23 : Value}
    {xa24 xb24 : Str} {xN24 : Addr} {xs24 xu24 : List Value} {xt24 : List Str} {xc24 : Bool} {xe24 : Option Bool} {xd24 : Option Addr} {xk24 xl24 xo24 xp24 xq24 : Option Value}
    {xod24 xan24 : Option Addr} {xsl24 : Array (Option Value)} {xoc24 xkV24 xdc24 xpm24 xcd24 xct24 : Value}
    {xa25 xb25 : Str} {xN25 : Addr} {xs25 xu25 : List Value} {xt25 : List Str} {xc25 : Bool} {xe25 : Option Bool} {xd25 : Option Addr} {xk25 xl25 xo25 xp25 xq25 : Option Value}
    {xod25 xan25 : Option Addr} {xsl25 : Array (Option Value)} {xoc25 xkV25 xdc25 xpm25 xcd25 xct25 : Value}
    {xa26 xb26 : Str} {xN26 : Addr} {xs26 xu26 : List Value} {xt26 : List Str} {xc26 : Bool} {xe26 : Option Bool} {xd26 : Option Addr} {xk26 xl26 xo26 xp26 xq26 : Option Value}
    (a0 : PySem.W.nsIn K mainGlobals "_law_cell_at" = some (some (.ref f0)))
    (l0 : K.lookup f0 = some ⟨oc0, od0, .func (PySem.W.fnOf "_law_cell_at" "_law_cell_at" (defArgs s__law_cell_at) (defBody s__law_cell_at) (defScope s__law_cell_at) .none kV0 dc0 pm0 an0 cd0 ct0), sl0⟩)
    (c0 : PySem.W.codeIn K cd0 "_law_cell_at" = true)
    (k0 : PySem.W.keepIn K (.ref f0) = true)
    (a1 : PySem.W.nsIn K mainGlobals "_law_pool" = some (some (.ref f1)))
    (l1 : K.lookup f1 = some ⟨oc1, od1, .func (PySem.W.fnOf "_law_pool" "_law_pool" (defArgs s__law_pool) (defBody s__law_pool) (defScope s__law_pool) .none kV1 dc1 pm1 an1 cd1 ct1), sl1⟩)
    (c1 : PySem.W.codeIn K cd1 "_law_pool" = true)
    (k1 : PySem.W.keepIn K (.ref f1) = true)
    (a2 : PySem.W.nsIn K mainGlobals "_law_take" = some (some (.ref f2)))
    (l2 : K.lookup f2 = some ⟨oc2, od2, .func (PySem.W.fnOf "_law_take" "_law_take" (defArgs s__law_take) (defBody s__law_take) (defScope s__law_take) .none kV2 dc2 pm2 an2 cd2 ct2), sl2⟩)
    (c2 : PySem.W.codeIn K cd2 "_law_take" = true)
    (k2 : PySem.W.keepIn K (.ref f2) = true)
    (a3 : PySem.W.nsIn K mainGlobals "_law_made" = some (some (.ref f3)))
    (l3 : K.lookup f3 = some ⟨oc3, od3, .func (PySem.W.fnOf "_law_made" "_law_made" (defArgs s__law_made) (defBody s__law_made) (defScope s__law_made) .none kV3 dc3 pm3 an3 cd3 ct3), sl3⟩)
    (c3 : PySem.W.codeIn K cd3 "_law_made" = true)
    (k3 : PySem.W.keepIn K (.ref f3) = true)
    (a4 : PySem.W.nsIn K mainGlobals "_law_fields" = some (some (.ref f4)))
    (l4 : K.lookup f4 = some ⟨oc4, od4, .func (PySem.W.fnOf "_law_fields" "_law_fields" (defArgs s__law_fields) (defBody s__law_fields) (defScope s__law_fields) .none kV4 dc4 pm4 an4 cd4 ct4), sl4⟩)
    (c4 : PySem.W.codeIn K cd4 "_law_fields" = true)
    (k4 : PySem.W.keepIn K (.ref f4) = true)
    (a5 : PySem.W.nsIn K mainGlobals "_law_kinds" = some (some (.ref f5)))
    (l5 : K.lookup f5 = some ⟨oc5, od5, .func (PySem.W.fnOf "_law_kinds" "_law_kinds" (defArgs s__law_kinds) (defBody s__law_kinds) (defScope s__law_kinds) .none kV5 dc5 pm5 an5 cd5 ct5), sl5⟩)
    (c5 : PySem.W.codeIn K cd5 "_law_kinds" = true)
    (k5 : PySem.W.keepIn K (.ref f5) = true)
    (a6 : PySem.W.nsIn K mainGlobals "_law_bases" = some (some (.ref f6)))
    (l6 : K.lookup f6 = some ⟨oc6, od6, .func (PySem.W.fnOf "_law_bases" "_law_bases" (defArgs s__law_bases) (defBody s__law_bases) (defScope s__law_bases) .none kV6 dc6 pm6 an6 cd6 ct6), sl6⟩)
    (c6 : PySem.W.codeIn K cd6 "_law_bases" = true)
    (k6 : PySem.W.keepIn K (.ref f6) = true)
    (a7 : PySem.W.nsIn K mainGlobals "_law_due_bases" = some (some (.ref f7)))
    (l7 : K.lookup f7 = some ⟨oc7, od7, .func (PySem.W.fnOf "_law_due_bases" "_law_due_bases" (defArgs s__law_due_bases) (defBody s__law_due_bases) (defScope s__law_due_bases) .none kV7 dc7 pm7 an7 cd7 ct7), sl7⟩)
    (c7 : PySem.W.codeIn K cd7 "_law_due_bases" = true)
    (k7 : PySem.W.keepIn K (.ref f7) = true)
    (a8 : PySem.W.nsIn K mainGlobals "_law_raised" = some (some (.ref f8)))
    (l8 : K.lookup f8 = some ⟨oc8, od8, .func (PySem.W.fnOf "_law_raised" "_law_raised" (defArgs s__law_raised) (defBody s__law_raised) (defScope s__law_raised) .none kV8 dc8 pm8 an8 cd8 ct8), sl8⟩)
    (c8 : PySem.W.codeIn K cd8 "_law_raised" = true)
    (k8 : PySem.W.keepIn K (.ref f8) = true)
    (a9 : PySem.W.nsIn K mainGlobals "law" = some (some (.ref f9)))
    (l9 : K.lookup f9 = some ⟨oc9, od9, .func (PySem.W.fnOf "law" "law" (defArgs s_law) (defBody s_law) (defScope s_law) .none kV9 dc9 pm9 an9 cd9 ct9), sl9⟩)
    (c9 : PySem.W.codeIn K cd9 "law" = true)
    (k9 : PySem.W.keepIn K (.ref f9) = true)
    (yA0q : PySem.W.nsIn K mainGlobals "RowsError" = some (some (.ref Y0)))
    (xA0 : PySem.W.nsIn K mainGlobals "NoLog" = some (some (.ref X0)))
    (xA1 : PySem.W.nsIn K mainGlobals "NoForm" = some (some (.ref X1)))
    (xA2 : PySem.W.nsIn K mainGlobals "NoRow" = some (some (.ref X2)))
    (xA3 : PySem.W.nsIn K mainGlobals "NoWord" = some (some (.ref X3)))
    (xA4 : PySem.W.nsIn K mainGlobals "NoMost" = some (some (.ref X4)))
    (xA5 : PySem.W.nsIn K mainGlobals "NoState" = some (some (.ref X5)))
    (xA6 : PySem.W.nsIn K mainGlobals "NoKeys" = some (some (.ref X6)))
    (xA7 : PySem.W.nsIn K mainGlobals "NoTelling" = some (some (.ref X7)))
    (xA8 : PySem.W.nsIn K mainGlobals "NoRing" = some (some (.ref X8)))
    (xA9 : PySem.W.nsIn K mainGlobals "NoSteps" = some (some (.ref X9)))
    (xA10 : PySem.W.nsIn K mainGlobals "NoText" = some (some (.ref X10)))
    (xA11 : PySem.W.nsIn K mainGlobals "NoLine" = some (some (.ref X11)))
    (xA12 : PySem.W.nsIn K mainGlobals "NoPlace" = some (some (.ref X12)))
    (xA13 : PySem.W.nsIn K mainGlobals "NoDealing" = some (some (.ref X13)))
    (xA14 : PySem.W.nsIn K mainGlobals "NoTable" = some (some (.ref X14)))
    (xA15 : PySem.W.nsIn K mainGlobals "Gone" = some (some (.ref X15)))
    (xA16 : PySem.W.nsIn K mainGlobals "NoKey" = some (some (.ref X16)))
    (xA17 : PySem.W.nsIn K mainGlobals "NoSlot" = some (some (.ref X17)))
    (xA18 : PySem.W.nsIn K mainGlobals "NoHearer" = some (some (.ref X18)))
    (xA19 : PySem.W.nsIn K mainGlobals "TooMany" = some (some (.ref X19)))
    (xA20 : PySem.W.nsIn K mainGlobals "Held" = some (some (.ref X20)))
    (xA21 : PySem.W.nsIn K mainGlobals "Named" = some (some (.ref X21)))
    (xA22 : PySem.W.nsIn K mainGlobals "Twice" = some (some (.ref X22)))
    (xA23 : PySem.W.nsIn K mainGlobals "Begins" = some (some (.ref X23)))
    (xA24 : PySem.W.nsIn K mainGlobals "Behind" = some (some (.ref X24)))
    (xA25 : PySem.W.nsIn K mainGlobals "Unfit" = some (some (.ref X25)))
    (xA26 : PySem.W.nsIn K mainGlobals "Followed" = some (some (.ref X26)))
    (xO0 : K.lookup X0 = some (excClassObj xa0 xb0 X0 xN0 xs0 [.ref Y0, .type "ValueError", .type "Exception", .type "BaseException", .type "object"] true xt0 xu0 xc0 xe0 xd0 xk0 xl0 xo0 xp0 xq0 "ValueError.__new__"))
    (xE0 : PySem.W.subIn K (.ref X0) (.type "BaseException") = some true)
    (xT0 : PySem.W.typeIn K (.ref X0) = some (.type "type"))
    (xK0 : PySem.W.keepIn K (.ref X0) = true)
    (xD0 : PySem.W.hasDictIn K X0 = true)
    (xG0 : PySem.W.findIn K (.ref X0) "__getattribute__" = some (some (.builtin "BaseException.__getattribute__")))
    (xH0 : PySem.W.findIn K (.ref X0) "__getattr__" = some none)
    (xC0 : PySem.W.findIn K (.ref X0) "__class__" = some (some (.builtin "object.__class__")))
    (xM0 : PySem.W.mroIn K X0 (.type "object") = some true)
    (xn0_0 : PySem.W.findIn K (.ref X0) "number" = some none)
    (xn0_1 : PySem.W.findIn K (.ref X0) "thing" = some none)
    (xn0_2 : PySem.W.findIn K (.ref X0) "row" = some none)
    (xn0_3 : PySem.W.findIn K (.ref X0) "word" = some none)
    (xn0_4 : PySem.W.findIn K (.ref X0) "most" = some none)
    (xn0_5 : PySem.W.findIn K (.ref X0) "telling" = some none)
    (xn0_6 : PySem.W.findIn K (.ref X0) "line" = some none)
    (xn0_7 : PySem.W.findIn K (.ref X0) "place" = some none)
    (xn0_8 : PySem.W.findIn K (.ref X0) "dealing" = some none)
    (xn0_9 : PySem.W.findIn K (.ref X0) "table" = some none)
    (xn0_10 : PySem.W.findIn K (.ref X0) "key" = some none)
    (xn0_11 : PySem.W.findIn K (.ref X0) "name" = some none)
    (xn0_12 : PySem.W.findIn K (.ref X0) "many" = some none)
    (xS0 : PySem.W.findIn K (.ref X0) "__setattr__" = some (some (.builtin "object.__setattr__")))
    (xI0 : PySem.W.findIn K (.ref X0) "__init__" = some (some (.ref F0)))
    (xJ0 : PySem.W.typeIn K (.ref F0) = some (.type "function"))
    (xL0 : K.lookup F0 = some ⟨xoc0, xod0, .func (PySem.W.fnOf "__init__" "NoLog.__init__" (defArgs s_NoLog___init__) (defBody s_NoLog___init__) (defScope s_NoLog___init__) .none xkV0 xdc0 xpm0 xan0 xcd0 xct0), xsl0⟩)
    (xR0 : PySem.W.codeIn K xcd0 "NoLog.__init__" = true)
    (xO1 : K.lookup X1 = some (excClassObj xa1 xb1 X1 xN1 xs1 [.ref Y0, .type "ValueError", .type "Exception", .type "BaseException", .type "object"] true xt1 xu1 xc1 xe1 xd1 xk1 xl1 xo1 xp1 xq1 "ValueError.__new__"))
    (xE1 : PySem.W.subIn K (.ref X1) (.type "BaseException") = some true)
    (xT1 : PySem.W.typeIn K (.ref X1) = some (.type "type"))
    (xK1 : PySem.W.keepIn K (.ref X1) = true)
    (xD1 : PySem.W.hasDictIn K X1 = true)
    (xG1 : PySem.W.findIn K (.ref X1) "__getattribute__" = some (some (.builtin "BaseException.__getattribute__")))
    (xH1 : PySem.W.findIn K (.ref X1) "__getattr__" = some none)
    (xC1 : PySem.W.findIn K (.ref X1) "__class__" = some (some (.builtin "object.__class__")))
    (xM1 : PySem.W.mroIn K X1 (.type "object") = some true)
    (xn1_0 : PySem.W.findIn K (.ref X1) "number" = some none)
    (xn1_1 : PySem.W.findIn K (.ref X1) "thing" = some none)
    (xn1_2 : PySem.W.findIn K (.ref X1) "row" = some none)
    (xn1_3 : PySem.W.findIn K (.ref X1) "word" = some none)
    (xn1_4 : PySem.W.findIn K (.ref X1) "most" = some none)
    (xn1_5 : PySem.W.findIn K (.ref X1) "telling" = some none)
    (xn1_6 : PySem.W.findIn K (.ref X1) "line" = some none)
    (xn1_7 : PySem.W.findIn K (.ref X1) "place" = some none)
    (xn1_8 : PySem.W.findIn K (.ref X1) "dealing" = some none)
    (xn1_9 : PySem.W.findIn K (.ref X1) "table" = some none)
    (xn1_10 : PySem.W.findIn K (.ref X1) "key" = some none)
    (xn1_11 : PySem.W.findIn K (.ref X1) "name" = some none)
    (xn1_12 : PySem.W.findIn K (.ref X1) "many" = some none)
    (xS1 : PySem.W.findIn K (.ref X1) "__setattr__" = some (some (.builtin "object.__setattr__")))
    (xI1 : PySem.W.findIn K (.ref X1) "__init__" = some (some (.ref F1)))
    (xJ1 : PySem.W.typeIn K (.ref F1) = some (.type "function"))
    (xL1 : K.lookup F1 = some ⟨xoc1, xod1, .func (PySem.W.fnOf "__init__" "NoForm.__init__" (defArgs s_NoForm___init__) (defBody s_NoForm___init__) (defScope s_NoForm___init__) .none xkV1 xdc1 xpm1 xan1 xcd1 xct1), xsl1⟩)
    (xR1 : PySem.W.codeIn K xcd1 "NoForm.__init__" = true)
    (xO2 : K.lookup X2 = some (excClassObj xa2 xb2 X2 xN2 xs2 [.ref Y0, .type "ValueError", .type "Exception", .type "BaseException", .type "object"] true xt2 xu2 xc2 xe2 xd2 xk2 xl2 xo2 xp2 xq2 "ValueError.__new__"))
    (xE2 : PySem.W.subIn K (.ref X2) (.type "BaseException") = some true)
    (xT2 : PySem.W.typeIn K (.ref X2) = some (.type "type"))
    (xK2 : PySem.W.keepIn K (.ref X2) = true)
    (xD2 : PySem.W.hasDictIn K X2 = true)
    (xG2 : PySem.W.findIn K (.ref X2) "__getattribute__" = some (some (.builtin "BaseException.__getattribute__")))
    (xH2 : PySem.W.findIn K (.ref X2) "__getattr__" = some none)
    (xC2 : PySem.W.findIn K (.ref X2) "__class__" = some (some (.builtin "object.__class__")))
    (xM2 : PySem.W.mroIn K X2 (.type "object") = some true)
    (xn2_0 : PySem.W.findIn K (.ref X2) "number" = some none)
    (xn2_1 : PySem.W.findIn K (.ref X2) "thing" = some none)
    (xn2_2 : PySem.W.findIn K (.ref X2) "row" = some none)
    (xn2_3 : PySem.W.findIn K (.ref X2) "word" = some none)
    (xn2_4 : PySem.W.findIn K (.ref X2) "most" = some none)
    (xn2_5 : PySem.W.findIn K (.ref X2) "telling" = some none)
    (xn2_6 : PySem.W.findIn K (.ref X2) "line" = some none)
    (xn2_7 : PySem.W.findIn K (.ref X2) "place" = some none)
    (xn2_8 : PySem.W.findIn K (.ref X2) "dealing" = some none)
    (xn2_9 : PySem.W.findIn K (.ref X2) "table" = some none)
    (xn2_10 : PySem.W.findIn K (.ref X2) "key" = some none)
    (xn2_11 : PySem.W.findIn K (.ref X2) "name" = some none)
    (xn2_12 : PySem.W.findIn K (.ref X2) "many" = some none)
    (xS2 : PySem.W.findIn K (.ref X2) "__setattr__" = some (some (.builtin "object.__setattr__")))
    (xI2 : PySem.W.findIn K (.ref X2) "__init__" = some (some (.ref F2)))
    (xJ2 : PySem.W.typeIn K (.ref F2) = some (.type "function"))
    (xL2 : K.lookup F2 = some ⟨xoc2, xod2, .func (PySem.W.fnOf "__init__" "NoRow.__init__" (defArgs s_NoRow___init__) (defBody s_NoRow___init__) (defScope s_NoRow___init__) .none xkV2 xdc2 xpm2 xan2 xcd2 xct2), xsl2⟩)
    (xR2 : PySem.W.codeIn K xcd2 "NoRow.__init__" = true)
    (xO3 : K.lookup X3 = some (excClassObj xa3 xb3 X3 xN3 xs3 [.ref Y0, .type "ValueError", .type "Exception", .type "BaseException", .type "object"] true xt3 xu3 xc3 xe3 xd3 xk3 xl3 xo3 xp3 xq3 "ValueError.__new__"))
    (xE3 : PySem.W.subIn K (.ref X3) (.type "BaseException") = some true)
    (xT3 : PySem.W.typeIn K (.ref X3) = some (.type "type"))
    (xK3 : PySem.W.keepIn K (.ref X3) = true)
    (xD3 : PySem.W.hasDictIn K X3 = true)
    (xG3 : PySem.W.findIn K (.ref X3) "__getattribute__" = some (some (.builtin "BaseException.__getattribute__")))
    (xH3 : PySem.W.findIn K (.ref X3) "__getattr__" = some none)
    (xC3 : PySem.W.findIn K (.ref X3) "__class__" = some (some (.builtin "object.__class__")))
    (xM3 : PySem.W.mroIn K X3 (.type "object") = some true)
    (xn3_0 : PySem.W.findIn K (.ref X3) "number" = some none)
    (xn3_1 : PySem.W.findIn K (.ref X3) "thing" = some none)
    (xn3_2 : PySem.W.findIn K (.ref X3) "row" = some none)
    (xn3_3 : PySem.W.findIn K (.ref X3) "word" = some none)
    (xn3_4 : PySem.W.findIn K (.ref X3) "most" = some none)
    (xn3_5 : PySem.W.findIn K (.ref X3) "telling" = some none)
    (xn3_6 : PySem.W.findIn K (.ref X3) "line" = some none)
    (xn3_7 : PySem.W.findIn K (.ref X3) "place" = some none)
    (xn3_8 : PySem.W.findIn K (.ref X3) "dealing" = some none)
    (xn3_9 : PySem.W.findIn K (.ref X3) "table" = some none)
    (xn3_10 : PySem.W.findIn K (.ref X3) "key" = some none)
    (xn3_11 : PySem.W.findIn K (.ref X3) "name" = some none)
    (xn3_12 : PySem.W.findIn K (.ref X3) "many" = some none)
    (xS3 : PySem.W.findIn K (.ref X3) "__setattr__" = some (some (.builtin "object.__setattr__")))
    (xI3 : PySem.W.findIn K (.ref X3) "__init__" = some (some (.ref F3)))
    (xJ3 : PySem.W.typeIn K (.ref F3) = some (.type "function"))
    (xL3 : K.lookup F3 = some ⟨xoc3, xod3, .func (PySem.W.fnOf "__init__" "NoWord.__init__" (defArgs s_NoWord___init__) (defBody s_NoWord___init__) (defScope s_NoWord___init__) .none xkV3 xdc3 xpm3 xan3 xcd3 xct3), xsl3⟩)
    (xR3 : PySem.W.codeIn K xcd3 "NoWord.__init__" = true)
    (xO4 : K.lookup X4 = some (excClassObj xa4 xb4 X4 xN4 xs4 [.ref Y0, .type "ValueError", .type "Exception", .type "BaseException", .type "object"] true xt4 xu4 xc4 xe4 xd4 xk4 xl4 xo4 xp4 xq4 "ValueError.__new__"))
    (xE4 : PySem.W.subIn K (.ref X4) (.type "BaseException") = some true)
    (xT4 : PySem.W.typeIn K (.ref X4) = some (.type "type"))
    (xK4 : PySem.W.keepIn K (.ref X4) = true)
    (xD4 : PySem.W.hasDictIn K X4 = true)
    (xG4 : PySem.W.findIn K (.ref X4) "__getattribute__" = some (some (.builtin "BaseException.__getattribute__")))
    (xH4 : PySem.W.findIn K (.ref X4) "__getattr__" = some none)
    (xC4 : PySem.W.findIn K (.ref X4) "__class__" = some (some (.builtin "object.__class__")))
    (xM4 : PySem.W.mroIn K X4 (.type "object") = some true)
    (xn4_0 : PySem.W.findIn K (.ref X4) "number" = some none)
    (xn4_1 : PySem.W.findIn K (.ref X4) "thing" = some none)
    (xn4_2 : PySem.W.findIn K (.ref X4) "row" = some none)
    (xn4_3 : PySem.W.findIn K (.ref X4) "word" = some none)
    (xn4_4 : PySem.W.findIn K (.ref X4) "most" = some none)
    (xn4_5 : PySem.W.findIn K (.ref X4) "telling" = some none)
    (xn4_6 : PySem.W.findIn K (.ref X4) "line" = some none)
    (xn4_7 : PySem.W.findIn K (.ref X4) "place" = some none)
    (xn4_8 : PySem.W.findIn K (.ref X4) "dealing" = some none)
    (xn4_9 : PySem.W.findIn K (.ref X4) "table" = some none)
    (xn4_10 : PySem.W.findIn K (.ref X4) "key" = some none)
    (xn4_11 : PySem.W.findIn K (.ref X4) "name" = some none)
    (xn4_12 : PySem.W.findIn K (.ref X4) "many" = some none)
    (xS4 : PySem.W.findIn K (.ref X4) "__setattr__" = some (some (.builtin "object.__setattr__")))
    (xI4 : PySem.W.findIn K (.ref X4) "__init__" = some (some (.ref F4)))
    (xJ4 : PySem.W.typeIn K (.ref F4) = some (.type "function"))
    (xL4 : K.lookup F4 = some ⟨xoc4, xod4, .func (PySem.W.fnOf "__init__" "NoMost.__init__" (defArgs s_NoMost___init__) (defBody s_NoMost___init__) (defScope s_NoMost___init__) .none xkV4 xdc4 xpm4 xan4 xcd4 xct4), xsl4⟩)
    (xR4 : PySem.W.codeIn K xcd4 "NoMost.__init__" = true)
    (xO5 : K.lookup X5 = some (excClassObj xa5 xb5 X5 xN5 xs5 [.ref Y0, .type "ValueError", .type "Exception", .type "BaseException", .type "object"] true xt5 xu5 xc5 xe5 xd5 xk5 xl5 xo5 xp5 xq5 "ValueError.__new__"))
    (xE5 : PySem.W.subIn K (.ref X5) (.type "BaseException") = some true)
    (xT5 : PySem.W.typeIn K (.ref X5) = some (.type "type"))
    (xK5 : PySem.W.keepIn K (.ref X5) = true)
    (xD5 : PySem.W.hasDictIn K X5 = true)
    (xG5 : PySem.W.findIn K (.ref X5) "__getattribute__" = some (some (.builtin "BaseException.__getattribute__")))
    (xH5 : PySem.W.findIn K (.ref X5) "__getattr__" = some none)
    (xC5 : PySem.W.findIn K (.ref X5) "__class__" = some (some (.builtin "object.__class__")))
    (xM5 : PySem.W.mroIn K X5 (.type "object") = some true)
    (xn5_0 : PySem.W.findIn K (.ref X5) "number" = some none)
    (xn5_1 : PySem.W.findIn K (.ref X5) "thing" = some none)
    (xn5_2 : PySem.W.findIn K (.ref X5) "row" = some none)
    (xn5_3 : PySem.W.findIn K (.ref X5) "word" = some none)
    (xn5_4 : PySem.W.findIn K (.ref X5) "most" = some none)
    (xn5_5 : PySem.W.findIn K (.ref X5) "telling" = some none)
    (xn5_6 : PySem.W.findIn K (.ref X5) "line" = some none)
    (xn5_7 : PySem.W.findIn K (.ref X5) "place" = some none)
    (xn5_8 : PySem.W.findIn K (.ref X5) "dealing" = some none)
    (xn5_9 : PySem.W.findIn K (.ref X5) "table" = some none)
    (xn5_10 : PySem.W.findIn K (.ref X5) "key" = some none)
    (xn5_11 : PySem.W.findIn K (.ref X5) "name" = some none)
    (xn5_12 : PySem.W.findIn K (.ref X5) "many" = some none)
    (xS5 : PySem.W.findIn K (.ref X5) "__setattr__" = some (some (.builtin "object.__setattr__")))
    (xI5 : PySem.W.findIn K (.ref X5) "__init__" = some (some (.ref F5)))
    (xJ5 : PySem.W.typeIn K (.ref F5) = some (.type "function"))
    (xL5 : K.lookup F5 = some ⟨xoc5, xod5, .func (PySem.W.fnOf "__init__" "NoState.__init__" (defArgs s_NoState___init__) (defBody s_NoState___init__) (defScope s_NoState___init__) .none xkV5 xdc5 xpm5 xan5 xcd5 xct5), xsl5⟩)
    (xR5 : PySem.W.codeIn K xcd5 "NoState.__init__" = true)
    (xO6 : K.lookup X6 = some (excClassObj xa6 xb6 X6 xN6 xs6 [.ref Y0, .type "ValueError", .type "Exception", .type "BaseException", .type "object"] true xt6 xu6 xc6 xe6 xd6 xk6 xl6 xo6 xp6 xq6 "ValueError.__new__"))
    (xE6 : PySem.W.subIn K (.ref X6) (.type "BaseException") = some true)
    (xT6 : PySem.W.typeIn K (.ref X6) = some (.type "type"))
    (xK6 : PySem.W.keepIn K (.ref X6) = true)
    (xD6 : PySem.W.hasDictIn K X6 = true)
    (xG6 : PySem.W.findIn K (.ref X6) "__getattribute__" = some (some (.builtin "BaseException.__getattribute__")))
    (xH6 : PySem.W.findIn K (.ref X6) "__getattr__" = some none)
    (xC6 : PySem.W.findIn K (.ref X6) "__class__" = some (some (.builtin "object.__class__")))
    (xM6 : PySem.W.mroIn K X6 (.type "object") = some true)
    (xn6_0 : PySem.W.findIn K (.ref X6) "number" = some none)
    (xn6_1 : PySem.W.findIn K (.ref X6) "thing" = some none)
    (xn6_2 : PySem.W.findIn K (.ref X6) "row" = some none)
    (xn6_3 : PySem.W.findIn K (.ref X6) "word" = some none)
    (xn6_4 : PySem.W.findIn K (.ref X6) "most" = some none)
    (xn6_5 : PySem.W.findIn K (.ref X6) "telling" = some none)
    (xn6_6 : PySem.W.findIn K (.ref X6) "line" = some none)
    (xn6_7 : PySem.W.findIn K (.ref X6) "place" = some none)
    (xn6_8 : PySem.W.findIn K (.ref X6) "dealing" = some none)
    (xn6_9 : PySem.W.findIn K (.ref X6) "table" = some none)
    (xn6_10 : PySem.W.findIn K (.ref X6) "key" = some none)
    (xn6_11 : PySem.W.findIn K (.ref X6) "name" = some none)
    (xn6_12 : PySem.W.findIn K (.ref X6) "many" = some none)
    (xS6 : PySem.W.findIn K (.ref X6) "__setattr__" = some (some (.builtin "object.__setattr__")))
    (xI6 : PySem.W.findIn K (.ref X6) "__init__" = some (some (.ref F6)))
    (xJ6 : PySem.W.typeIn K (.ref F6) = some (.type "function"))
    (xL6 : K.lookup F6 = some ⟨xoc6, xod6, .func (PySem.W.fnOf "__init__" "NoKeys.__init__" (defArgs s_NoKeys___init__) (defBody s_NoKeys___init__) (defScope s_NoKeys___init__) .none xkV6 xdc6 xpm6 xan6 xcd6 xct6), xsl6⟩)
    (xR6 : PySem.W.codeIn K xcd6 "NoKeys.__init__" = true)
    (xO7 : K.lookup X7 = some (excClassObj xa7 xb7 X7 xN7 xs7 [.ref Y0, .type "ValueError", .type "Exception", .type "BaseException", .type "object"] true xt7 xu7 xc7 xe7 xd7 xk7 xl7 xo7 xp7 xq7 "ValueError.__new__"))
    (xE7 : PySem.W.subIn K (.ref X7) (.type "BaseException") = some true)
    (xT7 : PySem.W.typeIn K (.ref X7) = some (.type "type"))
    (xK7 : PySem.W.keepIn K (.ref X7) = true)
    (xD7 : PySem.W.hasDictIn K X7 = true)
    (xG7 : PySem.W.findIn K (.ref X7) "__getattribute__" = some (some (.builtin "BaseException.__getattribute__")))
    (xH7 : PySem.W.findIn K (.ref X7) "__getattr__" = some none)
    (xC7 : PySem.W.findIn K (.ref X7) "__class__" = some (some (.builtin "object.__class__")))
    (xM7 : PySem.W.mroIn K X7 (.type "object") = some true)
    (xn7_0 : PySem.W.findIn K (.ref X7) "number" = some none)
    (xn7_1 : PySem.W.findIn K (.ref X7) "thing" = some none)
    (xn7_2 : PySem.W.findIn K (.ref X7) "row" = some none)
    (xn7_3 : PySem.W.findIn K (.ref X7) "word" = some none)
    (xn7_4 : PySem.W.findIn K (.ref X7) "most" = some none)
    (xn7_5 : PySem.W.findIn K (.ref X7) "telling" = some none)
    (xn7_6 : PySem.W.findIn K (.ref X7) "line" = some none)
    (xn7_7 : PySem.W.findIn K (.ref X7) "place" = some none)
    (xn7_8 : PySem.W.findIn K (.ref X7) "dealing" = some none)
    (xn7_9 : PySem.W.findIn K (.ref X7) "table" = some none)
    (xn7_10 : PySem.W.findIn K (.ref X7) "key" = some none)
    (xn7_11 : PySem.W.findIn K (.ref X7) "name" = some none)
    (xn7_12 : PySem.W.findIn K (.ref X7) "many" = some none)
    (xS7 : PySem.W.findIn K (.ref X7) "__setattr__" = some (some (.builtin "object.__setattr__")))
    (xI7 : PySem.W.findIn K (.ref X7) "__init__" = some (some (.ref F7)))
    (xJ7 : PySem.W.typeIn K (.ref F7) = some (.type "function"))
    (xL7 : K.lookup F7 = some ⟨xoc7, xod7, .func (PySem.W.fnOf "__init__" "NoTelling.__init__" (defArgs s_NoTelling___init__) (defBody s_NoTelling___init__) (defScope s_NoTelling___init__) .none xkV7 xdc7 xpm7 xan7 xcd7 xct7), xsl7⟩)
    (xR7 : PySem.W.codeIn K xcd7 "NoTelling.__init__" = true)
    (xO8 : K.lookup X8 = some (excClassObj xa8 xb8 X8 xN8 xs8 [.ref Y0, .type "ValueError", .type "Exception", .type "BaseException", .type "object"] true xt8 xu8 xc8 xe8 xd8 xk8 xl8 xo8 xp8 xq8 "ValueError.__new__"))
    (xE8 : PySem.W.subIn K (.ref X8) (.type "BaseException") = some true)
    (xT8 : PySem.W.typeIn K (.ref X8) = some (.type "type"))
    (xK8 : PySem.W.keepIn K (.ref X8) = true)
    (xD8 : PySem.W.hasDictIn K X8 = true)
    (xG8 : PySem.W.findIn K (.ref X8) "__getattribute__" = some (some (.builtin "BaseException.__getattribute__")))
    (xH8 : PySem.W.findIn K (.ref X8) "__getattr__" = some none)
    (xC8 : PySem.W.findIn K (.ref X8) "__class__" = some (some (.builtin "object.__class__")))
    (xM8 : PySem.W.mroIn K X8 (.type "object") = some true)
    (xn8_0 : PySem.W.findIn K (.ref X8) "number" = some none)
    (xn8_1 : PySem.W.findIn K (.ref X8) "thing" = some none)
    (xn8_2 : PySem.W.findIn K (.ref X8) "row" = some none)
    (xn8_3 : PySem.W.findIn K (.ref X8) "word" = some none)
    (xn8_4 : PySem.W.findIn K (.ref X8) "most" = some none)
    (xn8_5 : PySem.W.findIn K (.ref X8) "telling" = some none)
    (xn8_6 : PySem.W.findIn K (.ref X8) "line" = some none)
    (xn8_7 : PySem.W.findIn K (.ref X8) "place" = some none)
    (xn8_8 : PySem.W.findIn K (.ref X8) "dealing" = some none)
    (xn8_9 : PySem.W.findIn K (.ref X8) "table" = some none)
    (xn8_10 : PySem.W.findIn K (.ref X8) "key" = some none)
    (xn8_11 : PySem.W.findIn K (.ref X8) "name" = some none)
    (xn8_12 : PySem.W.findIn K (.ref X8) "many" = some none)
    (xS8 : PySem.W.findIn K (.ref X8) "__setattr__" = some (some (.builtin "object.__setattr__")))
    (xI8 : PySem.W.findIn K (.ref X8) "__init__" = some (some (.ref F8)))
    (xJ8 : PySem.W.typeIn K (.ref F8) = some (.type "function"))
    (xL8 : K.lookup F8 = some ⟨xoc8, xod8, .func (PySem.W.fnOf "__init__" "NoRing.__init__" (defArgs s_NoRing___init__) (defBody s_NoRing___init__) (defScope s_NoRing___init__) .none xkV8 xdc8 xpm8 xan8 xcd8 xct8), xsl8⟩)
    (xR8 : PySem.W.codeIn K xcd8 "NoRing.__init__" = true)
    (xO9 : K.lookup X9 = some (excClassObj xa9 xb9 X9 xN9 xs9 [.ref Y0, .type "ValueError", .type "Exception", .type "BaseException", .type "object"] true xt9 xu9 xc9 xe9 xd9 xk9 xl9 xo9 xp9 xq9 "ValueError.__new__"))
    (xE9 : PySem.W.subIn K (.ref X9) (.type "BaseException") = some true)
    (xT9 : PySem.W.typeIn K (.ref X9) = some (.type "type"))
    (xK9 : PySem.W.keepIn K (.ref X9) = true)
    (xD9 : PySem.W.hasDictIn K X9 = true)
    (xG9 : PySem.W.findIn K (.ref X9) "__getattribute__" = some (some (.builtin "BaseException.__getattribute__")))
    (xH9 : PySem.W.findIn K (.ref X9) "__getattr__" = some none)
    (xC9 : PySem.W.findIn K (.ref X9) "__class__" = some (some (.builtin "object.__class__")))
    (xM9 : PySem.W.mroIn K X9 (.type "object") = some true)
    (xn9_0 : PySem.W.findIn K (.ref X9) "number" = some none)
    (xn9_1 : PySem.W.findIn K (.ref X9) "thing" = some none)
    (xn9_2 : PySem.W.findIn K (.ref X9) "row" = some none)
    (xn9_3 : PySem.W.findIn K (.ref X9) "word" = some none)
    (xn9_4 : PySem.W.findIn K (.ref X9) "most" = some none)
    (xn9_5 : PySem.W.findIn K (.ref X9) "telling" = some none)
    (xn9_6 : PySem.W.findIn K (.ref X9) "line" = some none)
    (xn9_7 : PySem.W.findIn K (.ref X9) "place" = some none)
    (xn9_8 : PySem.W.findIn K (.ref X9) "dealing" = some none)
    (xn9_9 : PySem.W.findIn K (.ref X9) "table" = some none)
    (xn9_10 : PySem.W.findIn K (.ref X9) "key" = some none)
    (xn9_11 : PySem.W.findIn K (.ref X9) "name" = some none)
    (xn9_12 : PySem.W.findIn K (.ref X9) "many" = some none)
    (xS9 : PySem.W.findIn K (.ref X9) "__setattr__" = some (some (.builtin "object.__setattr__")))
    (xI9 : PySem.W.findIn K (.ref X9) "__init__" = some (some (.ref F9)))
    (xJ9 : PySem.W.typeIn K (.ref F9) = some (.type "function"))
    (xL9 : K.lookup F9 = some ⟨xoc9, xod9, .func (PySem.W.fnOf "__init__" "NoSteps.__init__" (defArgs s_NoSteps___init__) (defBody s_NoSteps___init__) (defScope s_NoSteps___init__) .none xkV9 xdc9 xpm9 xan9 xcd9 xct9), xsl9⟩)
    (xR9 : PySem.W.codeIn K xcd9 "NoSteps.__init__" = true)
    (xO10 : K.lookup X10 = some (excClassObj xa10 xb10 X10 xN10 xs10 [.ref Y0, .type "ValueError", .type "Exception", .type "BaseException", .type "object"] true xt10 xu10 xc10 xe10 xd10 xk10 xl10 xo10 xp10 xq10 "ValueError.__new__"))
    (xE10 : PySem.W.subIn K (.ref X10) (.type "BaseException") = some true)
    (xT10 : PySem.W.typeIn K (.ref X10) = some (.type "type"))
    (xK10 : PySem.W.keepIn K (.ref X10) = true)
    (xD10 : PySem.W.hasDictIn K X10 = true)
    (xG10 : PySem.W.findIn K (.ref X10) "__getattribute__" = some (some (.builtin "BaseException.__getattribute__")))
    (xH10 : PySem.W.findIn K (.ref X10) "__getattr__" = some none)
    (xC10 : PySem.W.findIn K (.ref X10) "__class__" = some (some (.builtin "object.__class__")))
    (xM10 : PySem.W.mroIn K X10 (.type "object") = some true)
    (xn10_0 : PySem.W.findIn K (.ref X10) "number" = some none)
    (xn10_1 : PySem.W.findIn K (.ref X10) "thing" = some none)
    (xn10_2 : PySem.W.findIn K (.ref X10) "row" = some none)
    (xn10_3 : PySem.W.findIn K (.ref X10) "word" = some none)
    (xn10_4 : PySem.W.findIn K (.ref X10) "most" = some none)
    (xn10_5 : PySem.W.findIn K (.ref X10) "telling" = some none)
    (xn10_6 : PySem.W.findIn K (.ref X10) "line" = some none)
    (xn10_7 : PySem.W.findIn K (.ref X10) "place" = some none)
    (xn10_8 : PySem.W.findIn K (.ref X10) "dealing" = some none)
    (xn10_9 : PySem.W.findIn K (.ref X10) "table" = some none)
    (xn10_10 : PySem.W.findIn K (.ref X10) "key" = some none)
    (xn10_11 : PySem.W.findIn K (.ref X10) "name" = some none)
    (xn10_12 : PySem.W.findIn K (.ref X10) "many" = some none)
    (xS10 : PySem.W.findIn K (.ref X10) "__setattr__" = some (some (.builtin "object.__setattr__")))
    (xI10 : PySem.W.findIn K (.ref X10) "__init__" = some (some (.ref F10)))
    (xJ10 : PySem.W.typeIn K (.ref F10) = some (.type "function"))
    (xL10 : K.lookup F10 = some ⟨xoc10, xod10, .func (PySem.W.fnOf "__init__" "NoText.__init__" (defArgs s_NoText___init__) (defBody s_NoText___init__) (defScope s_NoText___init__) .none xkV10 xdc10 xpm10 xan10 xcd10 xct10), xsl10⟩)
    (xR10 : PySem.W.codeIn K xcd10 "NoText.__init__" = true)
    (xO11 : K.lookup X11 = some (excClassObj xa11 xb11 X11 xN11 xs11 [.ref Y0, .type "ValueError", .type "Exception", .type "BaseException", .type "object"] true xt11 xu11 xc11 xe11 xd11 xk11 xl11 xo11 xp11 xq11 "ValueError.__new__"))
    (xE11 : PySem.W.subIn K (.ref X11) (.type "BaseException") = some true)
    (xT11 : PySem.W.typeIn K (.ref X11) = some (.type "type"))
    (xK11 : PySem.W.keepIn K (.ref X11) = true)
    (xD11 : PySem.W.hasDictIn K X11 = true)
    (xG11 : PySem.W.findIn K (.ref X11) "__getattribute__" = some (some (.builtin "BaseException.__getattribute__")))
    (xH11 : PySem.W.findIn K (.ref X11) "__getattr__" = some none)
    (xC11 : PySem.W.findIn K (.ref X11) "__class__" = some (some (.builtin "object.__class__")))
    (xM11 : PySem.W.mroIn K X11 (.type "object") = some true)
    (xn11_0 : PySem.W.findIn K (.ref X11) "number" = some none)
    (xn11_1 : PySem.W.findIn K (.ref X11) "thing" = some none)
    (xn11_2 : PySem.W.findIn K (.ref X11) "row" = some none)
    (xn11_3 : PySem.W.findIn K (.ref X11) "word" = some none)
    (xn11_4 : PySem.W.findIn K (.ref X11) "most" = some none)
    (xn11_5 : PySem.W.findIn K (.ref X11) "telling" = some none)
    (xn11_6 : PySem.W.findIn K (.ref X11) "line" = some none)
    (xn11_7 : PySem.W.findIn K (.ref X11) "place" = some none)
    (xn11_8 : PySem.W.findIn K (.ref X11) "dealing" = some none)
    (xn11_9 : PySem.W.findIn K (.ref X11) "table" = some none)
    (xn11_10 : PySem.W.findIn K (.ref X11) "key" = some none)
    (xn11_11 : PySem.W.findIn K (.ref X11) "name" = some none)
    (xn11_12 : PySem.W.findIn K (.ref X11) "many" = some none)
    (xS11 : PySem.W.findIn K (.ref X11) "__setattr__" = some (some (.builtin "object.__setattr__")))
    (xI11 : PySem.W.findIn K (.ref X11) "__init__" = some (some (.ref F11)))
    (xJ11 : PySem.W.typeIn K (.ref F11) = some (.type "function"))
    (xL11 : K.lookup F11 = some ⟨xoc11, xod11, .func (PySem.W.fnOf "__init__" "NoLine.__init__" (defArgs s_NoLine___init__) (defBody s_NoLine___init__) (defScope s_NoLine___init__) .none xkV11 xdc11 xpm11 xan11 xcd11 xct11), xsl11⟩)
    (xR11 : PySem.W.codeIn K xcd11 "NoLine.__init__" = true)
    (xO12 : K.lookup X12 = some (excClassObj xa12 xb12 X12 xN12 xs12 [.type "IndexError", .type "LookupError", .type "Exception", .type "BaseException", .type "object"] true xt12 xu12 xc12 xe12 xd12 xk12 xl12 xo12 xp12 xq12 "IndexError.__new__"))
    (xE12 : PySem.W.subIn K (.ref X12) (.type "BaseException") = some true)
    (xT12 : PySem.W.typeIn K (.ref X12) = some (.type "type"))
    (xK12 : PySem.W.keepIn K (.ref X12) = true)
    (xD12 : PySem.W.hasDictIn K X12 = true)
    (xG12 : PySem.W.findIn K (.ref X12) "__getattribute__" = some (some (.builtin "BaseException.__getattribute__")))
    (xH12 : PySem.W.findIn K (.ref X12) "__getattr__" = some none)
    (xC12 : PySem.W.findIn K (.ref X12) "__class__" = some (some (.builtin "object.__class__")))
    (xM12 : PySem.W.mroIn K X12 (.type "object") = some true)
    (xn12_0 : PySem.W.findIn K (.ref X12) "number" = some none)
    (xn12_1 : PySem.W.findIn K (.ref X12) "thing" = some none)
    (xn12_2 : PySem.W.findIn K (.ref X12) "row" = some none)
    (xn12_3 : PySem.W.findIn K (.ref X12) "word" = some none)
    (xn12_4 : PySem.W.findIn K (.ref X12) "most" = some none)
    (xn12_5 : PySem.W.findIn K (.ref X12) "telling" = some none)
    (xn12_6 : PySem.W.findIn K (.ref X12) "line" = some none)
    (xn12_7 : PySem.W.findIn K (.ref X12) "place" = some none)
    (xn12_8 : PySem.W.findIn K (.ref X12) "dealing" = some none)
    (xn12_9 : PySem.W.findIn K (.ref X12) "table" = some none)
    (xn12_10 : PySem.W.findIn K (.ref X12) "key" = some none)
    (xn12_11 : PySem.W.findIn K (.ref X12) "name" = some none)
    (xn12_12 : PySem.W.findIn K (.ref X12) "many" = some none)
    (xS12 : PySem.W.findIn K (.ref X12) "__setattr__" = some (some (.builtin "object.__setattr__")))
    (xI12 : PySem.W.findIn K (.ref X12) "__init__" = some (some (.ref F12)))
    (xJ12 : PySem.W.typeIn K (.ref F12) = some (.type "function"))
    (xL12 : K.lookup F12 = some ⟨xoc12, xod12, .func (PySem.W.fnOf "__init__" "NoPlace.__init__" (defArgs s_NoPlace___init__) (defBody s_NoPlace___init__) (defScope s_NoPlace___init__) .none xkV12 xdc12 xpm12 xan12 xcd12 xct12), xsl12⟩)
    (xR12 : PySem.W.codeIn K xcd12 "NoPlace.__init__" = true)
    (xO13 : K.lookup X13 = some (excClassObj xa13 xb13 X13 xN13 xs13 [.type "IndexError", .type "LookupError", .type "Exception", .type "BaseException", .type "object"] true xt13 xu13 xc13 xe13 xd13 xk13 xl13 xo13 xp13 xq13 "IndexError.__new__"))
    (xE13 : PySem.W.subIn K (.ref X13) (.type "BaseException") = some true)
    (xT13 : PySem.W.typeIn K (.ref X13) = some (.type "type"))
    (xK13 : PySem.W.keepIn K (.ref X13) = true)
    (xD13 : PySem.W.hasDictIn K X13 = true)
    (xG13 : PySem.W.findIn K (.ref X13) "__getattribute__" = some (some (.builtin "BaseException.__getattribute__")))
    (xH13 : PySem.W.findIn K (.ref X13) "__getattr__" = some none)
    (xC13 : PySem.W.findIn K (.ref X13) "__class__" = some (some (.builtin "object.__class__")))
    (xM13 : PySem.W.mroIn K X13 (.type "object") = some true)
    (xn13_0 : PySem.W.findIn K (.ref X13) "number" = some none)
    (xn13_1 : PySem.W.findIn K (.ref X13) "thing" = some none)
    (xn13_2 : PySem.W.findIn K (.ref X13) "row" = some none)
    (xn13_3 : PySem.W.findIn K (.ref X13) "word" = some none)
    (xn13_4 : PySem.W.findIn K (.ref X13) "most" = some none)
    (xn13_5 : PySem.W.findIn K (.ref X13) "telling" = some none)
    (xn13_6 : PySem.W.findIn K (.ref X13) "line" = some none)
    (xn13_7 : PySem.W.findIn K (.ref X13) "place" = some none)
    (xn13_8 : PySem.W.findIn K (.ref X13) "dealing" = some none)
    (xn13_9 : PySem.W.findIn K (.ref X13) "table" = some none)
    (xn13_10 : PySem.W.findIn K (.ref X13) "key" = some none)
    (xn13_11 : PySem.W.findIn K (.ref X13) "name" = some none)
    (xn13_12 : PySem.W.findIn K (.ref X13) "many" = some none)
    (xS13 : PySem.W.findIn K (.ref X13) "__setattr__" = some (some (.builtin "object.__setattr__")))
    (xI13 : PySem.W.findIn K (.ref X13) "__init__" = some (some (.ref F13)))
    (xJ13 : PySem.W.typeIn K (.ref F13) = some (.type "function"))
    (xL13 : K.lookup F13 = some ⟨xoc13, xod13, .func (PySem.W.fnOf "__init__" "NoDealing.__init__" (defArgs s_NoDealing___init__) (defBody s_NoDealing___init__) (defScope s_NoDealing___init__) .none xkV13 xdc13 xpm13 xan13 xcd13 xct13), xsl13⟩)
    (xR13 : PySem.W.codeIn K xcd13 "NoDealing.__init__" = true)
    (xO14 : K.lookup X14 = some (excClassObj xa14 xb14 X14 xN14 xs14 [.type "LookupError", .type "Exception", .type "BaseException", .type "object"] true xt14 xu14 xc14 xe14 xd14 xk14 xl14 xo14 xp14 xq14 "LookupError.__new__"))
    (xE14 : PySem.W.subIn K (.ref X14) (.type "BaseException") = some true)
    (xT14 : PySem.W.typeIn K (.ref X14) = some (.type "type"))
    (xK14 : PySem.W.keepIn K (.ref X14) = true)
    (xD14 : PySem.W.hasDictIn K X14 = true)
    (xG14 : PySem.W.findIn K (.ref X14) "__getattribute__" = some (some (.builtin "BaseException.__getattribute__")))
    (xH14 : PySem.W.findIn K (.ref X14) "__getattr__" = some none)
    (xC14 : PySem.W.findIn K (.ref X14) "__class__" = some (some (.builtin "object.__class__")))
    (xM14 : PySem.W.mroIn K X14 (.type "object") = some true)
    (xn14_0 : PySem.W.findIn K (.ref X14) "number" = some none)
    (xn14_1 : PySem.W.findIn K (.ref X14) "thing" = some none)
    (xn14_2 : PySem.W.findIn K (.ref X14) "row" = some none)
    (xn14_3 : PySem.W.findIn K (.ref X14) "word" = some none)
    (xn14_4 : PySem.W.findIn K (.ref X14) "most" = some none)
    (xn14_5 : PySem.W.findIn K (.ref X14) "telling" = some none)
    (xn14_6 : PySem.W.findIn K (.ref X14) "line" = some none)
    (xn14_7 : PySem.W.findIn K (.ref X14) "place" = some none)
    (xn14_8 : PySem.W.findIn K (.ref X14) "dealing" = some none)
    (xn14_9 : PySem.W.findIn K (.ref X14) "table" = some none)
    (xn14_10 : PySem.W.findIn K (.ref X14) "key" = some none)
    (xn14_11 : PySem.W.findIn K (.ref X14) "name" = some none)
    (xn14_12 : PySem.W.findIn K (.ref X14) "many" = some none)
    (xS14 : PySem.W.findIn K (.ref X14) "__setattr__" = some (some (.builtin "object.__setattr__")))
    (xI14 : PySem.W.findIn K (.ref X14) "__init__" = some (some (.ref F14)))
    (xJ14 : PySem.W.typeIn K (.ref F14) = some (.type "function"))
    (xL14 : K.lookup F14 = some ⟨xoc14, xod14, .func (PySem.W.fnOf "__init__" "NoTable.__init__" (defArgs s_NoTable___init__) (defBody s_NoTable___init__) (defScope s_NoTable___init__) .none xkV14 xdc14 xpm14 xan14 xcd14 xct14), xsl14⟩)
    (xR14 : PySem.W.codeIn K xcd14 "NoTable.__init__" = true)
    (xO15 : K.lookup X15 = some (excClassObj xa15 xb15 X15 xN15 xs15 [.type "LookupError", .type "Exception", .type "BaseException", .type "object"] true xt15 xu15 xc15 xe15 xd15 xk15 xl15 xo15 xp15 xq15 "LookupError.__new__"))
    (xE15 : PySem.W.subIn K (.ref X15) (.type "BaseException") = some true)
    (xT15 : PySem.W.typeIn K (.ref X15) = some (.type "type"))
    (xK15 : PySem.W.keepIn K (.ref X15) = true)
    (xD15 : PySem.W.hasDictIn K X15 = true)
    (xG15 : PySem.W.findIn K (.ref X15) "__getattribute__" = some (some (.builtin "BaseException.__getattribute__")))
    (xH15 : PySem.W.findIn K (.ref X15) "__getattr__" = some none)
    (xC15 : PySem.W.findIn K (.ref X15) "__class__" = some (some (.builtin "object.__class__")))
    (xM15 : PySem.W.mroIn K X15 (.type "object") = some true)
    (xn15_0 : PySem.W.findIn K (.ref X15) "number" = some none)
    (xn15_1 : PySem.W.findIn K (.ref X15) "thing" = some none)
    (xn15_2 : PySem.W.findIn K (.ref X15) "row" = some none)
    (xn15_3 : PySem.W.findIn K (.ref X15) "word" = some none)
    (xn15_4 : PySem.W.findIn K (.ref X15) "most" = some none)
    (xn15_5 : PySem.W.findIn K (.ref X15) "telling" = some none)
    (xn15_6 : PySem.W.findIn K (.ref X15) "line" = some none)
    (xn15_7 : PySem.W.findIn K (.ref X15) "place" = some none)
    (xn15_8 : PySem.W.findIn K (.ref X15) "dealing" = some none)
    (xn15_9 : PySem.W.findIn K (.ref X15) "table" = some none)
    (xn15_10 : PySem.W.findIn K (.ref X15) "key" = some none)
    (xn15_11 : PySem.W.findIn K (.ref X15) "name" = some none)
    (xn15_12 : PySem.W.findIn K (.ref X15) "many" = some none)
    (xS15 : PySem.W.findIn K (.ref X15) "__setattr__" = some (some (.builtin "object.__setattr__")))
    (xI15 : PySem.W.findIn K (.ref X15) "__init__" = some (some (.ref F15)))
    (xJ15 : PySem.W.typeIn K (.ref F15) = some (.type "function"))
    (xL15 : K.lookup F15 = some ⟨xoc15, xod15, .func (PySem.W.fnOf "__init__" "Gone.__init__" (defArgs s_Gone___init__) (defBody s_Gone___init__) (defScope s_Gone___init__) .none xkV15 xdc15 xpm15 xan15 xcd15 xct15), xsl15⟩)
    (xR15 : PySem.W.codeIn K xcd15 "Gone.__init__" = true)
    (xO16 : K.lookup X16 = some (excClassObj xa16 xb16 X16 xN16 xs16 [.type "KeyError", .type "LookupError", .type "Exception", .type "BaseException", .type "object"] true xt16 xu16 xc16 xe16 xd16 xk16 xl16 xo16 xp16 xq16 "LookupError.__new__"))
    (xE16 : PySem.W.subIn K (.ref X16) (.type "BaseException") = some true)
    (xT16 : PySem.W.typeIn K (.ref X16) = some (.type "type"))
    (xK16 : PySem.W.keepIn K (.ref X16) = true)
    (xD16 : PySem.W.hasDictIn K X16 = true)
    (xG16 : PySem.W.findIn K (.ref X16) "__getattribute__" = some (some (.builtin "BaseException.__getattribute__")))
    (xH16 : PySem.W.findIn K (.ref X16) "__getattr__" = some none)
    (xC16 : PySem.W.findIn K (.ref X16) "__class__" = some (some (.builtin "object.__class__")))
    (xM16 : PySem.W.mroIn K X16 (.type "object") = some true)
    (xn16_0 : PySem.W.findIn K (.ref X16) "number" = some none)
    (xn16_1 : PySem.W.findIn K (.ref X16) "thing" = some none)
    (xn16_2 : PySem.W.findIn K (.ref X16) "row" = some none)
    (xn16_3 : PySem.W.findIn K (.ref X16) "word" = some none)
    (xn16_4 : PySem.W.findIn K (.ref X16) "most" = some none)
    (xn16_5 : PySem.W.findIn K (.ref X16) "telling" = some none)
    (xn16_6 : PySem.W.findIn K (.ref X16) "line" = some none)
    (xn16_7 : PySem.W.findIn K (.ref X16) "place" = some none)
    (xn16_8 : PySem.W.findIn K (.ref X16) "dealing" = some none)
    (xn16_9 : PySem.W.findIn K (.ref X16) "table" = some none)
    (xn16_10 : PySem.W.findIn K (.ref X16) "key" = some none)
    (xn16_11 : PySem.W.findIn K (.ref X16) "name" = some none)
    (xn16_12 : PySem.W.findIn K (.ref X16) "many" = some none)
    (xS16 : PySem.W.findIn K (.ref X16) "__setattr__" = some (some (.builtin "object.__setattr__")))
    (xI16 : PySem.W.findIn K (.ref X16) "__init__" = some (some (.ref F16)))
    (xJ16 : PySem.W.typeIn K (.ref F16) = some (.type "function"))
    (xL16 : K.lookup F16 = some ⟨xoc16, xod16, .func (PySem.W.fnOf "__init__" "NoKey.__init__" (defArgs s_NoKey___init__) (defBody s_NoKey___init__) (defScope s_NoKey___init__) .none xkV16 xdc16 xpm16 xan16 xcd16 xct16), xsl16⟩)
    (xR16 : PySem.W.codeIn K xcd16 "NoKey.__init__" = true)
    (xO17 : K.lookup X17 = some (excClassObj xa17 xb17 X17 xN17 xs17 [.type "KeyError", .type "LookupError", .type "Exception", .type "BaseException", .type "object"] true xt17 xu17 xc17 xe17 xd17 xk17 xl17 xo17 xp17 xq17 "LookupError.__new__"))
    (xE17 : PySem.W.subIn K (.ref X17) (.type "BaseException") = some true)
    (xT17 : PySem.W.typeIn K (.ref X17) = some (.type "type"))
    (xK17 : PySem.W.keepIn K (.ref X17) = true)
    (xD17 : PySem.W.hasDictIn K X17 = true)
    (xG17 : PySem.W.findIn K (.ref X17) "__getattribute__" = some (some (.builtin "BaseException.__getattribute__")))
    (xH17 : PySem.W.findIn K (.ref X17) "__getattr__" = some none)
    (xC17 : PySem.W.findIn K (.ref X17) "__class__" = some (some (.builtin "object.__class__")))
    (xM17 : PySem.W.mroIn K X17 (.type "object") = some true)
    (xn17_0 : PySem.W.findIn K (.ref X17) "number" = some none)
    (xn17_1 : PySem.W.findIn K (.ref X17) "thing" = some none)
    (xn17_2 : PySem.W.findIn K (.ref X17) "row" = some none)
    (xn17_3 : PySem.W.findIn K (.ref X17) "word" = some none)
    (xn17_4 : PySem.W.findIn K (.ref X17) "most" = some none)
    (xn17_5 : PySem.W.findIn K (.ref X17) "telling" = some none)
    (xn17_6 : PySem.W.findIn K (.ref X17) "line" = some none)
    (xn17_7 : PySem.W.findIn K (.ref X17) "place" = some none)
    (xn17_8 : PySem.W.findIn K (.ref X17) "dealing" = some none)
    (xn17_9 : PySem.W.findIn K (.ref X17) "table" = some none)
    (xn17_10 : PySem.W.findIn K (.ref X17) "key" = some none)
    (xn17_11 : PySem.W.findIn K (.ref X17) "name" = some none)
    (xn17_12 : PySem.W.findIn K (.ref X17) "many" = some none)
    (xS17 : PySem.W.findIn K (.ref X17) "__setattr__" = some (some (.builtin "object.__setattr__")))
    (xI17 : PySem.W.findIn K (.ref X17) "__init__" = some (some (.ref F17)))
    (xJ17 : PySem.W.typeIn K (.ref F17) = some (.type "function"))
    (xL17 : K.lookup F17 = some ⟨xoc17, xod17, .func (PySem.W.fnOf "__init__" "NoSlot.__init__" (defArgs s_NoSlot___init__) (defBody s_NoSlot___init__) (defScope s_NoSlot___init__) .none xkV17 xdc17 xpm17 xan17 xcd17 xct17), xsl17⟩)
    (xR17 : PySem.W.codeIn K xcd17 "NoSlot.__init__" = true)
    (xO18 : K.lookup X18 = some (excClassObj xa18 xb18 X18 xN18 xs18 [.type "KeyError", .type "LookupError", .type "Exception", .type "BaseException", .type "object"] true xt18 xu18 xc18 xe18 xd18 xk18 xl18 xo18 xp18 xq18 "LookupError.__new__"))
    (xE18 : PySem.W.subIn K (.ref X18) (.type "BaseException") = some true)
    (xT18 : PySem.W.typeIn K (.ref X18) = some (.type "type"))
    (xK18 : PySem.W.keepIn K (.ref X18) = true)
    (xD18 : PySem.W.hasDictIn K X18 = true)
    (xG18 : PySem.W.findIn K (.ref X18) "__getattribute__" = some (some (.builtin "BaseException.__getattribute__")))
    (xH18 : PySem.W.findIn K (.ref X18) "__getattr__" = some none)
    (xC18 : PySem.W.findIn K (.ref X18) "__class__" = some (some (.builtin "object.__class__")))
    (xM18 : PySem.W.mroIn K X18 (.type "object") = some true)
    (xn18_0 : PySem.W.findIn K (.ref X18) "number" = some none)
    (xn18_1 : PySem.W.findIn K (.ref X18) "thing" = some none)
    (xn18_2 : PySem.W.findIn K (.ref X18) "row" = some none)
    (xn18_3 : PySem.W.findIn K (.ref X18) "word" = some none)
    (xn18_4 : PySem.W.findIn K (.ref X18) "most" = some none)
    (xn18_5 : PySem.W.findIn K (.ref X18) "telling" = some none)
    (xn18_6 : PySem.W.findIn K (.ref X18) "line" = some none)
    (xn18_7 : PySem.W.findIn K (.ref X18) "place" = some none)
    (xn18_8 : PySem.W.findIn K (.ref X18) "dealing" = some none)
    (xn18_9 : PySem.W.findIn K (.ref X18) "table" = some none)
    (xn18_10 : PySem.W.findIn K (.ref X18) "key" = some none)
    (xn18_11 : PySem.W.findIn K (.ref X18) "name" = some none)
    (xn18_12 : PySem.W.findIn K (.ref X18) "many" = some none)
    (xS18 : PySem.W.findIn K (.ref X18) "__setattr__" = some (some (.builtin "object.__setattr__")))
    (xI18 : PySem.W.findIn K (.ref X18) "__init__" = some (some (.ref F18)))
    (xJ18 : PySem.W.typeIn K (.ref F18) = some (.type "function"))
    (xL18 : K.lookup F18 = some ⟨xoc18, xod18, .func (PySem.W.fnOf "__init__" "NoHearer.__init__" (defArgs s_NoHearer___init__) (defBody s_NoHearer___init__) (defScope s_NoHearer___init__) .none xkV18 xdc18 xpm18 xan18 xcd18 xct18), xsl18⟩)
    (xR18 : PySem.W.codeIn K xcd18 "NoHearer.__init__" = true)
    (xO19 : K.lookup X19 = some (excClassObj xa19 xb19 X19 xN19 xs19 [.type "OverflowError", .type "ArithmeticError", .type "Exception", .type "BaseException", .type "object"] true xt19 xu19 xc19 xe19 xd19 xk19 xl19 xo19 xp19 xq19 "OverflowError.__new__"))
    (xE19 : PySem.W.subIn K (.ref X19) (.type "BaseException") = some true)
    (xT19 : PySem.W.typeIn K (.ref X19) = some (.type "type"))
    (xK19 : PySem.W.keepIn K (.ref X19) = true)
    (xD19 : PySem.W.hasDictIn K X19 = true)
    (xG19 : PySem.W.findIn K (.ref X19) "__getattribute__" = some (some (.builtin "BaseException.__getattribute__")))
    (xH19 : PySem.W.findIn K (.ref X19) "__getattr__" = some none)
    (xC19 : PySem.W.findIn K (.ref X19) "__class__" = some (some (.builtin "object.__class__")))
    (xM19 : PySem.W.mroIn K X19 (.type "object") = some true)
    (xn19_0 : PySem.W.findIn K (.ref X19) "number" = some none)
    (xn19_1 : PySem.W.findIn K (.ref X19) "thing" = some none)
    (xn19_2 : PySem.W.findIn K (.ref X19) "row" = some none)
    (xn19_3 : PySem.W.findIn K (.ref X19) "word" = some none)
    (xn19_4 : PySem.W.findIn K (.ref X19) "most" = some none)
    (xn19_5 : PySem.W.findIn K (.ref X19) "telling" = some none)
    (xn19_6 : PySem.W.findIn K (.ref X19) "line" = some none)
    (xn19_7 : PySem.W.findIn K (.ref X19) "place" = some none)
    (xn19_8 : PySem.W.findIn K (.ref X19) "dealing" = some none)
    (xn19_9 : PySem.W.findIn K (.ref X19) "table" = some none)
    (xn19_10 : PySem.W.findIn K (.ref X19) "key" = some none)
    (xn19_11 : PySem.W.findIn K (.ref X19) "name" = some none)
    (xn19_12 : PySem.W.findIn K (.ref X19) "many" = some none)
    (xS19 : PySem.W.findIn K (.ref X19) "__setattr__" = some (some (.builtin "object.__setattr__")))
    (xI19 : PySem.W.findIn K (.ref X19) "__init__" = some (some (.ref F19)))
    (xJ19 : PySem.W.typeIn K (.ref F19) = some (.type "function"))
    (xL19 : K.lookup F19 = some ⟨xoc19, xod19, .func (PySem.W.fnOf "__init__" "TooMany.__init__" (defArgs s_TooMany___init__) (defBody s_TooMany___init__) (defScope s_TooMany___init__) .none xkV19 xdc19 xpm19 xan19 xcd19 xct19), xsl19⟩)
    (xR19 : PySem.W.codeIn K xcd19 "TooMany.__init__" = true)
    (xO20 : K.lookup X20 = some (excClassObj xa20 xb20 X20 xN20 xs20 [.type "RuntimeError", .type "Exception", .type "BaseException", .type "object"] true xt20 xu20 xc20 xe20 xd20 xk20 xl20 xo20 xp20 xq20 "RuntimeError.__new__"))
    (xE20 : PySem.W.subIn K (.ref X20) (.type "BaseException") = some true)
    (xT20 : PySem.W.typeIn K (.ref X20) = some (.type "type"))
    (xK20 : PySem.W.keepIn K (.ref X20) = true)
    (xD20 : PySem.W.hasDictIn K X20 = true)
    (xG20 : PySem.W.findIn K (.ref X20) "__getattribute__" = some (some (.builtin "BaseException.__getattribute__")))
    (xH20 : PySem.W.findIn K (.ref X20) "__getattr__" = some none)
    (xC20 : PySem.W.findIn K (.ref X20) "__class__" = some (some (.builtin "object.__class__")))
    (xM20 : PySem.W.mroIn K X20 (.type "object") = some true)
    (xn20_0 : PySem.W.findIn K (.ref X20) "number" = some none)
    (xn20_1 : PySem.W.findIn K (.ref X20) "thing" = some none)
    (xn20_2 : PySem.W.findIn K (.ref X20) "row" = some none)
    (xn20_3 : PySem.W.findIn K (.ref X20) "word" = some none)
    (xn20_4 : PySem.W.findIn K (.ref X20) "most" = some none)
    (xn20_5 : PySem.W.findIn K (.ref X20) "telling" = some none)
    (xn20_6 : PySem.W.findIn K (.ref X20) "line" = some none)
    (xn20_7 : PySem.W.findIn K (.ref X20) "place" = some none)
    (xn20_8 : PySem.W.findIn K (.ref X20) "dealing" = some none)
    (xn20_9 : PySem.W.findIn K (.ref X20) "table" = some none)
    (xn20_10 : PySem.W.findIn K (.ref X20) "key" = some none)
    (xn20_11 : PySem.W.findIn K (.ref X20) "name" = some none)
    (xn20_12 : PySem.W.findIn K (.ref X20) "many" = some none)
    (xS20 : PySem.W.findIn K (.ref X20) "__setattr__" = some (some (.builtin "object.__setattr__")))
    (xI20 : PySem.W.findIn K (.ref X20) "__init__" = some (some (.ref F20)))
    (xJ20 : PySem.W.typeIn K (.ref F20) = some (.type "function"))
    (xL20 : K.lookup F20 = some ⟨xoc20, xod20, .func (PySem.W.fnOf "__init__" "Held.__init__" (defArgs s_Held___init__) (defBody s_Held___init__) (defScope s_Held___init__) .none xkV20 xdc20 xpm20 xan20 xcd20 xct20), xsl20⟩)
    (xR20 : PySem.W.codeIn K xcd20 "Held.__init__" = true)
    (xO21 : K.lookup X21 = some (excClassObj xa21 xb21 X21 xN21 xs21 [.type "RuntimeError", .type "Exception", .type "BaseException", .type "object"] true xt21 xu21 xc21 xe21 xd21 xk21 xl21 xo21 xp21 xq21 "RuntimeError.__new__"))
    (xE21 : PySem.W.subIn K (.ref X21) (.type "BaseException") = some true)
    (xT21 : PySem.W.typeIn K (.ref X21) = some (.type "type"))
    (xK21 : PySem.W.keepIn K (.ref X21) = true)
    (xD21 : PySem.W.hasDictIn K X21 = true)
    (xG21 : PySem.W.findIn K (.ref X21) "__getattribute__" = some (some (.builtin "BaseException.__getattribute__")))
    (xH21 : PySem.W.findIn K (.ref X21) "__getattr__" = some none)
    (xC21 : PySem.W.findIn K (.ref X21) "__class__" = some (some (.builtin "object.__class__")))
    (xM21 : PySem.W.mroIn K X21 (.type "object") = some true)
    (xn21_0 : PySem.W.findIn K (.ref X21) "number" = some none)
    (xn21_1 : PySem.W.findIn K (.ref X21) "thing" = some none)
    (xn21_2 : PySem.W.findIn K (.ref X21) "row" = some none)
    (xn21_3 : PySem.W.findIn K (.ref X21) "word" = some none)
    (xn21_4 : PySem.W.findIn K (.ref X21) "most" = some none)
    (xn21_5 : PySem.W.findIn K (.ref X21) "telling" = some none)
    (xn21_6 : PySem.W.findIn K (.ref X21) "line" = some none)
    (xn21_7 : PySem.W.findIn K (.ref X21) "place" = some none)
    (xn21_8 : PySem.W.findIn K (.ref X21) "dealing" = some none)
    (xn21_9 : PySem.W.findIn K (.ref X21) "table" = some none)
    (xn21_10 : PySem.W.findIn K (.ref X21) "key" = some none)
    (xn21_11 : PySem.W.findIn K (.ref X21) "name" = some none)
    (xn21_12 : PySem.W.findIn K (.ref X21) "many" = some none)
    (xS21 : PySem.W.findIn K (.ref X21) "__setattr__" = some (some (.builtin "object.__setattr__")))
    (xI21 : PySem.W.findIn K (.ref X21) "__init__" = some (some (.ref F21)))
    (xJ21 : PySem.W.typeIn K (.ref F21) = some (.type "function"))
    (xL21 : K.lookup F21 = some ⟨xoc21, xod21, .func (PySem.W.fnOf "__init__" "Named.__init__" (defArgs s_Named___init__) (defBody s_Named___init__) (defScope s_Named___init__) .none xkV21 xdc21 xpm21 xan21 xcd21 xct21), xsl21⟩)
    (xR21 : PySem.W.codeIn K xcd21 "Named.__init__" = true)
    (xO22 : K.lookup X22 = some (excClassObj xa22 xb22 X22 xN22 xs22 [.type "RuntimeError", .type "Exception", .type "BaseException", .type "object"] true xt22 xu22 xc22 xe22 xd22 xk22 xl22 xo22 xp22 xq22 "RuntimeError.__new__"))
    (xE22 : PySem.W.subIn K (.ref X22) (.type "BaseException") = some true)
    (xT22 : PySem.W.typeIn K (.ref X22) = some (.type "type"))
    (xK22 : PySem.W.keepIn K (.ref X22) = true)
    (xD22 : PySem.W.hasDictIn K X22 = true)
    (xG22 : PySem.W.findIn K (.ref X22) "__getattribute__" = some (some (.builtin "BaseException.__getattribute__")))
    (xH22 : PySem.W.findIn K (.ref X22) "__getattr__" = some none)
    (xC22 : PySem.W.findIn K (.ref X22) "__class__" = some (some (.builtin "object.__class__")))
    (xM22 : PySem.W.mroIn K X22 (.type "object") = some true)
    (xn22_0 : PySem.W.findIn K (.ref X22) "number" = some none)
    (xn22_1 : PySem.W.findIn K (.ref X22) "thing" = some none)
    (xn22_2 : PySem.W.findIn K (.ref X22) "row" = some none)
    (xn22_3 : PySem.W.findIn K (.ref X22) "word" = some none)
    (xn22_4 : PySem.W.findIn K (.ref X22) "most" = some none)
    (xn22_5 : PySem.W.findIn K (.ref X22) "telling" = some none)
    (xn22_6 : PySem.W.findIn K (.ref X22) "line" = some none)
    (xn22_7 : PySem.W.findIn K (.ref X22) "place" = some none)
    (xn22_8 : PySem.W.findIn K (.ref X22) "dealing" = some none)
    (xn22_9 : PySem.W.findIn K (.ref X22) "table" = some none)
    (xn22_10 : PySem.W.findIn K (.ref X22) "key" = some none)
    (xn22_11 : PySem.W.findIn K (.ref X22) "name" = some none)
    (xn22_12 : PySem.W.findIn K (.ref X22) "many" = some none)
    (xS22 : PySem.W.findIn K (.ref X22) "__setattr__" = some (some (.builtin "object.__setattr__")))
    (xI22 : PySem.W.findIn K (.ref X22) "__init__" = some (some (.ref F22)))
    (xJ22 : PySem.W.typeIn K (.ref F22) = some (.type "function"))
    (xL22 : K.lookup F22 = some ⟨xoc22, xod22, .func (PySem.W.fnOf "__init__" "Twice.__init__" (defArgs s_Twice___init__) (defBody s_Twice___init__) (defScope s_Twice___init__) .none xkV22 xdc22 xpm22 xan22 xcd22 xct22), xsl22⟩)
    (xR22 : PySem.W.codeIn K xcd22 "Twice.__init__" = true)
    (xO23 : K.lookup X23 = some (excClassObj xa23 xb23 X23 xN23 xs23 [.type "RuntimeError", .type "Exception", .type "BaseException", .type "object"] true xt23 xu23 xc23 xe23 xd23 xk23 xl23 xo23 xp23 xq23 "RuntimeError.__new__"))
    (xE23 : PySem.W.subIn K (.ref X23) (.type "BaseException") = some true)
    (xT23 : PySem.W.typeIn K (.ref X23) = some (.type "type"))
    (xK23 : PySem.W.keepIn K (.ref X23) = true)
    (xD23 : PySem.W.hasDictIn K X23 = true)
    (xG23 : PySem.W.findIn K (.ref X23) "__getattribute__" = some (some (.builtin "BaseException.__getattribute__")))
    (xH23 : PySem.W.findIn K (.ref X23) "__getattr__" = some none)
    (xC23 : PySem.W.findIn K (.ref X23) "__class__" = some (some (.builtin "object.__class__")))
    (xM23 : PySem.W.mroIn K X23 (.type "object") = some true)
    (xn23_0 : PySem.W.findIn K (.ref X23) "number" = some none)
    (xn23_1 : PySem.W.findIn K (.ref X23) "thing" = some none)
    (xn23_2 : PySem.W.findIn K (.ref X23) "row" = some none)
    (xn23_3 : PySem.W.findIn K (.ref X23) "word" = some none)
    (xn23_4 : PySem.W.findIn K (.ref X23) "most" = some none)
    (xn23_5 : PySem.W.findIn K (.ref X23) "telling" = some none)
    (xn23_6 : PySem.W.findIn K (.ref X23) "line" = some none)
    (xn23_7 : PySem.W.findIn K (.ref X23) "place" = some none)
    (xn23_8 : PySem.W.findIn K (.ref X23) "dealing" = some none)
    (xn23_9 : PySem.W.findIn K (.ref X23) "table" = some none)
    (xn23_10 : PySem.W.findIn K (.ref X23) "key" = some none)
    (xn23_11 : PySem.W.findIn K (.ref X23) "name" = some none)
    (xn23_12 : PySem.W.findIn K (.ref X23) "many" = some none)
    (xS23 : PySem.W.findIn K (.ref X23) "__setattr__" = some (some (.builtin "object.__setattr__")))
    (xI23 : PySem.W.findIn K (.ref X23) "__init__" = some (some (.ref F23)))
    (xJ23 : PySem.W.typeIn K (.ref F23) = some (.type "function"))
    (xL23 : K.lookup F23 = some ⟨xoc23, xod23, .func (PySem.W.fnOf "__init__" "Begins.__init__" (defArgs s_Begins___init__) (defBody s_Begins___init__) (defScope s_Begins___init__) .none xkV23 xdc23 xpm23 xan23 xcd23 xct23), xsl23⟩)
    (xR23 : PySem.W.codeIn K xcd23 "Begins.__init__" = true)
    (xO24 : K.lookup X24 = some (excClassObj xa24 xb24 X24 xN24 xs24 [.type "RuntimeError", .type "Exception", .type "BaseException", .type "object"] true xt24 xu24 xc24 xe24 xd24 xk24 xl24 xo24 xp24 xq24 "RuntimeError.__new__"))
    (xE24 : PySem.W.subIn K (.ref X24) (.type "BaseException") = some true)
    (xT24 : PySem.W.typeIn K (.ref X24) = some (.type "type"))
    (xK24 : PySem.W.keepIn K (.ref X24) = true)
    (xD24 : PySem.W.hasDictIn K X24 = true)
    (xG24 : PySem.W.findIn K (.ref X24) "__getattribute__" = some (some (.builtin "BaseException.__getattribute__")))
    (xH24 : PySem.W.findIn K (.ref X24) "__getattr__" = some none)
    (xC24 : PySem.W.findIn K (.ref X24) "__class__" = some (some (.builtin "object.__class__")))
    (xM24 : PySem.W.mroIn K X24 (.type "object") = some true)
    (xn24_0 : PySem.W.findIn K (.ref X24) "number" = some none)
    (xn24_1 : PySem.W.findIn K (.ref X24) "thing" = some none)
    (xn24_2 : PySem.W.findIn K (.ref X24) "row" = some none)
    (xn24_3 : PySem.W.findIn K (.ref X24) "word" = some none)
    (xn24_4 : PySem.W.findIn K (.ref X24) "most" = some none)
    (xn24_5 : PySem.W.findIn K (.ref X24) "telling" = some none)
    (xn24_6 : PySem.W.findIn K (.ref X24) "line" = some none)
    (xn24_7 : PySem.W.findIn K (.ref X24) "place" = some none)
    (xn24_8 : PySem.W.findIn K (.ref X24) "dealing" = some none)
    (xn24_9 : PySem.W.findIn K (.ref X24) "table" = some none)
    (xn24_10 : PySem.W.findIn K (.ref X24) "key" = some none)
    (xn24_11 : PySem.W.findIn K (.ref X24) "name" = some none)
    (xn24_12 : PySem.W.findIn K (.ref X24) "many" = some none)
    (xS24 : PySem.W.findIn K (.ref X24) "__setattr__" = some (some (.builtin "object.__setattr__")))
    (xI24 : PySem.W.findIn K (.ref X24) "__init__" = some (some (.ref F24)))
    (xJ24 : PySem.W.typeIn K (.ref F24) = some (.type "function"))
    (xL24 : K.lookup F24 = some ⟨xoc24, xod24, .func (PySem.W.fnOf "__init__" "Behind.__init__" (defArgs s_Behind___init__) (defBody s_Behind___init__) (defScope s_Behind___init__) .none xkV24 xdc24 xpm24 xan24 xcd24 xct24), xsl24⟩)
    (xR24 : PySem.W.codeIn K xcd24 "Behind.__init__" = true)
    (xO25 : K.lookup X25 = some (excClassObj xa25 xb25 X25 xN25 xs25 [.type "RuntimeError", .type "Exception", .type "BaseException", .type "object"] true xt25 xu25 xc25 xe25 xd25 xk25 xl25 xo25 xp25 xq25 "RuntimeError.__new__"))
    (xE25 : PySem.W.subIn K (.ref X25) (.type "BaseException") = some true)
    (xT25 : PySem.W.typeIn K (.ref X25) = some (.type "type"))
    (xK25 : PySem.W.keepIn K (.ref X25) = true)
    (xD25 : PySem.W.hasDictIn K X25 = true)
    (xG25 : PySem.W.findIn K (.ref X25) "__getattribute__" = some (some (.builtin "BaseException.__getattribute__")))
    (xH25 : PySem.W.findIn K (.ref X25) "__getattr__" = some none)
    (xC25 : PySem.W.findIn K (.ref X25) "__class__" = some (some (.builtin "object.__class__")))
    (xM25 : PySem.W.mroIn K X25 (.type "object") = some true)
    (xn25_0 : PySem.W.findIn K (.ref X25) "number" = some none)
    (xn25_1 : PySem.W.findIn K (.ref X25) "thing" = some none)
    (xn25_2 : PySem.W.findIn K (.ref X25) "row" = some none)
    (xn25_3 : PySem.W.findIn K (.ref X25) "word" = some none)
    (xn25_4 : PySem.W.findIn K (.ref X25) "most" = some none)
    (xn25_5 : PySem.W.findIn K (.ref X25) "telling" = some none)
    (xn25_6 : PySem.W.findIn K (.ref X25) "line" = some none)
    (xn25_7 : PySem.W.findIn K (.ref X25) "place" = some none)
    (xn25_8 : PySem.W.findIn K (.ref X25) "dealing" = some none)
    (xn25_9 : PySem.W.findIn K (.ref X25) "table" = some none)
    (xn25_10 : PySem.W.findIn K (.ref X25) "key" = some none)
    (xn25_11 : PySem.W.findIn K (.ref X25) "name" = some none)
    (xn25_12 : PySem.W.findIn K (.ref X25) "many" = some none)
    (xS25 : PySem.W.findIn K (.ref X25) "__setattr__" = some (some (.builtin "object.__setattr__")))
    (xI25 : PySem.W.findIn K (.ref X25) "__init__" = some (some (.ref F25)))
    (xJ25 : PySem.W.typeIn K (.ref F25) = some (.type "function"))
    (xL25 : K.lookup F25 = some ⟨xoc25, xod25, .func (PySem.W.fnOf "__init__" "Unfit.__init__" (defArgs s_Unfit___init__) (defBody s_Unfit___init__) (defScope s_Unfit___init__) .none xkV25 xdc25 xpm25 xan25 xcd25 xct25), xsl25⟩)
    (xR25 : PySem.W.codeIn K xcd25 "Unfit.__init__" = true)
    (xO26 : K.lookup X26 = some (excClassObj xa26 xb26 X26 xN26 xs26 [.type "RuntimeError", .type "Exception", .type "BaseException", .type "object"] true xt26 xu26 xc26 xe26 xd26 xk26 xl26 xo26 xp26 xq26 "RuntimeError.__new__"))
    (xE26 : PySem.W.subIn K (.ref X26) (.type "BaseException") = some true)
    (xT26 : PySem.W.typeIn K (.ref X26) = some (.type "type"))
    (xK26 : PySem.W.keepIn K (.ref X26) = true)
    (xD26 : PySem.W.hasDictIn K X26 = true)
    (xG26 : PySem.W.findIn K (.ref X26) "__getattribute__" = some (some (.builtin "BaseException.__getattribute__")))
    (xH26 : PySem.W.findIn K (.ref X26) "__getattr__" = some none)
    (xC26 : PySem.W.findIn K (.ref X26) "__class__" = some (some (.builtin "object.__class__")))
    (xM26 : PySem.W.mroIn K X26 (.type "object") = some true)
    (xn26_0 : PySem.W.findIn K (.ref X26) "number" = some none)
    (xn26_1 : PySem.W.findIn K (.ref X26) "thing" = some none)
    (xn26_2 : PySem.W.findIn K (.ref X26) "row" = some none)
    (xn26_3 : PySem.W.findIn K (.ref X26) "word" = some none)
    (xn26_4 : PySem.W.findIn K (.ref X26) "most" = some none)
    (xn26_5 : PySem.W.findIn K (.ref X26) "telling" = some none)
    (xn26_6 : PySem.W.findIn K (.ref X26) "line" = some none)
    (xn26_7 : PySem.W.findIn K (.ref X26) "place" = some none)
    (xn26_8 : PySem.W.findIn K (.ref X26) "dealing" = some none)
    (xn26_9 : PySem.W.findIn K (.ref X26) "table" = some none)
    (xn26_10 : PySem.W.findIn K (.ref X26) "key" = some none)
    (xn26_11 : PySem.W.findIn K (.ref X26) "name" = some none)
    (xn26_12 : PySem.W.findIn K (.ref X26) "many" = some none)
    (xI26 : PySem.W.excIn K X26 [.type "RuntimeError", .type "Exception", .type "BaseException", .type "object"] "RuntimeError.__new__" = true)
    (yE0q : PySem.W.subIn K (.ref Y0) (.type "BaseException") = some true)
    (yD0q : PySem.W.hasDictIn K Y0 = true)
    (yT0q : PySem.W.typeIn K (.ref Y0) = some (.type "type"))
    (xw0 : PySem.W.readsIn K Y0 (.type "type") = true)
    (xx0 : PySem.W.specialIn K (.ref Y0) "__getattribute__" = some (some (.builtin "type.__getattribute__")))
    (xy0 : PySem.W.findCls K (.ref Y0) (.type "type") "__init__" = some (.val (.builtin "ValueError.__init__")))
    (xi0 : PySem.W.findCls K (.type "IndexError") (.type "type") "__init__" = some (.val (.builtin "IndexError.__init__")))
    (xi1 : PySem.W.findCls K (.type "LookupError") (.type "type") "__init__" = some (.val (.builtin "LookupError.__init__")))
    (xi2 : PySem.W.findCls K (.type "KeyError") (.type "type") "__init__" = some (.val (.builtin "KeyError.__init__")))
    (xi3 : PySem.W.findCls K (.type "OverflowError") (.type "type") "__init__" = some (.val (.builtin "OverflowError.__init__")))
    (xi4 : PySem.W.findCls K (.type "RuntimeError") (.type "type") "__init__" = some (.val (.builtin "RuntimeError.__init__")))
    (xz0 : PySem.W.specialIn K (.builtin "object.__class__") "__get__" = some (some (.builtin "getset_descriptor.__get__")))
    (xz1 : PySem.W.takesIn K (.builtin "object.__class__") = some true)
    (xND : ([X0, X1, X2, X3, X4, X5, X6, X7, X8, X9, X10, X11, X12, X13, X14, X15, X16, X17, X18, X19, X20, X21, X22, X23, X24, X25, X26, Y0] : List Addr).Nodup)
    (z0 : PySem.W.nsIn K mainGlobals "len" = some none)
    (z1 : PySem.W.nsIn K mainGlobals "isinstance" = some none)
    (z2 : PySem.W.nsIn K mainGlobals "KeyError" = some none)
    (z3 : PySem.W.nsIn K mainGlobals "IndexError" = some none)
    (z4 : PySem.W.nsIn K mainGlobals "ValueError" = some none)
    (z5 : PySem.W.nsIn K mainGlobals "RuntimeError" = some none)
    (z6 : PySem.W.nsIn K mainGlobals "OverflowError" = some none)
    (z7 : PySem.W.nsIn K mainGlobals "LookupError" = some none)
    (z8 : PySem.W.nsIn K mainGlobals "range" = some none)
    (z9 : PySem.W.nsIn K mainGlobals "repr" = some none)
    (z10 : PySem.W.nsIn K mainGlobals "max" = some none)
    (z11 : PySem.W.nsIn K mainGlobals "min" = some none)
    (z12 : PySem.W.nsIn K mainGlobals "enumerate" = some none)
    : ∃ L : Lay, TFS S g K mg L ∧ L.fns[9]? = some fa := by
  have e : f9 = fa := by
    have z := (PySem.W.mg_of X G a9).symm.trans hfa
    cases z
    rfl
  have MR : Mros K [X0, X1, X2, X3, X4, X5, X6, X7, X8, X9, X10, X11, X12, X13, X14, X15, X16, X17, X18, X19, X20, X21, X22, X23, X24, X25, X26, Y0] [X0, X1, X2, X3, X4, X5, X6, X7, X8, X9, X10, X11, X12, X13, X14, X15, X16, X17, X18, X19, X20, X21, X22, X23, X24, X25, X26] [[27], [27], [27], [27], [27], [27], [27], [27], [27], [27], [27], [27], [], [], [], [], [], [], [], [], [], [], [], [], [], [], []] [xbValue.tl, xbValue.tl, xbValue.tl, xbValue.tl, xbValue.tl, xbValue.tl, xbValue.tl, xbValue.tl, xbValue.tl, xbValue.tl, xbValue.tl, xbValue.tl, xbIndex.tl, xbIndex.tl, xbLookup.tl, xbLookup.tl, xbKey.tl, xbKey.tl, xbKey.tl, xbOverflow.tl, xbRuntime.tl, xbRuntime.tl, xbRuntime.tl, xbRuntime.tl, xbRuntime.tl, xbRuntime.tl, xbRuntime.tl] :=
    ⟨fun k C e => (pre_of [Y0] e : _), xND, all_ix (P := fun k C => ∃ ps tl cs, ([[27], [27], [27], [27], [27], [27], [27], [27], [27], [27], [27], [27], [], [], [], [], [], [], [], [], [], [], [], [], [], [], []] : List (List Nat))[k]? = some ps ∧ ([xbValue.tl, xbValue.tl, xbValue.tl, xbValue.tl, xbValue.tl, xbValue.tl, xbValue.tl, xbValue.tl, xbValue.tl, xbValue.tl, xbValue.tl, xbValue.tl, xbIndex.tl, xbIndex.tl, xbLookup.tl, xbLookup.tl, xbKey.tl, xbKey.tl, xbKey.tl, xbOverflow.tl, xbRuntime.tl, xbRuntime.tl, xbRuntime.tl, xbRuntime.tl, xbRuntime.tl, xbRuntime.tl, xbRuntime.tl] : List (List Value))[k]? = some tl ∧ ixs [X0, X1, X2, X3, X4, X5, X6, X7, X8, X9, X10, X11, X12, X13, X14, X15, X16, X17, X18, X19, X20, X21, X22, X23, X24, X25, X26, Y0] ps = some cs ∧ MroOf K C cs tl ∧ tl.all isTyB = true) (.cons (⟨_, _, [Y0], rfl, rfl, rfl, mro_of (cs := [Y0]) (tl := xbValue.tl) xO0, rfl⟩) (.cons (⟨_, _, [Y0], rfl, rfl, rfl, mro_of (cs := [Y0]) (tl := xbValue.tl) xO1, rfl⟩) (.cons (⟨_, _, [Y0], rfl, rfl, rfl, mro_of (cs := [Y0]) (tl := xbValue.tl) xO2, rfl⟩) (.cons (⟨_, _, [Y0], rfl, rfl, rfl, mro_of (cs := [Y0]) (tl := xbValue.tl) xO3, rfl⟩) (.cons (⟨_, _, [Y0], rfl, rfl, rfl, mro_of (cs := [Y0]) (tl := xbValue.tl) xO4, rfl⟩) (.cons (⟨_, _, [Y0], rfl, rfl, rfl, mro_of (cs := [Y0]) (tl := xbValue.tl) xO5, rfl⟩) (.cons (⟨_, _, [Y0], rfl, rfl, rfl, mro_of (cs := [Y0]) (tl := xbValue.tl) xO6, rfl⟩) (.cons (⟨_, _, [Y0], rfl, rfl, rfl, mro_of (cs := [Y0]) (tl := xbValue.tl) xO7, rfl⟩) (.cons (⟨_, _, [Y0], rfl, rfl, rfl, mro_of (cs := [Y0]) (tl := xbValue.tl) xO8, rfl⟩) (.cons (⟨_, _, [Y0], rfl, rfl, rfl, mro_of (cs := [Y0]) (tl := xbValue.tl) xO9, rfl⟩) (.cons (⟨_, _, [Y0], rfl, rfl, rfl, mro_of (cs := [Y0]) (tl := xbValue.tl) xO10, rfl⟩) (.cons (⟨_, _, [Y0], rfl, rfl, rfl, mro_of (cs := [Y0]) (tl := xbValue.tl) xO11, rfl⟩) (.cons (⟨_, _, [], rfl, rfl, rfl, mro_of (cs := []) (tl := xbIndex.tl) xO12, rfl⟩) (.cons (⟨_, _, [], rfl, rfl, rfl, mro_of (cs := []) (tl := xbIndex.tl) xO13, rfl⟩) (.cons (⟨_, _, [], rfl, rfl, rfl, mro_of (cs := []) (tl := xbLookup.tl) xO14, rfl⟩) (.cons (⟨_, _, [], rfl, rfl, rfl, mro_of (cs := []) (tl := xbLookup.tl) xO15, rfl⟩) (.cons (⟨_, _, [], rfl, rfl, rfl, mro_of (cs := []) (tl := xbKey.tl) xO16, rfl⟩) (.cons (⟨_, _, [], rfl, rfl, rfl, mro_of (cs := []) (tl := xbKey.tl) xO17, rfl⟩) (.cons (⟨_, _, [], rfl, rfl, rfl, mro_of (cs := []) (tl := xbKey.tl) xO18, rfl⟩) (.cons (⟨_, _, [], rfl, rfl, rfl, mro_of (cs := []) (tl := xbOverflow.tl) xO19, rfl⟩) (.cons (⟨_, _, [], rfl, rfl, rfl, mro_of (cs := []) (tl := xbRuntime.tl) xO20, rfl⟩) (.cons (⟨_, _, [], rfl, rfl, rfl, mro_of (cs := []) (tl := xbRuntime.tl) xO21, rfl⟩) (.cons (⟨_, _, [], rfl, rfl, rfl, mro_of (cs := []) (tl := xbRuntime.tl) xO22, rfl⟩) (.cons (⟨_, _, [], rfl, rfl, rfl, mro_of (cs := []) (tl := xbRuntime.tl) xO23, rfl⟩) (.cons (⟨_, _, [], rfl, rfl, rfl, mro_of (cs := []) (tl := xbRuntime.tl) xO24, rfl⟩) (.cons (⟨_, _, [], rfl, rfl, rfl, mro_of (cs := []) (tl := xbRuntime.tl) xO25, rfl⟩) (.cons (⟨_, _, [], rfl, rfl, rfl, mro_of (cs := []) (tl := xbRuntime.tl) xO26, rfl⟩) (.nil))))))))))))))))))))))))))))⟩
  refine ⟨⟨[f0, f1, f2, f3, f4, f5, f6, f7, f8, f9], [], [X0, X1, X2, X3, X4, X5, X6, X7, X8, X9, X10, X11, X12, X13, X14, X15, X16, X17, X18, X19, X20, X21, X22, X23, X24, X25, X26], [], S.attrs⟩, ⟨?_, ⟨rfl, by decide +kernel⟩, ?_, ?_, ?_, ?_, ?_, ?_, ?_, ?_, ?_, ?_, ?_, ?_, ?_⟩, show some f9 = some fa by rw [e]⟩
  · exact all_mem (.cons (PySem.W.mg_none_of X G z0) (.cons (PySem.W.mg_none_of X G z1) (.cons (PySem.W.mg_none_of X G z2) (.cons (PySem.W.mg_none_of X G z3) (.cons (PySem.W.mg_none_of X G z4) (.cons (PySem.W.mg_none_of X G z5) (.cons (PySem.W.mg_none_of X G z6) (.cons (PySem.W.mg_none_of X G z7) (.cons (PySem.W.mg_none_of X G z8) (.cons (PySem.W.mg_none_of X G z9) (.cons (PySem.W.mg_none_of X G z10) (.cons (PySem.W.mg_none_of X G z11) (.cons (PySem.W.mg_none_of X G z12) (.nil))))))))))))))
  · exact all_fn (.some rfl (PySem.W.mg_of X G a0) k0 (.some rfl (PySem.W.mg_of X G a1) k1 (.some rfl (PySem.W.mg_of X G a2) k2 (.some rfl (PySem.W.mg_of X G a3) k3 (.some rfl (PySem.W.mg_of X G a4) k4 (.some rfl (PySem.W.mg_of X G a5) k5 (.some rfl (PySem.W.mg_of X G a6) k6 (.some rfl (PySem.W.mg_of X G a7) k7 (.some rfl (PySem.W.mg_of X G a8) k8 (.some rfl (PySem.W.mg_of X G a9) k9 (.nil)))))))))))
  · exact all_ix (.cons (t__law_cell_at l0 c0) (.cons (t__law_pool l1 c1) (.cons (t__law_take l2 c2) (.cons (t__law_made l3 c3) (.cons (t__law_fields l4 c4) (.cons (t__law_kinds l5 c5) (.cons (t__law_bases l6 c6) (.cons (t__law_due_bases l7 c7) (.cons (t__law_raised l8 c8) (.cons (t_law l9 c9) (.nil)))))))))))
  · exact all_mak (.nil)
  · exact all_ini (by decide +kernel)
  · exact all_ix (P := fun _ C => Cls K C ∧ ∀ x ∈ S.attrs, NoAttr K C x) (.nil)
  · exact all_mth (g := g) (.nil)
  · exact all_mna (by decide +kernel)
  · exact all_mks (by decide +kernel)
  · exact all_exc (.cons (⟨X0, "number", rfl, PySem.W.mg_of X G xA0, rfl, exk_of (xb := xbValue) ⟨⟨_, _, _, _, _, _, _, _, _, _, _, _, _, _, _, xO0, refsT_cs xbValue.tl (fun x hx => by cases hx; rfl) [Y0]⟩, xS0, xE0, xT0, xK0, okValue⟩ xn0_0 (PySem.W.mg_of X G yA0q) ⟨xw0, xx0⟩ xy0 xI0 xJ0 xL0 xR0 q_NoLog___init__ (Binds.all fun us hl => match us, hl with | [_, _], _ => rfl) x_NoLog___init__⟩) (.cons (⟨X1, "thing", rfl, PySem.W.mg_of X G xA1, rfl, exk_of (xb := xbValue) ⟨⟨_, _, _, _, _, _, _, _, _, _, _, _, _, _, _, xO1, refsT_cs xbValue.tl (fun x hx => by cases hx; rfl) [Y0]⟩, xS1, xE1, xT1, xK1, okValue⟩ xn1_1 (PySem.W.mg_of X G yA0q) ⟨xw0, xx0⟩ xy0 xI1 xJ1 xL1 xR1 q_NoForm___init__ (Binds.all fun us hl => match us, hl with | [_, _], _ => rfl) x_NoForm___init__⟩) (.cons (⟨X2, "row", rfl, PySem.W.mg_of X G xA2, rfl, exk_of (xb := xbValue) ⟨⟨_, _, _, _, _, _, _, _, _, _, _, _, _, _, _, xO2, refsT_cs xbValue.tl (fun x hx => by cases hx; rfl) [Y0]⟩, xS2, xE2, xT2, xK2, okValue⟩ xn2_2 (PySem.W.mg_of X G yA0q) ⟨xw0, xx0⟩ xy0 xI2 xJ2 xL2 xR2 q_NoRow___init__ (Binds.all fun us hl => match us, hl with | [_, _], _ => rfl) x_NoRow___init__⟩) (.cons (⟨X3, "word", rfl, PySem.W.mg_of X G xA3, rfl, exk_of (xb := xbValue) ⟨⟨_, _, _, _, _, _, _, _, _, _, _, _, _, _, _, xO3, refsT_cs xbValue.tl (fun x hx => by cases hx; rfl) [Y0]⟩, xS3, xE3, xT3, xK3, okValue⟩ xn3_3 (PySem.W.mg_of X G yA0q) ⟨xw0, xx0⟩ xy0 xI3 xJ3 xL3 xR3 q_NoWord___init__ (Binds.all fun us hl => match us, hl with | [_, _], _ => rfl) x_NoWord___init__⟩) (.cons (⟨X4, "most", rfl, PySem.W.mg_of X G xA4, rfl, exk_of (xb := xbValue) ⟨⟨_, _, _, _, _, _, _, _, _, _, _, _, _, _, _, xO4, refsT_cs xbValue.tl (fun x hx => by cases hx; rfl) [Y0]⟩, xS4, xE4, xT4, xK4, okValue⟩ xn4_4 (PySem.W.mg_of X G yA0q) ⟨xw0, xx0⟩ xy0 xI4 xJ4 xL4 xR4 q_NoMost___init__ (Binds.all fun us hl => match us, hl with | [_, _], _ => rfl) x_NoMost___init__⟩) (.cons (⟨X5, "thing", rfl, PySem.W.mg_of X G xA5, rfl, exk_of (xb := xbValue) ⟨⟨_, _, _, _, _, _, _, _, _, _, _, _, _, _, _, xO5, refsT_cs xbValue.tl (fun x hx => by cases hx; rfl) [Y0]⟩, xS5, xE5, xT5, xK5, okValue⟩ xn5_1 (PySem.W.mg_of X G yA0q) ⟨xw0, xx0⟩ xy0 xI5 xJ5 xL5 xR5 q_NoState___init__ (Binds.all fun us hl => match us, hl with | [_, _], _ => rfl) x_NoState___init__⟩) (.cons (⟨X6, "thing", rfl, PySem.W.mg_of X G xA6, rfl, exk_of (xb := xbValue) ⟨⟨_, _, _, _, _, _, _, _, _, _, _, _, _, _, _, xO6, refsT_cs xbValue.tl (fun x hx => by cases hx; rfl) [Y0]⟩, xS6, xE6, xT6, xK6, okValue⟩ xn6_1 (PySem.W.mg_of X G yA0q) ⟨xw0, xx0⟩ xy0 xI6 xJ6 xL6 xR6 q_NoKeys___init__ (Binds.all fun us hl => match us, hl with | [_, _], _ => rfl) x_NoKeys___init__⟩) (.cons (⟨X7, "telling", rfl, PySem.W.mg_of X G xA7, rfl, exk_of (xb := xbValue) ⟨⟨_, _, _, _, _, _, _, _, _, _, _, _, _, _, _, xO7, refsT_cs xbValue.tl (fun x hx => by cases hx; rfl) [Y0]⟩, xS7, xE7, xT7, xK7, okValue⟩ xn7_5 (PySem.W.mg_of X G yA0q) ⟨xw0, xx0⟩ xy0 xI7 xJ7 xL7 xR7 q_NoTelling___init__ (Binds.all fun us hl => match us, hl with | [_, _], _ => rfl) x_NoTelling___init__⟩) (.cons (⟨X8, "thing", rfl, PySem.W.mg_of X G xA8, rfl, exk_of (xb := xbValue) ⟨⟨_, _, _, _, _, _, _, _, _, _, _, _, _, _, _, xO8, refsT_cs xbValue.tl (fun x hx => by cases hx; rfl) [Y0]⟩, xS8, xE8, xT8, xK8, okValue⟩ xn8_1 (PySem.W.mg_of X G yA0q) ⟨xw0, xx0⟩ xy0 xI8 xJ8 xL8 xR8 q_NoRing___init__ (Binds.all fun us hl => match us, hl with | [_, _], _ => rfl) x_NoRing___init__⟩) (.cons (⟨X9, "number", rfl, PySem.W.mg_of X G xA9, rfl, exk_of (xb := xbValue) ⟨⟨_, _, _, _, _, _, _, _, _, _, _, _, _, _, _, xO9, refsT_cs xbValue.tl (fun x hx => by cases hx; rfl) [Y0]⟩, xS9, xE9, xT9, xK9, okValue⟩ xn9_0 (PySem.W.mg_of X G yA0q) ⟨xw0, xx0⟩ xy0 xI9 xJ9 xL9 xR9 q_NoSteps___init__ (Binds.all fun us hl => match us, hl with | [_, _], _ => rfl) x_NoSteps___init__⟩) (.cons (⟨X10, "row", rfl, PySem.W.mg_of X G xA10, rfl, exk_of (xb := xbValue) ⟨⟨_, _, _, _, _, _, _, _, _, _, _, _, _, _, _, xO10, refsT_cs xbValue.tl (fun x hx => by cases hx; rfl) [Y0]⟩, xS10, xE10, xT10, xK10, okValue⟩ xn10_2 (PySem.W.mg_of X G yA0q) ⟨xw0, xx0⟩ xy0 xI10 xJ10 xL10 xR10 q_NoText___init__ (Binds.all fun us hl => match us, hl with | [_, _], _ => rfl) x_NoText___init__⟩) (.cons (⟨X11, "line", rfl, PySem.W.mg_of X G xA11, rfl, exk_of (xb := xbValue) ⟨⟨_, _, _, _, _, _, _, _, _, _, _, _, _, _, _, xO11, refsT_cs xbValue.tl (fun x hx => by cases hx; rfl) [Y0]⟩, xS11, xE11, xT11, xK11, okValue⟩ xn11_6 (PySem.W.mg_of X G yA0q) ⟨xw0, xx0⟩ xy0 xI11 xJ11 xL11 xR11 q_NoLine___init__ (Binds.all fun us hl => match us, hl with | [_, _], _ => rfl) x_NoLine___init__⟩) (.cons (⟨X12, "place", rfl, PySem.W.mg_of X G xA12, rfl, exk_b (xb := xbIndex) ⟨⟨_, _, _, _, _, _, _, _, _, _, _, _, _, _, _, xO12, refsT_cs xbIndex.tl (fun x hx => by cases hx; rfl) []⟩, xS12, xE12, xT12, xK12, okIndex⟩ xn12_7 (PySem.W.mg_none_of X G z3) rfl (by decide) xi0 xI12 xJ12 xL12 xR12 q_NoPlace___init__ (Binds.all fun us hl => match us, hl with | [_, _], _ => rfl) x_NoPlace___init__⟩) (.cons (⟨X13, "dealing", rfl, PySem.W.mg_of X G xA13, rfl, exk_b (xb := xbIndex) ⟨⟨_, _, _, _, _, _, _, _, _, _, _, _, _, _, _, xO13, refsT_cs xbIndex.tl (fun x hx => by cases hx; rfl) []⟩, xS13, xE13, xT13, xK13, okIndex⟩ xn13_8 (PySem.W.mg_none_of X G z3) rfl (by decide) xi0 xI13 xJ13 xL13 xR13 q_NoDealing___init__ (Binds.all fun us hl => match us, hl with | [_, _], _ => rfl) x_NoDealing___init__⟩) (.cons (⟨X14, "table", rfl, PySem.W.mg_of X G xA14, rfl, exk_b (xb := xbLookup) ⟨⟨_, _, _, _, _, _, _, _, _, _, _, _, _, _, _, xO14, refsT_cs xbLookup.tl (fun x hx => by cases hx; rfl) []⟩, xS14, xE14, xT14, xK14, okLookup⟩ xn14_9 (PySem.W.mg_none_of X G z7) rfl (by decide) xi1 xI14 xJ14 xL14 xR14 q_NoTable___init__ (Binds.all fun us hl => match us, hl with | [_, _], _ => rfl) x_NoTable___init__⟩) (.cons (⟨X15, "place", rfl, PySem.W.mg_of X G xA15, rfl, exk_b (xb := xbLookup) ⟨⟨_, _, _, _, _, _, _, _, _, _, _, _, _, _, _, xO15, refsT_cs xbLookup.tl (fun x hx => by cases hx; rfl) []⟩, xS15, xE15, xT15, xK15, okLookup⟩ xn15_7 (PySem.W.mg_none_of X G z7) rfl (by decide) xi1 xI15 xJ15 xL15 xR15 q_Gone___init__ (Binds.all fun us hl => match us, hl with | [_, _], _ => rfl) x_Gone___init__⟩) (.cons (⟨X16, "key", rfl, PySem.W.mg_of X G xA16, rfl, exk_b (xb := xbKey) ⟨⟨_, _, _, _, _, _, _, _, _, _, _, _, _, _, _, xO16, refsT_cs xbKey.tl (fun x hx => by cases hx; rfl) []⟩, xS16, xE16, xT16, xK16, okKey⟩ xn16_10 (PySem.W.mg_none_of X G z2) rfl (by decide) xi2 xI16 xJ16 xL16 xR16 q_NoKey___init__ (Binds.all fun us hl => match us, hl with | [_, _], _ => rfl) x_NoKey___init__⟩) (.cons (⟨X17, "name", rfl, PySem.W.mg_of X G xA17, rfl, exk_b (xb := xbKey) ⟨⟨_, _, _, _, _, _, _, _, _, _, _, _, _, _, _, xO17, refsT_cs xbKey.tl (fun x hx => by cases hx; rfl) []⟩, xS17, xE17, xT17, xK17, okKey⟩ xn17_11 (PySem.W.mg_none_of X G z2) rfl (by decide) xi2 xI17 xJ17 xL17 xR17 q_NoSlot___init__ (Binds.all fun us hl => match us, hl with | [_, _], _ => rfl) x_NoSlot___init__⟩) (.cons (⟨X18, "name", rfl, PySem.W.mg_of X G xA18, rfl, exk_b (xb := xbKey) ⟨⟨_, _, _, _, _, _, _, _, _, _, _, _, _, _, _, xO18, refsT_cs xbKey.tl (fun x hx => by cases hx; rfl) []⟩, xS18, xE18, xT18, xK18, okKey⟩ xn18_11 (PySem.W.mg_none_of X G z2) rfl (by decide) xi2 xI18 xJ18 xL18 xR18 q_NoHearer___init__ (Binds.all fun us hl => match us, hl with | [_, _], _ => rfl) x_NoHearer___init__⟩) (.cons (⟨X19, "many", rfl, PySem.W.mg_of X G xA19, rfl, exk_b (xb := xbOverflow) ⟨⟨_, _, _, _, _, _, _, _, _, _, _, _, _, _, _, xO19, refsT_cs xbOverflow.tl (fun x hx => by cases hx; rfl) []⟩, xS19, xE19, xT19, xK19, okOverflow⟩ xn19_12 (PySem.W.mg_none_of X G z6) rfl (by decide) xi3 xI19 xJ19 xL19 xR19 q_TooMany___init__ (Binds.all fun us hl => match us, hl with | [_, _], _ => rfl) x_TooMany___init__⟩) (.cons (⟨X20, "dealing", rfl, PySem.W.mg_of X G xA20, rfl, exk_b (xb := xbRuntime) ⟨⟨_, _, _, _, _, _, _, _, _, _, _, _, _, _, _, xO20, refsT_cs xbRuntime.tl (fun x hx => by cases hx; rfl) []⟩, xS20, xE20, xT20, xK20, okRuntime⟩ xn20_8 (PySem.W.mg_none_of X G z5) rfl (by decide) xi4 xI20 xJ20 xL20 xR20 q_Held___init__ (Binds.all fun us hl => match us, hl with | [_, _], _ => rfl) x_Held___init__⟩) (.cons (⟨X21, "name", rfl, PySem.W.mg_of X G xA21, rfl, exk_b (xb := xbRuntime) ⟨⟨_, _, _, _, _, _, _, _, _, _, _, _, _, _, _, xO21, refsT_cs xbRuntime.tl (fun x hx => by cases hx; rfl) []⟩, xS21, xE21, xT21, xK21, okRuntime⟩ xn21_11 (PySem.W.mg_none_of X G z5) rfl (by decide) xi4 xI21 xJ21 xL21 xR21 q_Named___init__ (Binds.all fun us hl => match us, hl with | [_, _], _ => rfl) x_Named___init__⟩) (.cons (⟨X22, "thing", rfl, PySem.W.mg_of X G xA22, rfl, exk_b (xb := xbRuntime) ⟨⟨_, _, _, _, _, _, _, _, _, _, _, _, _, _, _, xO22, refsT_cs xbRuntime.tl (fun x hx => by cases hx; rfl) []⟩, xS22, xE22, xT22, xK22, okRuntime⟩ xn22_1 (PySem.W.mg_none_of X G z5) rfl (by decide) xi4 xI22 xJ22 xL22 xR22 q_Twice___init__ (Binds.all fun us hl => match us, hl with | [_, _], _ => rfl) x_Twice___init__⟩) (.cons (⟨X23, "name", rfl, PySem.W.mg_of X G xA23, rfl, exk_b (xb := xbRuntime) ⟨⟨_, _, _, _, _, _, _, _, _, _, _, _, _, _, _, xO23, refsT_cs xbRuntime.tl (fun x hx => by cases hx; rfl) []⟩, xS23, xE23, xT23, xK23, okRuntime⟩ xn23_11 (PySem.W.mg_none_of X G z5) rfl (by decide) xi4 xI23 xJ23 xL23 xR23 q_Begins___init__ (Binds.all fun us hl => match us, hl with | [_, _], _ => rfl) x_Begins___init__⟩) (.cons (⟨X24, "place", rfl, PySem.W.mg_of X G xA24, rfl, exk_b (xb := xbRuntime) ⟨⟨_, _, _, _, _, _, _, _, _, _, _, _, _, _, _, xO24, refsT_cs xbRuntime.tl (fun x hx => by cases hx; rfl) []⟩, xS24, xE24, xT24, xK24, okRuntime⟩ xn24_7 (PySem.W.mg_none_of X G z5) rfl (by decide) xi4 xI24 xJ24 xL24 xR24 q_Behind___init__ (Binds.all fun us hl => match us, hl with | [_, _], _ => rfl) x_Behind___init__⟩) (.cons (⟨X25, "place", rfl, PySem.W.mg_of X G xA25, rfl, exk_b (xb := xbRuntime) ⟨⟨_, _, _, _, _, _, _, _, _, _, _, _, _, _, _, xO25, refsT_cs xbRuntime.tl (fun x hx => by cases hx; rfl) []⟩, xS25, xE25, xT25, xK25, okRuntime⟩ xn25_7 (PySem.W.mg_none_of X G z5) rfl (by decide) xi4 xI25 xJ25 xL25 xR25 q_Unfit___init__ (Binds.all fun us hl => match us, hl with | [_, _], _ => rfl) x_Unfit___init__⟩) (.nil)))))))))))))))))))))))))))
  · exact all_ex0 (.cons (⟨X26, xbRuntime, rfl, PySem.W.mg_of X G xA26, ⟨xI26, xK26, okRuntime⟩, rfl⟩) (.nil))
  · exact all_ix (P := fun _ C => ExF K S.attrs C) (.cons (exf_of xG0 xH0 xE0 xD0 xC0 xz0 xz1 xM0 (.cons (xn0_0) (.cons (xn0_1) (.cons (xn0_2) (.cons (xn0_3) (.cons (xn0_4) (.cons (xn0_5) (.cons (xn0_6) (.cons (xn0_7) (.cons (xn0_8) (.cons (xn0_9) (.cons (xn0_10) (.cons (xn0_11) (.cons (xn0_12) (.nil))))))))))))))) (.cons (exf_of xG1 xH1 xE1 xD1 xC1 xz0 xz1 xM1 (.cons (xn1_0) (.cons (xn1_1) (.cons (xn1_2) (.cons (xn1_3) (.cons (xn1_4) (.cons (xn1_5) (.cons (xn1_6) (.cons (xn1_7) (.cons (xn1_8) (.cons (xn1_9) (.cons (xn1_10) (.cons (xn1_11) (.cons (xn1_12) (.nil))))))))))))))) (.cons (exf_of xG2 xH2 xE2 xD2 xC2 xz0 xz1 xM2 (.cons (xn2_0) (.cons (xn2_1) (.cons (xn2_2) (.cons (xn2_3) (.cons (xn2_4) (.cons (xn2_5) (.cons (xn2_6) (.cons (xn2_7) (.cons (xn2_8) (.cons (xn2_9) (.cons (xn2_10) (.cons (xn2_11) (.cons (xn2_12) (.nil))))))))))))))) (.cons (exf_of xG3 xH3 xE3 xD3 xC3 xz0 xz1 xM3 (.cons (xn3_0) (.cons (xn3_1) (.cons (xn3_2) (.cons (xn3_3) (.cons (xn3_4) (.cons (xn3_5) (.cons (xn3_6) (.cons (xn3_7) (.cons (xn3_8) (.cons (xn3_9) (.cons (xn3_10) (.cons (xn3_11) (.cons (xn3_12) (.nil))))))))))))))) (.cons (exf_of xG4 xH4 xE4 xD4 xC4 xz0 xz1 xM4 (.cons (xn4_0) (.cons (xn4_1) (.cons (xn4_2) (.cons (xn4_3) (.cons (xn4_4) (.cons (xn4_5) (.cons (xn4_6) (.cons (xn4_7) (.cons (xn4_8) (.cons (xn4_9) (.cons (xn4_10) (.cons (xn4_11) (.cons (xn4_12) (.nil))))))))))))))) (.cons (exf_of xG5 xH5 xE5 xD5 xC5 xz0 xz1 xM5 (.cons (xn5_0) (.cons (xn5_1) (.cons (xn5_2) (.cons (xn5_3) (.cons (xn5_4) (.cons (xn5_5) (.cons (xn5_6) (.cons (xn5_7) (.cons (xn5_8) (.cons (xn5_9) (.cons (xn5_10) (.cons (xn5_11) (.cons (xn5_12) (.nil))))))))))))))) (.cons (exf_of xG6 xH6 xE6 xD6 xC6 xz0 xz1 xM6 (.cons (xn6_0) (.cons (xn6_1) (.cons (xn6_2) (.cons (xn6_3) (.cons (xn6_4) (.cons (xn6_5) (.cons (xn6_6) (.cons (xn6_7) (.cons (xn6_8) (.cons (xn6_9) (.cons (xn6_10) (.cons (xn6_11) (.cons (xn6_12) (.nil))))))))))))))) (.cons (exf_of xG7 xH7 xE7 xD7 xC7 xz0 xz1 xM7 (.cons (xn7_0) (.cons (xn7_1) (.cons (xn7_2) (.cons (xn7_3) (.cons (xn7_4) (.cons (xn7_5) (.cons (xn7_6) (.cons (xn7_7) (.cons (xn7_8) (.cons (xn7_9) (.cons (xn7_10) (.cons (xn7_11) (.cons (xn7_12) (.nil))))))))))))))) (.cons (exf_of xG8 xH8 xE8 xD8 xC8 xz0 xz1 xM8 (.cons (xn8_0) (.cons (xn8_1) (.cons (xn8_2) (.cons (xn8_3) (.cons (xn8_4) (.cons (xn8_5) (.cons (xn8_6) (.cons (xn8_7) (.cons (xn8_8) (.cons (xn8_9) (.cons (xn8_10) (.cons (xn8_11) (.cons (xn8_12) (.nil))))))))))))))) (.cons (exf_of xG9 xH9 xE9 xD9 xC9 xz0 xz1 xM9 (.cons (xn9_0) (.cons (xn9_1) (.cons (xn9_2) (.cons (xn9_3) (.cons (xn9_4) (.cons (xn9_5) (.cons (xn9_6) (.cons (xn9_7) (.cons (xn9_8) (.cons (xn9_9) (.cons (xn9_10) (.cons (xn9_11) (.cons (xn9_12) (.nil))))))))))))))) (.cons (exf_of xG10 xH10 xE10 xD10 xC10 xz0 xz1 xM10 (.cons (xn10_0) (.cons (xn10_1) (.cons (xn10_2) (.cons (xn10_3) (.cons (xn10_4) (.cons (xn10_5) (.cons (xn10_6) (.cons (xn10_7) (.cons (xn10_8) (.cons (xn10_9) (.cons (xn10_10) (.cons (xn10_11) (.cons (xn10_12) (.nil))))))))))))))) (.cons (exf_of xG11 xH11 xE11 xD11 xC11 xz0 xz1 xM11 (.cons (xn11_0) (.cons (xn11_1) (.cons (xn11_2) (.cons (xn11_3) (.cons (xn11_4) (.cons (xn11_5) (.cons (xn11_6) (.cons (xn11_7) (.cons (xn11_8) (.cons (xn11_9) (.cons (xn11_10) (.cons (xn11_11) (.cons (xn11_12) (.nil))))))))))))))) (.cons (exf_of xG12 xH12 xE12 xD12 xC12 xz0 xz1 xM12 (.cons (xn12_0) (.cons (xn12_1) (.cons (xn12_2) (.cons (xn12_3) (.cons (xn12_4) (.cons (xn12_5) (.cons (xn12_6) (.cons (xn12_7) (.cons (xn12_8) (.cons (xn12_9) (.cons (xn12_10) (.cons (xn12_11) (.cons (xn12_12) (.nil))))))))))))))) (.cons (exf_of xG13 xH13 xE13 xD13 xC13 xz0 xz1 xM13 (.cons (xn13_0) (.cons (xn13_1) (.cons (xn13_2) (.cons (xn13_3) (.cons (xn13_4) (.cons (xn13_5) (.cons (xn13_6) (.cons (xn13_7) (.cons (xn13_8) (.cons (xn13_9) (.cons (xn13_10) (.cons (xn13_11) (.cons (xn13_12) (.nil))))))))))))))) (.cons (exf_of xG14 xH14 xE14 xD14 xC14 xz0 xz1 xM14 (.cons (xn14_0) (.cons (xn14_1) (.cons (xn14_2) (.cons (xn14_3) (.cons (xn14_4) (.cons (xn14_5) (.cons (xn14_6) (.cons (xn14_7) (.cons (xn14_8) (.cons (xn14_9) (.cons (xn14_10) (.cons (xn14_11) (.cons (xn14_12) (.nil))))))))))))))) (.cons (exf_of xG15 xH15 xE15 xD15 xC15 xz0 xz1 xM15 (.cons (xn15_0) (.cons (xn15_1) (.cons (xn15_2) (.cons (xn15_3) (.cons (xn15_4) (.cons (xn15_5) (.cons (xn15_6) (.cons (xn15_7) (.cons (xn15_8) (.cons (xn15_9) (.cons (xn15_10) (.cons (xn15_11) (.cons (xn15_12) (.nil))))))))))))))) (.cons (exf_of xG16 xH16 xE16 xD16 xC16 xz0 xz1 xM16 (.cons (xn16_0) (.cons (xn16_1) (.cons (xn16_2) (.cons (xn16_3) (.cons (xn16_4) (.cons (xn16_5) (.cons (xn16_6) (.cons (xn16_7) (.cons (xn16_8) (.cons (xn16_9) (.cons (xn16_10) (.cons (xn16_11) (.cons (xn16_12) (.nil))))))))))))))) (.cons (exf_of xG17 xH17 xE17 xD17 xC17 xz0 xz1 xM17 (.cons (xn17_0) (.cons (xn17_1) (.cons (xn17_2) (.cons (xn17_3) (.cons (xn17_4) (.cons (xn17_5) (.cons (xn17_6) (.cons (xn17_7) (.cons (xn17_8) (.cons (xn17_9) (.cons (xn17_10) (.cons (xn17_11) (.cons (xn17_12) (.nil))))))))))))))) (.cons (exf_of xG18 xH18 xE18 xD18 xC18 xz0 xz1 xM18 (.cons (xn18_0) (.cons (xn18_1) (.cons (xn18_2) (.cons (xn18_3) (.cons (xn18_4) (.cons (xn18_5) (.cons (xn18_6) (.cons (xn18_7) (.cons (xn18_8) (.cons (xn18_9) (.cons (xn18_10) (.cons (xn18_11) (.cons (xn18_12) (.nil))))))))))))))) (.cons (exf_of xG19 xH19 xE19 xD19 xC19 xz0 xz1 xM19 (.cons (xn19_0) (.cons (xn19_1) (.cons (xn19_2) (.cons (xn19_3) (.cons (xn19_4) (.cons (xn19_5) (.cons (xn19_6) (.cons (xn19_7) (.cons (xn19_8) (.cons (xn19_9) (.cons (xn19_10) (.cons (xn19_11) (.cons (xn19_12) (.nil))))))))))))))) (.cons (exf_of xG20 xH20 xE20 xD20 xC20 xz0 xz1 xM20 (.cons (xn20_0) (.cons (xn20_1) (.cons (xn20_2) (.cons (xn20_3) (.cons (xn20_4) (.cons (xn20_5) (.cons (xn20_6) (.cons (xn20_7) (.cons (xn20_8) (.cons (xn20_9) (.cons (xn20_10) (.cons (xn20_11) (.cons (xn20_12) (.nil))))))))))))))) (.cons (exf_of xG21 xH21 xE21 xD21 xC21 xz0 xz1 xM21 (.cons (xn21_0) (.cons (xn21_1) (.cons (xn21_2) (.cons (xn21_3) (.cons (xn21_4) (.cons (xn21_5) (.cons (xn21_6) (.cons (xn21_7) (.cons (xn21_8) (.cons (xn21_9) (.cons (xn21_10) (.cons (xn21_11) (.cons (xn21_12) (.nil))))))))))))))) (.cons (exf_of xG22 xH22 xE22 xD22 xC22 xz0 xz1 xM22 (.cons (xn22_0) (.cons (xn22_1) (.cons (xn22_2) (.cons (xn22_3) (.cons (xn22_4) (.cons (xn22_5) (.cons (xn22_6) (.cons (xn22_7) (.cons (xn22_8) (.cons (xn22_9) (.cons (xn22_10) (.cons (xn22_11) (.cons (xn22_12) (.nil))))))))))))))) (.cons (exf_of xG23 xH23 xE23 xD23 xC23 xz0 xz1 xM23 (.cons (xn23_0) (.cons (xn23_1) (.cons (xn23_2) (.cons (xn23_3) (.cons (xn23_4) (.cons (xn23_5) (.cons (xn23_6) (.cons (xn23_7) (.cons (xn23_8) (.cons (xn23_9) (.cons (xn23_10) (.cons (xn23_11) (.cons (xn23_12) (.nil))))))))))))))) (.cons (exf_of xG24 xH24 xE24 xD24 xC24 xz0 xz1 xM24 (.cons (xn24_0) (.cons (xn24_1) (.cons (xn24_2) (.cons (xn24_3) (.cons (xn24_4) (.cons (xn24_5) (.cons (xn24_6) (.cons (xn24_7) (.cons (xn24_8) (.cons (xn24_9) (.cons (xn24_10) (.cons (xn24_11) (.cons (xn24_12) (.nil))))))))))))))) (.cons (exf_of xG25 xH25 xE25 xD25 xC25 xz0 xz1 xM25 (.cons (xn25_0) (.cons (xn25_1) (.cons (xn25_2) (.cons (xn25_3) (.cons (xn25_4) (.cons (xn25_5) (.cons (xn25_6) (.cons (xn25_7) (.cons (xn25_8) (.cons (xn25_9) (.cons (xn25_10) (.cons (xn25_11) (.cons (xn25_12) (.nil))))))))))))))) (.cons (exf_of xG26 xH26 xE26 xD26 xC26 xz0 xz1 xM26 (.cons (xn26_0) (.cons (xn26_1) (.cons (xn26_2) (.cons (xn26_3) (.cons (xn26_4) (.cons (xn26_5) (.cons (xn26_6) (.cons (xn26_7) (.cons (xn26_8) (.cons (xn26_9) (.cons (xn26_10) (.cons (xn26_11) (.cons (xn26_12) (.nil))))))))))))))) (.nil))))))))))))))))))))))))))))
  · exact all_mem (.cons (⟨.ref X3, .ref X3, ⟨fun _ q => q, rfl, .inl (PySem.W.mg_of X G xA3)⟩, exm_row (m := 3) MR rfl xE3 xD3 xT3 (by decide +kernel)⟩) (.cons (⟨.ref X2, .ref X2, ⟨fun _ q => q, rfl, .inl (PySem.W.mg_of X G xA2)⟩, exm_row (m := 2) MR rfl xE2 xD2 xT2 (by decide +kernel)⟩) (.cons (⟨.ref X1, .ref X1, ⟨fun _ q => q, rfl, .inl (PySem.W.mg_of X G xA1)⟩, exm_row (m := 1) MR rfl xE1 xD1 xT1 (by decide +kernel)⟩) (.cons (⟨.ref X0, .ref X0, ⟨fun _ q => q, rfl, .inl (PySem.W.mg_of X G xA0)⟩, exm_row (m := 0) MR rfl xE0 xD0 xT0 (by decide +kernel)⟩) (.cons (⟨.ref X7, .ref X7, ⟨fun _ q => q, rfl, .inl (PySem.W.mg_of X G xA7)⟩, exm_row (m := 7) MR rfl xE7 xD7 xT7 (by decide +kernel)⟩) (.cons (⟨.ref X6, .ref X6, ⟨fun _ q => q, rfl, .inl (PySem.W.mg_of X G xA6)⟩, exm_row (m := 6) MR rfl xE6 xD6 xT6 (by decide +kernel)⟩) (.cons (⟨.ref X5, .ref X5, ⟨fun _ q => q, rfl, .inl (PySem.W.mg_of X G xA5)⟩, exm_row (m := 5) MR rfl xE5 xD5 xT5 (by decide +kernel)⟩) (.cons (⟨.ref X4, .ref X4, ⟨fun _ q => q, rfl, .inl (PySem.W.mg_of X G xA4)⟩, exm_row (m := 4) MR rfl xE4 xD4 xT4 (by decide +kernel)⟩) (.cons (⟨.ref X11, .ref X11, ⟨fun _ q => q, rfl, .inl (PySem.W.mg_of X G xA11)⟩, exm_row (m := 11) MR rfl xE11 xD11 xT11 (by decide +kernel)⟩) (.cons (⟨.ref X10, .ref X10, ⟨fun _ q => q, rfl, .inl (PySem.W.mg_of X G xA10)⟩, exm_row (m := 10) MR rfl xE10 xD10 xT10 (by decide +kernel)⟩) (.cons (⟨.ref X9, .ref X9, ⟨fun _ q => q, rfl, .inl (PySem.W.mg_of X G xA9)⟩, exm_row (m := 9) MR rfl xE9 xD9 xT9 (by decide +kernel)⟩) (.cons (⟨.ref X8, .ref X8, ⟨fun _ q => q, rfl, .inl (PySem.W.mg_of X G xA8)⟩, exm_row (m := 8) MR rfl xE8 xD8 xT8 (by decide +kernel)⟩) (.cons (⟨.ref X15, .ref X15, ⟨fun _ q => q, rfl, .inl (PySem.W.mg_of X G xA15)⟩, exm_row (m := 15) MR rfl xE15 xD15 xT15 (by decide +kernel)⟩) (.cons (⟨.ref X14, .ref X14, ⟨fun _ q => q, rfl, .inl (PySem.W.mg_of X G xA14)⟩, exm_row (m := 14) MR rfl xE14 xD14 xT14 (by decide +kernel)⟩) (.cons (⟨.ref X13, .ref X13, ⟨fun _ q => q, rfl, .inl (PySem.W.mg_of X G xA13)⟩, exm_row (m := 13) MR rfl xE13 xD13 xT13 (by decide +kernel)⟩) (.cons (⟨.ref X12, .ref X12, ⟨fun _ q => q, rfl, .inl (PySem.W.mg_of X G xA12)⟩, exm_row (m := 12) MR rfl xE12 xD12 xT12 (by decide +kernel)⟩) (.cons (⟨.ref X19, .ref X19, ⟨fun _ q => q, rfl, .inl (PySem.W.mg_of X G xA19)⟩, exm_row (m := 19) MR rfl xE19 xD19 xT19 (by decide +kernel)⟩) (.cons (⟨.ref X18, .ref X18, ⟨fun _ q => q, rfl, .inl (PySem.W.mg_of X G xA18)⟩, exm_row (m := 18) MR rfl xE18 xD18 xT18 (by decide +kernel)⟩) (.cons (⟨.ref X17, .ref X17, ⟨fun _ q => q, rfl, .inl (PySem.W.mg_of X G xA17)⟩, exm_row (m := 17) MR rfl xE17 xD17 xT17 (by decide +kernel)⟩) (.cons (⟨.ref X16, .ref X16, ⟨fun _ q => q, rfl, .inl (PySem.W.mg_of X G xA16)⟩, exm_row (m := 16) MR rfl xE16 xD16 xT16 (by decide +kernel)⟩) (.cons (⟨.ref X23, .ref X23, ⟨fun _ q => q, rfl, .inl (PySem.W.mg_of X G xA23)⟩, exm_row (m := 23) MR rfl xE23 xD23 xT23 (by decide +kernel)⟩) (.cons (⟨.ref X22, .ref X22, ⟨fun _ q => q, rfl, .inl (PySem.W.mg_of X G xA22)⟩, exm_row (m := 22) MR rfl xE22 xD22 xT22 (by decide +kernel)⟩) (.cons (⟨.ref X21, .ref X21, ⟨fun _ q => q, rfl, .inl (PySem.W.mg_of X G xA21)⟩, exm_row (m := 21) MR rfl xE21 xD21 xT21 (by decide +kernel)⟩) (.cons (⟨.ref X20, .ref X20, ⟨fun _ q => q, rfl, .inl (PySem.W.mg_of X G xA20)⟩, exm_row (m := 20) MR rfl xE20 xD20 xT20 (by decide +kernel)⟩) (.cons (⟨.ref X26, .ref X26, ⟨fun _ q => q, rfl, .inl (PySem.W.mg_of X G xA26)⟩, exm_row (m := 26) MR rfl xE26 xD26 xT26 (by decide +kernel)⟩) (.cons (⟨.ref X25, .ref X25, ⟨fun _ q => q, rfl, .inl (PySem.W.mg_of X G xA25)⟩, exm_row (m := 25) MR rfl xE25 xD25 xT25 (by decide +kernel)⟩) (.cons (⟨.ref X24, .ref X24, ⟨fun _ q => q, rfl, .inl (PySem.W.mg_of X G xA24)⟩, exm_row (m := 24) MR rfl xE24 xD24 xT24 (by decide +kernel)⟩) (.cons (⟨.ty "KeyError", .type "KeyError", ⟨fun _ q => q, rfl, .inr ⟨PySem.W.mg_none_of X G z2, by decide +kernel, by decide⟩⟩, exm_rowT MR (sub_bi (by decide +kernel)) (by decide +kernel) (by decide +kernel)⟩) (.cons (⟨.ty "IndexError", .type "IndexError", ⟨fun _ q => q, rfl, .inr ⟨PySem.W.mg_none_of X G z3, by decide +kernel, by decide⟩⟩, exm_rowT MR (sub_bi (by decide +kernel)) (by decide +kernel) (by decide +kernel)⟩) (.cons (⟨.ty "ValueError", .type "ValueError", ⟨fun _ q => q, rfl, .inr ⟨PySem.W.mg_none_of X G z4, by decide +kernel, by decide⟩⟩, exm_rowT MR (sub_bi (by decide +kernel)) (by decide +kernel) (by decide +kernel)⟩) (.cons (⟨.ref Y0, .ref Y0, ⟨fun _ q => q, rfl, .inl (PySem.W.mg_of X G yA0q)⟩, exm_row (m := 27) MR rfl yE0q yD0q yT0q (by decide +kernel)⟩) (.cons (⟨.ty "RuntimeError", .type "RuntimeError", ⟨fun _ q => q, rfl, .inr ⟨PySem.W.mg_none_of X G z5, by decide +kernel, by decide⟩⟩, exm_rowT MR (sub_bi (by decide +kernel)) (by decide +kernel) (by decide +kernel)⟩) (.cons (⟨.ty "OverflowError", .type "OverflowError", ⟨fun _ q => q, rfl, .inr ⟨PySem.W.mg_none_of X G z6, by decide +kernel, by decide⟩⟩, exm_rowT MR (sub_bi (by decide +kernel)) (by decide +kernel) (by decide +kernel)⟩) (.cons (⟨.ty "LookupError", .type "LookupError", ⟨fun _ q => q, rfl, .inr ⟨PySem.W.mg_none_of X G z7, by decide +kernel, by decide⟩⟩, exm_rowT MR (sub_bi (by decide +kernel)) (by decide +kernel) (by decide +kernel)⟩) (.nil)))))))))))))))))))))))))))))))))))
  · exact all_con (.nil)
end
theorem call__law_cell_at (n : Nat) (ds : List D) (hp : Hq) (Q : QD) (E : QX) : wCall g (n + 1) 0 ds hp Q E = (ds.length = 2 ∧ wSs g (wCall g n) b__law_cell_at (ds.map some ++ List.replicate 0 none) hp { nx := fun _ hp => Q .non hp, bk := fun _ _ => False, ct := fun _ _ => False, rt := Q, ex := fun c i _ hp => E c i hp }) := rfl
theorem call__law_pool (n : Nat) (ds : List D) (hp : Hq) (Q : QD) (E : QX) : wCall g (n + 1) 1 ds hp Q E = (ds.length = 2 ∧ wSs g (wCall g n) b__law_pool (ds.map some ++ List.replicate 2 none) hp { nx := fun _ hp => Q .non hp, bk := fun _ _ => False, ct := fun _ _ => False, rt := Q, ex := fun c i _ hp => E c i hp }) := rfl
theorem call__law_take (n : Nat) (ds : List D) (hp : Hq) (Q : QD) (E : QX) : wCall g (n + 1) 2 ds hp Q E = (ds.length = 2 ∧ wSs g (wCall g n) b__law_take (ds.map some ++ List.replicate 1 none) hp { nx := fun _ hp => Q .non hp, bk := fun _ _ => False, ct := fun _ _ => False, rt := Q, ex := fun c i _ hp => E c i hp }) := rfl
theorem call__law_made (n : Nat) (ds : List D) (hp : Hq) (Q : QD) (E : QX) : wCall g (n + 1) 3 ds hp Q E = (ds.length = 1 ∧ wSs g (wCall g n) b__law_made (ds.map some ++ List.replicate 1 none) hp { nx := fun _ hp => Q .non hp, bk := fun _ _ => False, ct := fun _ _ => False, rt := Q, ex := fun c i _ hp => E c i hp }) := rfl
theorem call__law_fields (n : Nat) (ds : List D) (hp : Hq) (Q : QD) (E : QX) : wCall g (n + 1) 4 ds hp Q E = (ds.length = 1 ∧ wSs g (wCall g n) b__law_fields (ds.map some ++ List.replicate 1 none) hp { nx := fun _ hp => Q .non hp, bk := fun _ _ => False, ct := fun _ _ => False, rt := Q, ex := fun c i _ hp => E c i hp }) := rfl
theorem call__law_kinds (n : Nat) (ds : List D) (hp : Hq) (Q : QD) (E : QX) : wCall g (n + 1) 5 ds hp Q E = (ds.length = 1 ∧ wSs g (wCall g n) b__law_kinds (ds.map some ++ List.replicate 1 none) hp { nx := fun _ hp => Q .non hp, bk := fun _ _ => False, ct := fun _ _ => False, rt := Q, ex := fun c i _ hp => E c i hp }) := rfl
theorem call__law_bases (n : Nat) (ds : List D) (hp : Hq) (Q : QD) (E : QX) : wCall g (n + 1) 6 ds hp Q E = (ds.length = 1 ∧ wSs g (wCall g n) b__law_bases (ds.map some ++ List.replicate 1 none) hp { nx := fun _ hp => Q .non hp, bk := fun _ _ => False, ct := fun _ _ => False, rt := Q, ex := fun c i _ hp => E c i hp }) := rfl
theorem call__law_due_bases (n : Nat) (ds : List D) (hp : Hq) (Q : QD) (E : QX) : wCall g (n + 1) 7 ds hp Q E = (ds.length = 1 ∧ wSs g (wCall g n) b__law_due_bases (ds.map some ++ List.replicate 2 none) hp { nx := fun _ hp => Q .non hp, bk := fun _ _ => False, ct := fun _ _ => False, rt := Q, ex := fun c i _ hp => E c i hp }) := rfl
theorem call__law_raised (n : Nat) (ds : List D) (hp : Hq) (Q : QD) (E : QX) : wCall g (n + 1) 8 ds hp Q E = (ds.length = 1 ∧ wSs g (wCall g n) b__law_raised (ds.map some ++ List.replicate 2 none) hp { nx := fun _ hp => Q .non hp, bk := fun _ _ => False, ct := fun _ _ => False, rt := Q, ex := fun c i _ hp => E c i hp }) := rfl
theorem call_law (n : Nat) (ds : List D) (hp : Hq) (Q : QD) (E : QX) : wCall g (n + 1) 9 ds hp Q E = (ds.length = 1 ∧ wSs g (wCall g n) b_law (ds.map some ++ List.replicate 8 none) hp { nx := fun _ hp => Q .non hp, bk := fun _ _ => False, ct := fun _ _ => False, rt := Q, ex := fun c i _ hp => E c i hp }) := rfl
end T
end MI
set_option maxHeartbeats 4000000
namespace MI.T
open PySem L2 MI
/-! heaps that grow -/
def Grow (a b : Hq) : Prop := ∃ l, b = a ++ l
theorem Grow.refl (a : Hq) : Grow a a := ⟨[], by simp⟩
theorem Grow.app {a l : Hq} : Grow a (a ++ l) := ⟨l, rfl⟩
theorem Grow.trans {a b c : Hq} (h1 : Grow a b) (h2 : Grow b c) : Grow a c := by
  obtain ⟨l, rfl⟩ := h1
  obtain ⟨m, rfl⟩ := h2
  exact ⟨l ++ m, by simp⟩
theorem Grow.get {a b : Hq} (h : Grow a b) {i : Nat} {o : O} (e : a[i]? = some o) : b[i]? = some o := by
  obtain ⟨l, rfl⟩ := h
  exact app_old e
theorem Grow.keep {a b : Hq} {P : Nat → Prop} (h : Grow a b) : Keep P a b := by
  obtain ⟨l, rfl⟩ := h
  exact .app
theorem new_at {a : Hq} {o : O} : (a ++ [o])[a.length]? = some o := by simp
/-! refusals, kept -/
def XAt (hp : Hq) (d : D) (kf : Nat × Nat) (v : D) : Prop := ∃ i j, v = .ref i ∧ hp[i]? = some (.xob kf.1 i j) ∧ hp[j]? = some (.xd kf.1 [(kf.2, d)])
def XA0 (hp : Hq) (k : Nat) (v : D) : Prop := ∃ i, v = .ref i ∧ hp[i]? = some (.xo0 k i)
theorem XAt.grow {a b : Hq} {d : D} {kf : Nat × Nat} {v : D} (h : XAt a d kf v) (g : Grow a b) : XAt b d kf v := by
  obtain ⟨i, j, h1, h2, h3⟩ := h
  exact ⟨i, j, h1, g.get h2, g.get h3⟩
theorem XA0.grow {a b : Hq} {k : Nat} {v : D} (h : XA0 a k v) (g : Grow a b) : XA0 b k v := by
  obtain ⟨i, h1, h2⟩ := h
  exact ⟨i, h1, g.get h2⟩
inductive XAll (hp : Hq) (d : D) : List (Nat × Nat) → List D → Prop
  | nil : XAll hp d [] []
  | cons {kf : Nat × Nat} {v : D} {l : List (Nat × Nat)} {vs : List D} : XAt hp d kf v → XAll hp d l vs → XAll hp d (kf :: l) (v :: vs)
theorem XAll.grow {a b : Hq} {d : D} {l : List (Nat × Nat)} {vs : List D} (h : XAll a d l vs) (g : Grow a b) : XAll b d l vs := by
  induction h with
  | nil => exact .nil
  | cons h _ ih => exact .cons (h.grow g) ih
theorem XAll.app {a : Hq} {d : D} {l m : List (Nat × Nat)} {vs us : List D} (h : XAll a d l vs) (k : XAll a d m us) : XAll a d (l ++ m) (vs ++ us) := by
  induction h with
  | nil => exact k
  | cons h _ ih => exact .cons h ih
theorem XAll.len {a : Hq} {d : D} {l : List (Nat × Nat)} {vs : List D} (h : XAll a d l vs) : vs.length = l.length := by
  induction h with
  | nil => rfl
  | cons h _ ih => simp [ih]
theorem XAll.get {a : Hq} {d : D} {l : List (Nat × Nat)} {vs : List D} (h : XAll a d l vs) : ∀ {i : Nat} {kf : Nat × Nat}, l[i]? = some kf → ∃ v, vs[i]? = some v ∧ XAt a d kf v := by
  induction h with
  | nil => intro i kf e; simp at e
  | cons h _ ih =>
    intro i kf e
    cases i with
    | zero => simp at e; subst e; exact ⟨_, rfl, h⟩
    | succ i => exact ih (by simpa using e)
/-! texts of lists -/
def mkX : List (Nat × Nat) → Exs
  | [] => .nil
  | (k, f) :: r => .cons (.xnew k f (.var 0)) (mkX r)
def fdX : List (Nat × Nat) → Exs
  | [] => .nil
  | (i, f) :: r => .cons (.xfd (.ix (.var 0) (.lit (.int i))) f) (fdX r)
def isX : List (List Bool) → Exs
  | [] => .nil
  | bs :: r => .cons (.isx (.var 0) bs) (isX r)
section
variable {n : Nat} {env : Env} {hp : Hq} {Q : List D → Hq → Prop} {E : QX} {d : D}
theorem mkX_run (he : env[0]? = some (some d)) : ∀ (l : List (Nat × Nat)) (hp : Hq) (Q : List D → Hq → Prop), (∀ ys hp', Grow hp hp' → XAll hp' d l ys → Q ys hp') → wEs g (wCall g n) (mkX l) env hp Q E
  | [], hp, Q, k => k [] hp (.refl _) .nil
  | (c, f) :: r, hp, Q, k => by
    unfold mkX
    simp only [wEs, wE, he]
    refine mkX_run he r _ _ fun ys hp' gr x => ?_
    have g0 : Grow hp (hp ++ [.xd c [(f, d)]] ++ [.xob c (hp.length + 1) hp.length]) := ⟨_, List.append_assoc _ _ _⟩
    refine k _ _ (g0.trans gr) (.cons ⟨hp.length + 1, hp.length, rfl, gr.get ?_, gr.get ?_⟩ x)
    · have := @new_at (hp ++ [.xd c [(f, d)]]) (.xob c (hp.length + 1) hp.length)
      simpa using this
    · exact app_old new_at
theorem fd_of {kf : Nat × Nat} {v : D} (x : XAt hp d kf v) : oXF v kf.2 hp = .ok d hp := by
  obtain ⟨i, j, rfl, h1, h2⟩ := x
  show (match gtX hp i with | some (_, j) => _ | none => _) = _
  have e : gtX hp i = some (kf.1, j) := by
    unfold gtX
    rw [h1]
    simp
  rw [e]
  show (match hp[j]? with | some (.xd _ [(g, d)]) => if g = kf.2 then OutD.ok d hp else .no | _ => .no) = _
  rw [h2]
  show (if kf.2 = kf.2 then _ else _) = _
  rw [if_pos rfl]
theorem fdX_run {p : Nat} {ws : List D} (he : env[0]? = some (some (.ref p))) (hw : hp[p]? = some (.lst ws)) : ∀ (l : List (Nat × Nat)) (Q : List D → Hq → Prop), (∀ x ∈ l, ∃ k v, ws[x.1]? = some v ∧ XAt hp d (k, x.2) v) → Q (List.replicate l.length d) hp → wEs g (wCall g n) (fdX l) env hp Q E
  | [], Q, _, k => k
  | (i, f) :: r, Q, hl, k => by
    obtain ⟨c, v, h1, h2⟩ := hl (i, f) List.mem_cons_self
    have e1 : oIx (.ref p) (.int i) hp = .ok v hp := by
      rw [x_refi]
      simp only [hw]
      rw [oAt_nat, h1]
    unfold fdX
    simp only [wEs, wE, he, e1, a_ok]
    rw [show oXF v f hp = .ok d hp from fd_of h2]
    simp only [a_ok]
    exact fdX_run he hw r _ (fun x hx => hl x (List.mem_cons_of_mem _ hx)) k
theorem is_of {kf : Nat × Nat} {v : D} {bs : List Bool} {b : Bool} (x : XAt hp d kf v) (h : bs[kf.1]? = some b) : oIsX bs v hp = .ok (.bl b) hp := by
  obtain ⟨i, j, rfl, h1, h2⟩ := x
  have e : gtX hp i = some (kf.1, j) := by
    unfold gtX
    rw [h1]
    simp
  unfold oIsX
  simp only [e, h2, h]
theorem is_of0 {c : Nat} {v : D} {bs : List Bool} {b : Bool} (x : XA0 hp c v) (h : bs[c]? = some b) : oIsX bs v hp = .ok (.bl b) hp := by
  obtain ⟨i, rfl, h1⟩ := x
  have e : gtX hp i = none := by
    unfold gtX
    rw [h1]
  have e0 : gtX0 hp i = some c := by
    unfold gtX0
    rw [h1]
    simp
  unfold oIsX
  simp only [e, e0, h]
theorem isX_run {v : D} {c : Nat} (he : env[0]? = some (some v)) (hv : ∀ (bs : List Bool) b, bs[c]? = some b → oIsX bs v hp = .ok (.bl b) hp) : ∀ (l : List (List Bool)) (Q : List D → Hq → Prop), (∀ bs ∈ l, c < bs.length) → Q (l.map fun bs => .bl (bs.getD c false)) hp → wEs g (wCall g n) (isX l) env hp Q E
  | [], Q, _, k => k
  | bs :: r, Q, hl, k => by
    have h1 : bs[c]? = some (bs.getD c false) := by
      rw [List.getD_eq_getElem?_getD, List.getElem?_eq_getElem (hl bs List.mem_cons_self)]
      rfl
    unfold isX
    simp only [wEs, wE, he, hv bs _ h1, a_ok]
    exact isX_run he hv r _ (fun x hx => hl x (List.mem_cons_of_mem _ hx)) k
/-- found + [..] -/
theorem add_run {es : Exs} {P : List D → Hq → Prop} {p : Nat} {xs : List D} {Q : QD} (h1 : env[1]? = some (some (.ref p))) (hx : hp[p]? = some (.lst xs)) (hr : ∀ Q' : List D → Hq → Prop, (∀ ys hp', Grow hp hp' → P ys hp' → Q' ys hp') → wEs g (wCall g n) es env hp Q' E)
    (hb : ∀ ys hp', P ys hp' → xs.length + ys.length ≤ SZ) (k : ∀ q ys hp' hp'', P ys hp' → Grow hp' hp'' → Grow hp hp'' → hp''[q]? = some (.lst (xs ++ ys)) → Q (.ref q) hp'') : wE g (wCall g n) (.bin .add (.var 1) (.lst es)) env hp Q E := by
  simp only [wE, h1]
  refine hr _ fun ys hp' gr pr => ?_
  have e1 : gtL (hp' ++ [O.lst ys]) p = some xs := gtL_of (app_old (gr.get hx))
  have e2 : gtL (hp' ++ [O.lst ys]) hp'.length = some ys := gtL_of new_at
  rw [o_addl]
  simp only [e1, e2, a_cd]
  have g2 : Grow hp' (hp' ++ [O.lst ys] ++ [.lst (xs ++ ys)]) := ⟨_, List.append_assoc _ _ _⟩
  exact ⟨hb _ _ pr, k _ _ _ _ pr g2 (gr.trans g2) new_at⟩
end
def EX : Exs := .cons (.xnew 25 7 (.var 0)) (.cons (.xnw0 26) .nil)
abbrev A0 : List (Nat × Nat) := [(0, 0), (1, 1), (2, 2), (3, 3), (4, 4), (5, 1), (6, 1)]
abbrev A1 : List (Nat × Nat) := [(7, 5), (8, 1), (9, 0), (10, 2), (11, 6), (12, 7)]
abbrev A2 : List (Nat × Nat) := [(13, 8), (14, 9), (15, 7), (16, 10), (17, 11), (18, 11)]
abbrev A3 : List (Nat × Nat) := [(19, 12), (20, 8), (21, 11), (22, 1), (23, 11), (24, 7)]
abbrev A4 : List (Nat × Nat) := [(25, 7)]
abbrev AA : List (Nat × Nat) := A0 ++ A1 ++ A2 ++ A3 ++ A4
theorem b_made_eq : b__law_made = .cons (.asg (.nm 1) (.lst (mkX A0))) (.cons (.asg (.nm 1) (.bin .add (.var 1) (.lst (mkX A1)))) (.cons (.asg (.nm 1) (.bin .add (.var 1) (.lst (mkX A2)))) (.cons (.asg (.nm 1) (.bin .add (.var 1) (.lst (mkX A3))))
  (.cons (.ret (.so (.bin .add (.var 1) (.lst EX)))) .nil)))) := rfl
theorem b_fields_eq : b__law_fields = .cons (.asg (.nm 1) (.lst (fdX A0))) (.cons (.asg (.nm 1) (.bin .add (.var 1) (.lst (fdX A1)))) (.cons (.asg (.nm 1) (.bin .add (.var 1) (.lst (fdX A2)))) (.cons (.asg (.nm 1) (.bin .add (.var 1) (.lst (fdX A3))))
  (.cons (.ret (.so (.bin .add (.var 1) (.lst (fdX A4))))) .nil)))) := rfl
section
variable {n : Nat} {hp : Hq} {K : KS} {es : Exs} {rest : Sts} {a : Option D} {p : Nat} {xs : List D} {P : List D → Hq → Prop} {E : QX}
theorem asg_lst {b : Option D} (hr : ∀ (Q' : List D → Hq → Prop) (E : QX), (∀ ys hp', Grow hp hp' → P ys hp' → Q' ys hp') → wEs g (wCall g n) es [a, b] hp Q' E)
    (k : ∀ q ys hp' hp'', P ys hp' → Grow hp' hp'' → Grow hp hp'' → hp''[q]? = some (.lst ys) → wSs g (wCall g n) rest [a, some (.ref q)] hp'' K) : wSs g (wCall g n) (.cons (.asg (.nm 1) (.lst es)) rest) [a, b] hp K := by
  simp only [wSs, wS, wE]
  refine hr _ _ fun ys hp' gr pr => ?_
  simp only [wTg, List.set_cons_zero, List.set_cons_succ]
  exact k _ _ _ _ pr .app (gr.trans .app) new_at
theorem asg_add (hx : hp[p]? = some (.lst xs)) (hr : ∀ (Q' : List D → Hq → Prop) (E : QX), (∀ ys hp', Grow hp hp' → P ys hp' → Q' ys hp') → wEs g (wCall g n) es [a, some (.ref p)] hp Q' E) (hb : ∀ ys hp', P ys hp' → xs.length + ys.length ≤ SZ)
    (k : ∀ q ys hp' hp'', P ys hp' → Grow hp' hp'' → Grow hp hp'' → hp''[q]? = some (.lst (xs ++ ys)) → wSs g (wCall g n) rest [a, some (.ref q)] hp'' K) : wSs g (wCall g n) (.cons (.asg (.nm 1) (.bin .add (.var 1) (.lst es))) rest) [a, some (.ref p)] hp K := by
  simp only [wSs, wS]
  refine add_run (P := P) rfl hx (fun Q' => hr Q' _) hb fun q ys hp' hp'' p1 g1 g2 h => ?_
  simp only [wTg, List.set_cons_zero, List.set_cons_succ]
  exact k _ _ _ _ p1 g1 g2 h
theorem ret_add (hx : hp[p]? = some (.lst xs)) (hr : ∀ (Q' : List D → Hq → Prop) (E : QX), (∀ ys hp', Grow hp hp' → P ys hp' → Q' ys hp') → wEs g (wCall g n) es [a, some (.ref p)] hp Q' E) (hb : ∀ ys hp', P ys hp' → xs.length + ys.length ≤ SZ)
    (k : ∀ q ys hp' hp'', P ys hp' → Grow hp' hp'' → Grow hp hp'' → hp''[q]? = some (.lst (xs ++ ys)) → K.rt (.ref q) hp'') : wSs g (wCall g n) (.cons (.ret (.so (.bin .add (.var 1) (.lst es)))) rest) [a, some (.ref p)] hp K := by
  simp only [wSs, wS, wEo]
  refine add_run (P := P) rfl hx (fun Q' => hr Q' _) hb fun q ys hp' hp'' p1 g1 g2 h => ?_
  simp only [Option.getD_some]
  exact k _ _ _ _ p1 g1 g2 h
end
section
variable {n : Nat} {hp : Hq} {Q : QD} {E : QX} {d : D}
theorem EX_run {env : Env} (he : env[0]? = some (some d)) (Q : List D → Hq → Prop) (E : QX) (k : ∀ ys hp', Grow hp hp' → (∃ v w, ys = [v, w] ∧ XAt hp' d (25, 7) v ∧ XA0 hp' 26 w) → Q ys hp') : wEs g (wCall g n) EX env hp Q E := by
  unfold EX
  simp only [wEs, wE, he]
  have g0 : Grow hp (hp ++ [O.xd 25 [(7, d)]] ++ [O.xob 25 (hp.length + 1) hp.length] ++ [O.xo0 26 (hp ++ [O.xd 25 [(7, d)]] ++ [O.xob 25 (hp.length + 1) hp.length]).length]) := ⟨[O.xd 25 [(7, d)], O.xob 25 (hp.length + 1) hp.length, O.xo0 26 (hp ++ [O.xd 25 [(7, d)]] ++ [O.xob 25 (hp.length + 1) hp.length]).length], by simp⟩
  refine k _ _ g0 ⟨_, _, rfl, ⟨hp.length + 1, hp.length, rfl, ?_, ?_⟩, ⟨_, rfl, new_at⟩⟩
  · refine app_old ?_
    have := @new_at (hp ++ [.xd 25 [(7, d)]]) (.xob 25 (hp.length + 1) hp.length)
    simpa using this
  · exact app_old (app_old new_at)
theorem made_run (k : ∀ q vs v hp', Grow hp hp' → hp'[q]? = some (.lst (vs ++ [v])) → XAll hp' d AA vs → XA0 hp' 26 v → Q (.ref q) hp') : wCall g (n + 1) 3 [d] hp Q E := by
  rw [call__law_made]
  refine ⟨rfl, ?_⟩
  rw [b_made_eq]
  generalize H0 : mkX A0 = s0
  generalize H1 : mkX A1 = s1
  generalize H2 : mkX A2 = s2
  generalize H3 : mkX A3 = s3
  generalize H4 : EX = s4
  refine asg_lst (P := fun ys h => XAll h d A0 ys) (fun Q' E h => by rw [← H0]; exact mkX_run rfl A0 _ _ h) fun q0 y0 i0 h0 x0 g0 G0 e0 => ?_
  have x0 := x0.grow g0
  have l0 := x0.len
  refine asg_add (P := fun ys h => XAll h d A1 ys) e0 (fun Q' E h => by rw [← H1]; exact mkX_run rfl A1 _ _ h) (fun ys _ p => by have := p.len; simp only [A0, A1, List.length_cons, List.length_nil] at this l0; simp only [SZ]; omega) fun q1 y1 i1 h1 x1 g1 G1 e1 => ?_
  have x1 := (x0.grow G1).app (x1.grow g1)
  have l1 := x1.len
  refine asg_add (P := fun ys h => XAll h d A2 ys) e1 (fun Q' E h => by rw [← H2]; exact mkX_run rfl A2 _ _ h) (fun ys _ p => by have := p.len; simp only [A0, A1, A2, List.length_append, List.length_cons, List.length_nil] at this l1 ⊢; simp only [SZ]; omega) fun q2 y2 i2 h2 x2 g2 G2 e2 => ?_
  have x2 := (x1.grow G2).app (x2.grow g2)
  have l2 := x2.len
  refine asg_add (P := fun ys h => XAll h d A3 ys) e2 (fun Q' E h => by rw [← H3]; exact mkX_run rfl A3 _ _ h) (fun ys _ p => by have := p.len; simp only [A0, A1, A2, A3, List.length_append, List.length_cons, List.length_nil] at this l2 ⊢; simp only [SZ]; omega) fun q3 y3 i3 h3 x3 g3 G3 e3 => ?_
  have x3 := (x2.grow G3).app (x3.grow g3)
  have l3 := x3.len
  refine ret_add (P := fun ys h => ∃ v w, ys = [v, w] ∧ XAt h d (25, 7) v ∧ XA0 h 26 w) e3 (fun Q' E h => by rw [← H4]; exact EX_run rfl Q' E h) (fun ys _ p => by
    obtain ⟨v, w, rfl, _⟩ := p
    simp only [A0, A1, A2, A3, List.length_append, List.length_cons, List.length_nil] at l3 ⊢
    simp only [SZ]
    omega) fun q4 y4 i4 h4 x4 g4 G4 e4 => ?_
  obtain ⟨v, w, rfl, x4, z4⟩ := x4
  refine k q4 (y0 ++ y1 ++ y2 ++ y3 ++ [v]) w h4 (G0.trans (G1.trans (G2.trans (G3.trans G4)))) (by rw [e4]; simp) ((x3.grow G4).app (.cons (x4.grow g4) .nil)) (z4.grow g4)
end
end MI.T
set_option maxHeartbeats 4000000
namespace MI.T
open PySem L2 MI
theorem itRng_nx {n : Int} {m : Nat} {j : Nat} {hp : Hq} (e : n = (m : Int)) (hj : j < m) : (itRng 0 n).nx j hp = some (some (.int j)) := by
  subst e
  show some (if (j : Int) < (m : Int) - 0 then some (D.int (0 + (j : Int))) else none) = _
  rw [if_pos (by omega), Int.zero_add]
theorem itRng_end {n : Int} {m : Nat} {hp : Hq} (e : n = (m : Int)) : (itRng 0 n).nx m hp = some none := by
  subst e
  show some (if (m : Int) < (m : Int) - 0 then some (D.int (0 + (m : Int))) else none) = _
  rw [if_neg (by omega)]
theorem allA : ∀ x ∈ AA, AA[x.1]? = some x := by decide +kernel
section
variable {n : Nat} {hp : Hq} {Q : QD} {E : QX} {d v : D}
theorem fd_hyp {p : Nat} {vs : List D} (x : XAll hp d AA vs) (l : List (Nat × Nat)) (hl : ∀ y ∈ l, y ∈ AA) : ∀ y ∈ l, ∃ k w, (vs ++ [v])[y.1]? = some w ∧ XAt hp d (k, y.2) w := fun y hy => by
  obtain ⟨w, h1, h2⟩ := x.get (allA y (hl y hy))
  refine ⟨y.1, w, ?_, h2⟩
  rw [List.getElem?_append_left (List.getElem?_eq_some_iff.mp h1).1]
  exact h1
theorem fields_run {p : Nat} {vs : List D} (hw : hp[p]? = some (.lst (vs ++ [v]))) (x : XAll hp d AA vs) (k : ∀ q hp', Grow hp hp' → hp'[q]? = some (.lst (List.replicate 26 d)) → Q (.ref q) hp') : wCall g (n + 1) 4 [.ref p] hp Q E := by
  rw [call__law_fields]
  refine ⟨rfl, ?_⟩
  rw [b_fields_eq]
  generalize H0 : fdX A0 = s0
  generalize H1 : fdX A1 = s1
  generalize H2 : fdX A2 = s2
  generalize H3 : fdX A3 = s3
  generalize H4 : fdX A4 = s4
  have run : ∀ (l : List (Nat × Nat)) (hl : ∀ y ∈ l, y ∈ AA) (env : Env) (he : env[0]? = some (some (.ref p))) (h0 : Hq) (g0 : Grow hp h0) (Q' : List D → Hq → Prop) (E : QX), (∀ ys hp', Grow h0 hp' → ys = List.replicate l.length d → Q' ys hp') → wEs g (wCall g n) (fdX l) env h0 Q' E := fun l hl env he h0 g0 Q' E h =>
    fdX_run he (g0.get hw) l Q' (fd_hyp (p := p) (x.grow g0) l hl) (h _ _ (.refl _) rfl)
  refine asg_lst (P := fun ys h => ys = List.replicate A0.length d) (fun Q' E h => by rw [← H0]; exact run A0 (by decide +kernel) _ rfl _ (.refl _) Q' E h) fun q0 y0 i0 h0 x0 g0 G0 e0 => ?_
  subst x0
  refine asg_add (P := fun ys h => ys = List.replicate A1.length d) e0 (fun Q' E h => by rw [← H1]; exact run A1 (by decide +kernel) _ rfl _ G0 Q' E h) (fun ys _ p => by subst p; simp [SZ]) fun q1 y1 i1 h1 x1 g1 G1 e1 => ?_
  subst x1
  refine asg_add (P := fun ys h => ys = List.replicate A2.length d) e1 (fun Q' E h => by rw [← H2]; exact run A2 (by decide +kernel) _ rfl _ (G0.trans G1) Q' E h) (fun ys _ p => by subst p; simp [SZ]) fun q2 y2 i2 h2 x2 g2 G2 e2 => ?_
  subst x2
  refine asg_add (P := fun ys h => ys = List.replicate A3.length d) e2 (fun Q' E h => by rw [← H3]; exact run A3 (by decide +kernel) _ rfl _ ((G0.trans G1).trans G2) Q' E h) (fun ys _ p => by subst p; simp [SZ]) fun q3 y3 i3 h3 x3 g3 G3 e3 => ?_
  subst x3
  refine ret_add (P := fun ys h => ys = List.replicate A4.length d) e3 (fun Q' E h => by rw [← H4]; exact run A4 (by decide +kernel) _ rfl _ (((G0.trans G1).trans G2).trans G3) Q' E h) (fun ys _ p => by subst p; simp [SZ]) fun q4 y4 i4 h4 x4 g4 G4 e4 => ?_
  subst x4
  exact k q4 h4 ((((G0.trans G1).trans G2).trans G3).trans G4) e4
end
/-! what each is asked -/
def kr (m : Nat) : List Bool := (List.range 27).map fun k => k == m
def br (p : Nat → Bool) : List Bool := (List.range 27).map p
def b0 : List (List Bool) := [br fun k => decide (k < 12), br fun k => decide (k < 12), br fun k => decide (12 ≤ k ∧ k < 14), br fun k => decide (16 ≤ k ∧ k < 19)]
def b1 : List (List Bool) := [br fun k => decide (12 ≤ k ∧ k < 19), br fun k => k == 19, br fun k => decide (20 ≤ k)]
theorem b_kinds_eq : b__law_kinds = .cons (.asg (.nm 1) (.lst (isX [kr 0, kr 1, kr 2, kr 3]))) (.cons (.asg (.nm 1) (.bin .add (.var 1) (.lst (isX [kr 4, kr 5, kr 6, kr 7])))) (.cons (.asg (.nm 1) (.bin .add (.var 1) (.lst (isX [kr 8, kr 9, kr 10, kr 11]))))
  (.cons (.asg (.nm 1) (.bin .add (.var 1) (.lst (isX [kr 12, kr 13, kr 14, kr 15])))) (.cons (.asg (.nm 1) (.bin .add (.var 1) (.lst (isX [kr 16, kr 17, kr 18, kr 19])))) (.cons (.asg (.nm 1) (.bin .add (.var 1) (.lst (isX [kr 20, kr 21, kr 22, kr 23]))))
  (.cons (.ret (.so (.bin .add (.var 1) (.lst (isX [kr 24, kr 25, kr 26]))))) .nil)))))) := rfl
theorem b_bases_eq : b__law_bases = .cons (.asg (.nm 1) (.lst (isX b0))) (.cons (.ret (.so (.bin .add (.var 1) (.lst (isX b1))))) .nil) := rfl
def KR : List (List Bool) := [kr 0, kr 1, kr 2, kr 3] ++ [kr 4, kr 5, kr 6, kr 7] ++ [kr 8, kr 9, kr 10, kr 11] ++ [kr 12, kr 13, kr 14, kr 15] ++ [kr 16, kr 17, kr 18, kr 19] ++ [kr 20, kr 21, kr 22, kr 23] ++ [kr 24, kr 25, kr 26]
def BR : List (List Bool) := b0 ++ b1
def col (c : Nat) (l : List (List Bool)) : List D := l.map fun bs => .bl (bs.getD c false)
section
variable {n : Nat} {hp : Hq} {Q : QD} {E : QX} {v : D} {c : Nat}
/-- v is of the c-th class -/
def Asked (hp : Hq) (c : Nat) (v : D) : Prop := ∀ hp', Grow hp hp' → ∀ (bs : List Bool) b, bs[c]? = some b → oIsX bs v hp' = .ok (.bl b) hp'
theorem len_kr {m : Nat} : (kr m).length = 27 := by simp [kr]
theorem kinds_run (hc : c < 27) (hv : Asked hp c v) (k : ∀ q hp', Grow hp hp' → hp'[q]? = some (.lst (col c KR)) → Q (.ref q) hp') : wCall g (n + 1) 5 [v] hp Q E := by
  rw [call__law_kinds]
  refine ⟨rfl, ?_⟩
  rw [b_kinds_eq]
  have run : ∀ (l : List (List Bool)) (hl : ∀ bs ∈ l, ∃ m, bs = kr m) (env : Env) (he : env[0]? = some (some v)) (h0 : Hq) (g0 : Grow hp h0) (Q' : List D → Hq → Prop) (E : QX), (∀ ys hp', Grow h0 hp' → ys = col c l → Q' ys hp') → wEs g (wCall g n) (isX l) env h0 Q' E := fun l hl env he h0 g0 Q' E h =>
    isX_run he (hv h0 g0) l Q' (fun bs hb => by obtain ⟨m, rfl⟩ := hl bs hb; rw [len_kr]; exact hc) (h _ _ (.refl _) rfl)
  generalize H0 : isX [kr 0, kr 1, kr 2, kr 3] = s0
  generalize H1 : isX [kr 4, kr 5, kr 6, kr 7] = s1
  generalize H2 : isX [kr 8, kr 9, kr 10, kr 11] = s2
  generalize H3 : isX [kr 12, kr 13, kr 14, kr 15] = s3
  generalize H4 : isX [kr 16, kr 17, kr 18, kr 19] = s4
  generalize H5 : isX [kr 20, kr 21, kr 22, kr 23] = s5
  generalize H6 : isX [kr 24, kr 25, kr 26] = s6
  have all4 : ∀ a b c d : Nat, ∀ bs ∈ [kr a, kr b, kr c, kr d], ∃ m, bs = kr m := fun a b c d bs h => by
    simp only [List.mem_cons, List.not_mem_nil, or_false] at h
    rcases h with h | h | h | h <;> exact ⟨_, h⟩
  have all3 : ∀ a b c : Nat, ∀ bs ∈ [kr a, kr b, kr c], ∃ m, bs = kr m := fun a b c bs h => by
    simp only [List.mem_cons, List.not_mem_nil, or_false] at h
    rcases h with h | h | h <;> exact ⟨_, h⟩
  have sz : ∀ (l m : List (List Bool)), l.length ≤ 100 → m.length ≤ 100 → (col c l).length + (col c m).length ≤ SZ := fun l m h1 h2 => by simp only [col, List.length_map, SZ]; omega
  refine asg_lst (P := fun ys h => ys = col c [kr 0, kr 1, kr 2, kr 3]) (fun Q' E h => by rw [← H0]; exact run _ (all4 _ _ _ _) _ rfl _ (.refl _) Q' E h) fun q0 y0 i0 h0 x0 g0 G0 e0 => ?_
  subst x0
  refine asg_add (P := fun ys h => ys = col c [kr 4, kr 5, kr 6, kr 7]) e0 (fun Q' E h => by rw [← H1]; exact run _ (all4 _ _ _ _) _ rfl _ G0 Q' E h) (fun ys _ p => by subst p; simp [SZ, col]) fun q1 y1 i1 h1 x1 g1 G1 e1 => ?_
  subst x1
  have G1 := G0.trans G1
  refine asg_add (P := fun ys h => ys = col c [kr 8, kr 9, kr 10, kr 11]) e1 (fun Q' E h => by rw [← H2]; exact run _ (all4 _ _ _ _) _ rfl _ G1 Q' E h) (fun ys _ p => by subst p; simp [SZ, col]) fun q2 y2 i2 h2 x2 g2 G2 e2 => ?_
  subst x2
  have G2 := G1.trans G2
  refine asg_add (P := fun ys h => ys = col c [kr 12, kr 13, kr 14, kr 15]) e2 (fun Q' E h => by rw [← H3]; exact run _ (all4 _ _ _ _) _ rfl _ G2 Q' E h) (fun ys _ p => by subst p; simp [SZ, col]) fun q3 y3 i3 h3 x3 g3 G3 e3 => ?_
  subst x3
  have G3 := G2.trans G3
  refine asg_add (P := fun ys h => ys = col c [kr 16, kr 17, kr 18, kr 19]) e3 (fun Q' E h => by rw [← H4]; exact run _ (all4 _ _ _ _) _ rfl _ G3 Q' E h) (fun ys _ p => by subst p; simp [SZ, col]) fun q4 y4 i4 h4 x4 g4 G4 e4 => ?_
  subst x4
  have G4 := G3.trans G4
  refine asg_add (P := fun ys h => ys = col c [kr 20, kr 21, kr 22, kr 23]) e4 (fun Q' E h => by rw [← H5]; exact run _ (all4 _ _ _ _) _ rfl _ G4 Q' E h) (fun ys _ p => by subst p; simp [SZ, col]) fun q5 y5 i5 h5 x5 g5 G5 e5 => ?_
  subst x5
  have G5 := G4.trans G5
  refine ret_add (P := fun ys h => ys = col c [kr 24, kr 25, kr 26]) e5 (fun Q' E h => by rw [← H6]; exact run _ (all3 _ _ _) _ rfl _ G5 Q' E h) (fun ys _ p => by subst p; simp [SZ, col]) fun q6 y6 i6 h6 x6 g6 G6 e6 => ?_
  subst x6
  refine k q6 h6 (G5.trans G6) ?_
  rw [e6]
  simp only [col, KR, List.map_append]
theorem len_br {p : Nat → Bool} : (br p).length = 27 := by simp [br]
theorem bases_run (hc : c < 27) (hv : Asked hp c v) (k : ∀ q hp', Grow hp hp' → hp'[q]? = some (.lst (col c BR)) → Q (.ref q) hp') : wCall g (n + 1) 6 [v] hp Q E := by
  rw [call__law_bases]
  refine ⟨rfl, ?_⟩
  rw [b_bases_eq]
  have run : ∀ (l : List (List Bool)) (hl : ∀ bs ∈ l, ∃ m, bs = br m) (env : Env) (he : env[0]? = some (some v)) (h0 : Hq) (g0 : Grow hp h0) (Q' : List D → Hq → Prop) (E : QX), (∀ ys hp', Grow h0 hp' → ys = col c l → Q' ys hp') → wEs g (wCall g n) (isX l) env h0 Q' E := fun l hl env he h0 g0 Q' E h =>
    isX_run he (hv h0 g0) l Q' (fun bs hb => by obtain ⟨m, rfl⟩ := hl bs hb; rw [len_br]; exact hc) (h _ _ (.refl _) rfl)
  generalize H0 : isX b0 = s0
  generalize H1 : isX b1 = s1
  refine asg_lst (P := fun ys h => ys = col c b0) (fun Q' E h => by
    rw [← H0]
    refine run _ (fun bs h => ?_) _ rfl _ (.refl _) Q' E h
    simp only [b0, List.mem_cons, List.not_mem_nil, or_false] at h
    rcases h with h | h | h | h <;> exact ⟨_, h⟩) fun q0 y0 i0 h0 x0 g0 G0 e0 => ?_
  subst x0
  refine ret_add (P := fun ys h => ys = col c b1) e0 (fun Q' E h => by
    rw [← H1]
    refine run _ (fun bs h => ?_) _ rfl _ G0 Q' E h
    simp only [b1, List.mem_cons, List.not_mem_nil, or_false] at h
    rcases h with h | h | h <;> exact ⟨_, h⟩) (fun ys _ p => by subst p; simp [SZ, col, b0, b1]) fun q1 y1 i1 h1 x1 g1 G1 e1 => ?_
  subst x1
  refine k q1 h1 (G0.trans G1) ?_
  rw [e1]
  simp only [col, BR, List.map_append]
end
end MI.T
set_option maxHeartbeats 4000000
namespace MI.T
open PySem L2 MI
/-! the due bases -/
def DueAt (hp : Hq) (ns : List Int) (v : D) : Prop := ∃ a, v = .ref a ∧ hp[a]? = some (.lst (ns.map D.int))
inductive DueAll (hp : Hq) : List (List Int) → List D → Prop
  | nil : DueAll hp [] []
  | cons {ns : List Int} {v : D} {l : List (List Int)} {vs : List D} : DueAt hp ns v → DueAll hp l vs → DueAll hp (ns :: l) (v :: vs)
section
variable {a b : Hq} {ns : List Int} {v : D} {l m : List (List Int)} {vs us : List D}
theorem DueAt.grow (h : DueAt a ns v) (g : Grow a b) : DueAt b ns v := by
  obtain ⟨i, h1, h2⟩ := h
  exact ⟨i, h1, g.get h2⟩
theorem DueAll.grow (h : DueAll a l vs) (g : Grow a b) : DueAll b l vs := by
  induction h with
  | nil => exact .nil
  | cons h _ ih => exact .cons (h.grow g) ih
theorem DueAll.app (h : DueAll a l vs) (k : DueAll a m us) : DueAll a (l ++ m) (vs ++ us) := by
  induction h with
  | nil => exact k
  | cons h _ ih => exact .cons h ih
theorem DueAll.len (h : DueAll a l vs) : vs.length = l.length := by
  induction h with
  | nil => rfl
  | cons h _ ih => simp [ih]
theorem DueAll.rep (h : DueAt a ns v) : ∀ n, DueAll a (List.replicate n ns) (List.replicate n [v]).flatten
  | 0 => .nil
  | n + 1 => by
    rw [List.replicate_succ, List.replicate_succ, List.flatten_cons]
    exact .cons h (DueAll.rep h n)
theorem DueAll.get (h : DueAll a l vs) : ∀ {i : Nat} {ns : List Int}, l[i]? = some ns → ∃ v, vs[i]? = some v ∧ DueAt a ns v := by
  induction h with
  | nil => intro i kf e; simp at e
  | cons h _ ih =>
    intro i kf e
    cases i with
    | zero => simp at e; subst e; exact ⟨_, rfl, h⟩
    | succ i => exact ih (by simpa using e)
end
def lits : List Int → Exs
  | [] => .nil
  | i :: r => .cons (.lit (.int i)) (lits r)
def one (ns : List Int) : Ex := .lst (.cons (.lst (lits ns)) .nil)
section
variable {n : Nat}
theorem lits_run {env : Env} {hp : Hq} {E : QX} : ∀ (ns : List Int) (Q : List D → Hq → Prop), Q (ns.map D.int) hp → wEs g (wCall g n) (lits ns) env hp Q E
  | [], Q, h => h
  | i :: r, Q, h => by
    unfold lits
    simp only [wEs, wE]
    exact lits_run r _ h
def Mk (n : Nat) (e : Ex) (l : List (List Int)) : Prop := ∀ (env : Env) (hp : Hq) (Q : QD) (E : QX), (∀ p ws hp', Grow hp hp' → hp'[p]? = some (.lst ws) → DueAll hp' l ws → Q (.ref p) hp') → wE g (wCall g n) e env hp Q E
theorem mk_one (ns : List Int) : Mk n (one ns) [ns] := fun env hp Q E k => by
  unfold one
  simp only [wE, wEs]
  refine lits_run ns _ ?_
  have g2 : Grow hp (hp ++ [O.lst (ns.map D.int)] ++ [.lst [.ref hp.length]]) := ⟨_, List.append_assoc _ _ _⟩
  exact k _ _ _ g2 new_at (.cons ⟨hp.length, rfl, app_old new_at⟩ .nil)
theorem mk_mul (ns : List Int) (m : Nat) (hm : m < 1000) : Mk n (.bin .mul (one ns) (.lit (.int m))) (List.replicate m ns) := fun env hp Q E k => by
  unfold one
  simp only [wE, wEs]
  refine lits_run ns _ ?_
  have e1 : gtL (hp ++ [O.lst (ns.map D.int)] ++ [.lst [.ref hp.length]]) (hp ++ [O.lst (ns.map D.int)]).length = some [.ref hp.length] := gtL_of new_at
  rw [o_mull]
  simp only [e1, a_cd]
  have g2 : Grow hp (hp ++ [O.lst (ns.map D.int)] ++ [.lst [.ref hp.length]] ++ [.lst (List.replicate m [D.ref hp.length]).flatten]) := ⟨[O.lst (ns.map D.int), .lst [.ref hp.length], .lst (List.replicate m [D.ref hp.length]).flatten], by simp⟩
  refine ⟨⟨by omega, by omega, ?_⟩, k _ _ _ g2 new_at (DueAll.rep ⟨hp.length, rfl, app_old (app_old new_at)⟩ m)⟩
  simp only [List.length_cons, List.length_nil, Int.toNat_natCast, SZ]
  omega
theorem mk_add {e1 e2 : Ex} {l1 l2 : List (List Int)} (h1 : Mk n e1 l1) (h2 : Mk n e2 l2) (hb : l1.length + l2.length ≤ 1000) : Mk n (.bin .add e1 e2) (l1 ++ l2) := fun env hp Q E k => by
  simp only [wE]
  refine h1 _ _ _ _ fun p ws hp1 g1 a1 d1 => ?_
  refine h2 _ _ _ _ fun q us hp2 g2 a2 d2 => ?_
  have e1 : gtL hp2 p = some ws := gtL_of (g2.get a1)
  have e2 : gtL hp2 q = some us := gtL_of a2
  rw [o_addl]
  simp only [e1, e2, a_cd]
  refine ⟨?_, k _ _ _ ((g1.trans g2).trans .app) new_at (((d1.grow g2).app d2).grow .app)⟩
  rw [d1.len, d2.len]
  simp only [SZ]
  omega
end
def DU : List (List Int) := List.replicate 12 [0, 1] ++ List.replicate 2 [2, 4] ++ List.replicate 2 [4] ++ List.replicate 3 [3, 4] ++ [[5]] ++ List.replicate 7 [6]
def dueE : Ex := .bin .add (.bin .add (.bin .add (.bin .add (.bin .add (.bin .mul (one [0, 1]) (.lit (.int (12 : Nat)))) (.bin .mul (one [2, 4]) (.lit (.int (2 : Nat))))) (.bin .mul (one [4]) (.lit (.int (2 : Nat))))) (.bin .mul (one [3, 4]) (.lit (.int (3 : Nat))))) (one [5])) (.bin .mul (one [6]) (.lit (.int (7 : Nat))))
theorem b_due_eq : b__law_due_bases = .cons (.asg (.nm 1) dueE) (.cons (.ret (.so (.lc [2] (.nm 2) (.rng1 (.lit (.int 7))) .no (.cmp .isin (.var 2) (.ix (.var 1) (.var 0)))))) .nil) := rfl
theorem mk_due {n : Nat} : Mk n dueE DU := mk_add (mk_add (mk_add (mk_add (mk_add (mk_mul _ 12 (by decide)) (mk_mul _ 2 (by decide)) (by decide)) (mk_mul _ 2 (by decide)) (by decide)) (mk_mul _ 3 (by decide)) (by decide)) (mk_one _) (by decide)) (mk_mul _ 7 (by decide)) (by decide)
def dueB (ns : List Int) (m : Nat) : List D := (List.range m).map fun (k : Nat) => .bl (decide ((k : Int) ∈ ns))
section
variable {n : Nat} {hp : Hq} {Q : QD} {E : QX} {d : D}
theorem due_run {c : Nat} {ns : List Int} (hc : DU[c]? = some ns) (k : ∀ q hp', Grow hp hp' → hp'[q]? = some (.lst (dueB ns 7)) → Q (.ref q) hp') : wCall g (n + 1) 7 [.int c] hp Q E := by
  rw [call__law_due_bases]
  refine ⟨rfl, ?_⟩
  rw [b_due_eq]
  generalize H : dueE = s
  simp only [wSs, wS, wE, wEo]
  rw [← H]
  refine mk_due _ _ _ _ fun p ws h1 g1 a1 d1 => ?_
  obtain ⟨v, w1, a, rfl, w2⟩ := d1.get hc
  simp only [wTg, wIt, wE, List.map_cons, List.map_nil, List.cons_append, List.nil_append, List.replicate, List.set_cons_zero, List.set_cons_succ]
  refine ⟨⟨by decide, by decide⟩, ?_⟩
  refine lc_run 7 (fun i acc hp => i ≤ 7 ∧ hp = h1 ∧ acc = dueB ns i) (fun j acc hp kn hj hI h1' h2 => ?_) (fun j acc hp hI => ?_) (fun acc hp hI => ?_) ⟨by decide, rfl, rfl⟩
  · obtain ⟨_, rfl, rfl⟩ := hI
    refine ⟨_, itRng_nx (m := 7) rfl hj, ?_⟩
    have e1 : oIx (.ref p) (.int c) hp = .ok (.ref a) hp := by
      rw [x_refi]
      simp only [a1]
      rw [oAt_nat, w1]
    simp only [wipeE, wTg, wEo, wE, List.set_cons_zero, List.set_cons_succ, List.getElem?_cons_zero, List.getElem?_cons_succ, e1, a_ok, c_in, in_ints w2, v_cd, a_cd, Bool.false_eq_true, if_false]
    refine ⟨⟨sh_int _, sh_ints _⟩, h2 _ _ ⟨by omega, rfl, ?_⟩⟩
    simp only [dueB, List.range_succ, List.map_append, List.map_cons, List.map_nil]
  · obtain ⟨h7, _, rfl⟩ := hI
    simp only [dueB, List.length_map, List.length_range, SZ]
    omega
  · obtain ⟨_, rfl, rfl⟩ := hI
    refine ⟨itRng_end rfl, ?_⟩
    exact k _ _ (g1.trans .app) new_at
/-- what is shown of d stays so -/
def RP (hp : Hq) (d : D) : Prop := ∃ (C : Prop) (s : Str), C ∧ ∀ hp', Grow hp hp' → oBF .repr [d] hp' = .cd C (.str s) hp'
theorem RP.grow {a b : Hq} (h : RP a d) (g : Grow a b) : RP b d := by
  obtain ⟨C, s, c, h⟩ := h
  exact ⟨C, s, c, fun hp' g' => h hp' (g.trans g')⟩
theorem raised_run (r : RP hp d) (k : ∀ hp', Grow hp hp' → Q (.bl true) hp') : wCall g (n + 1) 8 [d] hp Q E := by
  obtain ⟨C, s, c, r⟩ := r
  rw [call__law_raised]
  refine ⟨rfl, ?_⟩
  unfold b__law_raised
  have g2 : Grow hp (hp ++ [O.xd 2 [(2, d)]] ++ [O.xob 2 (hp ++ [O.xd 2 [(2, d)]]).length hp.length]) := ⟨_, List.append_assoc _ _ _⟩
  have e1 : oXF (.ref (hp ++ [O.xd 2 [(2, d)]]).length) 2 (hp ++ [O.xd 2 [(2, d)]] ++ [O.xob 2 (hp ++ [O.xd 2 [(2, d)]]).length hp.length]) = .ok d (hp ++ [O.xd 2 [(2, d)]] ++ [O.xob 2 (hp ++ [O.xd 2 [(2, d)]]).length hp.length]) :=
    fd_of (kf := (2, 2)) ⟨(hp ++ [O.xd 2 [(2, d)]]).length, hp.length, rfl, new_at, app_old new_at⟩
  have e2 := r _ g2
  simp only [wSs, wS, wE, wEo, wEs, wTg, List.map_cons, List.map_nil, List.cons_append, List.nil_append, List.replicate, List.set_cons_zero, List.set_cons_succ, List.getElem?_cons_zero, List.getElem?_cons_succ, e1, e2, a_ok, a_cd, c_eqs, decide_true, Option.getD_some]
  exact ⟨c, c, k _ g2⟩
end
end MI.T
set_option maxHeartbeats 4000000
namespace MI.T
open PySem L2 MI
abbrev S2 : St := .asg (.nm 2) (.call 1 (.cons (.var 0) (.cons (.var 1) .nil)))
abbrev S3 : St := .asg (.nm 3) (.lst (.cons (.lit .non) (.cons (.call 2 (.cons (.var 2) (.cons (.bin .pow (.lit (.int 10)) (.lit (.int 9))) .nil))) (.cons (.bin .mul (.lit (.str "a")) (.call 2 (.cons (.var 2) (.cons (.lit (.int 9)) .nil)))) (.cons (.lst (.cons (.lit (.int 1)) .nil)) (.cons (.tup (.cons (.lit (.int 1)) (.cons (.lit (.str "b")) .nil))) (.cons (.lit (.bl true)) (.cons (.neg (.lit (.int 1))) (.cons (.dic .nil) .nil)))))))))
abbrev S4 : St := .asg (.nm 4) (.ix (.var 3) (.call 2 (.cons (.var 2) (.cons (.lit (.int 8)) .nil))))
abbrev S5 : St := .asg (.nm 5) (.call 3 (.cons (.var 4) .nil))
abbrev RF : Sts := .cons (.ret (.so (.lit (.bl false)))) .nil
abbrev S6 : St := .ifs (.or (.cmp .ne (.lc [6] (.nm 6) (.vl (.call 4 (.cons (.var 5) .nil))) (.so (.cmp .ne (.blt .repr (.cons (.var 6) .nil)) (.blt .repr (.cons (.var 4) .nil)))) (.var 6)) (.lst .nil)) (.not (.call 8 (.cons (.var 4) .nil)))) RF .nil
abbrev S7b : Sts := .cons (.ifs (.or (.cmp .ne (.call 5 (.cons (.var 8) .nil)) (.lc [1] (.nm 1) (.rng1 (.lit (.int 27))) .no (.cmp .eq (.var 1) (.var 7)))) (.cmp .ne (.call 6 (.cons (.var 8) .nil)) (.call 7 (.cons (.var 7) .nil)))) RF .nil) .nil
abbrev S7 : St := .for_ (.tp (.cons (.nm 7) (.cons (.nm 8) .nil))) (.enum (.var 5)) S7b
theorem b_law_eq : b_law = .cons (.for_ (.nm 1) (.rng1 (.blt .max2 (.cons (.lit (.int 1)) (.cons (.blt .min2 (.cons (.blt .len (.cons (.var 0) .nil)) (.cons (.lit (.int 20)) .nil))) .nil)))) (.cons S2 (.cons S3 (.cons S4 (.cons S5 (.cons S6 (.cons S7 .nil))))))) (.cons (.ret (.so (.lit (.bl true)))) .nil) := rfl
theorem hf_cell : g.fns[0]? = some ⟨2, 2, bCell⟩ := rfl
theorem hf_pool : g.fns[1]? = some ⟨2, 4, bPool 0⟩ := rfl
theorem hf_take : g.fns[2]? = some ⟨2, 3, bTake⟩ := rfl
theorem pool_lt {hp : Hq} {pl : Nat} (p : PoolAt hp pl) : pl < hp.length := by
  obtain ⟨c, s, h, _⟩ := p
  exact lt_of h
theorem mulA : ∀ m : Fin 9, MulOk "a" ((m : Nat) : Int) ∧ smal (.str (Txt.mul "a" ((m : Nat) : Int))) = true ∧ (PyData.str (Txt.mul "a" ((m : Nat) : Int))).bulk ≤ 100 := by unfold MulOk; decide +kernel
/-- what the menu holds -/
inductive Item (hp : Hq) : D → Prop
  | non : Item hp .non
  | int (i : Int) : 0 ≤ i → i < 1000000000 → Item hp (.int i)
  | str (m : Nat) : m < 9 → Item hp (.str (Txt.mul "a" (m : Int)))
  | lst (p : Nat) : hp[p]? = some (.lst [.int 1]) → Item hp (.ref p)
  | tup : Item hp (.tup [.int 1, .str "b"])
  | bl : Item hp (.bl true)
  | m1 : Item hp (.int (-1))
  | dic (p : Nat) : hp[p]? = some (.dic []) → Item hp (.ref p)
theorem rp_at {hp : Hq} {d : D} {a : PyData} (h : ∀ hp', Grow hp hp' → toP 40 hp' d = some a) (hs : smal a = true) (hd : a.depth ≤ 64) (hb : a.bulk ≤ 100000) : RP hp d := ⟨RpOk a, a.shown, rp_of hs hd hb, fun hp' g' => repr_at (h hp' g')⟩
theorem toP_l1 {hp : Hq} {p : Nat} (h : hp[p]? = some (.lst [.int 1])) : toP 40 hp (.ref p) = some (.list [.int 1]) := by
  show (match gtL hp p with | some ds => (mapO (toP 39 hp) ds).map PyData.list | none => none) = _
  rw [gtL_of h]
  rfl
theorem toP_d0 {hp : Hq} {p : Nat} (h : hp[p]? = some (.dic [])) : toP 40 hp (.ref p) = none ∧ toR 40 hp (.ref p) = some (.dict []) := by
  constructor
  · show (match gtL hp p with | some ds => (mapO (toP 39 hp) ds).map PyData.list | none => none) = _
    unfold gtL
    rw [h]
  · show (match hp[p]? with | some (.dic []) => some (PyData.dict []) | _ => none) = _
    rw [h]
theorem Item.rp {hp : Hq} {d : D} (h : Item hp d) : RP hp d := by
  cases h with
  | non => exact rp_at (a := .none) (fun _ _ => rfl) (by decide +kernel) (by decide +kernel) (by decide +kernel)
  | int i h1 h2 => exact rp_at (a := .int i) (fun _ _ => rfl) (by simp [smal]; omega) (by simp [PyData.depth]) (by simp [PyData.bulk])
  | str m h => exact rp_at (a := .str (Txt.mul "a" (m : Int))) (fun _ _ => rfl) (mulA ⟨m, h⟩).2.1 (by simp [PyData.depth]) (Nat.le_trans (mulA ⟨m, h⟩).2.2 (by decide))
  | lst p h => exact rp_at (a := .list [.int 1]) (fun hp' g' => toP_l1 (g'.get h)) (by decide +kernel) (by decide +kernel) (by decide +kernel)
  | tup => exact rp_at (a := .tuple [.int 1, .str "b"]) (fun _ _ => rfl) (by decide +kernel) (by decide +kernel) (by decide +kernel)
  | bl => exact rp_at (a := .bool true) (fun _ _ => rfl) (by decide +kernel) (by decide +kernel) (by decide +kernel)
  | m1 => exact rp_at (a := .int (-1)) (fun _ _ => rfl) (by decide +kernel) (by decide +kernel) (by decide +kernel)
  | dic p h =>
    have c : (PyData.dict []).depth ≤ 64 ∧ (PyData.dict []).showable = true ∧ (PyData.dict []).shown.length ≤ SZ := ⟨by decide +kernel, by decide +kernel, by decide +kernel⟩
    exact ⟨_, _, c, fun hp' g' => repr_atR (toP_d0 (g'.get h)).1 (toP_d0 (g'.get h)).2⟩
section
variable {n : Nat} {hp : Hq} {ns : List Int} {K : KS} {pl : Nat} {x1 x3 x4 x5 x6 x7 x8 : Option D} {rest : Sts}
theorem s3_run (pp : PoolAt hp pl) (k : ∀ m ws hp', hp'[m]? = some (.lst ws) → ws.length = 8 → m ≠ pl → (∀ w ∈ ws, Item hp' w ∧ ∀ p, w = .ref p → p ≠ pl) → PoolAt hp' pl → wSs g (wCall g (n + 3)) rest [some (.kl (ns.map D.int)), x1, some (.ref pl), some (.ref m), x4, x5, x6, x7, x8] hp' K) :
    wSs g (wCall g (n + 3)) (.cons S3 rest) [some (.kl (ns.map D.int)), x1, some (.ref pl), x3, x4, x5, x6, x7, x8] hp K := by
  have p9 : (10 : Int) ^ (9 : Int).toNat = 1000000000 := by decide
  simp only [wSs, wS, wE, wEs, List.getElem?_cons_zero, List.getElem?_cons_succ, o_pow, p9, a_cd]
  refine ⟨by decide, take_run hf_take pp (by decide) (by decide) fun r hp1 r0 r1 k1 l1 p1 => ?_⟩
  refine take_run hf_take p1 (by decide) (by decide) fun t hp2 t0 t1 k2 l2 p2 => ?_
  obtain ⟨m, rfl⟩ := Int.eq_ofNat_of_zero_le t0
  have hm : m < 9 := by omega
  have e1 : oBin .mul (.str "a") (.int (m : Int)) hp2 = .cd (MulOk "a" (m : Int)) (.str (Txt.mul "a" (m : Int))) hp2 := rfl
  simp only [e1, a_cd, pairsOf, List.foldl_nil, wTg, List.set_cons_zero, List.set_cons_succ]
  refine ⟨(mulA ⟨m, hm⟩).1, ?_⟩
  have q := pool_lt p2
  have n1 : (hp2 ++ [O.lst [.int 1]])[hp2.length]? = some (O.lst [.int 1]) := new_at
  refine k _ _ _ new_at rfl ?_ (fun w hw => ?_) ?_
  · simp only [List.length_append, List.length_cons, List.length_nil]; omega
  · simp only [List.mem_cons, List.not_mem_nil, or_false] at hw
    rcases hw with h | h | h | h | h | h | h | h <;> subst h
    · exact ⟨.non, nofun⟩
    · exact ⟨.int r r0 (by omega), nofun⟩
    · exact ⟨.str m hm, nofun⟩
    · refine ⟨.lst _ (app_old (app_old new_at)), fun p e => ?_⟩
      cases e
      omega
    · exact ⟨.tup, nofun⟩
    · exact ⟨.bl, nofun⟩
    · exact ⟨.m1, nofun⟩
    · refine ⟨.dic _ (app_old new_at), fun p e => ?_⟩
      cases e
      simp only [List.length_append, List.length_cons, List.length_nil]
      omega
  · obtain ⟨c, s, h, r⟩ := p2
    exact ⟨c, s, app_old (app_old (app_old h)), r⟩
theorem s4_run {m : Nat} {ws : List D} (pp : PoolAt hp pl) (hm : hp[m]? = some (.lst ws)) (h8 : ws.length = 8) (ne : m ≠ pl) (hi : ∀ w ∈ ws, Item hp w ∧ ∀ p, w = .ref p → p ≠ pl)
    (k : ∀ d hp', Item hp' d → wSs g (wCall g (n + 3)) rest [some (.kl (ns.map D.int)), x1, some (.ref pl), some (.ref m), some d, x5, x6, x7, x8] hp' K) :
    wSs g (wCall g (n + 3)) (.cons S4 rest) [some (.kl (ns.map D.int)), x1, some (.ref pl), some (.ref m), x4, x5, x6, x7, x8] hp K := by
  simp only [wSs, wS, wE, wEs, List.getElem?_cons_zero, List.getElem?_cons_succ]
  refine take_run hf_take pp (by decide) (by decide) fun r hp1 r0 r1 k1 l1 p1 => ?_
  obtain ⟨t, rfl⟩ := Int.eq_ofNat_of_zero_le r0
  have ht : t < ws.length := by omega
  have e1 : oIx (.ref m) (.int (t : Int)) hp1 = .ok ws[t] hp1 := by
    rw [x_refi]
    simp only [k1.get hm (by omega)]
    rw [oAt_nat, List.getElem?_eq_getElem ht]
  simp only [e1, a_ok, wTg, List.set_cons_zero, List.set_cons_succ]
  refine k _ _ ?_
  obtain ⟨i1, i2⟩ := hi _ (List.getElem_mem ht)
  generalize ws[t] = w at i1 i2 ⊢
  cases i1 with
  | non => exact .non
  | int i a b => exact .int i a b
  | str m h => exact .str m h
  | lst p h => exact .lst p (k1.get h (i2 p rfl))
  | tup => exact .tup
  | bl => exact .bl
  | m1 => exact .m1
  | dic p h => exact .dic p (k1.get h (i2 p rfl))
end
end MI.T
set_option maxHeartbeats 4000000
namespace MI.T
open PySem L2 MI
theorem sh_bools (bs : List Bool) : SeqAt.shaped (.list (bs.map PyData.bool)) = true := by
  have h1 : ∀ bs : List Bool, PyData.canLayAll0 (bs.map PyData.bool) = true ∧ PyData.depthAll (bs.map PyData.bool) = 0 := by
    intro bs
    induction bs with
    | nil => exact ⟨rfl, rfl⟩
    | cons k r ih => simp [PyData.canLayAll0, PyData.canLay0, PyData.depthAll, PyData.depth, ih]
  have h3 : (PyData.list (bs.map PyData.bool)).depth ≤ 64 := by
    simp only [PyData.depth]
    have := (h1 bs).2
    omega
  unfold SeqAt.shaped
  rw [Bool.and_eq_true]
  exact ⟨by simpa [PyData.canLay0] using (h1 bs).1, decide_eq_true h3⟩
theorem eqv_bools : ∀ bs : List Bool, PyData.eqvAll (bs.map PyData.bool) (bs.map PyData.bool) = true
  | [] => by simp [PyData.eqvAll]
  | b :: r => by simp [PyData.eqvAll, PyData.eqv, eqv_bools r]
theorem eq_bls {hp : Hq} {p q : Nat} {bs : List Bool} (h1 : hp[p]? = some (.lst (bs.map D.bl))) (h2 : hp[q]? = some (.lst (bs.map D.bl))) : oCmp .ne (.ref p) (.ref q) hp = .cd (SeqAt.shaped (.list (bs.map PyData.bool)) = true ∧ SeqAt.shaped (.list (bs.map PyData.bool)) = true) (.bl false) hp := by
  have t : ∀ p, hp[p]? = some (.lst (bs.map D.bl)) → toP 40 hp (.ref p) = some (.list (bs.map PyData.bool)) := fun p h => by
    show (match gtL hp p with | some ds => (mapO (toP 39 hp) ds).map PyData.list | none => none) = _
    rw [gtL_of h]
    show (mapO (toP 39 hp) (bs.map D.bl)).map PyData.list = _
    rw [mapO_map (f := toP 39 hp) (u := D.bl) (v := PyData.bool) bs fun _ _ => rfl]
    rfl
  have e : oEqG (.ref p) (.ref q) hp = oEqP (.ref p) (.ref q) hp := by
    show (match gtD hp p, gtD hp q with | some ks, some ls => oEqK ks ls | _, _ => oEqP (.ref p) (.ref q) hp) = _
    unfold gtD
    rw [h1]
  rw [c_ner, e]
  unfold oEqP
  rw [t p h1, t q h2]
  have v : PyData.eqv (.list (bs.map PyData.bool)) (.list (bs.map PyData.bool)) = true := by
    simp only [PyData.eqv]
    exact eqv_bools bs
  simp only [v, v_cd, Bool.not_true, if_true]
def kB (j m : Nat) : List Bool := (List.range m).map fun (k : Nat) => decide ((k : Int) = (j : Int))
def dB (ns : List Int) (m : Nat) : List Bool := (List.range m).map fun (k : Nat) => decide ((k : Int) ∈ ns)
theorem kindsT : ∀ j : Fin 27, KR.map (fun bs => bs.getD j false) = kB j 27 := by decide +kernel
theorem basesT : ∀ j : Fin 27, ∃ h : (j : Nat) < DU.length, BR.map (fun bs => bs.getD j false) = dB (DU[(j : Nat)]'h) 7 := by decide +kernel
theorem AAj : ∀ j : Fin 26, ∃ h : (j : Nat) < AA.length, (AA[(j : Nat)]'h).1 = j := by decide +kernel
theorem col_kinds {j : Nat} (h : j < 27) : col j KR = (kB j 27).map D.bl := by
  rw [← kindsT ⟨j, h⟩]
  simp [col]
theorem col_bases {j : Nat} (h : j < 27) : ∃ ns, DU[j]? = some ns ∧ col j BR = (dB ns 7).map D.bl ∧ dueB ns 7 = (dB ns 7).map D.bl := by
  obtain ⟨hl, e⟩ := basesT ⟨j, h⟩
  refine ⟨_, List.getElem?_eq_getElem hl, ?_, ?_⟩
  · rw [← e]
    simp [col]
  · simp [dueB, dB]
section
variable {n : Nat} {hp : Hq} {d v : D} {vs : List D}
theorem asked_at (x : XAll hp d AA vs) (x0 : XA0 hp 26 v) {j : Nat} (hj : j < 27) : ∃ w, (vs ++ [v])[j]? = some w ∧ Asked hp j w := by
  have l : vs.length = 26 := x.len
  by_cases h : j < 26
  · obtain ⟨hl, e⟩ := AAj ⟨j, h⟩
    obtain ⟨w, w1, w2⟩ := x.get (i := j) (List.getElem?_eq_getElem hl)
    refine ⟨w, ?_, fun hp' g' bs b hb => is_of (w2.grow g') ?_⟩
    · rw [List.getElem?_append_left (by omega)]
      exact w1
    · rw [show (AA[j]).1 = j from e]
      exact hb
  · have e : j = 26 := by omega
    subst e
    refine ⟨v, ?_, fun hp' g' bs b hb => is_of0 (x0.grow g') hb⟩
    rw [List.getElem?_append_right (by omega), l]
    rfl
end
section
variable {n : Nat} {hp : Hq} {ns : List Int} {K : KS} {q : Nat} {d v : D} {vs : List D} {a x1 x2 x3 x6 x7 x8 : Option D} {rest : Sts}
theorem s6_run (hq : hp[q]? = some (.lst (vs ++ [v]))) (x : XAll hp d AA vs) (r : RP hp d) (k : ∀ hp', Grow hp hp' → wSs g (wCall g (n + 3)) rest [a, x1, x2, x3, some d, some (.ref q), x6, x7, x8] hp' K) :
    wSs g (wCall g (n + 3)) (.cons S6 rest) [a, x1, x2, x3, some d, some (.ref q), x6, x7, x8] hp K := by
  simp only [wSs, wS, wE, wEs, wIt, List.getElem?_cons_zero, List.getElem?_cons_succ]
  refine fields_run hq x fun q1 hp1 g1 e1 => ?_
  simp only [seq_lst e1]
  obtain ⟨C, s, c, rr⟩ := r
  have r1 := rr _ g1
  refine lc_run 26 (fun i acc h => acc = [] ∧ h = hp1) (fun j acc h kn hj hI h1 h2 => ?_) (fun j acc h hI => ?_) (fun acc h hI => ?_) ⟨rfl, rfl⟩
  · obtain ⟨rfl, rfl⟩ := hI
    refine ⟨d, ?_, ?_⟩
    · show (gtL _ q1).map (fun xs => xs[j]?) = _
      rw [gtL_of e1]
      show some (List.replicate 26 d)[j]? = _
      rw [List.getElem?_replicate, if_pos hj]
    · simp only [wipeE, wTg, wEo, wE, wEs, List.set_cons_zero, List.set_cons_succ, List.getElem?_cons_zero, List.getElem?_cons_succ, r1, a_cd, a_ok, c_nes, t_bl, ab_okB, decide_true, Bool.not_true, Bool.false_eq_true, if_false]
      exact ⟨c, c, h1 _ ⟨rfl, rfl⟩⟩
  · obtain ⟨rfl, _⟩ := hI
    simp [SZ]
  · obtain ⟨rfl, rfl⟩ := hI
    refine ⟨?_, ?_⟩
    · show (gtL _ q1).map (fun xs => xs[26]?) = _
      rw [gtL_of e1]
      show some (List.replicate 26 d)[26]? = _
      rw [List.getElem?_replicate, if_neg (by decide)]
    · show (oCmp .ne (.ref h.length) (.ref (h ++ [O.lst []]).length) (h ++ [O.lst []] ++ [.lst []])).app _
      have e5 := eq_bls (hp := h ++ [O.lst []] ++ [.lst []]) (p := h.length) (q := (h ++ [O.lst []]).length) (bs := []) (app_old new_at) new_at
      rw [e5]
      refine ⟨⟨sh_bools _, sh_bools _⟩, ?_⟩
      simp only [t_bl, ab_okB, Bool.false_eq_true, if_false]
      have g2 : Grow h (h ++ [O.lst []] ++ [.lst []]) := ⟨_, List.append_assoc _ _ _⟩
      refine raised_run (⟨C, s, c, fun hp' g' => rr _ ((g1.trans g2).trans g')⟩) fun hp' g3 => ?_
      simp only [t_bl, ab_okB, Bool.not_true, Bool.false_eq_true, if_false]
      exact k _ ((g1.trans g2).trans g3)
theorem s7_run (hq : hp[q]? = some (.lst (vs ++ [v]))) (x : XAll hp d AA vs) (x0 : XA0 hp 26 v) (k : ∀ hp' x7 x8, K.nx [a, x1, x2, x3, some d, some (.ref q), x6, x7, x8] hp') :
    wSs g (wCall g (n + 3)) (.cons S7 .nil) [a, x1, x2, x3, some d, some (.ref q), x6, x7, x8] hp K := by
  unfold S7
  generalize HB : S7b = sb
  simp only [wSs, wS]
  simp only [wIt, wE, List.getElem?_cons_zero, List.getElem?_cons_succ, gtL_of hq]
  have l : vs.length = 26 := x.len
  refine for_run 27 (fun j env h => Grow hp h ∧ ∃ x7 x8, env = [a, x1, x2, x3, some d, some (.ref q), x6, x7, x8]) (fun j env h kn hj hI hk => ?_) (fun env h hI => ?_) ⟨.refl _, _, _, rfl⟩
  · obtain ⟨gr, x7, x8, rfl⟩ := hI
    obtain ⟨w, w1, w2⟩ := asked_at (x.grow gr) (x0.grow gr) hj
    refine ⟨.tup [.int j, w], ?_, ?_⟩
    · show (gtL _ q).map (fun xs => (xs[j]?).map fun d => D.tup [.int j, d]) = _
      rw [gtL_of (gr.get hq)]
      show some (((vs ++ [v])[j]?).map _) = _
      rw [w1]
      rfl
    · simp only [wTg, wTgs, List.set_cons_zero, List.set_cons_succ]
      refine ⟨rfl, ?_⟩
      rw [← HB]
      simp only [wSs, wS, wE, wEs, List.getElem?_cons_zero, List.getElem?_cons_succ]
      refine kinds_run hj w2 fun q1 h1 g1 e1 => ?_
      rw [col_kinds hj] at e1
      simp only [wIt, wE]
      refine ⟨⟨by decide, by decide⟩, ?_⟩
      refine lc_run 27 (fun i acc h => i ≤ 27 ∧ h = h1 ∧ acc = (kB j i).map D.bl) (fun i acc h kn2 hi hI2 h1' h2' => ?_) (fun i acc h hI2 => ?_) (fun acc h hI2 => ?_) ⟨by decide, rfl, rfl⟩
      · obtain ⟨_, rfl, rfl⟩ := hI2
        refine ⟨_, itRng_nx (m := 27) rfl hi, ?_⟩
        simp only [wipeE, wTg, wEo, wE, List.set_cons_zero, List.set_cons_succ, List.getElem?_cons_zero, List.getElem?_cons_succ, c_eqi, a_ok]
        refine h2' _ _ ⟨by omega, rfl, ?_⟩
        simp only [kB, List.range_succ, List.map_append, List.map_cons, List.map_nil]
      · obtain ⟨h7, _, rfl⟩ := hI2
        simp only [kB, List.length_map, List.length_range, SZ]
        omega
      · obtain ⟨_, rfl, rfl⟩ := hI2
        refine ⟨itRng_end rfl, ?_⟩
        show (oCmp .ne (.ref q1) (.ref h.length) (h ++ [O.lst ((kB j 27).map D.bl)])).app _
        rw [eq_bls (app_old e1) new_at]
        refine ⟨⟨sh_bools _, sh_bools _⟩, ?_⟩
        simp only [t_bl, ab_okB, Bool.false_eq_true, if_false]
        have g2 : Grow h (h ++ [O.lst ((kB j 27).map D.bl)]) := .app
        generalize h ++ [O.lst ((kB j 27).map D.bl)] = hq2 at g2 ⊢
        obtain ⟨nsj, u1, u2, u3⟩ := col_bases hj
        refine bases_run hj (fun hp' g' => w2 _ ((g1.trans g2).trans g')) fun q3 h3 g3 e3 => ?_
        refine due_run u1 fun q4 h4 g4 e4 => ?_
        rw [u2] at e3
        rw [u3] at e4
        rw [eq_bls (g4.get e3) e4]
        refine ⟨⟨sh_bools _, sh_bools _⟩, ?_⟩
        simp only [t_bl, ab_okB, Bool.false_eq_true, if_false]
        exact hk _ _ ⟨(((gr.trans g1).trans g2).trans g3).trans g4, _, _, rfl⟩
  · obtain ⟨gr, x7, x8, rfl⟩ := hI
    refine ⟨?_, k _ _ _⟩
    show (gtL _ q).map (fun xs => (xs[27]?).map fun d => D.tup [.int 27, d]) = _
    rw [gtL_of (gr.get hq)]
    show some (((vs ++ [v])[27]?).map _) = _
    rw [List.getElem?_eq_none (by simp [l])]
    rfl
end
theorem turn_run {n j : Nat} {ns : List Int} {K : KS} {hp : Hq} {x2 x3 x4 x5 x6 x7 x8 : Option D} (hj : j < 1000) (k : ∀ hp' x2 x3 x4 x5 x6 x7 x8, K.nx [some (.kl (ns.map D.int)), some (.int j), x2, x3, x4, x5, x6, x7, x8] hp') :
    wSs g (wCall g (n + 3)) (.cons S2 (.cons S3 (.cons S4 (.cons S5 (.cons S6 (.cons S7 .nil)))))) [some (.kl (ns.map D.int)), some (.int j), x2, x3, x4, x5, x6, x7, x8] hp K := by
  generalize h3 : S3 = s3
  generalize h4 : S4 = s4
  generalize h5 : S5 = s5
  generalize h6 : S6 = s6
  generalize h7 : S7 = s7
  simp only [wSs]
  simp only [S2, wS, wE, wEs, wTg, List.getElem?_cons_zero, List.getElem?_cons_succ]
  refine pool_run hf_pool hf_cell hj fun hp1 eh pp => ?_
  simp only [List.set_cons_zero, List.set_cons_succ]
  show wSs g (wCall g (n + 3)) (.cons s3 (.cons s4 (.cons s5 (.cons s6 (.cons s7 .nil))))) _ _ _
  rw [← h3]
  refine s3_run pp fun m ws hp2 m1 m2 m3 m4 p2 => ?_
  rw [← h4]
  refine s4_run p2 m1 m2 m3 m4 fun d hp3 it => ?_
  have r := it.rp
  rw [← h5]
  simp only [wSs]
  simp only [S5, wS, wE, wEs, wTg, List.getElem?_cons_zero, List.getElem?_cons_succ]
  refine made_run fun q vs v hp4 g4 e4 x4 z4 => ?_
  simp only [List.set_cons_zero, List.set_cons_succ]
  show wSs g (wCall g (n + 3)) (.cons s6 (.cons s7 .nil)) _ _ _
  rw [← h6]
  refine s6_run e4 x4 (r.grow g4) fun hp5 g5 => ?_
  rw [← h7]
  exact s7_run (g5.get e4) (x4.grow g5) (z4.grow g5) fun hp6 _ _ => k _ _ _ _ _ _ _ _
theorem law_run : ∀ ns : List Int, ns.length ≤ 63 → wCall g 4 9 [.kl (ns.map D.int)] [] (fun d _ => d = .bl true) fun _ _ _ => False := by
  intro ns hns
  rw [call_law]
  refine ⟨rfl, ?_⟩
  rw [b_law_eq]
  generalize hB : (Sts.cons S2 (.cons S3 (.cons S4 (.cons S5 (.cons S6 (.cons S7 .nil)))))) = body
  simp only [wSs, List.map_cons, List.map_nil, List.cons_append, List.nil_append, List.replicate]
  simp only [wS, wE, wEo, wEs, wIt, List.getElem?_cons_zero, List.getElem?_cons_succ, len_k, min_2, max_2, a_ok, List.length_map]
  obtain ⟨M, hM, hM2⟩ : ∃ M : Nat, (if (if (20 : Int) < (ns.length : Int) then 20 else (ns.length : Int)) > 1 then (if (20 : Int) < (ns.length : Int) then 20 else (ns.length : Int)) else 1) = (M : Int) ∧ M ≤ 20 := by
    by_cases h1 : (20 : Int) < (ns.length : Int)
    · exact ⟨20, by rw [if_pos h1, if_pos (by decide)]; rfl, Nat.le_refl _⟩
    · by_cases h2 : (ns.length : Int) > 1
      · exact ⟨ns.length, by rw [if_neg h1, if_pos h2], by omega⟩
      · exact ⟨1, by rw [if_neg h1, if_neg h2]; rfl, by decide⟩
  rw [hM]
  refine ⟨⟨by omega, by omega⟩, ?_⟩
  refine for_run M (fun j env hp => ∃ x1 x2 x3 x4 x5 x6 x7 x8, env = [some (.kl (ns.map D.int)), x1, x2, x3, x4, x5, x6, x7, x8]) (fun j env hp kn hj hI hk => ?_) (fun env hp hI => ?_) ⟨_, _, _, _, _, _, _, _, rfl⟩
  · obtain ⟨x1, x2, x3, x4, x5, x6, x7, x8, rfl⟩ := hI
    refine ⟨_, itRng_nx rfl hj, ?_⟩
    simp only [wTg, List.set_cons_zero, List.set_cons_succ]
    rw [← hB]
    exact turn_run (n := 0) (by omega) fun hp' _ _ _ _ _ _ _ => hk _ _ ⟨_, _, _, _, _, _, _, _, rfl⟩
  · obtain ⟨x1, x2, x3, x4, x5, x6, x7, x8, rfl⟩ := hI
    exact ⟨itRng_end rfl, rfl⟩
end MI.T
open PySem PySem.W PyProof.Rows
set_option maxRecDepth 100000 in
set_option maxHeartbeats 0 in
theorem PySem.Challenge.cw_rowstold_k04_refusals_apart_holds : PySem.Challenge.rw_rowstold_k04_refusals_apart.Holds := by
  w_on; o_law; k_head; (case hw => w_witness2)
  k_fill
  refine MI.walk_mi (l := PySem.Challenge.rw_rowstold_k04_refusals_apart) (n := 63) (N := 4) (S := MI.T.S) (g := MI.T.g) (lf := 9) rfl (by decide) rfl ⟨rfl, by decide, by decide⟩ (fun w h Y => PySem.W.kIn_of Y) ?F MI.T.law_run
  case F =>
    intro w mg fa h KX G hmg
    refine' MI.T.tfs KX G hmg ?ya0 ?yl0 ?yc0 ?yk0 ?ya1 ?yl1 ?yc1 ?yk1 ?ya2 ?yl2 ?yc2 ?yk2 ?ya3 ?yl3 ?yc3 ?yk3 ?ya4 ?yl4 ?yc4 ?yk4 ?ya5 ?yl5 ?yc5 ?yk5 ?ya6 ?yl6 ?yc6 ?yk6 ?ya7 ?yl7 ?yc7 ?yk7 ?ya8 ?yl8 ?yc8 ?yk8 ?ya9 ?yl9 ?yc9 ?yk9 ?yyA0q ?yxA0 ?yxA1 ?yxA2 ?yxA3 ?yxA4 ?yxA5 ?yxA6 ?yxA7 ?yxA8 ?yxA9 ?yxA10 ?yxA11 ?yxA12 ?yxA13 ?yxA14 ?yxA15 ?yxA16 ?yxA17 ?yxA18 ?yxA19 ?yxA20 ?yxA21 ?yxA22 ?yxA23 ?yxA24 ?yxA25 ?yxA26 ?yxO0 ?yxE0 ?yxT0 ?yxK0 ?yxD0 ?yxG0 ?yxH0 ?yxC0 ?yxM0 ?yxn0_0 ?yxn0_1 ?yxn0_2 ?yxn0_3 ?yxn0_4 ?yxn0_5 ?yxn0_6 ?yxn0_7 ?yxn0_8 ?yxn0_9 ?yxn0_10 ?yxn0_11 ?yxn0_12 ?yxS0 ?yxI0 ?yxJ0 ?yxL0 ?yxR0 ?yxO1 ?yxE1 ?yxT1 ?yxK1 ?yxD1 ?yxG1 ?yxH1 ?yxC1 ?yxM1 ?yxn1_0 ?yxn1_1 ?yxn1_2 ?yxn1_3 ?yxn1_4 ?yxn1_5 ?yxn1_6 ?yxn1_7 ?yxn1_8 ?yxn1_9 ?yxn1_10 ?yxn1_11 ?yxn1_12 ?yxS1 ?yxI1 ?yxJ1 ?yxL1 ?yxR1 ?yxO2 ?yxE2 ?yxT2 ?yxK2 ?yxD2 ?yxG2 ?yxH2 ?yxC2 ?yxM2 ?yxn2_0 ?yxn2_1 ?yxn2_2 ?yxn2_3 ?yxn2_4 ?yxn2_5 ?yxn2_6 ?yxn2_7 ?yxn2_8 ?yxn2_9 ?yxn2_10 ?yxn2_11 ?yxn2_12 ?yxS2 ?yxI2 ?yxJ2 ?yxL2 ?yxR2 ?yxO3 ?yxE3 ?yxT3 ?yxK3 ?yxD3 ?yxG3 ?yxH3 ?yxC3 ?yxM3 ?yxn3_0 ?yxn3_1 ?yxn3_2 ?yxn3_3 ?yxn3_4 ?yxn3_5 ?yxn3_6 ?yxn3_7 ?yxn3_8 ?yxn3_9 ?yxn3_10 ?yxn3_11 ?yxn3_12 ?yxS3 ?yxI3 ?yxJ3 ?yxL3 ?yxR3 ?yxO4 ?yxE4 ?yxT4 ?yxK4 ?yxD4 ?yxG4 ?yxH4 ?yxC4 ?yxM4 ?yxn4_0 ?yxn4_1 ?yxn4_2 ?yxn4_3 ?yxn4_4 ?yxn4_5 ?yxn4_6 ?yxn4_7 ?yxn4_8 ?yxn4_9 ?yxn4_10 ?yxn4_11 ?yxn4_12 ?yxS4 ?yxI4 ?yxJ4 ?yxL4 ?yxR4 ?yxO5 ?yxE5 ?yxT5 ?yxK5 ?yxD5 ?yxG5 ?yxH5 ?yxC5 ?yxM5 ?yxn5_0 ?yxn5_1 ?yxn5_2 ?yxn5_3 ?yxn5_4 ?yxn5_5 ?yxn5_6 ?yxn5_7 ?yxn5_8 ?yxn5_9 ?yxn5_10 ?yxn5_11 ?yxn5_12 ?yxS5 ?yxI5 ?yxJ5 ?yxL5 ?yxR5 ?yxO6 ?yxE6 ?yxT6 ?yxK6 ?yxD6 ?yxG6 ?yxH6 ?yxC6 ?yxM6 ?yxn6_0 ?yxn6_1 ?yxn6_2 ?yxn6_3 ?yxn6_4 ?yxn6_5 ?yxn6_6 ?yxn6_7 ?yxn6_8 ?yxn6_9 ?yxn6_10 ?yxn6_11 ?yxn6_12 ?yxS6 ?yxI6 ?yxJ6 ?yxL6 ?yxR6 ?yxO7 ?yxE7 ?yxT7 ?yxK7 ?yxD7 ?yxG7 ?yxH7 ?yxC7 ?yxM7 ?yxn7_0 ?yxn7_1 ?yxn7_2 ?yxn7_3 ?yxn7_4 ?yxn7_5 ?yxn7_6 ?yxn7_7 ?yxn7_8 ?yxn7_9 ?yxn7_10 ?yxn7_11 ?yxn7_12 ?yxS7 ?yxI7 ?yxJ7 ?yxL7 ?yxR7 ?yxO8 ?yxE8 ?yxT8 ?yxK8 ?yxD8 ?yxG8 ?yxH8 ?yxC8 ?yxM8 ?yxn8_0 ?yxn8_1 ?yxn8_2 ?yxn8_3 ?yxn8_4 ?yxn8_5 ?yxn8_6 ?yxn8_7 ?yxn8_8 ?yxn8_9 ?yxn8_10 ?yxn8_11 ?yxn8_12 ?yxS8 ?yxI8 ?yxJ8 ?yxL8 ?yxR8 ?yxO9 ?yxE9 ?yxT9 ?yxK9 ?yxD9 ?yxG9 ?yxH9 ?yxC9 ?yxM9 ?yxn9_0 ?yxn9_1 ?yxn9_2 ?yxn9_3 ?yxn9_4 ?yxn9_5 ?yxn9_6 ?yxn9_7 ?yxn9_8 ?yxn9_9 ?yxn9_10 ?yxn9_11 ?yxn9_12 ?yxS9 ?yxI9 ?yxJ9 ?yxL9 ?yxR9 ?yxO10 ?yxE10 ?yxT10 ?yxK10 ?yxD10 ?yxG10 ?yxH10 ?yxC10 ?yxM10 ?yxn10_0 ?yxn10_1 ?yxn10_2 ?yxn10_3 ?yxn10_4 ?yxn10_5 ?yxn10_6 ?yxn10_7 ?yxn10_8 ?yxn10_9 ?yxn10_10 ?yxn10_11 ?yxn10_12 ?yxS10 ?yxI10 ?yxJ10 ?yxL10 ?yxR10 ?yxO11 ?yxE11 ?yxT11 ?yxK11 ?yxD11 ?yxG11 ?yxH11 ?yxC11 ?yxM11 ?yxn11_0 ?yxn11_1 ?yxn11_2 ?yxn11_3 ?yxn11_4 ?yxn11_5 ?yxn11_6 ?yxn11_7 ?yxn11_8 ?yxn11_9 ?yxn11_10 ?yxn11_11 ?yxn11_12 ?yxS11 ?yxI11 ?yxJ11 ?yxL11 ?yxR11 ?yxO12 ?yxE12 ?yxT12 ?yxK12 ?yxD12 ?yxG12 ?yxH12 ?yxC12 ?yxM12 ?yxn12_0 ?yxn12_1 ?yxn12_2 ?yxn12_3 ?yxn12_4 ?yxn12_5 ?yxn12_6 ?yxn12_7 ?yxn12_8 ?yxn12_9 ?yxn12_10 ?yxn12_11 ?yxn12_12 ?yxS12 ?yxI12 ?yxJ12 ?yxL12 ?yxR12 ?yxO13 ?yxE13 ?yxT13 ?yxK13 ?yxD13 ?yxG13 ?yxH13 ?yxC13 ?yxM13 ?yxn13_0 ?yxn13_1 ?yxn13_2 ?yxn13_3 ?yxn13_4 ?yxn13_5 ?yxn13_6 ?yxn13_7 ?yxn13_8 ?yxn13_9 ?yxn13_10 ?yxn13_11 ?yxn13_12 ?yxS13 ?yxI13 ?yxJ13 ?yxL13 ?yxR13 ?yxO14 ?yxE14 ?yxT14 ?yxK14 ?yxD14 ?yxG14 ?yxH14 ?yxC14 ?yxM14 ?yxn14_0 ?yxn14_1 ?yxn14_2 ?yxn14_3 ?yxn14_4 ?yxn14_5 ?yxn14_6 ?yxn14_7 ?yxn14_8 ?yxn14_9 ?yxn14_10 ?yxn14_11 ?yxn14_12 ?yxS14 ?yxI14 ?yxJ14 ?yxL14 ?yxR14 ?yxO15 ?yxE15 ?yxT15 ?yxK15 ?yxD15 ?yxG15 ?yxH15 ?yxC15 ?yxM15 ?yxn15_0 ?yxn15_1 ?yxn15_2 ?yxn15_3 ?yxn15_4 ?yxn15_5 ?yxn15_6 ?yxn15_7 ?yxn15_8 ?yxn15_9 ?yxn15_10 ?yxn15_11 ?yxn15_12 ?yxS15 ?yxI15 ?yxJ15 ?yxL15 ?yxR15 ?yxO16 ?yxE16 ?yxT16 ?yxK16 ?yxD16 ?yxG16 ?yxH16 ?yxC16 ?yxM16 ?yxn16_0 ?yxn16_1 ?yxn16_2 ?yxn16_3 ?yxn16_4 ?yxn16_5 ?yxn16_6 ?yxn16_7 ?yxn16_8 ?yxn16_9 ?yxn16_10 ?yxn16_11 ?yxn16_12 ?yxS16 ?yxI16 ?yxJ16 ?yxL16 ?yxR16 ?yxO17 ?yxE17 ?yxT17 ?yxK17 ?yxD17 ?yxG17 ?yxH17 ?yxC17 ?yxM17 ?yxn17_0 ?yxn17_1 ?yxn17_2 ?yxn17_3 ?yxn17_4 ?yxn17_5 ?yxn17_6 ?yxn17_7 ?yxn17_8 ?yxn17_9 ?yxn17_10 ?yxn17_11 ?yxn17_12 ?yxS17 ?yxI17 ?yxJ17 ?yxL17 ?yxR17 ?yxO18 ?yxE18 ?yxT18 ?yxK18 ?yxD18 ?yxG18 ?yxH18 ?yxC18 ?yxM18 ?yxn18_0 ?yxn18_1 ?yxn18_2 ?yxn18_3 ?yxn18_4 ?yxn18_5 ?yxn18_6 ?yxn18_7 ?yxn18_8 ?yxn18_9 ?yxn18_10 ?yxn18_11 ?yxn18_12 ?yxS18 ?yxI18 ?yxJ18 ?yxL18 ?yxR18 ?yxO19 ?yxE19 ?yxT19 ?yxK19 ?yxD19 ?yxG19 ?yxH19 ?yxC19 ?yxM19 ?yxn19_0 ?yxn19_1 ?yxn19_2 ?yxn19_3 ?yxn19_4 ?yxn19_5 ?yxn19_6 ?yxn19_7 ?yxn19_8 ?yxn19_9 ?yxn19_10 ?yxn19_11 ?yxn19_12 ?yxS19 ?yxI19 ?yxJ19 ?yxL19 ?yxR19 ?yxO20 ?yxE20 ?yxT20 ?yxK20 ?yxD20 ?yxG20 ?yxH20 ?yxC20 ?yxM20 ?yxn20_0 ?yxn20_1 ?yxn20_2 ?yxn20_3 ?yxn20_4 ?yxn20_5 ?yxn20_6 ?yxn20_7 ?yxn20_8 ?yxn20_9 ?yxn20_10 ?yxn20_11 ?yxn20_12 ?yxS20 ?yxI20 ?yxJ20 ?yxL20 ?yxR20 ?yxO21 ?yxE21 ?yxT21 ?yxK21 ?yxD21 ?yxG21 ?yxH21 ?yxC21 ?yxM21 ?yxn21_0 ?yxn21_1 ?yxn21_2 ?yxn21_3 ?yxn21_4 ?yxn21_5 ?yxn21_6 ?yxn21_7 ?yxn21_8 ?yxn21_9 ?yxn21_10 ?yxn21_11 ?yxn21_12 ?yxS21 ?yxI21 ?yxJ21 ?yxL21 ?yxR21 ?yxO22 ?yxE22 ?yxT22 ?yxK22 ?yxD22 ?yxG22 ?yxH22 ?yxC22 ?yxM22 ?yxn22_0 ?yxn22_1 ?yxn22_2 ?yxn22_3 ?yxn22_4 ?yxn22_5 ?yxn22_6 ?yxn22_7 ?yxn22_8 ?yxn22_9 ?yxn22_10 ?yxn22_11 ?yxn22_12 ?yxS22 ?yxI22 ?yxJ22 ?yxL22 ?yxR22 ?yxO23 ?yxE23 ?yxT23 ?yxK23 ?yxD23 ?yxG23 ?yxH23 ?yxC23 ?yxM23 ?yxn23_0 ?yxn23_1 ?yxn23_2 ?yxn23_3 ?yxn23_4 ?yxn23_5 ?yxn23_6 ?yxn23_7 ?yxn23_8 ?yxn23_9 ?yxn23_10 ?yxn23_11 ?yxn23_12 ?yxS23 ?yxI23 ?yxJ23 ?yxL23 ?yxR23 ?yxO24 ?yxE24 ?yxT24 ?yxK24 ?yxD24 ?yxG24 ?yxH24 ?yxC24 ?yxM24 ?yxn24_0 ?yxn24_1 ?yxn24_2 ?yxn24_3 ?yxn24_4 ?yxn24_5 ?yxn24_6 ?yxn24_7 ?yxn24_8 ?yxn24_9 ?yxn24_10 ?yxn24_11 ?yxn24_12 ?yxS24 ?yxI24 ?yxJ24 ?yxL24 ?yxR24 ?yxO25 ?yxE25 ?yxT25 ?yxK25 ?yxD25 ?yxG25 ?yxH25 ?yxC25 ?yxM25 ?yxn25_0 ?yxn25_1 ?yxn25_2 ?yxn25_3 ?yxn25_4 ?yxn25_5 ?yxn25_6 ?yxn25_7 ?yxn25_8 ?yxn25_9 ?yxn25_10 ?yxn25_11 ?yxn25_12 ?yxS25 ?yxI25 ?yxJ25 ?yxL25 ?yxR25 ?yxO26 ?yxE26 ?yxT26 ?yxK26 ?yxD26 ?yxG26 ?yxH26 ?yxC26 ?yxM26 ?yxn26_0 ?yxn26_1 ?yxn26_2 ?yxn26_3 ?yxn26_4 ?yxn26_5 ?yxn26_6 ?yxn26_7 ?yxn26_8 ?yxn26_9 ?yxn26_10 ?yxn26_11 ?yxn26_12 ?yxI26 ?yyE0q ?yyD0q ?yyT0q ?yxw0 ?yxx0 ?yxy0 ?yxi0 ?yxi1 ?yxi2 ?yxi3 ?yxi4 ?yxz0 ?yxz1 ?yxND ?yz0 ?yz1 ?yz2 ?yz3 ?yz4 ?yz5 ?yz6 ?yz7 ?yz8 ?yz9 ?yz10 ?yz11 ?yz12
    (case ya0 => k_is); (case yl0 => k_is); (case yc0 => k_is); (case yk0 => k_is); (case ya1 => k_is); (case yl1 => k_is); (case yc1 => k_is); (case yk1 => k_is); (case ya2 => k_is); (case yl2 => k_is); (case yc2 => k_is); (case yk2 => k_is)
    (case ya3 => k_is); (case yl3 => k_is); (case yc3 => k_is); (case yk3 => k_is); (case ya4 => k_is); (case yl4 => k_is); (case yc4 => k_is); (case yk4 => k_is); (case ya5 => k_is); (case yl5 => k_is); (case yc5 => k_is); (case yk5 => k_is)
    (case ya6 => k_is); (case yl6 => k_is); (case yc6 => k_is); (case yk6 => k_is); (case ya7 => k_is); (case yl7 => k_is); (case yc7 => k_is); (case yk7 => k_is); (case ya8 => k_is); (case yl8 => k_is); (case yc8 => k_is); (case yk8 => k_is)
    (case ya9 => k_is); (case yl9 => k_is); (case yc9 => k_is); (case yk9 => k_is); (case yyA0q => k_is); (case yxA0 => k_is); (case yxA1 => k_is); (case yxA2 => k_is); (case yxA3 => k_is); (case yxA4 => k_is); (case yxA5 => k_is); (case yxA6 => k_is)
    (case yxA7 => k_is); (case yxA8 => k_is); (case yxA9 => k_is); (case yxA10 => k_is); (case yxA11 => k_is); (case yxA12 => k_is); (case yxA13 => k_is); (case yxA14 => k_is); (case yxA15 => k_is); (case yxA16 => k_is); (case yxA17 => k_is); (case yxA18 => k_is)
    (case yxA19 => k_is); (case yxA20 => k_is); (case yxA21 => k_is); (case yxA22 => k_is); (case yxA23 => k_is); (case yxA24 => k_is); (case yxA25 => k_is); (case yxA26 => k_is); (case yxO0 => k_is); (case yxE0 => k_is); (case yxT0 => k_is); (case yxK0 => k_is)
    (case yxD0 => k_is); (case yxG0 => k_is); (case yxH0 => k_is); (case yxC0 => k_is); (case yxM0 => k_is); (case yxn0_0 => k_is); (case yxn0_1 => k_is); (case yxn0_2 => k_is); (case yxn0_3 => k_is); (case yxn0_4 => k_is); (case yxn0_5 => k_is); (case yxn0_6 => k_is)
    (case yxn0_7 => k_is); (case yxn0_8 => k_is); (case yxn0_9 => k_is); (case yxn0_10 => k_is); (case yxn0_11 => k_is); (case yxn0_12 => k_is); (case yxS0 => k_is); (case yxI0 => k_is); (case yxJ0 => k_is); (case yxL0 => k_is); (case yxR0 => k_is); (case yxO1 => k_is)
    (case yxE1 => k_is); (case yxT1 => k_is); (case yxK1 => k_is); (case yxD1 => k_is); (case yxG1 => k_is); (case yxH1 => k_is); (case yxC1 => k_is); (case yxM1 => k_is); (case yxn1_0 => k_is); (case yxn1_1 => k_is); (case yxn1_2 => k_is); (case yxn1_3 => k_is)
    (case yxn1_4 => k_is); (case yxn1_5 => k_is); (case yxn1_6 => k_is); (case yxn1_7 => k_is); (case yxn1_8 => k_is); (case yxn1_9 => k_is); (case yxn1_10 => k_is); (case yxn1_11 => k_is); (case yxn1_12 => k_is); (case yxS1 => k_is); (case yxI1 => k_is); (case yxJ1 => k_is)
    (case yxL1 => k_is); (case yxR1 => k_is); (case yxO2 => k_is); (case yxE2 => k_is); (case yxT2 => k_is); (case yxK2 => k_is); (case yxD2 => k_is); (case yxG2 => k_is); (case yxH2 => k_is); (case yxC2 => k_is); (case yxM2 => k_is); (case yxn2_0 => k_is)
    (case yxn2_1 => k_is); (case yxn2_2 => k_is); (case yxn2_3 => k_is); (case yxn2_4 => k_is); (case yxn2_5 => k_is); (case yxn2_6 => k_is); (case yxn2_7 => k_is); (case yxn2_8 => k_is); (case yxn2_9 => k_is); (case yxn2_10 => k_is); (case yxn2_11 => k_is); (case yxn2_12 => k_is)
    (case yxS2 => k_is); (case yxI2 => k_is); (case yxJ2 => k_is); (case yxL2 => k_is); (case yxR2 => k_is); (case yxO3 => k_is); (case yxE3 => k_is); (case yxT3 => k_is); (case yxK3 => k_is); (case yxD3 => k_is); (case yxG3 => k_is); (case yxH3 => k_is)
    (case yxC3 => k_is); (case yxM3 => k_is); (case yxn3_0 => k_is); (case yxn3_1 => k_is); (case yxn3_2 => k_is); (case yxn3_3 => k_is); (case yxn3_4 => k_is); (case yxn3_5 => k_is); (case yxn3_6 => k_is); (case yxn3_7 => k_is); (case yxn3_8 => k_is); (case yxn3_9 => k_is)
    (case yxn3_10 => k_is); (case yxn3_11 => k_is); (case yxn3_12 => k_is); (case yxS3 => k_is); (case yxI3 => k_is); (case yxJ3 => k_is); (case yxL3 => k_is); (case yxR3 => k_is); (case yxO4 => k_is); (case yxE4 => k_is); (case yxT4 => k_is); (case yxK4 => k_is)
    (case yxD4 => k_is); (case yxG4 => k_is); (case yxH4 => k_is); (case yxC4 => k_is); (case yxM4 => k_is); (case yxn4_0 => k_is); (case yxn4_1 => k_is); (case yxn4_2 => k_is); (case yxn4_3 => k_is); (case yxn4_4 => k_is); (case yxn4_5 => k_is); (case yxn4_6 => k_is)
    (case yxn4_7 => k_is); (case yxn4_8 => k_is); (case yxn4_9 => k_is); (case yxn4_10 => k_is); (case yxn4_11 => k_is); (case yxn4_12 => k_is); (case yxS4 => k_is); (case yxI4 => k_is); (case yxJ4 => k_is); (case yxL4 => k_is); (case yxR4 => k_is); (case yxO5 => k_is)
    (case yxE5 => k_is); (case yxT5 => k_is); (case yxK5 => k_is); (case yxD5 => k_is); (case yxG5 => k_is); (case yxH5 => k_is); (case yxC5 => k_is); (case yxM5 => k_is); (case yxn5_0 => k_is); (case yxn5_1 => k_is); (case yxn5_2 => k_is); (case yxn5_3 => k_is)
    (case yxn5_4 => k_is); (case yxn5_5 => k_is); (case yxn5_6 => k_is); (case yxn5_7 => k_is); (case yxn5_8 => k_is); (case yxn5_9 => k_is); (case yxn5_10 => k_is); (case yxn5_11 => k_is); (case yxn5_12 => k_is); (case yxS5 => k_is); (case yxI5 => k_is); (case yxJ5 => k_is)
    (case yxL5 => k_is); (case yxR5 => k_is); (case yxO6 => k_is); (case yxE6 => k_is); (case yxT6 => k_is); (case yxK6 => k_is); (case yxD6 => k_is); (case yxG6 => k_is); (case yxH6 => k_is); (case yxC6 => k_is); (case yxM6 => k_is); (case yxn6_0 => k_is)
    (case yxn6_1 => k_is); (case yxn6_2 => k_is); (case yxn6_3 => k_is); (case yxn6_4 => k_is); (case yxn6_5 => k_is); (case yxn6_6 => k_is); (case yxn6_7 => k_is); (case yxn6_8 => k_is); (case yxn6_9 => k_is); (case yxn6_10 => k_is); (case yxn6_11 => k_is); (case yxn6_12 => k_is)
    (case yxS6 => k_is); (case yxI6 => k_is); (case yxJ6 => k_is); (case yxL6 => k_is); (case yxR6 => k_is); (case yxO7 => k_is); (case yxE7 => k_is); (case yxT7 => k_is); (case yxK7 => k_is); (case yxD7 => k_is); (case yxG7 => k_is); (case yxH7 => k_is)
    (case yxC7 => k_is); (case yxM7 => k_is); (case yxn7_0 => k_is); (case yxn7_1 => k_is); (case yxn7_2 => k_is); (case yxn7_3 => k_is); (case yxn7_4 => k_is); (case yxn7_5 => k_is); (case yxn7_6 => k_is); (case yxn7_7 => k_is); (case yxn7_8 => k_is); (case yxn7_9 => k_is)
    (case yxn7_10 => k_is); (case yxn7_11 => k_is); (case yxn7_12 => k_is); (case yxS7 => k_is); (case yxI7 => k_is); (case yxJ7 => k_is); (case yxL7 => k_is); (case yxR7 => k_is); (case yxO8 => k_is); (case yxE8 => k_is); (case yxT8 => k_is); (case yxK8 => k_is)
    (case yxD8 => k_is); (case yxG8 => k_is); (case yxH8 => k_is); (case yxC8 => k_is); (case yxM8 => k_is); (case yxn8_0 => k_is); (case yxn8_1 => k_is); (case yxn8_2 => k_is); (case yxn8_3 => k_is); (case yxn8_4 => k_is); (case yxn8_5 => k_is); (case yxn8_6 => k_is)
    (case yxn8_7 => k_is); (case yxn8_8 => k_is); (case yxn8_9 => k_is); (case yxn8_10 => k_is); (case yxn8_11 => k_is); (case yxn8_12 => k_is); (case yxS8 => k_is); (case yxI8 => k_is); (case yxJ8 => k_is); (case yxL8 => k_is); (case yxR8 => k_is); (case yxO9 => k_is)
    (case yxE9 => k_is); (case yxT9 => k_is); (case yxK9 => k_is); (case yxD9 => k_is); (case yxG9 => k_is); (case yxH9 => k_is); (case yxC9 => k_is); (case yxM9 => k_is); (case yxn9_0 => k_is); (case yxn9_1 => k_is); (case yxn9_2 => k_is); (case yxn9_3 => k_is)
    (case yxn9_4 => k_is); (case yxn9_5 => k_is); (case yxn9_6 => k_is); (case yxn9_7 => k_is); (case yxn9_8 => k_is); (case yxn9_9 => k_is); (case yxn9_10 => k_is); (case yxn9_11 => k_is); (case yxn9_12 => k_is); (case yxS9 => k_is); (case yxI9 => k_is); (case yxJ9 => k_is)
    (case yxL9 => k_is); (case yxR9 => k_is); (case yxO10 => k_is); (case yxE10 => k_is); (case yxT10 => k_is); (case yxK10 => k_is); (case yxD10 => k_is); (case yxG10 => k_is); (case yxH10 => k_is); (case yxC10 => k_is); (case yxM10 => k_is); (case yxn10_0 => k_is)
    (case yxn10_1 => k_is); (case yxn10_2 => k_is); (case yxn10_3 => k_is); (case yxn10_4 => k_is); (case yxn10_5 => k_is); (case yxn10_6 => k_is); (case yxn10_7 => k_is); (case yxn10_8 => k_is); (case yxn10_9 => k_is); (case yxn10_10 => k_is); (case yxn10_11 => k_is); (case yxn10_12 => k_is)
    (case yxS10 => k_is); (case yxI10 => k_is); (case yxJ10 => k_is); (case yxL10 => k_is); (case yxR10 => k_is); (case yxO11 => k_is); (case yxE11 => k_is); (case yxT11 => k_is); (case yxK11 => k_is); (case yxD11 => k_is); (case yxG11 => k_is); (case yxH11 => k_is)
    (case yxC11 => k_is); (case yxM11 => k_is); (case yxn11_0 => k_is); (case yxn11_1 => k_is); (case yxn11_2 => k_is); (case yxn11_3 => k_is); (case yxn11_4 => k_is); (case yxn11_5 => k_is); (case yxn11_6 => k_is); (case yxn11_7 => k_is); (case yxn11_8 => k_is); (case yxn11_9 => k_is)
    (case yxn11_10 => k_is); (case yxn11_11 => k_is); (case yxn11_12 => k_is); (case yxS11 => k_is); (case yxI11 => k_is); (case yxJ11 => k_is); (case yxL11 => k_is); (case yxR11 => k_is); (case yxO12 => k_is); (case yxE12 => k_is); (case yxT12 => k_is); (case yxK12 => k_is)
    (case yxD12 => k_is); (case yxG12 => k_is); (case yxH12 => k_is); (case yxC12 => k_is); (case yxM12 => k_is); (case yxn12_0 => k_is); (case yxn12_1 => k_is); (case yxn12_2 => k_is); (case yxn12_3 => k_is); (case yxn12_4 => k_is); (case yxn12_5 => k_is); (case yxn12_6 => k_is)
    (case yxn12_7 => k_is); (case yxn12_8 => k_is); (case yxn12_9 => k_is); (case yxn12_10 => k_is); (case yxn12_11 => k_is); (case yxn12_12 => k_is); (case yxS12 => k_is); (case yxI12 => k_is); (case yxJ12 => k_is); (case yxL12 => k_is); (case yxR12 => k_is); (case yxO13 => k_is)
    (case yxE13 => k_is); (case yxT13 => k_is); (case yxK13 => k_is); (case yxD13 => k_is); (case yxG13 => k_is); (case yxH13 => k_is); (case yxC13 => k_is); (case yxM13 => k_is); (case yxn13_0 => k_is); (case yxn13_1 => k_is); (case yxn13_2 => k_is); (case yxn13_3 => k_is)
    (case yxn13_4 => k_is); (case yxn13_5 => k_is); (case yxn13_6 => k_is); (case yxn13_7 => k_is); (case yxn13_8 => k_is); (case yxn13_9 => k_is); (case yxn13_10 => k_is); (case yxn13_11 => k_is); (case yxn13_12 => k_is); (case yxS13 => k_is); (case yxI13 => k_is); (case yxJ13 => k_is)
    (case yxL13 => k_is); (case yxR13 => k_is); (case yxO14 => k_is); (case yxE14 => k_is); (case yxT14 => k_is); (case yxK14 => k_is); (case yxD14 => k_is); (case yxG14 => k_is); (case yxH14 => k_is); (case yxC14 => k_is); (case yxM14 => k_is); (case yxn14_0 => k_is)
    (case yxn14_1 => k_is); (case yxn14_2 => k_is); (case yxn14_3 => k_is); (case yxn14_4 => k_is); (case yxn14_5 => k_is); (case yxn14_6 => k_is); (case yxn14_7 => k_is); (case yxn14_8 => k_is); (case yxn14_9 => k_is); (case yxn14_10 => k_is); (case yxn14_11 => k_is); (case yxn14_12 => k_is)
    (case yxS14 => k_is); (case yxI14 => k_is); (case yxJ14 => k_is); (case yxL14 => k_is); (case yxR14 => k_is); (case yxO15 => k_is); (case yxE15 => k_is); (case yxT15 => k_is); (case yxK15 => k_is); (case yxD15 => k_is); (case yxG15 => k_is); (case yxH15 => k_is)
    (case yxC15 => k_is); (case yxM15 => k_is); (case yxn15_0 => k_is); (case yxn15_1 => k_is); (case yxn15_2 => k_is); (case yxn15_3 => k_is); (case yxn15_4 => k_is); (case yxn15_5 => k_is); (case yxn15_6 => k_is); (case yxn15_7 => k_is); (case yxn15_8 => k_is); (case yxn15_9 => k_is)
    (case yxn15_10 => k_is); (case yxn15_11 => k_is); (case yxn15_12 => k_is); (case yxS15 => k_is); (case yxI15 => k_is); (case yxJ15 => k_is); (case yxL15 => k_is); (case yxR15 => k_is); (case yxO16 => k_is); (case yxE16 => k_is); (case yxT16 => k_is); (case yxK16 => k_is)
    (case yxD16 => k_is); (case yxG16 => k_is); (case yxH16 => k_is); (case yxC16 => k_is); (case yxM16 => k_is); (case yxn16_0 => k_is); (case yxn16_1 => k_is); (case yxn16_2 => k_is); (case yxn16_3 => k_is); (case yxn16_4 => k_is); (case yxn16_5 => k_is); (case yxn16_6 => k_is)
    (case yxn16_7 => k_is); (case yxn16_8 => k_is); (case yxn16_9 => k_is); (case yxn16_10 => k_is); (case yxn16_11 => k_is); (case yxn16_12 => k_is); (case yxS16 => k_is); (case yxI16 => k_is); (case yxJ16 => k_is); (case yxL16 => k_is); (case yxR16 => k_is); (case yxO17 => k_is)
    (case yxE17 => k_is); (case yxT17 => k_is); (case yxK17 => k_is); (case yxD17 => k_is); (case yxG17 => k_is); (case yxH17 => k_is); (case yxC17 => k_is); (case yxM17 => k_is); (case yxn17_0 => k_is); (case yxn17_1 => k_is); (case yxn17_2 => k_is); (case yxn17_3 => k_is)
    (case yxn17_4 => k_is); (case yxn17_5 => k_is); (case yxn17_6 => k_is); (case yxn17_7 => k_is); (case yxn17_8 => k_is); (case yxn17_9 => k_is); (case yxn17_10 => k_is); (case yxn17_11 => k_is); (case yxn17_12 => k_is); (case yxS17 => k_is); (case yxI17 => k_is); (case yxJ17 => k_is)
    (case yxL17 => k_is); (case yxR17 => k_is); (case yxO18 => k_is); (case yxE18 => k_is); (case yxT18 => k_is); (case yxK18 => k_is); (case yxD18 => k_is); (case yxG18 => k_is); (case yxH18 => k_is); (case yxC18 => k_is); (case yxM18 => k_is); (case yxn18_0 => k_is)
    (case yxn18_1 => k_is); (case yxn18_2 => k_is); (case yxn18_3 => k_is); (case yxn18_4 => k_is); (case yxn18_5 => k_is); (case yxn18_6 => k_is); (case yxn18_7 => k_is); (case yxn18_8 => k_is); (case yxn18_9 => k_is); (case yxn18_10 => k_is); (case yxn18_11 => k_is); (case yxn18_12 => k_is)
    (case yxS18 => k_is); (case yxI18 => k_is); (case yxJ18 => k_is); (case yxL18 => k_is); (case yxR18 => k_is); (case yxO19 => k_is); (case yxE19 => k_is); (case yxT19 => k_is); (case yxK19 => k_is); (case yxD19 => k_is); (case yxG19 => k_is); (case yxH19 => k_is)
    (case yxC19 => k_is); (case yxM19 => k_is); (case yxn19_0 => k_is); (case yxn19_1 => k_is); (case yxn19_2 => k_is); (case yxn19_3 => k_is); (case yxn19_4 => k_is); (case yxn19_5 => k_is); (case yxn19_6 => k_is); (case yxn19_7 => k_is); (case yxn19_8 => k_is); (case yxn19_9 => k_is)
    (case yxn19_10 => k_is); (case yxn19_11 => k_is); (case yxn19_12 => k_is); (case yxS19 => k_is); (case yxI19 => k_is); (case yxJ19 => k_is); (case yxL19 => k_is); (case yxR19 => k_is); (case yxO20 => k_is); (case yxE20 => k_is); (case yxT20 => k_is); (case yxK20 => k_is)
    (case yxD20 => k_is); (case yxG20 => k_is); (case yxH20 => k_is); (case yxC20 => k_is); (case yxM20 => k_is); (case yxn20_0 => k_is); (case yxn20_1 => k_is); (case yxn20_2 => k_is); (case yxn20_3 => k_is); (case yxn20_4 => k_is); (case yxn20_5 => k_is); (case yxn20_6 => k_is)
    (case yxn20_7 => k_is); (case yxn20_8 => k_is); (case yxn20_9 => k_is); (case yxn20_10 => k_is); (case yxn20_11 => k_is); (case yxn20_12 => k_is); (case yxS20 => k_is); (case yxI20 => k_is); (case yxJ20 => k_is); (case yxL20 => k_is); (case yxR20 => k_is); (case yxO21 => k_is)
    (case yxE21 => k_is); (case yxT21 => k_is); (case yxK21 => k_is); (case yxD21 => k_is); (case yxG21 => k_is); (case yxH21 => k_is); (case yxC21 => k_is); (case yxM21 => k_is); (case yxn21_0 => k_is); (case yxn21_1 => k_is); (case yxn21_2 => k_is); (case yxn21_3 => k_is)
    (case yxn21_4 => k_is); (case yxn21_5 => k_is); (case yxn21_6 => k_is); (case yxn21_7 => k_is); (case yxn21_8 => k_is); (case yxn21_9 => k_is); (case yxn21_10 => k_is); (case yxn21_11 => k_is); (case yxn21_12 => k_is); (case yxS21 => k_is); (case yxI21 => k_is); (case yxJ21 => k_is)
    (case yxL21 => k_is); (case yxR21 => k_is); (case yxO22 => k_is); (case yxE22 => k_is); (case yxT22 => k_is); (case yxK22 => k_is); (case yxD22 => k_is); (case yxG22 => k_is); (case yxH22 => k_is); (case yxC22 => k_is); (case yxM22 => k_is); (case yxn22_0 => k_is)
    (case yxn22_1 => k_is); (case yxn22_2 => k_is); (case yxn22_3 => k_is); (case yxn22_4 => k_is); (case yxn22_5 => k_is); (case yxn22_6 => k_is); (case yxn22_7 => k_is); (case yxn22_8 => k_is); (case yxn22_9 => k_is); (case yxn22_10 => k_is); (case yxn22_11 => k_is); (case yxn22_12 => k_is)
    (case yxS22 => k_is); (case yxI22 => k_is); (case yxJ22 => k_is); (case yxL22 => k_is); (case yxR22 => k_is); (case yxO23 => k_is); (case yxE23 => k_is); (case yxT23 => k_is); (case yxK23 => k_is); (case yxD23 => k_is); (case yxG23 => k_is); (case yxH23 => k_is)
    (case yxC23 => k_is); (case yxM23 => k_is); (case yxn23_0 => k_is); (case yxn23_1 => k_is); (case yxn23_2 => k_is); (case yxn23_3 => k_is); (case yxn23_4 => k_is); (case yxn23_5 => k_is); (case yxn23_6 => k_is); (case yxn23_7 => k_is); (case yxn23_8 => k_is); (case yxn23_9 => k_is)
    (case yxn23_10 => k_is); (case yxn23_11 => k_is); (case yxn23_12 => k_is); (case yxS23 => k_is); (case yxI23 => k_is); (case yxJ23 => k_is); (case yxL23 => k_is); (case yxR23 => k_is); (case yxO24 => k_is); (case yxE24 => k_is); (case yxT24 => k_is); (case yxK24 => k_is)
    (case yxD24 => k_is); (case yxG24 => k_is); (case yxH24 => k_is); (case yxC24 => k_is); (case yxM24 => k_is); (case yxn24_0 => k_is); (case yxn24_1 => k_is); (case yxn24_2 => k_is); (case yxn24_3 => k_is); (case yxn24_4 => k_is); (case yxn24_5 => k_is); (case yxn24_6 => k_is)
    (case yxn24_7 => k_is); (case yxn24_8 => k_is); (case yxn24_9 => k_is); (case yxn24_10 => k_is); (case yxn24_11 => k_is); (case yxn24_12 => k_is); (case yxS24 => k_is); (case yxI24 => k_is); (case yxJ24 => k_is); (case yxL24 => k_is); (case yxR24 => k_is); (case yxO25 => k_is)
    (case yxE25 => k_is); (case yxT25 => k_is); (case yxK25 => k_is); (case yxD25 => k_is); (case yxG25 => k_is); (case yxH25 => k_is); (case yxC25 => k_is); (case yxM25 => k_is); (case yxn25_0 => k_is); (case yxn25_1 => k_is); (case yxn25_2 => k_is); (case yxn25_3 => k_is)
    (case yxn25_4 => k_is); (case yxn25_5 => k_is); (case yxn25_6 => k_is); (case yxn25_7 => k_is); (case yxn25_8 => k_is); (case yxn25_9 => k_is); (case yxn25_10 => k_is); (case yxn25_11 => k_is); (case yxn25_12 => k_is); (case yxS25 => k_is); (case yxI25 => k_is); (case yxJ25 => k_is)
    (case yxL25 => k_is); (case yxR25 => k_is); (case yxO26 => k_is); (case yxE26 => k_is); (case yxT26 => k_is); (case yxK26 => k_is); (case yxD26 => k_is); (case yxG26 => k_is); (case yxH26 => k_is); (case yxC26 => k_is); (case yxM26 => k_is); (case yxn26_0 => k_is)
    (case yxn26_1 => k_is); (case yxn26_2 => k_is); (case yxn26_3 => k_is); (case yxn26_4 => k_is); (case yxn26_5 => k_is); (case yxn26_6 => k_is); (case yxn26_7 => k_is); (case yxn26_8 => k_is); (case yxn26_9 => k_is); (case yxn26_10 => k_is); (case yxn26_11 => k_is); (case yxn26_12 => k_is)
    (case yxI26 => first | rfl | kernel_rfl | decide +kernel); (case yyE0q => k_is); (case yyD0q => k_is); (case yyT0q => k_is); (case yxw0 => k_is); (case yxx0 => k_is); (case yxy0 => k_is); (case yxi0 => k_is); (case yxi1 => k_is); (case yxi2 => k_is); (case yxi3 => k_is); (case yxi4 => k_is)
    (case yxz0 => k_is); (case yxz1 => k_is); (case yxND => decide); (case yz0 => k_is); (case yz1 => k_is); (case yz2 => k_is); (case yz3 => k_is); (case yz4 => k_is); (case yz5 => k_is); (case yz6 => k_is); (case yz7 => k_is); (case yz8 => k_is)
    (case yz9 => k_is); (case yz10 => k_is); (case yz11 => k_is); (case yz12 => k_is)
