import PyProof.Rows.All
import Wide.All
import OpenK.AllK
import Wide.FinOn
import HandS.ForMost
import HandS.TupAny
import HandS.Deep
import HandS.TupMul
import HandS.Flow
import HandS.ForExc
import HandS.DictComp
import HandS.IsInst
import HandS.SortKw
import KE.DataMinMax
import HandS.Exc
import HandS.EndBits
import PyProof.ReprBulk
import PyProof.Rows.ReprShort
import PySem.Challenge.RW_rowstold_k16_disk_lists
set_option Elab.async false
set_option linter.all false
set_option maxRecDepth 100000
/-! MI, part 1: values, heap objects, the small language, and what a run of it comes to (predicate transformers). -/
namespace MI
open PySem

abbrev SZ : Nat := 16777216

/-- a value: tuples and the script stand inline, what may change is a place in the heap -/
inductive D where
  | non
  | bl (b : Bool)
  | int (i : Int)
  | str (x : Str)
  | tup (xs : List D)
  | kl (xs : List D)
  | ref (i : Nat)
  | fn (k : Nat)
  | cls (k : Nat)
  | ty (n : String)
  | kd (k : Nat)
  | exv (c i : Nat)

/-- what stands at a place (fdic: a dict while it is walked) -/
inductive O where
  | lst (xs : List D)
  | dic (kvs : List (L2.Key × D))
  | fdic (kvs : List (L2.Key × D))
  | ins (c : Nat) (fs : List (Nat × D))
  | xd (c : Nat) (fs : List (Nat × D))

abbrev Hq := List O
abbrev Env := List (Option D)

/-- outcomes: a value and a heap, a truth, a heap; under a condition -/
inductive OutD | no | ok (d : D) (hp : Hq) | cd (C : Prop) (d : D) (hp : Hq)
inductive OutB | no | ok (b : Bool) | cd (C : Prop) (b : Bool)
inductive OutH | no | ok (hp : Hq) | cd (C : Prop) (hp : Hq)
abbrev QD := D → Hq → Prop
abbrev QX := Nat → Nat → Hq → Prop
def OutD.app : OutD → QD → Prop
  | .no, _ => False
  | .ok d hp, Q => Q d hp
  | .cd C d hp, Q => C ∧ Q d hp
def OutB.app : OutB → (Bool → Prop) → Prop
  | .no, _ => False
  | .ok b, k => k b
  | .cd C b, k => C ∧ k b
def OutH.app : OutH → (Hq → Prop) → Prop
  | .no, _ => False
  | .ok hp, k => k hp
  | .cd C hp, k => C ∧ k hp
def OutB.val (neg : Bool) (hp : Hq) : OutB → OutD
  | .no => .no
  | .ok b => .ok (.bl (if neg then !b else b)) hp
  | .cd C b => .cd C (.bl (if neg then !b else b)) hp

/-! ### dicts, attributes -/
def dget {α : Type} : List (L2.Key × α) → L2.Key → Option α
  | [], _ => none
  | (k', v) :: r, k => if k' = k then some v else dget r k
def dput {α : Type} (kvs : List (L2.Key × α)) (k : L2.Key) (v : α) : List (L2.Key × α) :=
  if (kvs.any fun kv => decide (kv.1 = k)) = true then kvs.map (fun kv => if kv.1 = k then (kv.1, v) else kv) else kvs ++ [(k, v)]
def ddrop {α : Type} (kvs : List (L2.Key × α)) (k : L2.Key) : List (L2.Key × α) := kvs.filter fun kv => decide (kv.1 ≠ k)
def fget : List (Nat × D) → Nat → Option D
  | [], _ => none
  | (g, x) :: r, f => if g = f then some x else fget r f
def fput : List (Nat × D) → Nat → D → List (Nat × D)
  | [], f, v => [(f, v)]
  | (g, x) :: r, f, v => if g = f then (g, v) :: r else (g, x) :: fput r f v
def kOf : D → Option L2.Key
  | .int i => some (.inl i)
  | .str x => some (.inr x)
  | _ => none
def keyD : L2.Key → D
  | .inl i => .int i
  | .inr x => .str x

/-! ### reading the heap -/
def gtL (hp : Hq) (i : Nat) : Option (List D) := match hp[i]? with
  | some (.lst xs) => some xs
  | _ => none
def gtD (hp : Hq) (i : Nat) : Option (List (L2.Key × D)) := match hp[i]? with
  | some (.dic kvs) => some kvs
  | _ => none
def rdD (hp : Hq) (i : Nat) : Option (List (L2.Key × D)) := match hp[i]? with
  | some (.dic kvs) => some kvs
  | some (.fdic kvs) => some kvs
  | _ => none
def gtI (hp : Hq) (i : Nat) : Option (Nat × List (Nat × D)) := match hp[i]? with
  | some (.ins c fs) => some (c, fs)
  | _ => none
/-- a list's items -/
def lsOf (hp : Hq) : D → Option (List D)
  | .kl xs => some xs
  | .ref i => gtL hp i
  | _ => none
/-- a list's or tuple's -/
def sqOf (hp : Hq) : D → Option (List D)
  | .tup xs => some xs
  | .kl xs => some xs
  | .ref i => gtL hp i
  | _ => none

def mapO {α β : Type} (f : α → Option β) : List α → Option (List β)
  | [] => some []
  | x :: xs => match f x with
    | none => none
    | some y => match mapO f xs with
      | none => none
      | some ys => some (y :: ys)

/-- a value as plain data, lists read from the heap -/
def toP : Nat → Hq → D → Option PyData
  | 0, _, _ => none
  | n + 1, hp, d => match d with
    | .non => some .none
    | .bl b => some (.bool b)
    | .int i => some (.int i)
    | .str x => some (.str x)
    | .tup ds => (mapO (toP n hp) ds).map .tuple
    | .kl ds => (mapO (toP n hp) ds).map .list
    | .ref i => match gtL hp i with
      | some ds => (mapO (toP n hp) ds).map .list
      | none => none
    | _ => none

/-! ### the language -/
inductive BOp | add | sub | mul | fdiv | mod | pow
  deriving DecidableEq
inductive COp | eq | ne | lt | le | gt | ge | is | nis | isin | nin
  deriving DecidableEq
/-- built-in functions of evaluated arguments -/
inductive BF | len | list1 | tuple1 | dict1 | dict0 | int1 | str1 | repr | sum1 | max1 | min1 | max2 | min2 | sorted1 | all1 | any1 | isi
  deriving DecidableEq
/-- methods of built-in types -/
inductive BM | append | extend | pop0 | pop1 | pop2 | get1 | get2 | setdef | clear
  deriving DecidableEq

mutual
inductive Ex where
  | var (i : Nat)
  | lit (d : D)
  | glob (g : Nat)
  | bin (o : BOp) (a b : Ex)
  | neg (a : Ex)
  | cmp (o : COp) (a b : Ex)
  | cmp2 (o p : COp) (a b c : Ex)
  | and (a b : Ex)
  | or (a b : Ex)
  | not (a : Ex)
  | ite (c a b : Ex)
  | tup (es : Exs)
  | lst (es : Exs)
  | dic (es : Exs)
  | bty (n : String)
  | mmd (mx : Bool) (a d : Ex)
  | ix (a i : Ex)
  | sl (a : Ex) (lo hi : Exo)
  | fld (a : Ex) (f : Nat)
  | call (f : Nat) (es : Exs)
  | callK (f : Nat) (es : Exs) (pm : List (Sum Nat D))
  | make (c : Nat) (es : Exs)
  | makeK (c : Nat) (es : Exs) (pm : List (Sum Nat D))
  | meth (a : Ex) (m : Nat) (es : Exs)
  | methK (a : Ex) (m : Nat) (es : Exs) (pm : List (Sum Nat D))
  | blt (b : BF) (es : Exs)
  | bm (m : BM) (a : Ex) (es : Exs)
  | lc (own : List Nat) (t : Tg) (it : Ix) (c : Exo) (e : Ex)
  | dc (own : List Nat) (t : Tg) (it : Ix) (c : Exo) (k e : Ex)
  | lc2 (own own1 : List Nat) (t : Tg) (it : Ix) (t1 : Tg) (a e : Ex)
  | lenD (a : Ex) (m : Nat)
inductive Exs where
  | nil
  | cons (e : Ex) (r : Exs)
inductive Exo where
  | no
  | so (e : Ex)
/-- targets -/
inductive Tg where
  | nm (i : Nat)
  | tp (ts : Tgs)
  | at (o : Ex) (f : Nat)
  | sb (o i : Ex)
inductive Tgs where
  | nil
  | cons (t : Tg) (r : Tgs)
/-- what is walked -/
inductive Ix where
  | vl (e : Ex)
  | rng1 (e : Ex)
  | rng2 (a b : Ex)
  | enum (e : Ex)
  | zip2 (a b : Ex)
  | items (e : Ex)
  | vals (e : Ex)
end

mutual
inductive St where
  | pass
  | brk
  | cont
  | expr (e : Ex)
  | ret (e : Exo)
  | asg (t : Tg) (e : Ex)
  | augn (i : Nat) (o : BOp) (e : Ex)
  | augf (o : Ex) (f : Nat) (p : BOp) (e : Ex)
  | ifs (c : Ex) (a b : Sts)
  | whl (c : Ex) (b : Sts)
  | for_ (t : Tg) (it : Ix) (b : Sts)
  | never
inductive Sts where
  | nil
  | cons (s : St) (r : Sts)
end

def Exs.len : Exs → Nat
  | .nil => 0
  | .cons _ r => r.len + 1
def Tgs.len : Tgs → Nat
  | .nil => 0
  | .cons _ r => r.len + 1

structure FnI where
  np : Nat
  ns : Nat
  body : Sts
structure ClsI where
  init : Nat
  meths : List (Nat × Nat)
structure Glob where
  fns : List FnI
  clss : List ClsI
  consts : List D

abbrev Cl := Nat → List D → Hq → QD → QX → Prop

def nfind : List (Nat × Nat) → Nat → Option Nat
  | [], _ => none
  | (k, v) :: r, m => if k = m then some v else nfind r m
def Glob.meth (g : Glob) (c m : Nat) : Option Nat := match g.clss[c]? with
  | some ci => nfind ci.meths m
  | none => none
def Glob.init (g : Glob) (c : Nat) : Option Nat := match g.clss[c]? with
  | some ci => some ci.init
  | none => none

/-! ### operations by values -/
def oNew (hp : Hq) (o : O) : OutD := .ok (.ref hp.length) (hp ++ [o])

def oBin : BOp → D → D → Hq → OutD
  | .add, .int i, .int j, hp => .ok (.int (i + j)) hp
  | .add, .str x, .str y, hp => .cd (x.length + y.length ≤ SZ) (.str (x ++ y)) hp
  | .add, .tup xs, .tup ys, hp => .cd (xs.length + ys.length ≤ SZ) (.tup (xs ++ ys)) hp
  | .add, .ref a, .ref b, hp => match gtL hp a, gtL hp b with
    | some xs, some ys => .cd (xs.length + ys.length ≤ SZ) (.ref hp.length) (hp ++ [.lst (xs ++ ys)])
    | _, _ => .no
  | .sub, .int i, .int j, hp => .ok (.int (i - j)) hp
  | .mul, .int i, .int j, hp => .cd ((-(2 ^ 64) < i ∧ i < 2 ^ 64) ∨ (-(2 ^ 64) < j ∧ j < 2 ^ 64)) (.int (i * j)) hp
  | .mul, .ref a, .int k, hp => match gtL hp a with
    | some xs => .cd (-(2 ^ 63) ≤ k ∧ k < 2 ^ 63 ∧ xs.length * k.toNat ≤ SZ) (.ref hp.length) (hp ++ [.lst (List.replicate k.toNat xs).flatten])
    | none => .no
  | .fdiv, .int i, .int j, hp => .cd (0 < j ∧ j < 1073741824) (.int (i / j)) hp
  | .mod, .int i, .int j, hp => .cd (0 < j) (.int (i % j)) hp
  | .pow, .int i, .int j, hp => .cd (0 ≤ j ∧ j ≤ 1000000 ∧ i.natAbs < 2 ^ 64) (.int (i ^ j.toNat)) hp
  | _, _, _, _ => .no

def oTru : D → Hq → OutB
  | .non, _ => .ok false
  | .bl b, _ => .ok b
  | .int i, _ => .ok (i != 0)
  | .str y, _ => .cd (y.length ≤ SZ) ((y.length : Int) != 0)
  | .tup xs, _ => .ok (!xs.isEmpty)
  | .kl xs, _ => .ok (!xs.isEmpty)
  | .ref i, hp => match hp[i]? with
    | some (.lst xs) => .ok (!xs.isEmpty)
    | some (.dic kvs) => .ok (!kvs.isEmpty)
    | _ => .no
  | _, _ => .no

/-- what is alike just by its own look -/
def flD : D → Bool
  | .non => true | .bl _ => true | .int _ => true | .str _ => true
  | _ => false
/-- two dicts that are alike -/
def oEqK (ks ls : List (L2.Key × D)) : OutB := .cd (ks.length = ls.length ∧ ∀ p ∈ ks, dget ls p.1 = some p.2 ∧ flD p.2 = true) true
def oEqP (x y : D) (hp : Hq) : OutB := match toP 40 hp x, toP 40 hp y with
  | some a, some b => .cd (SeqAt.shaped a = true ∧ SeqAt.shaped b = true) (PyData.eqv a b)
  | _, _ => .no
def oEqG (x y : D) (hp : Hq) : OutB := match x, y with
  | .ref i, .ref j => match gtD hp i, gtD hp j with
    | some ks, some ls => oEqK ks ls
    | _, _ => oEqP x y hp
  | _, _ => oEqP x y hp
def oEq : D → D → Hq → OutB
  | .int i, .int j, _ => .ok (decide (i = j))
  | .str x, .str y, _ => .ok (decide (x = y))
  | .bl a, .bl b, _ => .ok (decide (a = b))
  | .non, .non, _ => .ok true
  | x, y, hp => oEqG x y hp

def isNon : D → Bool
  | .non => true
  | _ => false

def oInS (x : D) (ys : List D) (hp : Hq) : OutB := match toP 40 hp x, mapO (toP 40 hp) ys with
  | some a, some bs => .cd (SeqAt.shaped a = true ∧ SeqAt.shaped (.list bs) = true) (bs.any fun b => PyData.eqv b a)
  | _, _ => .no
def oInD (x : D) (kvs : List (L2.Key × D)) : OutB := match kOf x with
  | some key => .ok (dget kvs key).isSome
  | none => .no
def oIn : D → D → Hq → OutB
  | x, .ref i, hp => match hp[i]? with
    | some (.dic kvs) => oInD x kvs
    | some (.fdic kvs) => oInD x kvs
    | some (.lst ys) => oInS x ys hp
    | _ => .no
  | x, .tup ys, hp => oInS x ys hp
  | x, .kl ys, hp => oInS x ys hp
  | _, _, _ => .no

def oCmp : COp → D → D → Hq → OutD
  | .eq, x, y, hp => (oEq x y hp).val false hp
  | .ne, x, y, hp => (oEq x y hp).val true hp
  | .lt, .int i, .int j, hp => .ok (.bl (decide (i < j))) hp
  | .le, .int i, .int j, hp => .ok (.bl (decide (i ≤ j))) hp
  | .gt, .int i, .int j, hp => .ok (.bl (decide (j < i))) hp
  | .ge, .int i, .int j, hp => .ok (.bl (decide (j ≤ i))) hp
  | .is, x, .non, hp => .ok (.bl (isNon x)) hp
  | .nis, x, .non, hp => .ok (.bl (!isNon x)) hp
  | .isin, x, y, hp => (oIn x y hp).val false hp
  | .nin, x, y, hp => (oIn x y hp).val true hp
  | _, _, _, _ => .no

def oAtI (xs : List D) (i : Int) (hp : Hq) : OutD := match L2.atI xs i with
  | some d => .ok d hp
  | none => .no
def oAtK (kvs : List (L2.Key × D)) (x : D) (hp : Hq) : OutD := match kOf x with
  | some key => match dget kvs key with
    | some d => .ok d hp
    | none => .no
  | none => .no
def oIx : D → D → Hq → OutD
  | .tup xs, .int i, hp => oAtI xs i hp
  | .kl xs, .int i, hp => oAtI xs i hp
  | .ref a, x, hp => match hp[a]? with
    | some (.dic kvs) => oAtK kvs x hp
    | some (.fdic kvs) => oAtK kvs x hp
    | some (.lst xs) => match x with
      | .int i => oAtI xs i hp
      | _ => .no
    | _ => .no
  | _, _, _ => .no

def cutD {α : Type} (xs : List α) (lo hi : Option Int) : List α := (xs.drop (HT.sIx xs.length 0 lo)).take (HT.sIx xs.length xs.length hi - HT.sIx xs.length 0 lo)
def bnd : Option D → Option (Option Int)
  | none => some none
  | some (.int i) => some (some i)
  | _ => none
def oSl (x : D) (l h : Option Int) (hp : Hq) : OutD := match x with
  | .tup xs => .ok (.tup (cutD xs l h)) hp
  | .ref a => match gtL hp a with
    | some xs => oNew hp (.lst (cutD xs l h))
    | none => .no
  | _ => .no

def intsOf : List D → Option (List Int)
  | [] => some []
  | .int i :: r => match intsOf r with
    | some ns => some (i :: ns)
    | none => none
  | _ => none
def boolsOf : List D → Option (List Bool)
  | [] => some []
  | .bl b :: r => match boolsOf r with
    | some bs => some (b :: bs)
    | none => none
  | _ => none
def imax : Int → List Int → Int
  | m, [] => m
  | m, n :: r => imax (if n > m then n else m) r
def imin : Int → List Int → Int
  | m, [] => m
  | m, n :: r => imin (if n < m then n else m) r

/-- the built-in type of a value -/
def tyOf (hp : Hq) : D → Option String
  | .non => some "NoneType"
  | .bl _ => some "bool"
  | .int _ => some "int"
  | .str _ => some "str"
  | .tup _ => some "tuple"
  | .kl _ => some "list"
  | .ref i => match hp[i]? with
    | some (.lst _) => some "list"
    | some (.dic _) => some "dict"
    | some (.fdic _) => some "dict"
    | _ => none
  | _ => none
def tyAll : List String := ["int", "str", "bool", "tuple", "list", "dict"]
def isiB (a b : String) : Bool := a == b || (a == "bool" && b == "int")
def oMmd (mx : Bool) (x y : D) (hp : Hq) : OutD := match (lsOf hp x).bind intsOf with
  | some [] => .ok y hp
  | some (n :: ns) => .ok (.int (if mx then imax n ns else imin n ns)) hp
  | none => .no
def pairsOf : List D → Option (List (L2.Key × D))
  | [] => some []
  | k :: v :: r => match kOf k, pairsOf r with
    | some k, some kvs => some ((k, v) :: kvs)
    | _, _ => none
  | _ => none

/-- a list of pairs, the keys ints or texts -/
def prsOf : List D → Option (List (L2.Key × D))
  | [] => some []
  | .tup [k, v] :: r => match kOf k, prsOf r with
    | some k, some kvs => some ((k, v) :: kvs)
    | _, _ => none
  | _ => none
def oBF : BF → List D → Hq → OutD
  | .len, [.str x], hp => .cd (x.length ≤ SZ) (.int x.length) hp
  | .len, [.tup xs], hp => .ok (.int xs.length) hp
  | .len, [.kl xs], hp => .ok (.int xs.length) hp
  | .len, [.ref i], hp => match hp[i]? with
    | some (.lst xs) => .ok (.int xs.length) hp
    | some (.dic kvs) => .ok (.int kvs.length) hp
    | some (.fdic kvs) => .ok (.int kvs.length) hp
    | _ => .no
  | .list1, [x], hp => match sqOf hp x with
    | some xs => oNew hp (.lst xs)
    | none => .no
  | .tuple1, [x], hp => match sqOf hp x with
    | some xs => .ok (.tup xs) hp
    | none => .no
  | .dict1, [x], hp => match lsOf hp x with
    | some xs => match prsOf xs with
      | some kvs => oNew hp (.dic (kvs.foldl (fun acc kv => dput acc kv.1 kv.2) []))
      | none => .no
    | none => match x with
      | .ref i => match rdD hp i with
        | some kvs => oNew hp (.dic kvs)
        | none => .no
      | _ => .no
  | .int1, [.int i], hp => .ok (.int i) hp
  | .int1, [.bl b], hp => .ok (.int (if b then 1 else 0)) hp
  | .repr, [x], hp => match toP 40 hp x with
    | some a => .cd (SeqAt.shaped a = true ∧ a.showable = true ∧ a.shown.length ≤ SZ) (.str a.shown) hp
    | none => .no
  | .sum1, [x], hp => match (lsOf hp x).bind intsOf with
    | some ns => .ok (.int ns.sum) hp
    | none => .no
  | .max2, [.int i, .int j], hp => .ok (.int (if j > i then j else i)) hp
  | .min2, [.int i, .int j], hp => .ok (.int (if j < i then j else i)) hp
  | .max1, [x], hp => match (lsOf hp x).bind intsOf with
    | some (n :: ns) => .ok (.int (imax n ns)) hp
    | _ => .no
  | .min1, [x], hp => match (lsOf hp x).bind intsOf with
    | some (n :: ns) => .ok (.int (imin n ns)) hp
    | _ => .no
  | .all1, [x], hp => match (lsOf hp x).bind boolsOf with
    | some bs => .ok (.bl (bs.all id)) hp
    | none => .no
  | .any1, [x], hp => match (lsOf hp x).bind boolsOf with
    | some bs => .ok (.bl (bs.any id)) hp
    | none => .no
  | .isi, [x, .ty b], hp => match tyOf hp x with
    | some a => if tyAll.contains b then .ok (.bl (isiB a b)) hp else .no
    | none => .no
  | _, _, _ => .no

/-- the kind of a receiver that has such a method -/
inductive BK | lst | dic | str
  deriving DecidableEq
def bmK : BM → D → Hq → Option BK
  | .append, .ref i, hp => match hp[i]? with
    | some (.lst _) => some .lst
    | _ => none
  | .get1, .ref i, hp => match hp[i]? with
    | some (.dic _) => some .dic
    | some (.fdic _) => some .dic
    | _ => none
  | .get2, .ref i, hp => match hp[i]? with
    | some (.dic _) => some .dic
    | some (.fdic _) => some .dic
    | _ => none
  | .pop1, .ref i, hp => match hp[i]? with
    | some (.dic _) => some .dic
    | some (.lst _) => some .lst
    | _ => none
  | .pop2, .ref i, hp => match hp[i]? with
    | some (.dic _) => some .dic
    | _ => none
  | .clear, .ref i, hp => match hp[i]? with
    | some (.lst _) => some .lst
    | some (.dic _) => some .dic
    | _ => none
  | _, _, _ => none
def oBM : BM → BK → D → List D → Hq → OutD
  | .append, .lst, .ref i, [d], hp => match gtL hp i with
    | some xs => .cd (xs.length < SZ) .non (hp.set i (.lst (xs ++ [d])))
    | none => .no
  | .get1, .dic, .ref i, [x], hp => match rdD hp i, kOf x with
    | some kvs, some k => .ok ((dget kvs k).getD .non) hp
    | _, _ => .no
  | .get2, .dic, .ref i, [x, y], hp => match rdD hp i, kOf x with
    | some kvs, some k => .ok ((dget kvs k).getD y) hp
    | _, _ => .no
  | .pop2, .dic, .ref i, [x, y], hp => match gtD hp i, kOf x with
    | some kvs, some k => match dget kvs k with
      | some d => .ok d (hp.set i (.dic (ddrop kvs k)))
      | none => .ok y hp
    | _, _ => .no
  | .pop1, .dic, .ref i, [x], hp => match gtD hp i, kOf x with
    | some kvs, some k => match dget kvs k with
      | some d => .ok d (hp.set i (.dic (ddrop kvs k)))
      | none => .no
    | _, _ => .no
  | .pop1, .lst, .ref i, [.int z], hp => match gtL hp i with
    | some xs => match L2.ixN xs.length z with
      | some j => match xs[j]? with
        | some d => .cd (-(2 ^ 63) ≤ z ∧ z < 2 ^ 63) d (hp.set i (.lst (xs.eraseIdx j)))
        | none => .no
      | none => .no
    | none => .no
  | .clear, .lst, .ref i, [], hp => match gtL hp i with
    | some _ => .ok .non (hp.set i (.lst []))
    | none => .no
  | .clear, .dic, .ref i, [], hp => match gtD hp i with
    | some _ => .ok .non (hp.set i (.dic []))
    | none => .no
  | _, _, _, _, _ => .no

def oSet : D → D → D → Hq → OutH
  | .ref a, x, v, hp => match hp[a]? with
    | some (.dic kvs) => match kOf x with
      | some key => .cd (kvs.length < SZ) (hp.set a (.dic (dput kvs key v)))
      | none => .no
    | some (.lst xs) => match x with
      | .int i => match L2.ixN xs.length i with
        | some j => .ok (hp.set a (.lst (xs.set j v)))
        | none => .no
      | _ => .no
    | _ => .no
  | _, _, _, _ => .no

def oGetF : D → Nat → Hq → OutD
  | .ref i, f, hp => match gtI hp i with
    | some (_, fs) => match fget fs f with
      | some d => .ok d hp
      | none => .no
    | none => .no
  | _, _, _ => .no
def oSetF : D → Nat → D → Hq → OutH
  | .ref i, f, v, hp => match gtI hp i with
    | some (c, fs) => .cd (fs.length < 900) (hp.set i (.ins c (fput fs f v)))
    | none => .no
  | _, _, _, _ => .no
def oAug : BOp → D → D → Hq → OutD
  | .add, .int i, .int j, hp => .ok (.int (i + j)) hp
  | .sub, .int i, .int j, hp => .ok (.int (i - j)) hp
  | _, _, _, _ => .no

/-! ### loops -/
structure Itr where
  nx : Nat → Hq → Option (Option D)
  un : Hq → Hq

/-- a comprehension: body hands on an item, or none where the test fails -/
def lcLoop (nx : Nat → Hq → Option (Option D)) (body : D → Hq → (Option D → Hq → Prop) → Prop) : Nat → Nat → List D → Hq → (List D → Hq → Prop) → Prop
  | 0, _, _, _, _ => False
  | N + 1, j, acc, hp, k => match nx j hp with
    | none => False
    | some none => k acc hp
    | some (some d) => body d hp fun r hp' => match r with
      | none => lcLoop nx body N (j + 1) acc hp' k
      | some y => acc.length < SZ ∧ lcLoop nx body N (j + 1) (acc ++ [y]) hp' k

/-- a dict comprehension: body hands on a key and a value -/
def dcLoop (nx : Nat → Hq → Option (Option D)) (body : D → Hq → (Option (D × D) → Hq → Prop) → Prop) : Nat → Nat → List (L2.Key × D) → Hq → (List (L2.Key × D) → Hq → Prop) → Prop
  | 0, _, _, _, _ => False
  | N + 1, j, acc, hp, k => match nx j hp with
    | none => False
    | some none => k acc hp
    | some (some d) => body d hp fun r hp' => match r with
      | none => dcLoop nx body N (j + 1) acc hp' k
      | some (y, z) => match kOf y with
        | some key => acc.length < SZ ∧ dcLoop nx body N (j + 1) (dput acc key z) hp' k
        | none => False
/-- a comprehension whose turns hand on what stands so far -/
def acLoop (nx : Nat → Hq → Option (Option D)) (body : D → List D → Hq → (List D → Hq → Prop) → Prop) : Nat → Nat → List D → Hq → (List D → Hq → Prop) → Prop
  | 0, _, _, _, _ => False
  | N + 1, j, acc, hp, k => match nx j hp with
    | none => False
    | some none => k acc hp
    | some (some d) => body d acc hp fun acc' hp' => acLoop nx body N (j + 1) acc' hp' k

def forLoop (nx : Nat → Hq → Option (Option D)) (body : D → Env → Hq → (Env → Hq → Prop) → Prop) : Nat → Nat → Env → Hq → (Env → Hq → Prop) → Prop
  | 0, _, _, _, _ => False
  | N + 1, j, env, hp, k => match nx j hp with
    | none => False
    | some none => k env hp
    | some (some d) => body d env hp fun env' hp' => forLoop nx body N (j + 1) env' hp' k

def whLoop (body : Env → Hq → (Env → Hq → Prop) → (Env → Hq → Prop) → Prop) : Nat → Env → Hq → (Env → Hq → Prop) → Prop
  | 0, _, _, _ => False
  | N + 1, env, hp, k => body env hp (fun env' hp' => whLoop body N env' hp' k) k

def wipeE (env : Env) : List Nat → Env
  | [] => env
  | i :: r => (wipeE env r).set i none

def perm (pm : List (Sum Nat D)) (ds : List D) : Option (List D) := mapO (fun p => match p with
  | .inl j => ds[j]?
  | .inr d => some d) pm

def itFix (xs : List D) : Itr := ⟨fun j _ => some xs[j]?, id⟩
def itLst (i : Nat) : Itr := ⟨fun j h => (gtL h i).map fun xs => xs[j]?, id⟩
def itSeq (hp : Hq) : D → Option (Itr × Hq)
  | .tup ds => some (itFix ds, hp)
  | .kl ds => some (itFix ds, hp)
  | .ref i => match hp[i]? with
    | some (.lst _) => some (itLst i, hp)
    | some (.dic kvs) => some (⟨fun j _ => some ((kvs.map fun kv => keyD kv.1)[j]?), fun h => h.set i (.dic kvs)⟩, hp.set i (.fdic kvs))
    | some (.fdic kvs) => some (itFix (kvs.map fun kv => keyD kv.1), hp)
    | _ => none
  | .str x => some (⟨fun j _ => some ((x.cps[j]?).map fun c => .str ⟨#[c]⟩), id⟩, hp)
  | _ => none
/-- .. of lists and tuples alone -/
def itSq (hp : Hq) : D → Option Itr
  | .tup ds => some (itFix ds)
  | .kl ds => some (itFix ds)
  | .ref i => match hp[i]? with
    | some (.lst _) => some (itLst i)
    | _ => none
  | _ => none
def itDic (f : L2.Key × D → D) (hp : Hq) : D → Option (Itr × Hq)
  | .ref i => match hp[i]? with
    | some (.dic kvs) => some (⟨fun j _ => some ((kvs.map f)[j]?), fun h => h.set i (.dic kvs)⟩, hp.set i (.fdic kvs))
    | some (.fdic kvs) => some (itFix (kvs.map f), hp)
    | _ => none
  | _ => none
def itRng (lo hi : Int) : Itr := ⟨fun j _ => some (if (j : Int) < hi - lo then some (.int (lo + j)) else none), id⟩
def rngOk (lo hi : Int) : Prop := (-(2 ^ 62) ≤ lo ∧ lo < 2 ^ 62) ∧ -(2 ^ 62) ≤ hi ∧ hi < 2 ^ 62
def itEnum (i : Nat) : Itr := ⟨fun j h => (gtL h i).map fun xs => (xs[j]?).map fun d => .tup [.int j, d], id⟩
def itZip (a b : Nat) : Itr := ⟨fun j h => match gtL h a, gtL h b with
  | some xs, some ys => match xs[j]?, ys[j]? with
    | some x, some y => some (some (.tup [x, y]))
    | none, _ => some none
    | _, none => some none
  | _, _ => none, id⟩

/-! ### runs -/
structure KS where
  nx : Env → Hq → Prop
  bk : Env → Hq → Prop
  ct : Env → Hq → Prop
  rt : QD
  ex : Nat → Nat → Env → Hq → Prop

section
variable (g : Glob) (cl : Cl)
mutual
def wE : Ex → Env → Hq → QD → QX → Prop
  | .var i, env, hp, Q, _ => match env[i]? with
    | some (some d) => Q d hp
    | _ => False
  | .lit d, _, hp, Q, _ => Q d hp
  | .glob k, _, hp, Q, _ => match g.consts[k]? with
    | some d => Q d hp
    | none => False
  | .bin o a b, env, hp, Q, E => wE a env hp (fun x hp => wE b env hp (fun y hp => (oBin o x y hp).app Q) E) E
  | .neg a, env, hp, Q, E => wE a env hp (fun x hp => match x with
    | .int i => Q (.int (-i)) hp
    | _ => False) E
  | .cmp o a b, env, hp, Q, E => wE a env hp (fun x hp => wE b env hp (fun y hp => (oCmp o x y hp).app Q) E) E
  | .cmp2 o p a b c, env, hp, Q, E => wE a env hp (fun x hp => wE b env hp (fun y hp => (oCmp o x y hp).app fun r hp => match r with
    | .bl true => wE c env hp (fun z hp => (oCmp p y z hp).app Q) E
    | .bl false => Q (.bl false) hp
    | _ => False) E) E
  | .and a b, env, hp, Q, E => wE a env hp (fun x hp => (oTru x hp).app fun t => if t = true then wE b env hp Q E else Q x hp) E
  | .or a b, env, hp, Q, E => wE a env hp (fun x hp => (oTru x hp).app fun t => if t = true then Q x hp else wE b env hp Q E) E
  | .not a, env, hp, Q, E => wE a env hp (fun x hp => (oTru x hp).app fun t => Q (.bl (!t)) hp) E
  | .ite c a b, env, hp, Q, E => wE c env hp (fun x hp => (oTru x hp).app fun t => if t = true then wE a env hp Q E else wE b env hp Q E) E
  | .tup es, env, hp, Q, E => wEs es env hp (fun ds hp => Q (.tup ds) hp) E
  | .lst es, env, hp, Q, E => wEs es env hp (fun ds hp => Q (.ref hp.length) (hp ++ [.lst ds])) E
  | .dic es, env, hp, Q, E => wEs es env hp (fun ds hp => match pairsOf ds with
    | some kvs => Q (.ref hp.length) (hp ++ [.dic (kvs.foldl (fun acc kv => dput acc kv.1 kv.2) [])])
    | none => False) E
  | .bty n, _, hp, Q, _ => Q (.ty n) hp
  | .mmd mx a d, env, hp, Q, E => wE a env hp (fun x hp => wE d env hp (fun y hp => (oMmd mx x y hp).app Q) E) E
  | .ix a i, env, hp, Q, E => wE a env hp (fun x hp => wE i env hp (fun y hp => (oIx x y hp).app Q) E) E
  | .sl a lo hi, env, hp, Q, E => wE a env hp (fun x hp => wEo lo env hp (fun l hp => match bnd l with
    | some l => wEo hi env hp (fun h hp => match bnd h with
      | some h => (oSl x l h hp).app Q
      | none => False) E
    | none => False) E) E
  | .fld a f, env, hp, Q, E => wE a env hp (fun x hp => (oGetF x f hp).app Q) E
  | .call f es, env, hp, Q, E => wEs es env hp (fun ds hp => cl f ds hp Q E) E
  | .callK f es pm, env, hp, Q, E => wEs es env hp (fun ds hp => match perm pm ds with
    | some vs => cl f vs hp Q E
    | none => False) E
  | .make c es, env, hp, Q, E => wEs es env hp (fun ds hp => match g.init c with
    | some f => cl f (.ref hp.length :: ds) (hp ++ [.ins c []]) (fun v hp' => match v with
      | .non => Q (.ref hp.length) hp'
      | _ => False) E
    | none => False) E
  | .makeK c es pm, env, hp, Q, E => wEs es env hp (fun ds hp => match g.init c, perm pm ds with
    | some f, some vs => cl f (.ref hp.length :: vs) (hp ++ [.ins c []]) (fun v hp' => match v with
      | .non => Q (.ref hp.length) hp'
      | _ => False) E
    | _, _ => False) E
  | .meth a m es, env, hp, Q, E => wE a env hp (fun x hp => match x with
    | .ref i => match gtI hp i with
      | some (c, _) => match g.meth c m with
        | some f => wEs es env hp (fun ds hp => cl f (.ref i :: ds) hp Q E) E
        | none => False
      | none => False
    | _ => False) E
  | .methK a m es pm, env, hp, Q, E => wE a env hp (fun x hp => match x with
    | .ref i => match gtI hp i with
      | some (c, _) => match g.meth c m with
        | some f => wEs es env hp (fun ds hp => match perm pm ds with
          | some vs => cl f (.ref i :: vs) hp Q E
          | none => False) E
        | none => False
      | none => False
    | _ => False) E
  | .blt b es, env, hp, Q, E => wEs es env hp (fun ds hp => (oBF b ds hp).app Q) E
  | .bm m a es, env, hp, Q, E => wE a env hp (fun x hp => match bmK m x hp with
    | some k => wEs es env hp (fun ds hp => (oBM m k x ds hp).app Q) E
    | none => False) E
  | .lc own t it c e, env, hp, Q, E => wIt it env hp (fun itr hp => ∃ N, lcLoop itr.nx (fun d hp k => wTg t d (wipeE env own) hp fun env2 hp =>
      wEo c env2 hp (fun r hp => match r with
        | none => wE e env2 hp (fun y hp => k (some y) hp) fun _ _ _ => False
        | some x => (oTru x hp).app fun b => if b = true then wE e env2 hp (fun y hp => k (some y) hp) fun _ _ _ => False else k none hp) fun _ _ _ => False)
      N 0 [] hp fun ds hp => Q (.ref (itr.un hp).length) (itr.un hp ++ [.lst ds])) E
  | .dc own t it c k e, env, hp, Q, E => wIt it env hp (fun itr hp => ∃ N, dcLoop itr.nx (fun d hp kk => wTg t d (wipeE env own) hp fun env2 hp =>
      wEo c env2 hp (fun r hp => match r with
        | none => wE k env2 hp (fun y hp => wE e env2 hp (fun z hp => kk (some (y, z)) hp) fun _ _ _ => False) fun _ _ _ => False
        | some x => (oTru x hp).app fun b => if b = true then wE k env2 hp (fun y hp => wE e env2 hp (fun z hp => kk (some (y, z)) hp) fun _ _ _ => False) fun _ _ _ => False else kk none hp) fun _ _ _ => False)
      N 0 [] hp fun ds hp => Q (.ref (itr.un hp).length) (itr.un hp ++ [.dic ds])) E
  | .lc2 own own1 t it t1 a e, env, hp, Q, E => wIt it env hp (fun itr hp => ∃ N, acLoop itr.nx (fun d acc hp k => wTg t d (wipeE env own) hp fun env2 hp =>
      wE a env2 hp (fun x hp => match itSq hp x with
        | some it1 => ∃ M, lcLoop it1.nx (fun d hp k1 => wTg t1 d (wipeE env2 own1) hp fun env3 hp => wE e env3 hp (fun y hp => k1 (some y) hp) fun _ _ _ => False) M 0 acc hp k
        | none => False) fun _ _ _ => False)
      N 0 [] hp fun ds hp => Q (.ref (itr.un hp).length) (itr.un hp ++ [.lst ds])) E
  | .lenD a m, env, hp, Q, E => wE a env hp (fun x hp => match x with
    | .ref i => match gtI hp i with
      | some (c, _) => match g.meth c m with
        | some f => cl f [.ref i] hp (fun v hp => match v with
          | .int n => (0 ≤ n ∧ n < 2 ^ 62) ∧ Q (.int n) hp
          | _ => False) fun _ _ _ => False
        | none => False
      | none => (oBF .len [x] hp).app Q
    | _ => (oBF .len [x] hp).app Q) E
def wEs : Exs → Env → Hq → (List D → Hq → Prop) → QX → Prop
  | .nil, _, hp, Q, _ => Q [] hp
  | .cons e r, env, hp, Q, E => wE e env hp (fun d hp => wEs r env hp (fun ds hp => Q (d :: ds) hp) E) E
def wEo : Exo → Env → Hq → (Option D → Hq → Prop) → QX → Prop
  | .no, _, hp, Q, _ => Q none hp
  | .so e, env, hp, Q, E => wE e env hp (fun d hp => Q (some d) hp) E
def wTg : Tg → D → Env → Hq → (Env → Hq → Prop) → Prop
  | .nm i, d, env, hp, k => k (env.set i (some d)) hp
  | .tp ts, d, env, hp, k => match d with
    | .tup ds => ds.length = ts.len ∧ wTgs ts ds env hp k
    | _ => False
  | .at o f, d, env, hp, k => wE o env hp (fun x hp => (oSetF x f d hp).app (k env)) fun _ _ _ => False
  | .sb o i, d, env, hp, k => wE o env hp (fun x hp => wE i env hp (fun y hp => (oSet x y d hp).app (k env)) fun _ _ _ => False) fun _ _ _ => False
def wTgs : Tgs → List D → Env → Hq → (Env → Hq → Prop) → Prop
  | .nil, ds, env, hp, k => match ds with
    | [] => k env hp
    | _ => False
  | .cons t r, ds, env, hp, k => match ds with
    | d :: ds => wTg t d env hp fun env hp => wTgs r ds env hp k
    | [] => False
def wIt : Ix → Env → Hq → (Itr → Hq → Prop) → QX → Prop
  | .vl e, env, hp, k, E => wE e env hp (fun x hp => match itSeq hp x with
    | some (itr, hp) => k itr hp
    | none => False) E
  | .rng1 e, env, hp, k, E => wE e env hp (fun x hp => match x with
    | .int j => (-(2 ^ 62) ≤ j ∧ j < 2 ^ 62) ∧ k (itRng 0 j) hp
    | _ => False) E
  | .rng2 a b, env, hp, k, E => wE a env hp (fun x hp => wE b env hp (fun y hp => match x, y with
    | .int i, .int j => rngOk i j ∧ k (itRng i j) hp
    | _, _ => False) E) E
  | .enum e, env, hp, k, E => wE e env hp (fun x hp => match x with
    | .ref i => match gtL hp i with
      | some _ => k (itEnum i) hp
      | none => False
    | _ => False) E
  | .zip2 a b, env, hp, k, E => wE a env hp (fun x hp => wE b env hp (fun y hp => match x, y with
    | .ref i, .ref j => match gtL hp i, gtL hp j with
      | some _, some _ => k (itZip i j) hp
      | _, _ => False
    | _, _ => False) E) E
  | .items e, env, hp, k, E => wE e env hp (fun x hp => match itDic (fun kv => .tup [keyD kv.1, kv.2]) hp x with
    | some (itr, hp) => k itr hp
    | none => False) E
  | .vals e, env, hp, k, E => wE e env hp (fun x hp => match itDic (fun kv => kv.2) hp x with
    | some (itr, hp) => k itr hp
    | none => False) E
end

mutual
def wS : St → Env → Hq → KS → Prop
  | .pass, env, hp, K => K.nx env hp
  | .brk, env, hp, K => K.bk env hp
  | .cont, env, hp, K => K.ct env hp
  | .expr e, env, hp, K => wE g cl e env hp (fun _ hp => K.nx env hp) fun c i hp => K.ex c i env hp
  | .ret e, env, hp, K => wEo g cl e env hp (fun d hp => K.rt (d.getD .non) hp) fun c i hp => K.ex c i env hp
  | .asg t e, env, hp, K => wE g cl e env hp (fun d hp => wTg g cl t d env hp K.nx) fun c i hp => K.ex c i env hp
  | .augn i o e, env, hp, K => match env[i]? with
    | some (some x) => wE g cl e env hp (fun y hp => (oAug o x y hp).app fun z hp => K.nx (env.set i (some z)) hp) fun c i hp => K.ex c i env hp
    | _ => False
  | .augf a f o e, env, hp, K => wE g cl a env hp (fun r hp => (oGetF r f hp).app fun x hp => wE g cl e env hp (fun y hp => (oAug o x y hp).app fun z hp => (oSetF r f z hp).app (K.nx env)) fun c i hp => K.ex c i env hp) fun c i hp => K.ex c i env hp
  | .ifs c a b, env, hp, K => wE g cl c env hp (fun x hp => (oTru x hp).app fun t => if t = true then wSs a env hp K else wSs b env hp K) fun c i hp => K.ex c i env hp
  | .whl c b, env, hp, K => ∃ N, whLoop (fun env hp kn ke => wE g cl c env hp (fun x hp => (oTru x hp).app fun t => if t = true then wSs b env hp { K with nx := kn, ct := kn, bk := K.nx } else ke env hp) fun c i hp => K.ex c i env hp) N env hp K.nx
  | .for_ t it b, env, hp, K => wIt g cl it env hp (fun itr hp => ∃ N, forLoop itr.nx (fun d env hp kn => wTg g cl t d env hp fun env hp =>
      wSs b env hp { nx := kn, ct := kn, bk := fun env hp => K.nx env (itr.un hp), rt := fun d hp => K.rt d (itr.un hp), ex := K.ex }) N 0 env hp fun env hp => K.nx env (itr.un hp)) fun c i hp => K.ex c i env hp
  | .never, _, _, _ => False
def wSs : Sts → Env → Hq → KS → Prop
  | .nil, env, hp, K => K.nx env hp
  | .cons s r, env, hp, K => wS s env hp { K with nx := fun env hp => wSs r env hp K }
end
end

def wCall (g : Glob) : Nat → Cl
  | 0, _, _, _, _, _ => False
  | n + 1, f, ds, hp, Q, E => match g.fns[f]? with
    | none => False
    | some fi => ds.length = fi.np ∧ wSs g (wCall g n) fi.body (ds.map some ++ List.replicate (fi.ns - fi.np) none) hp
        { nx := fun _ hp => Q .non hp, bk := fun _ _ => False, ct := fun _ _ => False, rt := Q, ex := fun c i _ hp => E c i hp }
end MI
/-! MI, part 2: what holds of less holds of more. -/
namespace MI
open PySem

theorem OutD.mono {o : OutD} {Q Q' : QD} (h : ∀ d hp, Q d hp → Q' d hp) (q : o.app Q) : o.app Q' := by
  cases o with
  | no => exact q
  | ok d hp => exact h _ _ q
  | cd C d hp => exact ⟨q.1, h _ _ q.2⟩
theorem OutB.mono {o : OutB} {k k' : Bool → Prop} (h : ∀ b, k b → k' b) (q : o.app k) : o.app k' := by
  cases o with
  | no => exact q
  | ok b => exact h _ q
  | cd C b => exact ⟨q.1, h _ q.2⟩
theorem OutH.mono {o : OutH} {k k' : Hq → Prop} (h : ∀ hp, k hp → k' hp) (q : o.app k) : o.app k' := by
  cases o with
  | no => exact q
  | ok b => exact h _ q
  | cd C b => exact ⟨q.1, h _ q.2⟩

def ClMono (cl : Cl) : Prop := ∀ f ds hp (Q Q' : QD) (E E' : QX), (∀ d h, Q d h → Q' d h) → (∀ c i h, E c i h → E' c i h) → cl f ds hp Q E → cl f ds hp Q' E'

theorem lcLoop_mono {nx : Nat → Hq → Option (Option D)} {body body' : D → Hq → (Option D → Hq → Prop) → Prop}
    (hb : ∀ d hp (k k' : Option D → Hq → Prop), (∀ r h, k r h → k' r h) → body d hp k → body' d hp k') :
    ∀ N j acc hp (k k' : List D → Hq → Prop), (∀ r h, k r h → k' r h) → lcLoop nx body N j acc hp k → lcLoop nx body' N j acc hp k' := by
  intro N
  induction N with
  | zero => intro j acc hp k k' _ h; exact h
  | succ N ih =>
    intro j acc hp k k' hk h
    unfold lcLoop at h ⊢
    cases e : nx j hp with
    | none => rw [e] at h; exact h
    | some o =>
      rw [e] at h
      cases o with
      | none => exact hk _ _ h
      | some d =>
        refine hb d hp _ _ (fun r h1 q => ?_) h
        cases r with
        | none => exact ih _ _ _ _ _ hk q
        | some y => exact ⟨q.1, ih _ _ _ _ _ hk q.2⟩
theorem dcLoop_mono {nx : Nat → Hq → Option (Option D)} {body body' : D → Hq → (Option (D × D) → Hq → Prop) → Prop}
    (hb : ∀ d hp (k k' : Option (D × D) → Hq → Prop), (∀ r h, k r h → k' r h) → body d hp k → body' d hp k') :
    ∀ N j acc hp (k k' : List (L2.Key × D) → Hq → Prop), (∀ r h, k r h → k' r h) → dcLoop nx body N j acc hp k → dcLoop nx body' N j acc hp k' := by
  intro N
  induction N with
  | zero => intro j acc hp k k' _ h; exact h
  | succ N ih =>
    intro j acc hp k k' hk h
    unfold dcLoop at h ⊢
    cases e : nx j hp with
    | none => rw [e] at h; exact h
    | some o =>
      rw [e] at h
      cases o with
      | none => exact hk _ _ h
      | some d =>
        refine hb d hp _ _ (fun r h1 q => ?_) h
        cases r with
        | none => exact ih _ _ _ _ _ hk q
        | some p =>
          obtain ⟨y, z⟩ := p
          simp only at q ⊢
          cases e2 : kOf y with
          | none => simp only [e2] at q
          | some key =>
            simp only [e2] at q
            exact ⟨q.1, ih _ _ _ _ _ hk q.2⟩
theorem acLoop_mono {nx : Nat → Hq → Option (Option D)} {body body' : D → List D → Hq → (List D → Hq → Prop) → Prop}
    (hb : ∀ d acc hp (k k' : List D → Hq → Prop), (∀ r h, k r h → k' r h) → body d acc hp k → body' d acc hp k') :
    ∀ N j acc hp (k k' : List D → Hq → Prop), (∀ r h, k r h → k' r h) → acLoop nx body N j acc hp k → acLoop nx body' N j acc hp k' := by
  intro N
  induction N with
  | zero => intro j acc hp k k' _ h; exact h
  | succ N ih =>
    intro j acc hp k k' hk h
    unfold acLoop at h ⊢
    cases e : nx j hp with
    | none => rw [e] at h; exact h
    | some o =>
      rw [e] at h
      cases o with
      | none => exact hk _ _ h
      | some d => exact hb d acc hp _ _ (fun r h1 q => ih _ _ _ _ _ hk q) h
theorem forLoop_mono {nx : Nat → Hq → Option (Option D)} {body body' : D → Env → Hq → (Env → Hq → Prop) → Prop}
    (hb : ∀ d env hp (k k' : Env → Hq → Prop), (∀ r h, k r h → k' r h) → body d env hp k → body' d env hp k') :
    ∀ N j env hp (k k' : Env → Hq → Prop), (∀ r h, k r h → k' r h) → forLoop nx body N j env hp k → forLoop nx body' N j env hp k' := by
  intro N
  induction N with
  | zero => intro j env hp k k' _ h; exact h
  | succ N ih =>
    intro j env hp k k' hk h
    unfold forLoop at h ⊢
    cases e : nx j hp with
    | none => rw [e] at h; exact h
    | some o =>
      rw [e] at h
      cases o with
      | none => exact hk _ _ h
      | some d => exact hb d env hp _ _ (fun r h1 q => ih _ _ _ _ _ hk q) h
theorem whLoop_mono {body body' : Env → Hq → (Env → Hq → Prop) → (Env → Hq → Prop) → Prop}
    (hb : ∀ env hp (k k' l l' : Env → Hq → Prop), (∀ r h, k r h → k' r h) → (∀ r h, l r h → l' r h) → body env hp k l → body' env hp k' l') :
    ∀ N env hp (k k' : Env → Hq → Prop), (∀ r h, k r h → k' r h) → whLoop body N env hp k → whLoop body' N env hp k' := by
  intro N
  induction N with
  | zero => intro env hp k k' _ h; exact h
  | succ N ih =>
    intro env hp k k' hk h
    exact hb env hp _ _ _ _ (fun r h1 q => ih _ _ _ _ hk q) hk h

section
variable {g : Glob} {cl : Cl}
mutual
theorem wE_mono (hc : ClMono cl) : ∀ (e : Ex) (env : Env) (hp : Hq) (Q Q' : QD) (E E' : QX), (∀ d h, Q d h → Q' d h) → (∀ c i h, E c i h → E' c i h) → wE g cl e env hp Q E → wE g cl e env hp Q' E'
  | .var i, env, hp, Q, Q', E, E', hq, he, h => by
    unfold wE at h ⊢
    split at h
    · exact hq _ _ h
    · exact h
  | .lit d, env, hp, Q, Q', E, E', hq, he, h => hq _ _ h
  | .glob k, env, hp, Q, Q', E, E', hq, he, h => by
    unfold wE at h ⊢
    split at h
    · exact hq _ _ h
    · exact h
  | .bin o a b, env, hp, Q, Q', E, E', hq, he, h => by
    unfold wE at h ⊢
    exact wE_mono hc a env hp _ _ E E' (fun x h1 q1 => wE_mono hc b env h1 _ _ E E' (fun y h2 q2 => OutD.mono hq q2) he q1) he h
  | .neg a, env, hp, Q, Q', E, E', hq, he, h => by
    unfold wE at h ⊢
    refine wE_mono hc a env hp _ _ E E' (fun x h1 q1 => ?_) he h
    split at q1
    · exact hq _ _ q1
    · exact q1
  | .cmp o a b, env, hp, Q, Q', E, E', hq, he, h => by
    unfold wE at h ⊢
    exact wE_mono hc a env hp _ _ E E' (fun x h1 q1 => wE_mono hc b env h1 _ _ E E' (fun y h2 q2 => OutD.mono hq q2) he q1) he h
  | .cmp2 o p a b c, env, hp, Q, Q', E, E', hq, he, h => by
    unfold wE at h ⊢
    refine wE_mono hc a env hp _ _ E E' (fun x h1 q1 => wE_mono hc b env h1 _ _ E E' (fun y h2 q2 => OutD.mono (fun r h3 q3 => ?_) q2) he q1) he h
    split at q3
    · exact wE_mono hc c env h3 _ _ E E' (fun z h4 q4 => OutD.mono hq q4) he q3
    · exact hq _ _ q3
    · exact q3
  | .and a b, env, hp, Q, Q', E, E', hq, he, h => by
    unfold wE at h ⊢
    refine wE_mono hc a env hp _ _ E E' (fun x h1 q1 => OutB.mono (fun t q2 => ?_) q1) he h
    cases t with
    | true => exact wE_mono hc b env h1 _ _ E E' hq he q2
    | false => exact hq _ _ q2
  | .or a b, env, hp, Q, Q', E, E', hq, he, h => by
    unfold wE at h ⊢
    refine wE_mono hc a env hp _ _ E E' (fun x h1 q1 => OutB.mono (fun t q2 => ?_) q1) he h
    cases t with
    | true => exact hq _ _ q2
    | false => exact wE_mono hc b env h1 _ _ E E' hq he q2
  | .not a, env, hp, Q, Q', E, E', hq, he, h => by
    unfold wE at h ⊢
    exact wE_mono hc a env hp _ _ E E' (fun x h1 q1 => OutB.mono (fun t q2 => hq _ _ q2) q1) he h
  | .ite c a b, env, hp, Q, Q', E, E', hq, he, h => by
    unfold wE at h ⊢
    refine wE_mono hc c env hp _ _ E E' (fun x h1 q1 => OutB.mono (fun t q2 => ?_) q1) he h
    cases t with
    | true => exact wE_mono hc a env h1 _ _ E E' hq he q2
    | false => exact wE_mono hc b env h1 _ _ E E' hq he q2
  | .tup es, env, hp, Q, Q', E, E', hq, he, h => by
    unfold wE at h ⊢
    exact wEs_mono hc es env hp _ _ E E' (fun ds h1 q1 => hq _ _ q1) he h
  | .lst es, env, hp, Q, Q', E, E', hq, he, h => by
    unfold wE at h ⊢
    exact wEs_mono hc es env hp _ _ E E' (fun ds h1 q1 => hq _ _ q1) he h
  | .dic es, env, hp, Q, Q', E, E', hq, he, h => by
    unfold wE at h ⊢
    refine wEs_mono hc es env hp _ _ E E' (fun xs h1 q1 => ?_) he h
    split at q1
    · exact hq _ _ q1
    · exact q1
  | .bty n, env, hp, Q, Q', E, E', hq, he, h => hq _ _ h
  | .mmd mx a d, env, hp, Q, Q', E, E', hq, he, h => by
    unfold wE at h ⊢
    exact wE_mono hc a env hp _ _ E E' (fun x h1 q1 => wE_mono hc d env h1 _ _ E E' (fun y h2 q2 => OutD.mono hq q2) he q1) he h
  | .ix a i, env, hp, Q, Q', E, E', hq, he, h => by
    unfold wE at h ⊢
    exact wE_mono hc a env hp _ _ E E' (fun x h1 q1 => wE_mono hc i env h1 _ _ E E' (fun y h2 q2 => OutD.mono hq q2) he q1) he h
  | .sl a lo hi, env, hp, Q, Q', E, E', hq, he, h => by
    unfold wE at h ⊢
    refine wE_mono hc a env hp _ _ E E' (fun x h1 q1 => wEo_mono hc lo env h1 _ _ E E' (fun l h2 q2 => ?_) he q1) he h
    split at q2
    · refine wEo_mono hc hi env h2 _ _ E E' (fun u h3 q3 => ?_) he q2
      split at q3
      · exact OutD.mono hq q3
      · exact q3
    · exact q2
  | .fld a f, env, hp, Q, Q', E, E', hq, he, h => by
    unfold wE at h ⊢
    exact wE_mono hc a env hp _ _ E E' (fun x h1 q1 => OutD.mono hq q1) he h
  | .call f es, env, hp, Q, Q', E, E', hq, he, h => by
    unfold wE at h ⊢
    exact wEs_mono hc es env hp _ _ E E' (fun ds h1 q1 => hc _ _ _ _ _ _ _ hq he q1) he h
  | .callK f es pm, env, hp, Q, Q', E, E', hq, he, h => by
    unfold wE at h ⊢
    refine wEs_mono hc es env hp _ _ E E' (fun ds h1 q1 => ?_) he h
    split at q1
    · exact hc _ _ _ _ _ _ _ hq he q1
    · exact q1
  | .make c es, env, hp, Q, Q', E, E', hq, he, h => by
    unfold wE at h ⊢
    refine wEs_mono hc es env hp _ _ E E' (fun ds h1 q1 => ?_) he h
    split at q1
    · refine hc _ _ _ _ _ _ _ (fun d h2 q2 => ?_) he q1
      split at q2
      · exact hq _ _ q2
      · exact q2
    · exact q1
  | .makeK c es pm, env, hp, Q, Q', E, E', hq, he, h => by
    unfold wE at h ⊢
    refine wEs_mono hc es env hp _ _ E E' (fun ds h1 q1 => ?_) he h
    split at q1
    · refine hc _ _ _ _ _ _ _ (fun d h2 q2 => ?_) he q1
      split at q2
      · exact hq _ _ q2
      · exact q2
    · exact q1
  | .meth a m es, env, hp, Q, Q', E, E', hq, he, h => by
    unfold wE at h ⊢
    refine wE_mono hc a env hp _ _ E E' (fun x h1 q1 => ?_) he h
    split at q1
    · split at q1
      · split at q1
        · exact wEs_mono hc es env h1 _ _ E E' (fun ds h2 q2 => hc _ _ _ _ _ _ _ hq he q2) he q1
        · exact q1
      · exact q1
    · exact q1
  | .methK a m es pm, env, hp, Q, Q', E, E', hq, he, h => by
    unfold wE at h ⊢
    refine wE_mono hc a env hp _ _ E E' (fun x h1 q1 => ?_) he h
    split at q1
    · split at q1
      · split at q1
        · refine wEs_mono hc es env h1 _ _ E E' (fun ds h2 q2 => ?_) he q1
          split at q2
          · exact hc _ _ _ _ _ _ _ hq he q2
          · exact q2
        · exact q1
      · exact q1
    · exact q1
  | .blt b es, env, hp, Q, Q', E, E', hq, he, h => by
    unfold wE at h ⊢
    exact wEs_mono hc es env hp _ _ E E' (fun ds h1 q1 => OutD.mono hq q1) he h
  | .bm m a es, env, hp, Q, Q', E, E', hq, he, h => by
    unfold wE at h ⊢
    refine wE_mono hc a env hp _ _ E E' (fun x h1 q1 => ?_) he h
    split at q1
    · exact wEs_mono hc es env h1 _ _ E E' (fun ds h2 q2 => OutD.mono hq q2) he q1
    · exact q1
  | .lc own t it c e, env, hp, Q, Q', E, E', hq, he, h => by
    unfold wE at h ⊢
    refine wIt_mono hc it env hp _ _ E E' (fun itr h1 q1 => ?_) he h
    obtain ⟨N, q1⟩ := q1
    refine ⟨N, lcLoop_mono (fun d h2 k k' hk q2 => ?_) N 0 [] h1 _ _ (fun r h3 q3 => hq _ _ q3) q1⟩
    refine wTg_mono hc t d _ _ _ _ (fun env2 h3 q3 => ?_) q2
    refine wEo_mono hc c env2 h3 _ _ _ _ (fun r h4 q4 => ?_) (fun _ _ _ z => z) q3
    cases r with
    | none => exact wE_mono hc e env2 h4 _ _ _ _ (fun y h5 q5 => hk _ _ q5) (fun _ _ _ z => z) q4
    | some x =>
      refine OutB.mono (fun t q5 => ?_) q4
      cases t with
      | true => exact wE_mono hc e env2 h4 _ _ _ _ (fun y h5 q5 => hk _ _ q5) (fun _ _ _ z => z) q5
      | false => exact hk _ _ q5
  | .dc own t it c kx e, env, hp, Q, Q', E, E', hq, he, h => by
    unfold wE at h ⊢
    refine wIt_mono hc it env hp _ _ E E' (fun itr h1 q1 => ?_) he h
    obtain ⟨N, q1⟩ := q1
    refine ⟨N, dcLoop_mono (fun d h2 k k' hk q2 => ?_) N 0 [] h1 _ _ (fun r h3 q3 => hq _ _ q3) q1⟩
    refine wTg_mono hc t d _ _ _ _ (fun env2 h3 q3 => ?_) q2
    refine wEo_mono hc c env2 h3 _ _ _ _ (fun r h4 q4 => ?_) (fun _ _ _ z => z) q3
    cases r with
    | none => exact wE_mono hc kx env2 h4 _ _ _ _ (fun y h5 q5 => wE_mono hc e env2 h5 _ _ _ _ (fun z h6 q6 => hk _ _ q6) (fun _ _ _ z => z) q5) (fun _ _ _ z => z) q4
    | some x =>
      refine OutB.mono (fun t q5 => ?_) q4
      cases t with
      | true => exact wE_mono hc kx env2 h4 _ _ _ _ (fun y h5 q5 => wE_mono hc e env2 h5 _ _ _ _ (fun z h6 q6 => hk _ _ q6) (fun _ _ _ z => z) q5) (fun _ _ _ z => z) q5
      | false => exact hk _ _ q5
  | .lc2 own own1 t it t1 a e, env, hp, Q, Q', E, E', hq, he, h => by
    unfold wE at h ⊢
    refine wIt_mono hc it env hp _ _ E E' (fun itr h1 q1 => ?_) he h
    obtain ⟨N, q1⟩ := q1
    refine ⟨N, acLoop_mono (fun d acc h2 k k' hk q2 => ?_) N 0 [] h1 _ _ (fun r h3 q3 => hq _ _ q3) q1⟩
    refine wTg_mono hc t d _ _ _ _ (fun env2 h3 q3 => ?_) q2
    refine wE_mono hc a env2 h3 _ _ _ _ (fun x h4 q4 => ?_) (fun _ _ _ z => z) q3
    split at q4
    · obtain ⟨M, q4⟩ := q4
      refine ⟨M, lcLoop_mono (fun d h5 k1 k1' hk1 q5 => ?_) M 0 acc h4 _ _ hk q4⟩
      exact wTg_mono hc t1 d _ _ _ _ (fun env3 h6 q6 => wE_mono hc e env3 h6 _ _ _ _ (fun y h7 q7 => hk1 _ _ q7) (fun _ _ _ z => z) q6) q5
    · exact q4
  | .lenD a m, env, hp, Q, Q', E, E', hq, he, h => by
    unfold wE at h ⊢
    refine wE_mono hc a env hp _ _ E E' (fun x h1 q1 => ?_) he h
    split at q1
    · split at q1
      · split at q1
        · refine hc _ _ _ _ _ _ _ (fun v h2 q2 => ?_) (fun _ _ _ z => z) q1
          split at q2
          · exact ⟨q2.1, hq _ _ q2.2⟩
          · exact q2
        · exact q1
      · exact OutD.mono hq q1
    · exact OutD.mono hq q1
theorem wEs_mono (hc : ClMono cl) : ∀ (es : Exs) (env : Env) (hp : Hq) (Q Q' : List D → Hq → Prop) (E E' : QX), (∀ d h, Q d h → Q' d h) → (∀ c i h, E c i h → E' c i h) → wEs g cl es env hp Q E → wEs g cl es env hp Q' E'
  | .nil, env, hp, Q, Q', E, E', hq, he, h => hq _ _ h
  | .cons e r, env, hp, Q, Q', E, E', hq, he, h => by
    unfold wEs at h ⊢
    exact wE_mono hc e env hp _ _ E E' (fun d h1 q1 => wEs_mono hc r env h1 _ _ E E' (fun ds h2 q2 => hq _ _ q2) he q1) he h
theorem wEo_mono (hc : ClMono cl) : ∀ (eo : Exo) (env : Env) (hp : Hq) (Q Q' : Option D → Hq → Prop) (E E' : QX), (∀ d h, Q d h → Q' d h) → (∀ c i h, E c i h → E' c i h) → wEo g cl eo env hp Q E → wEo g cl eo env hp Q' E'
  | .no, env, hp, Q, Q', E, E', hq, he, h => hq _ _ h
  | .so e, env, hp, Q, Q', E, E', hq, he, h => by
    unfold wEo at h ⊢
    exact wE_mono hc e env hp _ _ E E' (fun d h1 q1 => hq _ _ q1) he h
theorem wTg_mono (hc : ClMono cl) : ∀ (t : Tg) (d : D) (env : Env) (hp : Hq) (k k' : Env → Hq → Prop), (∀ r h, k r h → k' r h) → wTg g cl t d env hp k → wTg g cl t d env hp k'
  | .nm i, d, env, hp, k, k', hk, h => hk _ _ h
  | .tp ts, d, env, hp, k, k', hk, h => by
    unfold wTg at h ⊢
    cases d <;> first | exact False.elim h | skip
    exact ⟨h.1, wTgs_mono hc ts _ env hp k k' hk h.2⟩
  | .at o f, d, env, hp, k, k', hk, h => by
    unfold wTg at h ⊢
    exact wE_mono hc o env hp _ _ _ _ (fun x h1 q1 => OutH.mono (fun h2 q2 => hk _ _ q2) q1) (fun _ _ _ z => z) h
  | .sb o i, d, env, hp, k, k', hk, h => by
    unfold wTg at h ⊢
    exact wE_mono hc o env hp _ _ _ _ (fun x h1 q1 => wE_mono hc i env h1 _ _ _ _ (fun y h2 q2 => OutH.mono (fun h3 q3 => hk _ _ q3) q2) (fun _ _ _ z => z) q1) (fun _ _ _ z => z) h
theorem wTgs_mono (hc : ClMono cl) : ∀ (ts : Tgs) (ds : List D) (env : Env) (hp : Hq) (k k' : Env → Hq → Prop), (∀ r h, k r h → k' r h) → wTgs g cl ts ds env hp k → wTgs g cl ts ds env hp k'
  | .nil, ds, env, hp, k, k', hk, h => by
    cases ds with
    | nil => exact hk _ _ h
    | cons _ _ => exact h
  | .cons t r, ds, env, hp, k, k', hk, h => by
    cases ds with
    | nil => exact h
    | cons d ds =>
      unfold wTgs at h ⊢
      exact wTg_mono hc t d env hp _ _ (fun env1 h1 q1 => wTgs_mono hc r ds env1 h1 k k' hk q1) h
theorem wIt_mono (hc : ClMono cl) : ∀ (it : Ix) (env : Env) (hp : Hq) (k k' : Itr → Hq → Prop) (E E' : QX), (∀ d h, k d h → k' d h) → (∀ c i h, E c i h → E' c i h) → wIt g cl it env hp k E → wIt g cl it env hp k' E'
  | .vl e, env, hp, k, k', E, E', hk, he, h => by
    unfold wIt at h ⊢
    refine wE_mono hc e env hp _ _ E E' (fun x h1 q1 => ?_) he h
    split at q1
    · exact hk _ _ q1
    · exact q1
  | .rng1 e, env, hp, k, k', E, E', hk, he, h => by
    unfold wIt at h ⊢
    refine wE_mono hc e env hp _ _ E E' (fun x h1 q1 => ?_) he h
    split at q1
    · exact ⟨q1.1, hk _ _ q1.2⟩
    · exact q1
  | .rng2 a b, env, hp, k, k', E, E', hk, he, h => by
    unfold wIt at h ⊢
    refine wE_mono hc a env hp _ _ E E' (fun x h1 q1 => wE_mono hc b env h1 _ _ E E' (fun y h2 q2 => ?_) he q1) he h
    split at q2
    · exact ⟨q2.1, hk _ _ q2.2⟩
    · exact q2
  | .enum e, env, hp, k, k', E, E', hk, he, h => by
    unfold wIt at h ⊢
    refine wE_mono hc e env hp _ _ E E' (fun x h1 q1 => ?_) he h
    split at q1
    · split at q1
      · exact hk _ _ q1
      · exact q1
    · exact q1
  | .zip2 a b, env, hp, k, k', E, E', hk, he, h => by
    unfold wIt at h ⊢
    refine wE_mono hc a env hp _ _ E E' (fun x h1 q1 => wE_mono hc b env h1 _ _ E E' (fun y h2 q2 => ?_) he q1) he h
    split at q2
    · split at q2
      · exact hk _ _ q2
      · exact q2
    · exact q2
  | .items e, env, hp, k, k', E, E', hk, he, h => by
    unfold wIt at h ⊢
    refine wE_mono hc e env hp _ _ E E' (fun x h1 q1 => ?_) he h
    split at q1
    · exact hk _ _ q1
    · exact q1
  | .vals e, env, hp, k, k', E, E', hk, he, h => by
    unfold wIt at h ⊢
    refine wE_mono hc e env hp _ _ E E' (fun x h1 q1 => ?_) he h
    split at q1
    · exact hk _ _ q1
    · exact q1
end

structure KS.le (K K' : KS) : Prop where
  nx : ∀ e h, K.nx e h → K'.nx e h
  bk : ∀ e h, K.bk e h → K'.bk e h
  ct : ∀ e h, K.ct e h → K'.ct e h
  rt : ∀ d h, K.rt d h → K'.rt d h
  ex : ∀ c i e h, K.ex c i e h → K'.ex c i e h
mutual
theorem wS_mono (hc : ClMono cl) : ∀ (s : St) (env : Env) (hp : Hq) (K K' : KS), K.le K' → wS g cl s env hp K → wS g cl s env hp K'
  | .pass, env, hp, K, K', l, h => l.nx _ _ h
  | .brk, env, hp, K, K', l, h => l.bk _ _ h
  | .cont, env, hp, K, K', l, h => l.ct _ _ h
  | .expr e, env, hp, K, K', l, h => by
    unfold wS at h ⊢
    exact wE_mono hc e env hp _ _ _ _ (fun d h1 q1 => l.nx _ _ q1) (fun c i h1 q1 => l.ex _ _ _ _ q1) h
  | .ret e, env, hp, K, K', l, h => by
    unfold wS at h ⊢
    exact wEo_mono hc e env hp _ _ _ _ (fun d h1 q1 => l.rt _ _ q1) (fun c i h1 q1 => l.ex _ _ _ _ q1) h
  | .asg t e, env, hp, K, K', l, h => by
    unfold wS at h ⊢
    exact wE_mono hc e env hp _ _ _ _ (fun d h1 q1 => wTg_mono hc t d env h1 _ _ l.nx q1) (fun c i h1 q1 => l.ex _ _ _ _ q1) h
  | .augn i o e, env, hp, K, K', l, h => by
    unfold wS at h ⊢
    split at h
    · exact wE_mono hc e env hp _ _ _ _ (fun d h1 q1 => OutD.mono (fun z h2 q2 => l.nx _ _ q2) q1) (fun c i h1 q1 => l.ex _ _ _ _ q1) h
    · exact h
  | .augf a f o e, env, hp, K, K', l, h => by
    unfold wS at h ⊢
    refine wE_mono hc a env hp _ _ _ _ (fun r h1 q1 => OutD.mono (fun x h2 q2 => ?_) q1) (fun c i h1 q1 => l.ex _ _ _ _ q1) h
    exact wE_mono hc e env h2 _ _ _ _ (fun y h3 q3 => OutD.mono (fun z h4 q4 => OutH.mono (fun h5 q5 => l.nx _ _ q5) q4) q3) (fun c i h1 q1 => l.ex _ _ _ _ q1) q2
  | .ifs c a b, env, hp, K, K', l, h => by
    unfold wS at h ⊢
    refine wE_mono hc c env hp _ _ _ _ (fun x h1 q1 => OutB.mono (fun t q2 => ?_) q1) (fun c i h1 q1 => l.ex _ _ _ _ q1) h
    cases t with
    | true => exact wSs_mono hc a env h1 _ _ l q2
    | false => exact wSs_mono hc b env h1 _ _ l q2
  | .whl c b, env, hp, K, K', l, h => by
    unfold wS at h ⊢
    obtain ⟨N, h⟩ := h
    refine ⟨N, whLoop_mono (fun env h1 k k' m m' hk hm q => ?_) N env hp _ _ l.nx h⟩
    refine wE_mono hc c env h1 _ _ _ _ (fun x h1 q1 => OutB.mono (fun t q2 => ?_) q1) (fun c i h1 q1 => l.ex _ _ _ _ q1) q
    cases t with
    | true =>
      refine wSs_mono hc b env h1 _ _ ?_ q2
      exact ⟨hk, l.nx, hk, l.rt, l.ex⟩
    | false => exact hm _ _ q2
  | .for_ t it b, env, hp, K, K', l, h => by
    unfold wS at h ⊢
    refine wIt_mono hc it env hp _ _ _ _ (fun itr h1 q1 => ?_) (fun c i h1 q1 => l.ex _ _ _ _ q1) h
    obtain ⟨N, q1⟩ := q1
    refine ⟨N, forLoop_mono (fun d env h2 k k' hk q2 => ?_) N 0 env h1 _ _ (fun e h q => l.nx _ _ q) q1⟩
    refine wTg_mono hc t d env h2 _ _ (fun env3 h3 q3 => wSs_mono hc b env3 h3 _ _ ?_ q3) q2
    exact ⟨hk, fun e h q => l.nx _ _ q, hk, fun d h q => l.rt _ _ q, l.ex⟩
  | .never, env, hp, K, K', l, h => h
theorem wSs_mono (hc : ClMono cl) : ∀ (s : Sts) (env : Env) (hp : Hq) (K K' : KS), K.le K' → wSs g cl s env hp K → wSs g cl s env hp K'
  | .nil, env, hp, K, K', l, h => l.nx _ _ h
  | .cons s r, env, hp, K, K', l, h => by
    unfold wSs at h ⊢
    refine wS_mono hc s env hp _ _ ?_ h
    exact ⟨fun e h1 q => wSs_mono hc r e h1 _ _ l q, l.bk, l.ct, l.rt, l.ex⟩
end
end
theorem wCall_mono (g : Glob) : ∀ n, ClMono (wCall g n) := by
  intro n
  induction n with
  | zero => intro f ds hp Q Q' E E' _ _ h; exact h
  | succ n ih =>
    intro f ds hp Q Q' E E' hq he h
    unfold wCall at h ⊢
    split at h
    · exact h
    · refine ⟨h.1, wSs_mono ih _ _ _ _ _ ?_ h.2⟩
      exact ⟨fun e h q => hq _ _ q, fun _ _ z => z, fun _ _ z => z, hq, fun c i e h q => he _ _ _ q⟩
end MI
/-! MI, part 3: how the small heap stands in the layer's heap. -/
namespace MI
open PySem L2

theorem nodup_at {α : Type} {l : List α} (hN : l.Nodup) {i j : Nat} {x : α} (a : l[i]? = some x) (b : l[j]? = some x) : i = j := by
  obtain ⟨h1, e1⟩ := List.getElem?_eq_some_iff.mp a
  obtain ⟨h2, e2⟩ := List.getElem?_eq_some_iff.mp b
  exact (List.getElem_inj hN).mp (e1.trans e2.symm)

/-- where the text's own things stand; the attributes' names -/
structure Lay where
  fns : List Addr
  clss : List Addr
  kds : List Addr
  attrs : List Str

/-- a list that stands still: locked, or of the written part -/
def KlL (K : PySem.W.Frag) (H : Hp) (a : Addr) (xs : List V) : Prop :=
  (∃ o, H a = some (.frz o (.lst xs))) ∨
    ∃ (o : Obj) (its : Array Value) (n : Nat), K.lookup a = some o ∧ o.cls = .type "list" ∧ o.dict = none ∧ o.data = .seq its n ∧ its.size ≤ sizeLine ∧ Vals xs its.toList
theorem KlL.sq {K : PySem.W.Frag} {H : Hp} {a : Addr} {xs : List V} (h : KlL K H a xs) : SqL K H a xs := by
  rcases h with h | h
  · exact .inl (.inr h)
  · exact .inr h

mutual
inductive RD (K : PySem.W.Frag) (L : Lay) (ρ : List Addr) (H : Hp) : D → V → Prop
  | non : RD K L ρ H .non .non
  | bl (b : Bool) : RD K L ρ H (.bl b) (.bl b)
  | int (i : Int) : RD K L ρ H (.int i) (.int i)
  | str (x : Str) : RD K L ρ H (.str x) (.str x)
  | tup {a : Addr} {xs : List V} {ds : List D} : SqT K H a xs → RDs K L ρ H ds xs → RD K L ρ H (.tup ds) (.ref a)
  | kl {a : Addr} {xs : List V} {ds : List D} : KlL K H a xs → RDs K L ρ H ds xs → RD K L ρ H (.kl ds) (.ref a)
  | ref {i : Nat} {a : Addr} : ρ[i]? = some a → RD K L ρ H (.ref i) (.ref a)
  | fn {k : Nat} {a : Addr} : L.fns[k]? = some a → RD K L ρ H (.fn k) (.ref a)
  | cls {k : Nat} {a : Addr} : L.clss[k]? = some a → RD K L ρ H (.cls k) (.ref a)
  | kd {k : Nat} {a : Addr} : L.kds[k]? = some a → RD K L ρ H (.kd k) (.ref a)
  | ty (n : String) : RD K L ρ H (.ty n) (.ty n)
inductive RDs (K : PySem.W.Frag) (L : Lay) (ρ : List Addr) (H : Hp) : List D → List V → Prop
  | nil : RDs K L ρ H [] []
  | cons {d : D} {v : V} {ds : List D} {vs : List V} : RD K L ρ H d v → RDs K L ρ H ds vs → RDs K L ρ H (d :: ds) (v :: vs)
end

def RFs (K : PySem.W.Frag) (L : Lay) (ρ : List Addr) (H : Hp) : List (Nat × D) → List (Str × V) → Prop := Paired fun p q => L.attrs[p.1]? = some q.1 ∧ RD K L ρ H p.2 q.2
def RKs (K : PySem.W.Frag) (L : Lay) (ρ : List Addr) (H : Hp) : List (Key × D) → List (Key × V) → Prop := Paired fun p q => p.1 = q.1 ∧ RD K L ρ H p.2 q.2

inductive RHO (K : PySem.W.Frag) (L : Lay) (ρ : List Addr) (H : Hp) : O → HO → Prop
  | lst {xs : List D} {vs : List V} : RDs K L ρ H xs vs → RHO K L ρ H (.lst xs) (.lst vs)
  | dic {kvs : List (Key × D)} {vs : List (Key × V)} : RKs K L ρ H kvs vs → RHO K L ρ H (.dic kvs) (.dK vs)
  | fdic {kvs : List (Key × D)} {vs : List (Key × V)} {ob : Obj} : RKs K L ρ H kvs vs → RHO K L ρ H (.fdic kvs) (.frz ob (.dK vs))
  | ins {c : Nat} {C dx : Addr} {fs : List (Nat × D)} {vs : List (Str × V)} : L.clss[c]? = some C → RFs K L ρ H fs vs → RHO K L ρ H (.ins c fs) (.ins C dx vs)
  | xd {c : Nat} {fs : List (Nat × D)} {vs : List (Str × V)} : RFs K L ρ H fs vs → RHO K L ρ H (.xd c fs) (.xd vs)

/-- tuples, locked lists -/
inductive Stb : HO → Prop
  | tup (xs : List V) : Stb (.tup xs)
  | flst (o : Obj) (xs : List V) : Stb (.frz o (.lst xs))
  | ftup (o : Obj) (xs : List V) : Stb (.frz o (.tup xs))
theorem RHO.nst {K : PySem.W.Frag} {L : Lay} {ρ : List Addr} {H : Hp} {o : O} {u : HO} (r : RHO K L ρ H o u) : ¬ Stb u := by
  intro s
  cases r <;> cases s

structure RelH (K : PySem.W.Frag) (L : Lay) (ρ : List Addr) (hp : Hq) (H : Hp) : Prop where
  nd : ρ.Nodup
  len : ρ.length = hp.length
  at_ : ∀ (i : Nat) (o : O), hp[i]? = some o → ∃ a u, ρ[i]? = some a ∧ H a = some u ∧ RHO K L ρ H o u

structure Ext (ρ : List Addr) (H : Hp) (ρ' : List Addr) (H' : Hp) : Prop where
  pre : ∃ more, ρ' = ρ ++ more
  new : ∀ a, a ∈ ρ' → a ∈ ρ ∨ H a = none
  out : ∀ a o, H a = some o → a ∉ ρ → H' a = some o
  st : ∀ a o, H a = some o → Stb o → H' a = some o
  fz : ∀ a o kvs, H a = some (.frz o (.dK kvs)) → H' a = some (.frz o (.dK kvs))
theorem Ext.refl (ρ : List Addr) (H : Hp) : Ext ρ H ρ H := ⟨⟨[], by simp⟩, fun _ h => .inl h, fun _ _ h _ => h, fun _ _ h _ => h, fun _ _ _ h => h⟩
/-- what a value's reading needs -/
structure ExtW (ρ : List Addr) (H : Hp) (ρ' : List Addr) (H' : Hp) : Prop where
  pre : ∃ more, ρ' = ρ ++ more
  st : ∀ a o, H a = some o → Stb o → H' a = some o
theorem Ext.w {ρ ρ' : List Addr} {H H' : Hp} (e : Ext ρ H ρ' H') : ExtW ρ H ρ' H' := ⟨e.pre, e.st⟩
theorem Ext.trans {ρ ρ1 ρ2 : List Addr} {H H1 H2 : Hp} (a : Ext ρ H ρ1 H1) (b : Ext ρ1 H1 ρ2 H2) : Ext ρ H ρ2 H2 := by
  obtain ⟨m1, e1⟩ := a.pre
  obtain ⟨m2, e2⟩ := b.pre
  refine ⟨⟨m1 ++ m2, by rw [e2, e1, List.append_assoc]⟩, fun x hx => ?_, fun x o h n => ?_, fun x o h s => b.st x o (a.st x o h s) s, fun x o k h => b.fz x o k (a.fz x o k h)⟩
  · rcases b.new x hx with h | h
    · exact a.new x h
    · by_cases hm : x ∈ ρ
      · exact .inl hm
      · right
        cases q : H x with
        | none => rfl
        | some o => rw [a.out x o q hm] at h; cases h
  · refine b.out x o (a.out x o h n) fun hm => ?_
    rcases a.new x hm with q | q
    · exact n q
    · rw [q] at h; cases h
theorem ExtW.ix {ρ ρ' : List Addr} {H H' : Hp} (e : ExtW ρ H ρ' H') {i : Nat} {a : Addr} (h : ρ[i]? = some a) : ρ'[i]? = some a := by
  obtain ⟨m, rfl⟩ := e.pre
  have hl := (List.getElem?_eq_some_iff.mp h).1
  rw [List.getElem?_append_left hl]
  exact h

theorem Ext.ix {ρ ρ' : List Addr} {H H' : Hp} (e : Ext ρ H ρ' H') {i : Nat} {a : Addr} (h : ρ[i]? = some a) : ρ'[i]? = some a := e.w.ix h
section
variable {K : PySem.W.Frag} {L : Lay} {ρ ρ' : List Addr} {H H' : Hp}
theorem SqT.monoW {a : Addr} {xs : List V} (e : ExtW ρ H ρ' H') (h : SqT K H a xs) : SqT K H' a xs := by
  rcases h with (h | ⟨o, h⟩) | h
  · exact .inl (.inl (e.st _ _ h (.tup xs)))
  · exact .inl (.inr ⟨o, e.st _ _ h (.ftup o xs)⟩)
  · exact .inr h
theorem KlL.monoW {a : Addr} {xs : List V} (e : ExtW ρ H ρ' H') (h : KlL K H a xs) : KlL K H' a xs := by
  rcases h with ⟨o, h⟩ | h
  · exact .inl ⟨o, e.st _ _ h (.flst o xs)⟩
  · exact .inr h
mutual
theorem RD.monoW (e : ExtW ρ H ρ' H') : ∀ {d : D} {v : V}, RD K L ρ H d v → RD K L ρ' H' d v
  | _, _, .non => .non
  | _, _, .bl b => .bl b
  | _, _, .int i => .int i
  | _, _, .str x => .str x
  | _, _, .tup h r => .tup (SqT.monoW e h) (RDs.monoW e r)
  | _, _, .kl h r => .kl (KlL.monoW e h) (RDs.monoW e r)
  | _, _, .ref h => .ref (e.ix h)
  | _, _, .fn h => .fn h
  | _, _, .cls h => .cls h
  | _, _, .kd h => .kd h
  | _, _, .ty n => .ty n
theorem RDs.monoW (e : ExtW ρ H ρ' H') : ∀ {d : List D} {v : List V}, RDs K L ρ H d v → RDs K L ρ' H' d v
  | _, _, .nil => .nil
  | _, _, .cons r t => .cons (RD.monoW e r) (RDs.monoW e t)
end
theorem Paired.imp' {α β : Type} {F G : α → β → Prop} (f : ∀ a b, F a b → G a b) : ∀ {l₁ : List α} {l₂ : List β}, Paired F l₁ l₂ → Paired G l₁ l₂
  | _, _, .nil => .nil
  | _, _, .cons r t => .cons (f _ _ r) (Paired.imp' f t)
theorem RFs.monoW (e : ExtW ρ H ρ' H') {fs : List (Nat × D)} {vs : List (Str × V)} (h : RFs K L ρ H fs vs) : RFs K L ρ' H' fs vs := Paired.imp' (fun _ _ q => ⟨q.1, q.2.monoW e⟩) h
theorem RKs.monoW (e : ExtW ρ H ρ' H') {fs : List (Key × D)} {vs : List (Key × V)} (h : RKs K L ρ H fs vs) : RKs K L ρ' H' fs vs := Paired.imp' (fun _ _ q => ⟨q.1, q.2.monoW e⟩) h
theorem RHO.monoW (e : ExtW ρ H ρ' H') {o : O} {u : HO} (h : RHO K L ρ H o u) : RHO K L ρ' H' o u := by
  cases h with
  | lst r => exact .lst (r.monoW e)
  | dic r => exact .dic (r.monoW e)
  | fdic r => exact .fdic (r.monoW e)
  | ins c r => exact .ins c (r.monoW e)
  | xd r => exact .xd (r.monoW e)

theorem SqT.mono {a : Addr} {xs : List V} (e : Ext ρ H ρ' H') (h : SqT K H a xs) : SqT K H' a xs := SqT.monoW e.w h
theorem KlL.mono {a : Addr} {xs : List V} (e : Ext ρ H ρ' H') (h : KlL K H a xs) : KlL K H' a xs := KlL.monoW e.w h
theorem RD.mono (e : Ext ρ H ρ' H') {d : D} {v : V} (h : RD K L ρ H d v) : RD K L ρ' H' d v := RD.monoW e.w h
theorem RDs.mono (e : Ext ρ H ρ' H') {d : List D} {v : List V} (h : RDs K L ρ H d v) : RDs K L ρ' H' d v := RDs.monoW e.w h
theorem RFs.mono (e : Ext ρ H ρ' H') {fs : List (Nat × D)} {vs : List (Str × V)} (h : RFs K L ρ H fs vs) : RFs K L ρ' H' fs vs := RFs.monoW e.w h
theorem RKs.mono (e : Ext ρ H ρ' H') {fs : List (Key × D)} {vs : List (Key × V)} (h : RKs K L ρ H fs vs) : RKs K L ρ' H' fs vs := RKs.monoW e.w h
theorem RHO.mono (e : Ext ρ H ρ' H') {o : O} {u : HO} (h : RHO K L ρ H o u) : RHO K L ρ' H' o u := RHO.monoW e.w h

theorem RelH.at2 {hp : Hq} (r : RelH K L ρ hp H) {i : Nat} {a : Addr} (h : ρ[i]? = some a) : ∃ o u, hp[i]? = some o ∧ H a = some u ∧ RHO K L ρ H o u := by
  have hl := (List.getElem?_eq_some_iff.mp h).1
  have hl2 : i < hp.length := by rw [← r.len]; exact hl
  obtain ⟨a', u, h1, h2, h3⟩ := r.at_ i hp[i] (List.getElem?_eq_getElem hl2)
  rw [h] at h1
  cases h1
  exact ⟨_, u, List.getElem?_eq_getElem hl2, h2, h3⟩
theorem RelH.mem {hp : Hq} (r : RelH K L ρ hp H) {a : Addr} (h : a ∈ ρ) : ∃ (i : Nat) (o : O) (u : HO), ρ[i]? = some a ∧ hp[i]? = some o ∧ H a = some u ∧ RHO K L ρ H o u := by
  obtain ⟨i, hi, e⟩ := List.mem_iff_getElem.mp h
  have e' : ρ[i]? = some a := by rw [List.getElem?_eq_getElem hi, e]
  obtain ⟨o, u, h1, h2, h3⟩ := r.at2 e'
  exact ⟨i, o, u, e', h1, h2, h3⟩
theorem RelH.notin {hp : Hq} (r : RelH K L ρ hp H) {p : Addr} (h : H p = none) : p ∉ ρ := fun hm => by
  obtain ⟨_, _, u, _, _, e, _⟩ := r.mem hm
  rw [h] at e; cases e
theorem RelH.stnot {hp : Hq} (r : RelH K L ρ hp H) {p : Addr} {u : HO} (h : H p = some u) (s : Stb u) : p ∉ ρ := fun hm => by
  obtain ⟨_, _, u', _, _, e, q⟩ := r.mem hm
  rw [h] at e; cases e
  exact q.nst s

/-- a new thing, told in the small heap too -/
theorem RelH.push {hp : Hq} {p : Addr} {o : O} {u : HO} (r : RelH K L ρ hp H) (hn : H p = none) (q : RHO K L ρ H o u) :
    RelH K L (ρ ++ [p]) (hp ++ [o]) (upd H p u) ∧ Ext ρ H (ρ ++ [p]) (upd H p u) := by
  have e : Ext ρ H (ρ ++ [p]) (upd H p u) := by
    refine ⟨⟨[p], rfl⟩, fun a ha => ?_, fun a o' h _ => ?_, fun a o' h _ => ?_, fun a o' k h => ?_⟩
    · rcases List.mem_append.mp ha with h | h
      · exact .inl h
      · have : a = p := by simpa using h
        subst this
        exact .inr hn
    · rw [upd_ne (ne_of_none h hn)]; exact h
    · rw [upd_ne (ne_of_none h hn)]; exact h
    · rw [upd_ne (ne_of_none h hn)]; exact h
  refine ⟨⟨?_, by simp [r.len], fun i o' h => ?_⟩, e⟩
  · rw [List.nodup_append]
    refine ⟨r.nd, by simp, fun a ha b hb => ?_⟩
    have : b = p := by simpa using hb
    subst this
    exact fun z => r.notin hn (z ▸ ha)
  · by_cases hi : i < hp.length
    · rw [List.getElem?_append_left hi] at h
      obtain ⟨a, u', h1, h2, h3⟩ := r.at_ i o' h
      exact ⟨a, u', e.ix h1, by rw [upd_ne (ne_of_none h2 hn)]; exact h2, h3.mono e⟩
    · have hl : i < (hp ++ [o]).length := (List.getElem?_eq_some_iff.mp h).1
      have hi2 : i = hp.length := by
        rw [List.length_append, List.length_singleton] at hl
        omega
      subst hi2
      rw [List.getElem?_append_right (Nat.le_refl _)] at h
      have : o = o' := by simpa using h
      subst this
      refine ⟨p, u, ?_, upd_same, q.mono e⟩
      rw [← r.len, List.getElem?_append_right (Nat.le_refl _)]
      simp
/-- a new thing, not told -/
theorem RelH.tmp {hp : Hq} {p : Addr} {u : HO} (r : RelH K L ρ hp H) (hn : H p = none) : RelH K L ρ hp (upd H p u) ∧ Ext ρ H ρ (upd H p u) := by
  have e : Ext ρ H ρ (upd H p u) := ⟨⟨[], by simp⟩, fun _ h => .inl h, fun a o' h _ => by rw [upd_ne (ne_of_none h hn)]; exact h, fun a o' h _ => by rw [upd_ne (ne_of_none h hn)]; exact h, fun a o' k h => by rw [upd_ne (ne_of_none h hn)]; exact h⟩
  refine ⟨⟨r.nd, r.len, fun i o' h => ?_⟩, e⟩
  obtain ⟨a, u', h1, h2, h3⟩ := r.at_ i o' h
  exact ⟨a, u', h1, by rw [upd_ne (ne_of_none h2 hn)]; exact h2, h3.mono e⟩
/-- a change -/
theorem RelH.put {hp : Hq} {i : Nat} {a : Addr} {o : O} {u : HO} (r : RelH K L ρ hp H) (ha : ρ[i]? = some a) (q : RHO K L ρ H o u) (hu : ∀ o' k, H a ≠ some (.frz o' (.dK k))) :
    RelH K L ρ (hp.set i o) (upd H a u) ∧ Ext ρ H ρ (upd H a u) := by
  obtain ⟨o0, u0, g1, g2, g3⟩ := r.at2 ha
  have e : Ext ρ H ρ (upd H a u) := by
    refine ⟨⟨[], by simp⟩, fun _ h => .inl h, fun b o' h n => ?_, fun b o' h s => ?_, fun b o' k h => ?_⟩
    · rw [upd_ne fun z => n (by rw [z]; exact List.mem_of_getElem? ha)]; exact h
    · rw [upd_ne fun z => ?_]
      · exact h
      · subst z
        rw [g2] at h; cases h
        exact g3.nst s
    · rw [upd_ne fun z => hu o' k (by rw [← z]; exact h)]; exact h
  refine ⟨⟨r.nd, by simp [r.len], fun j o' h => ?_⟩, e⟩
  by_cases hj : i = j
  · subst hj
    have hl : i < hp.length := (List.getElem?_eq_some_iff.mp g1).1
    rw [List.getElem?_set_self hl] at h
    cases h
    exact ⟨a, u, ha, upd_same, q.mono e⟩
  · rw [List.getElem?_set_ne hj] at h
    obtain ⟨b, u', h1, h2, h3⟩ := r.at_ j o' h
    refine ⟨b, u', h1, ?_, h3.mono e⟩
    rw [upd_ne fun z => ?_]
    · exact h2
    · subst z
      exact hj (nodup_at r.nd ha h1)

/-! ### lists of related values -/
theorem RDs.len : ∀ {ds : List D} {vs : List V}, RDs K L ρ H ds vs → ds.length = vs.length
  | _, _, .nil => rfl
  | _, _, .cons _ t => by rw [List.length_cons, List.length_cons, RDs.len t]
theorem RDs.get : ∀ {ds : List D} {vs : List V} {i : Nat} {d : D}, RDs K L ρ H ds vs → ds[i]? = some d → ∃ v, vs[i]? = some v ∧ RD K L ρ H d v
  | _, _, _, _, .nil, h => by simp at h
  | _, _, 0, _, .cons r _, h => by
    simp at h
    subst h
    exact ⟨_, rfl, r⟩
  | _, _, i + 1, _, .cons _ t, h => by
    obtain ⟨v, h1, h2⟩ := RDs.get (i := i) t (by simpa using h)
    exact ⟨v, by simpa using h1, h2⟩
theorem RDs.getV : ∀ {ds : List D} {vs : List V} {i : Nat} {v : V}, RDs K L ρ H ds vs → vs[i]? = some v → ∃ d, ds[i]? = some d ∧ RD K L ρ H d v
  | _, _, _, _, .nil, h => by simp at h
  | _, _, 0, _, .cons r _, h => by
    simp at h
    subst h
    exact ⟨_, rfl, r⟩
  | _, _, i + 1, _, .cons _ t, h => by
    obtain ⟨v, h1, h2⟩ := RDs.getV (i := i) t (by simpa using h)
    exact ⟨v, by simpa using h1, h2⟩
theorem RDs.app : ∀ {ds es : List D} {vs us : List V}, RDs K L ρ H ds vs → RDs K L ρ H es us → RDs K L ρ H (ds ++ es) (vs ++ us)
  | _, _, _, _, .nil, s => s
  | _, _, _, _, .cons r t, s => .cons r (RDs.app t s)
theorem RDs.take : ∀ {ds : List D} {vs : List V} (n : Nat), RDs K L ρ H ds vs → RDs K L ρ H (ds.take n) (vs.take n)
  | _, _, 0, _ => .nil
  | _, _, _ + 1, .nil => .nil
  | _, _, n + 1, .cons r t => .cons r (RDs.take n t)
theorem RDs.drop : ∀ {ds : List D} {vs : List V} (n : Nat), RDs K L ρ H ds vs → RDs K L ρ H (ds.drop n) (vs.drop n)
  | _, _, 0, r => r
  | _, _, _ + 1, .nil => .nil
  | _, _, n + 1, .cons _ t => RDs.drop n t
theorem RDs.set : ∀ {ds : List D} {vs : List V} {d : D} {v : V} (i : Nat), RD K L ρ H d v → RDs K L ρ H ds vs → RDs K L ρ H (ds.set i d) (vs.set i v)
  | _, _, _, _, _, _, .nil => .nil
  | _, _, _, _, 0, q, .cons _ t => .cons q t
  | _, _, _, _, i + 1, q, .cons r t => .cons r (RDs.set i q t)
theorem RDs.rep {ds : List D} {vs : List V} (h : RDs K L ρ H ds vs) : ∀ n, RDs K L ρ H (List.replicate n ds).flatten (List.replicate n vs).flatten
  | 0 => .nil
  | n + 1 => by
    rw [List.replicate_succ, List.replicate_succ, List.flatten_cons, List.flatten_cons]
    exact h.app (RDs.rep h n)
theorem RDs.one {d : D} {v : V} (h : RD K L ρ H d v) : RDs K L ρ H [d] [v] := .cons h .nil

/-! ### data -/
mutual
theorem toP_dp {hp : Hq} (r : RelH K L ρ hp H) : ∀ (n : Nat) (d : D) (v : V) (a : PyData), RD K L ρ H d v → toP n hp d = some a → Dp K H v a
  | 0, _, _, _, _, h => by cases h
  | n + 1, d, v, a, q, h => by
    cases q with
    | non => cases h; exact .non
    | bl b => cases h; exact .bl b
    | int i => cases h; exact .int i
    | str x => cases h; exact .str x
    | @tup p xs ds hs t =>
      have h' : (mapO (toP n hp) ds).map .tuple = some a := h
      cases e : mapO (toP n hp) ds with
      | none => rw [e] at h'; cases h'
      | some as =>
        rw [e] at h'
        cases h'
        exact .tup hs (toPs_dp r n ds xs as t e)
    | @kl p xs ds hs t =>
      have h' : (mapO (toP n hp) ds).map .list = some a := h
      cases e : mapO (toP n hp) ds with
      | none => rw [e] at h'; cases h'
      | some as =>
        rw [e] at h'
        cases h'
        exact .lst hs.sq (toPs_dp r n ds xs as t e)
    | @ref i p hs =>
      have h' : (match gtL hp i with | some ds => (mapO (toP n hp) ds).map .list | none => none) = some a := h
      obtain ⟨o, u, h1, h2, h3⟩ := r.at2 hs
      unfold gtL at h'
      rw [h1] at h'
      cases h3 with
      | @lst xs vs t =>
        have h' : (mapO (toP n hp) xs).map .list = some a := h'
        cases e : mapO (toP n hp) xs with
        | none => rw [e] at h'; cases h'
        | some as =>
          rw [e] at h'
          cases h'
          exact .lst (.of h2) (toPs_dp r n xs vs as t e)
      | _ => cases h'
    | _ => cases h
theorem toPs_dp {hp : Hq} (r : RelH K L ρ hp H) : ∀ (n : Nat) (ds : List D) (vs : List V) (as : List PyData), RDs K L ρ H ds vs → mapO (toP n hp) ds = some as → DpAll K H vs as
  | n, [], _, as, .nil, h => by cases h; exact .nil
  | n, d :: ds, _, as, .cons q t, h => by
    unfold mapO at h
    cases e : toP n hp d with
    | none => rw [e] at h; cases h
    | some y =>
      rw [e] at h
      cases e2 : mapO (toP n hp) ds with
      | none => simp only [e2] at h; cases h
      | some ys =>
        simp only [e2] at h
        cases h
        exact .cons (toP_dp r n d _ y q e) (toPs_dp r n ds _ ys t e2)
end

/-! ### names in slots -/
structure RE (K : PySem.W.Frag) (L : Lay) (ρ : List Addr) (H : Hp) (env : Env) (σ : L2.St) : Prop where
  len : env.length = σ.length
  at_ : ∀ (i : Nat) (d : D), env[i]? = some (some d) → ∃ v, σ[i]? = some (some v) ∧ RD K L ρ H d v
theorem RE.monoW {env : Env} {σ : L2.St} (e : ExtW ρ H ρ' H') (h : RE K L ρ H env σ) : RE K L ρ' H' env σ := ⟨h.len, fun i d q => let ⟨v, h1, h2⟩ := h.at_ i d q; ⟨v, h1, h2.monoW e⟩⟩
theorem RE.mono {env : Env} {σ : L2.St} (e : Ext ρ H ρ' H') (h : RE K L ρ H env σ) : RE K L ρ' H' env σ := ⟨h.len, fun i d q => let ⟨v, h1, h2⟩ := h.at_ i d q; ⟨v, h1, h2.mono e⟩⟩
theorem RE.set {env : Env} {σ : L2.St} {d : D} {v : V} (h : RE K L ρ H env σ) (i : Nat) (r : RD K L ρ H d v) : RE K L ρ H (env.set i (some d)) (σ.set i (some v)) := by
  refine ⟨by simp [h.len], fun j e q => ?_⟩
  by_cases hj : i = j
  · subst hj
    have hl : i < env.length := by
      have := (List.getElem?_eq_some_iff.mp q).1
      simpa using this
    rw [List.getElem?_set_self hl] at q
    cases q
    exact ⟨v, by rw [List.getElem?_set_self (by rw [← h.len]; exact hl)], r⟩
  · rw [List.getElem?_set_ne hj] at q
    obtain ⟨w, h1, h2⟩ := h.at_ j e q
    exact ⟨w, by rw [List.getElem?_set_ne hj]; exact h1, h2⟩
theorem RE.wipe {env : Env} {σ : L2.St} (h : RE K L ρ H env σ) : ∀ own : List Nat, RE K L ρ H (wipeE env own) (L2.wipe σ own) := by
  intro own
  induction own with
  | nil => exact h
  | cons i r ih =>
    show RE K L ρ H ((wipeE env r).set i none) ((L2.wipe σ r).set i none)
    refine ⟨by simp [ih.len], fun j e q => ?_⟩
    by_cases hj : i = j
    · subst hj
      by_cases hl : i < (wipeE env r).length
      · rw [List.getElem?_set_self hl] at q; cases q
      · have := (List.getElem?_eq_some_iff.mp q).1
        exact absurd (by simpa using this) hl
    · rw [List.getElem?_set_ne hj] at q
      obtain ⟨w, h1, h2⟩ := ih.at_ j e q
      exact ⟨w, by rw [List.getElem?_set_ne hj]; exact h1, h2⟩
end
end MI
/-! MI, part 4: that a tree of the text is the tree of the small language. -/
namespace MI
open PySem L2

/-- the names by which the text calls its things -/
structure Nm where
  fnN : List (Option Str)
  clsN : List Str
  constN : List Str
  attrs : List Str
  mths : List Str
  blts : List Str
  shp : List (Nat × Nat × List Str × List Nat) := []
  mks : List (Nat × Nat × List Str × List Nat) := []

structure Ck where
  nm : Nm
  sc : Scope
  N : List Str
  top : Bool

def bopOf : BOp → Operator
  | .add => .Add | .sub => .Sub | .mul => .Mult | .fdiv => .FloorDiv | .mod => .Mod | .pow => .Pow
def copOf : COp → CmpOp
  | .eq => .Eq | .ne => .NotEq | .lt => .Lt | .le => .LtE | .gt => .Gt | .ge => .GtE | .is => .Is | .nis => .IsNot | .isin => .In | .nin => .NotIn
def bfName : BF → Str
  | .len => "len" | .list1 => "list" | .tuple1 => "tuple" | .dict1 => "dict" | .dict0 => "dict" | .int1 => "int" | .str1 => "str" | .repr => "repr" | .sum1 => "sum"
  | .max1 => "max" | .min1 => "min" | .max2 => "max" | .min2 => "min" | .sorted1 => "sorted" | .all1 => "all" | .any1 => "any" | .isi => "isinstance"
def bfAr : BF → Nat
  | .max2 => 2 | .min2 => 2 | .isi => 2 | _ => 1
def bmName : BM → Str
  | .append => "append" | .extend => "extend" | .pop0 => "pop" | .pop1 => "pop" | .pop2 => "pop" | .get1 => "get" | .get2 => "get" | .setdef => "setdefault" | .clear => "clear"

def Ck.glob (c : Ck) (x : Str) : Bool := decide (c.sc.names.lookup x = some .globalImplicit) && !(x == ("__debug__" : Str)) && decide (x ≠ ("__name__" : Str)) && (x != ("super" : Str))
def Ck.vis (c : Ck) (x : Str) : Bool := (match c.sc.names.lookup x with | some .local => true | some .cell => true | some .free => true | _ => false) && !(x == ("__debug__" : Str)) && !(x == ("__classdict__" : Str))
def Ck.loc (c : Ck) (x : Str) : Bool := match c.sc.names.lookup x with | some .local => true | some .cell => c.top | _ => false
def Ck.inner (c : Ck) (scope : Scope) : Ck := { c with sc := relS scope c.sc, top := false }
def ownOf (N : List Str) (own : List Nat) : List (Str × Nat) := own.map fun i => (N.getD i "", i)

def isSub (e : Expr) : Bool := match e with | .Starred _ _ => true | .Set _ _ _ => true | .Slice _ _ _ _ => true | _ => false
def noComp (e : Expr) : Bool := match e with | .ListComp _ _ _ _ => false | .SetComp _ _ _ _ => false | .DictComp _ _ _ _ _ => false | _ => true
def isTupX (e : Expr) : Bool := match e with | .Tuple _ _ _ => true | _ => false
def isBoolX (e : Expr) : Bool := match e with | .BoolOp _ _ _ => true | _ => false
/-- what a test takes apart -/
def tstX (e : Expr) : Bool := match e with | .UnaryOp .Not _ _ => true | .BoolOp _ _ _ => true | .IfExp _ _ _ _ => true | .Compare _ _ _ _ => true | _ => false
def tstK : Ex → Bool
  | .cmp _ _ _ => true | .cmp2 _ _ _ _ _ => true | .and _ _ => true | .or _ _ => true | .not _ => true | .ite _ _ _ => true | _ => false
/-- pairs come: the target is a tuple -/
def itTg (it : Ix) (e : Expr) : Bool := match it with
  | .enum _ => isTupX e
  | .zip2 _ _ => isTupX e
  | .items _ => isTupX e
  | _ => true
/-- no name but a set's, a slice's, a star's: what stands as an item -/
def tgSlots : Tg → List Nat
  | .nm i => [i]
  | _ => []

def takeX : Nat → Exs → Exs
  | 0, _ => .nil
  | _ + 1, .nil => .nil
  | n + 1, .cons e r => .cons e (takeX n r)
def dropX : Nat → Exs → Exs
  | 0, es => es
  | _ + 1, .nil => .nil
  | n + 1, .cons _ r => dropX n r
def kwNames (ks : List Keyword) : List Str := ks.map fun k => k.arg.getD ""
mutual
def chkE (c : Ck) : Ex → Expr → Bool
  | .var i, e => match e with
    | .Name x _ => decide (c.N[i]? = some x) && c.vis x
    | _ => false
  | .lit d, e => match d, e with
    | .non, .Constant .none _ _ => true
    | .bl b, .Constant (.bool b') _ _ => b == b'
    | .int i, .Constant (.int j) _ _ => decide (i = j)
    | .str x, .Constant (.str y) _ _ => decide (x = y)
    | _, _ => false
  | .glob g, e => match e with
    | .Name x _ => decide (c.nm.constN[g]? = some x) && c.glob x
    | _ => false
  | .bin o a b, e => match e with
    | .BinOp x p y _ => decide (p = bopOf o) && chkE c a x && chkE c b y
    | _ => false
  | .neg a, e => match e with
    | .UnaryOp .USub x _ => chkE c a x
    | _ => false
  | .cmp o a b, e => match e with
    | .Compare x [p] [y] _ => decide (p = copOf o) && chkE c a x && chkE c b y
    | _ => false
  | .cmp2 o p a b d, e => match e with
    | .Compare x [q, r] [y, z] _ => decide (q = copOf o) && decide (r = copOf p) && chkE c a x && chkE c b y && chkE c d z
    | _ => false
  | .and a b, e => match e with
    | .BoolOp .And (x :: y :: rest) p => chkE c a x && (match rest with | [] => chkE c b y | _ => chkE c b (.BoolOp .And (y :: rest) p))
    | _ => false
  | .or a b, e => match e with
    | .BoolOp .Or (x :: y :: rest) p => chkE c a x && (match rest with | [] => chkE c b y | _ => chkE c b (.BoolOp .Or (y :: rest) p))
    | _ => false
  | .not a, e => match e with
    | .UnaryOp .Not x _ => chkE c a x
    | _ => false
  | .ite t a b, e => match e with
    | .IfExp x y z _ => chkE c t x && chkE c a y && chkE c b z
    | _ => false
  | .tup es, e => match e with
    | .Tuple xs _ _ => chkEs c es xs && decide (xs.length ≤ 1000)
    | _ => false
  | .lst es, e => match e with
    | .List xs _ => chkEs c es xs && decide (xs.length ≤ 1000)
    | _ => false
  | .dic es, e => match e with
    | .Dict ks vs _ => chkDi c es ks vs && decide (ks.length ≤ 15)
    | _ => false
  | .bty n, e => match e with
    | .Name x _ => decide (x = PySem.Str.ofString n) && tyAll.contains n && c.glob x && c.nm.blts.contains x
    | _ => false
  | .mmd mx a d, e => match e with
    | .Call (.Name x _) [y] [⟨some k, z, _⟩] _ => decide (x = (if mx then "max" else "min" : Str)) && decide (k = "default") && c.glob x && c.nm.blts.contains x && chkE c a y && chkE c d z
    | _ => false
  | .ix a i, e => match e with
    | .Subscript x y _ => chkE c a x && chkE c i y
    | _ => false
  | .sl a lo hi, e => match e with
    | .Subscript x (.Slice l h none _) _ => chkE c a x && chkEo c lo l && chkEo c hi h
    | _ => false
  | .fld a f, e => match e with
    | .Attribute x n _ => decide (c.nm.attrs[f]? = some n) && chkE c a x
    | _ => false
  | .call f es, e => match e with
    | .Call (.Name x _) (y :: ys) [] _ => decide (c.nm.fnN[f]? = some (some x)) && c.glob x && chkEs c es (y :: ys)
    | .Call (.Name x _) [] [] _ => decide (c.nm.fnN[f]? = some (some x)) && c.glob x && (match es with | .nil => true | _ => false)
    | _ => false
  | .make k es, e => match e with
    | .Call (.Name x _) (y :: ys) [] _ => decide (c.nm.clsN[k]? = some x) && c.glob x && chkEs c es (y :: ys)
    | .Call (.Name x _) [] [] _ => decide (c.nm.clsN[k]? = some x) && c.glob x && (match es with | .nil => true | _ => false)
    | _ => false
  | .meth a m es, e => match e with
    | .Call (.Attribute o n p) (y :: ys) [] q => decide (c.nm.mths[m]? = some n) && chkE c a o && chkEs c es (y :: ys) && decide ((y :: ys).length ≤ 20) && (p.endLine == q.line)
    | .Call (.Attribute o n p) [] [] q => decide (c.nm.mths[m]? = some n) && chkE c a o && (match es with | .nil => true | _ => false) && (p.endLine == q.line)
    | _ => false
  | .blt b es, e => match e with
    | .Call (.Name x _) (y :: ys) [] _ => decide (x = bfName b) && c.glob x && c.nm.blts.contains x && chkEs c es (y :: ys) && decide ((y :: ys).length = bfAr b)
    | _ => false
  | .bm m a es, e => match e with
    | .Call (.Attribute o n p) (y :: ys) [] q => decide (n = bmName m) && chkE c a o && chkEs c es (y :: ys) && decide ((y :: ys).length ≤ 2) && (p.endLine == q.line)
    | .Call (.Attribute o n p) [] [] q => decide (n = bmName m) && chkE c a o && (match es with | .nil => true | _ => false) && (p.endLine == q.line)
    | _ => false
  | .lc own t it d e', e => match e with
    | .ListComp elt [⟨tg, iter, ifs, 0⟩] scope _ => blkC c.N c.sc scope (ownOf c.N own) && chkTg (c.inner scope) t tg && (tgIn own t) && itTg it tg && chkIt c it iter && chkIf (c.inner scope) d ifs && chkE (c.inner scope) e' elt
    | _ => false
  | .dc own t it d k e', e => match e with
    | .DictComp kx vx [⟨tg, iter, ifs, 0⟩] scope _ => blkC c.N c.sc scope (ownOf c.N own) && chkTg (c.inner scope) t tg && (tgIn own t) && itTg it tg && chkIt c it iter && chkIf (c.inner scope) d ifs && chkE (c.inner scope) k kx && chkE (c.inner scope) e' vx
    | _ => false
  | .lc2 own own1 t it t1 a e', e => match e with
    | .ListComp elt [⟨tg, iter, [], 0⟩, ⟨tg1, iter1, [], 0⟩] scope _ => blkC c.N c.sc scope (ownOf c.N own) && chkTg (c.inner scope) t tg && (tgIn own t) && itTg it tg && chkIt c it iter && chkTg (c.inner scope) t1 tg1 && (tgIn own1 t1) && (own1.all fun i => own.contains i) && chkE (c.inner scope) a iter1 && chkE (c.inner scope) e' elt
    | _ => false
  | .lenD a m, e => match e with
    | .Call (.Name x _) [y] [] _ => decide (x = "len") && c.glob x && c.nm.blts.contains x && decide (c.nm.mths[m]? = some "__len__") && chkE c a y
    | _ => false
  | .callK _ _ _, _ => false
  | .makeK _ _ _, _ => false
  | .methK a m es pm, e => match e with
    | .Call (.Attribute o n p) xs (k :: ks) q => decide (c.nm.mths[m]? = some n) && chkE c a o && chkEk c es xs (k :: ks) &&
      (k :: ks).all (fun z => z.arg.isSome) && (c.nm.mks.any fun z => decide (z.1 = m) && decide (z.2.1 = xs.length) && decide (z.2.2.1 = kwNames (k :: ks)) && decide (pm.map (fun s => match s with | .inl j => some j | .inr _ => none) = z.2.2.2.map some)) && decide (xs.length + (k :: ks).length ≤ 20) && (p.endLine == q.line)
    | _ => false
def chkEs (c : Ck) : Exs → List Expr → Bool
  | .nil, xs => match xs with
    | [] => true
    | _ => false
  | .cons e r, xs => match xs with
    | y :: ys => chkE c e y && chkEs c r ys
    | [] => false
def chkEk (c : Ck) : Exs → List Expr → List Keyword → Bool
  | .nil, xs, ks => match xs, ks with
    | [], [] => true
    | _, _ => false
  | .cons e r, xs, ks => match xs with
    | y :: ys => chkE c e y && chkEk c r ys ks
    | [] => match ks with
      | k :: ks => chkE c e k.value && chkEk c r [] ks
      | [] => false
def chkDi (c : Ck) : Exs → List (Option Expr) → List Expr → Bool
  | .nil, ks, vs => match ks, vs with
    | [], [] => true
    | _, _ => false
  | .cons e r, ks, vs => match r with
    | .nil => false
    | .cons e' r' => match ks, vs with
      | some x :: xs, y :: ys => chkE c e x && chkE c e' y && chkDi c r' xs ys
      | _, _ => false
def chkEo (c : Ck) : Exo → Option Expr → Bool
  | .no, x => match x with
    | none => true
    | _ => false
  | .so e, x => match x with
    | some y => chkE c e y
    | none => false
def chkIf (c : Ck) : Exo → List Expr → Bool
  | .no, x => match x with
    | [] => true
    | _ => false
  | .so e, x => match x with
    | [y] => chkE c e y
    | _ => false
def chkTg (c : Ck) : Tg → Expr → Bool
  | .nm i, e => match e with
    | .Name x _ => decide (c.N[i]? = some x) && c.loc x
    | _ => false
  | .tp ts, e => match e with
    | .Tuple xs _ _ => chkTgs c ts xs
    | _ => false
  | .at o f, e => match e with
    | .Attribute x n _ => decide (c.nm.attrs[f]? = some n) && chkE c o x
    | _ => false
  | .sb o i, e => match e with
    | .Subscript x y _ => chkE c o x && chkE c i y
    | _ => false
def chkTgs (c : Ck) : Tgs → List Expr → Bool
  | .nil, xs => match xs with
    | [] => true
    | _ => false
  | .cons t r, xs => match xs with
    | y :: ys => chkTg c t y && chkTgs c r ys
    | [] => false
/-- a target that stores only names of some slots -/
def tgIn (own : List Nat) : Tg → Bool
  | .nm i => own.contains i
  | .tp ts => tgsIn own ts
  | _ => false
def tgsIn (own : List Nat) : Tgs → Bool
  | .nil => true
  | .cons t r => tgIn own t && tgsIn own r
def chkIt (c : Ck) : Ix → Expr → Bool
  | .vl e, x => chkE c e x
  | .rng1 e, x => match x with
    | .Call (.Name n _) [y] [] _ => decide (n = "range") && c.glob n && c.nm.blts.contains n && chkE c e y
    | _ => false
  | .rng2 a b, x => match x with
    | .Call (.Name n _) [y, z] [] _ => decide (n = "range") && c.glob n && c.nm.blts.contains n && chkE c a y && chkE c b z
    | _ => false
  | .enum e, x => match x with
    | .Call (.Name n _) [y] [] _ => decide (n = "enumerate") && c.glob n && c.nm.blts.contains n && chkE c e y
    | _ => false
  | .zip2 a b, x => match x with
    | .Call (.Name n _) [y, z] [] _ => decide (n = "zip") && c.glob n && c.nm.blts.contains n && chkE c a y && chkE c b z
    | _ => false
  | .items e, x => match x with
    | .Call (.Attribute y n p) [] [] q => decide (n = "items") && chkE c e y && (p.endLine == q.line)
    | _ => false
  | .vals e, x => match x with
    | .Call (.Attribute y n p) [] [] q => decide (n = "values") && chkE c e y && (p.endLine == q.line)
    | _ => false
end

def aopOf : BOp → Bool
  | .add => true | .sub => true | _ => false
def isLc : Ex → Bool
  | .lc _ _ _ _ _ => true | _ => false

mutual
def chkS (c : Ck) : St → Stmt → Bool
  | .pass, s => match s with
    | .Pass _ => true
    | .Expr (.Constant (.str _) _ _) _ => true
    | _ => false
  | .brk, s => match s with
    | .Break _ => true
    | _ => false
  | .cont, s => match s with
    | .Continue _ => true
    | _ => false
  | .expr e, s => match s with
    | .Expr x _ => chkE c e x && noComp x
    | _ => false
  | .ret e, s => match s with
    | .Return x _ => chkEo c e x
    | _ => false
  | .asg t e, s => match s with
    | .Assign [x] y _ => match t with
      | .tp ts => match e with
        | .tup es => chkPar c ts es x y
        | _ => chkTg c t x && chkE c e y && !isTupX y
      | .nm _ => chkTg c t x && chkE c e y && (noComp y || isLc e)
      | _ => chkTg c t x && chkE c e y
    | _ => false
  | .augn i o e, s => match s with
    | .AugAssign (.Name x _) p y _ => decide (c.N[i]? = some x) && c.loc x && decide (p = bopOf o) && aopOf o && chkE c e y
    | _ => false
  | .augf a f o e, s => match s with
    | .AugAssign (.Attribute x n _) p y _ => decide (c.nm.attrs[f]? = some n) && decide (p = bopOf o) && aopOf o && chkE c a x && chkE c e y
    | _ => false
  | .ifs t a b, s => match s with
    | .If x y z _ => chkE c t x && chkSs c a y && chkSs c b z
    | _ => false
  | .whl t b, s => match s with
    | .While x y [] _ => chkE c t x && chkSs c b y
    | _ => false
  | .for_ t it b, s => match s with
    | .For x y z [] _ => chkTg c t x && itTg it x && chkIt c it y && chkSs c b z
    | _ => false
  | .never, _ => true
def chkSs (c : Ck) : Sts → List Stmt → Bool
  | .nil, s => match s with
    | [] => true
    | _ => false
  | .cons s r, ss => match ss with
    | x :: xs => chkS c s x && chkSs c r xs
    | [] => false
/-- a, b = x, y: two local names of one line -/
def chkPar (c : Ck) : Tgs → Exs → Expr → Expr → Bool
  | .cons (.nm i) (.cons (.nm j) .nil), .cons a (.cons b .nil), e, e' => match e, e' with
    | .Tuple [.Name x p, .Name y q] _ _, .Tuple [va, vb] _ _ => decide (i ≠ j) && decide (x ≠ y) && decide (c.N[i]? = some x) && decide (c.N[j]? = some y) && decide (c.sc.names.lookup x = some .local) && decide (c.sc.names.lookup y = some .local) && (q.line == p.line) &&
      chkE c a va && chkE c b vb && !([va, vb].all (foldedForSure 8)) && !([va, vb].all (constantsAlone 8))
    | _, _ => false
  | _, _, _, _ => false
end

def fnScopeB (N : List Str) (np : Nat) (sc : Scope) : Bool :=
  (match sc.kind with | .function => true | _ => false) && !sc.isCoroutine && !sc.isGenerator && decide N.Nodup && decide (np ≤ N.length) &&
    ((N.take np).all fun x => match sc.names.lookup x with | some .local => true | some .cell => true | _ => false) && (sc.names.all fun y => match y.2 with | .free => false | _ => true)
theorem fnScope_by {N : List Str} {np : Nat} {sc : Scope} (h : fnScopeB N np sc = true) : FnScope N (N.take np) sc := by
  unfold fnScopeB at h
  simp only [Bool.and_eq_true, List.all_eq_true, decide_eq_true_eq, Bool.not_eq_true'] at h
  obtain ⟨⟨⟨⟨⟨⟨h1, h2⟩, h3⟩, h4⟩, h5⟩, h6⟩, h7⟩ := h
  refine ⟨?_, h2, h3, h4, ?_, fun x hx => ?_, fun y hy e => ?_⟩
  · split at h1
    · assumption
    · cases h1
  · rw [List.length_take, Nat.min_eq_left h5]
  · have q := h6 x hx
    split at q <;> first | exact .inl (by assumption) | exact .inr (by assumption) | cases q
  · have q := h7 y hy
    rw [e] at q
    cases q
end MI
/-! MI, part 5: readings that say «the small language's run says so»; operations by values. -/
namespace MI
open PySem L2

def KQ (K : PySem.W.Frag) (L : Lay) (ρ : List Addr) (H : Hp) (Q : VK) : QD := fun d hp' => ∀ ρ' H' v, Ext ρ H ρ' H' → RelH K L ρ' hp' H' → RD K L ρ' H' d v → Q v H'
def KQs (K : PySem.W.Frag) (L : Lay) (ρ : List Addr) (H : Hp) (Q : List V → Hp → Prop) : List D → Hq → Prop := fun ds hp' => ∀ ρ' H' vs, Ext ρ H ρ' H' → RelH K L ρ' hp' H' → RDs K L ρ' H' ds vs → Q vs H'
/-- an exception of class c, its dict at place i -/
def KX (K : PySem.W.Frag) (L : Lay) (ρ : List Addr) (H : Hp) (σ : L2.St) (W : WX) : QX := fun c i hp' => ∀ ρ' H' a C, Ext ρ H ρ' H' → RelH K L ρ' hp' H' → ρ'[i]? = some a → L.clss[c]? = some C → W (.ref C) (some a) σ H'
section
variable {K : PySem.W.Frag} {L : Lay} {ρ ρ' : List Addr} {H H' : Hp} {hp hp' : Hq}
theorem KQ.here {Q : VK} {d : D} {v : V} (k : KQ K L ρ H Q d hp) (r : RelH K L ρ hp H) (q : RD K L ρ H d v) : Q v H := k ρ H v (Ext.refl _ _) r q
theorem KQ.ext {Q : VK} {d : D} (k : KQ K L ρ H Q d hp) (e : Ext ρ H ρ' H') : KQ K L ρ' H' Q d hp := fun ρ2 H2 v e2 r q => k ρ2 H2 v (e.trans e2) r q
theorem KX.ext {σ : L2.St} {W : WX} {c i : Nat} (k : KX K L ρ H σ W c i hp) (e : Ext ρ H ρ' H') : KX K L ρ' H' σ W c i hp := fun ρ2 H2 a C e2 r q z => k ρ2 H2 a C (e.trans e2) r q z
/-- a new thing handed on -/
theorem KQ.new {Q : VK} {o : O} {u : HO} (k : KQ K L ρ H Q (.ref hp.length) (hp ++ [o])) (r : RelH K L ρ hp H) (q : RHO K L ρ H o u) : ∀ p, H p = none → Q (.ref p) (upd H p u) := fun p hn => by
  obtain ⟨r2, e2⟩ := r.push hn q
  refine k _ _ _ e2 r2 (.ref ?_)
  rw [← r.len, List.getElem?_append_right (Nat.le_refl _)]
  simp
/-- a new tuple handed on -/
theorem KQ.tup {Q : VK} {ds : List D} {vs : List V} (k : KQ K L ρ H Q (.tup ds) hp) (r : RelH K L ρ hp H) (q : RDs K L ρ H ds vs) : ∀ p, H p = none → Q (.ref p) (upd H p (.tup vs)) := fun p hn => by
  obtain ⟨r2, e2⟩ := r.tmp (u := .tup vs) hn
  exact k _ _ _ e2 r2 (.tup (.of upd_same) (q.mono e2))
theorem RelH.lst {i : Nat} {a : Addr} {xs : List D} (r : RelH K L ρ hp H) (ha : ρ[i]? = some a) (h : gtL hp i = some xs) : ∃ vs, H a = some (.lst vs) ∧ RDs K L ρ H xs vs := by
  obtain ⟨o, u, h1, h2, h3⟩ := r.at2 ha
  unfold gtL at h
  rw [h1] at h
  cases h3 with
  | lst t => cases h; exact ⟨_, h2, t⟩
  | _ => cases h
theorem RelH.dic {i : Nat} {a : Addr} {xs : List (Key × D)} (r : RelH K L ρ hp H) (ha : ρ[i]? = some a) (h : gtD hp i = some xs) : ∃ vs, H a = some (.dK vs) ∧ RKs K L ρ H xs vs := by
  obtain ⟨o, u, h1, h2, h3⟩ := r.at2 ha
  unfold gtD at h
  rw [h1] at h
  cases h3 with
  | dic t => cases h; exact ⟨_, h2, t⟩
  | _ => cases h
theorem RelH.rdic {i : Nat} {a : Addr} {xs : List (Key × D)} (r : RelH K L ρ hp H) (ha : ρ[i]? = some a) (h : rdD hp i = some xs) : ∃ vs, Rd H a (.dK vs) ∧ RKs K L ρ H xs vs := by
  obtain ⟨o, u, h1, h2, h3⟩ := r.at2 ha
  unfold rdD at h
  rw [h1] at h
  cases h3 with
  | dic t => cases h; exact ⟨_, .inl h2, t⟩
  | fdic t => cases h; exact ⟨_, .inr ⟨_, h2⟩, t⟩
  | _ => cases h
theorem RelH.ins {i : Nat} {a : Addr} {c : Nat} {fs : List (Nat × D)} (r : RelH K L ρ hp H) (ha : ρ[i]? = some a) (h : gtI hp i = some (c, fs)) : ∃ C dx vs, L.clss[c]? = some C ∧ H a = some (.ins C dx vs) ∧ RFs K L ρ H fs vs := by
  obtain ⟨o, u, h1, h2, h3⟩ := r.at2 ha
  unfold gtI at h
  rw [h1] at h
  cases h3 with
  | ins hc t => cases h; exact ⟨_, _, _, hc, h2, t⟩
  | _ => cases h
theorem RKs.get {kvs : List (Key × D)} {vs : List (Key × V)} (h : RKs K L ρ H kvs vs) (k : Key) : (dget kvs k = none ∧ valV vs k = none) ∨ ∃ d v, dget kvs k = some d ∧ valV vs k = some v ∧ RD K L ρ H d v := by
  unfold RKs at h
  induction h with
  | nil => exact .inl ⟨rfl, rfl⟩
  | @cons p q l m r t ih =>
    obtain ⟨k', d⟩ := p
    obtain ⟨k2, v⟩ := q
    obtain ⟨e, r⟩ := r
    have e : k' = k2 := e
    subst e
    by_cases hk : k' = k
    · refine .inr ⟨d, v, ?_, valV_pos hk, r⟩
      show (if k' = k then some d else dget l k) = some d
      rw [if_pos hk]
    · have e1 : dget ((k', d) :: l) k = dget l k := by
        show (if k' = k then some d else dget l k) = _
        rw [if_neg hk]
      have e2 : valV ((k', v) :: m) k = valV m k := valV_neg hk
      rw [e1, e2]
      exact ih
theorem RKs.any {kvs : List (Key × D)} {vs : List (Key × V)} (h : RKs K L ρ H kvs vs) (k : Key) : (kvs.any fun kv => decide (kv.1 = k)) = (vs.any fun kv => decide (kv.1 = k)) := by
  unfold RKs at h
  induction h with
  | nil => rfl
  | cons r t ih => rw [List.any_cons, List.any_cons, r.1, ih]
theorem RKs.len {kvs : List (Key × D)} {vs : List (Key × V)} (h : RKs K L ρ H kvs vs) : kvs.length = vs.length := Paired.length h
theorem Paired.app' {α β : Type} {F : α → β → Prop} : ∀ {l₁ m₁ : List α} {l₂ m₂ : List β}, Paired F l₁ l₂ → Paired F m₁ m₂ → Paired F (l₁ ++ m₁) (l₂ ++ m₂)
  | _, _, _, _, .nil, s => s
  | _, _, _, _, .cons r t, s => .cons r (Paired.app' t s)
theorem RKs.map {kvs : List (Key × D)} {vs : List (Key × V)} {d : D} {v : V} (h : RKs K L ρ H kvs vs) (k : Key) (r : RD K L ρ H d v) : RKs K L ρ H (kvs.map fun kv => if kv.1 = k then (kv.1, d) else kv) (vs.map fun kv => if kv.1 = k then (kv.1, v) else kv) := by
  unfold RKs at h ⊢
  induction h with
  | nil => exact .nil
  | @cons p q l m r' t ih =>
    rw [List.map_cons, List.map_cons]
    refine .cons ?_ ih
    rw [r'.1]
    by_cases e : q.1 = k
    · rw [if_pos e, if_pos e]; exact ⟨rfl, r⟩
    · rw [if_neg e, if_neg e]; exact r'
theorem RKs.put {kvs : List (Key × D)} {vs : List (Key × V)} {d : D} {v : V} (h : RKs K L ρ H kvs vs) (k : Key) (r : RD K L ρ H d v) : RKs K L ρ H (dput kvs k d) (putK vs k v) := by
  unfold dput putK
  rw [h.any k]
  split
  · exact RKs.map h k r
  · exact Paired.app' h (.cons ⟨rfl, r⟩ .nil)
theorem RKs.drop {kvs : List (Key × D)} {vs : List (Key × V)} (h : RKs K L ρ H kvs vs) (k : Key) : RKs K L ρ H (ddrop kvs k) (dropK vs k) := by
  unfold ddrop dropK
  unfold RKs at h ⊢
  induction h with
  | nil => exact .nil
  | @cons p q l m r t ih =>
    rw [List.filter_cons, List.filter_cons, r.1]
    split
    · exact .cons r ih
    · exact ih
theorem RFs.get {fs : List (Nat × D)} {vs : List (Str × V)} (nd : L.attrs.Nodup) (h : RFs K L ρ H fs vs) {f : Nat} {n : Str} (hn : L.attrs[f]? = some n) :
    (fget fs f = none ∧ vs.lookup n = none) ∨ ∃ d v, fget fs f = some d ∧ vs.lookup n = some v ∧ RD K L ρ H d v := by
  unfold RFs at h
  induction h with
  | nil => exact .inl ⟨rfl, rfl⟩
  | @cons p q l m r t ih =>
    obtain ⟨g, d⟩ := p
    obtain ⟨x, v⟩ := q
    obtain ⟨e, r⟩ := r
    have e : L.attrs[g]? = some x := e
    by_cases hk : g = f
    · subst hk
      rw [e] at hn
      cases hn
      refine .inr ⟨d, v, ?_, ?_, r⟩
      · show (if g = g then some d else fget l g) = some d
        rw [if_pos rfl]
      · simp [List.lookup]
    · have hx : ¬ n = x := fun z => hk (nodup_at nd e (by rw [hn, z]))
      have e1 : fget ((g, d) :: l) f = fget l f := by
        show (if g = f then some d else fget l f) = _
        rw [if_neg hk]
      have e2 : ((x, v) :: m).lookup n = m.lookup n := by
        show (match n == x with | true => some v | false => m.lookup n) = _
        rw [show (n == x) = false from beq_eq_false_iff_ne.mpr hx]
      rw [e1, e2]
      exact ih
theorem RFs.put {fs : List (Nat × D)} {vs : List (Str × V)} {d : D} {v : V} (nd : L.attrs.Nodup) (h : RFs K L ρ H fs vs) {f : Nat} {n : Str} (hn : L.attrs[f]? = some n) (r : RD K L ρ H d v) :
    RFs K L ρ H (fput fs f d) (putF n v vs) := by
  unfold RFs at h ⊢
  induction h with
  | nil => exact .cons ⟨hn, r⟩ .nil
  | @cons p q l m r' t ih =>
    obtain ⟨g, e⟩ := p
    obtain ⟨x, w⟩ := q
    obtain ⟨hx, r2⟩ := r'
    have hx : L.attrs[g]? = some x := hx
    show Paired _ (if g = f then (g, d) :: l else (g, e) :: fput l f d) (if x = n then (x, v) :: m else (x, w) :: putF n v m)
    by_cases hk : g = f
    · subst hk
      rw [hx] at hn
      cases hn
      rw [if_pos rfl, if_pos rfl]
      exact .cons ⟨hx, r⟩ t
    · have hne : ¬ x = n := fun z => hk (nodup_at nd hx (by rw [hn, z]))
      rw [if_neg hk, if_neg hne]
      exact .cons ⟨hx, r2⟩ ih
theorem RFs.len {fs : List (Nat × D)} {vs : List (Str × V)} (h : RFs K L ρ H fs vs) : fs.length = vs.length := Paired.length h
/-- a value that is a list to be read -/
theorem RD.lsq {d : D} {v : V} {xs : List D} (r : RelH K L ρ hp H) (q : RD K L ρ H d v) (h : lsOf hp d = some xs) : ∃ a vs, v = .ref a ∧ SqL K H a vs ∧ RDs K L ρ H xs vs := by
  cases q with
  | @kl a ys ds hs t => cases h; exact ⟨a, ys, rfl, hs.sq, t⟩
  | @ref i a hs =>
    obtain ⟨vs, h1, h2⟩ := r.lst hs h
    exact ⟨a, vs, rfl, .of h1, h2⟩
  | _ => cases h
theorem RD.sq {d : D} {v : V} {xs : List D} (r : RelH K L ρ hp H) (q : RD K L ρ H d v) (h : sqOf hp d = some xs) : ∃ a vs, v = .ref a ∧ (SqL K H a vs ∨ SqT K H a vs) ∧ RDs K L ρ H xs vs := by
  cases q with
  | @tup a ys ds hs t => cases h; exact ⟨a, ys, rfl, .inr hs, t⟩
  | @kl a ys ds hs t => cases h; exact ⟨a, ys, rfl, .inl hs.sq, t⟩
  | @ref i a hs =>
    obtain ⟨vs, h1, h2⟩ := r.lst hs h
    exact ⟨a, vs, rfl, .inl (.of h1), h2⟩
  | _ => cases h
theorem intsOf_map : ∀ {xs : List D} {vs : List V} {ns : List Int}, RDs K L ρ H xs vs → intsOf xs = some ns → vs = ns.map V.int
  | [], _, ns, .nil, h => by cases h; rfl
  | d :: ds, _, ns, .cons r t, h => by
    cases d with
    | int i =>
      cases r
      unfold intsOf at h
      cases e : intsOf ds with
      | none => rw [e] at h; cases h
      | some ms =>
        rw [e] at h
        cases h
        rw [intsOf_map t e, List.map_cons]
    | _ => cases h
theorem boolsOf_map : ∀ {xs : List D} {vs : List V} {ns : List Bool}, RDs K L ρ H xs vs → boolsOf xs = some ns → vs = ns.map V.bl
  | [], _, ns, .nil, h => by cases h; rfl
  | d :: ds, _, ns, .cons r t, h => by
    cases d with
    | bl i =>
      cases r
      unfold boolsOf at h
      cases e : boolsOf ds with
      | none => rw [e] at h; cases h
      | some ms =>
        rw [e] at h
        cases h
        rw [boolsOf_map t e, List.map_cons]
    | _ => cases h
theorem kOf_kV {d : D} {v : V} {k : Key} (q : RD K L ρ H d v) (h : kOf d = some k) : v = kV k := by
  cases q <;> cases h <;> rfl
theorem keyD_kV (k : Key) : RD K L ρ H (keyD k) (kV k) := by
  cases k with
  | inl i => exact .int i
  | inr x => exact .str x
theorem atI_rd {xs : List D} {vs : List V} {i : Int} {d : D} (t : RDs K L ρ H xs vs) (h : atI xs i = some d) : ∃ v, atI vs i = some v ∧ RD K L ρ H d v := by
  unfold atI at h ⊢
  rw [← t.len]
  cases e : ixN xs.length i with
  | none => rw [e] at h; cases h
  | some j =>
    rw [e] at h
    exact t.get h
theorem cut_rd {xs : List D} {vs : List V} (t : RDs K L ρ H xs vs) (lo hi : Option Int) : RDs K L ρ H (cutD xs lo hi) (cutV vs lo hi) := by
  unfold cutD cutV
  rw [← t.len]
  exact (t.drop _).take _
end

/-! ### rules by values -/
def rMI (K : PySem.W.Frag) (L : Lay) (o : D → D → Hq → OutD) : R2 := fun x y H Q => ∃ ρ hp d e, RelH K L ρ hp H ∧ RD K L ρ H d x ∧ RD K L ρ H e y ∧ (o d e hp).app (KQ K L ρ H Q)
section
variable {X : Cx} {L : Lay}
theorem sz_line : SZ = sizeLine := sizeLine_eq.symm
theorem mi_bin (o : BOp) : OpR X (binaryOp (bopOf o)) (rMI X.K L (oBin o)) := by
  intro pins s σ H x y v u Q I rx ry h
  obtain ⟨ρ, hp, d, e, r, q1, q2, h⟩ := h
  cases o with
  | add =>
    cases d <;> cases e <;> first | exact False.elim h | skip
    · cases q1; cases q2
      exact op_add pins s σ H _ _ v u Q I rx ry ⟨_, _, rfl, rfl, h.here r (.int _)⟩
    · cases q1; cases q2
      exact op_add_str pins s σ H _ _ v u Q I rx ry ⟨_, _, rfl, rfl, by rw [← sz_line]; exact h.1, h.2.here r (.str _)⟩
    · rename_i xs ys
      cases q1 with
      | @tup a vs _ ha ta =>
        cases q2 with
        | @tup b us _ hb tb =>
          refine op_catA pins s σ H _ _ v u Q I rx ry ⟨a, b, vs, us, rfl, rfl, ha, hb, ?_, ?_, ?_, ?_⟩
          · rw [← sz_line, ← ta.len, ← tb.len]; exact h.1
          · intro e
            subst e
            cases ta
            exact h.2.here r (.tup hb tb)
          · intro _ e
            subst e
            cases tb
            have h2 := h.2
            rw [List.append_nil] at h2
            exact h2.here r (.tup ha ta)
          · intro _ _
            exact h.2.tup r (ta.app tb)
    · rename_i i j
      cases q1 with
      | ref ha =>
        cases q2 with
        | ref hb =>
          have h : (match gtL hp i, gtL hp j with
            | some xs, some ys => OutD.cd (xs.length + ys.length ≤ SZ) (.ref hp.length) (hp ++ [O.lst (xs ++ ys)])
            | _, _ => .no).app (KQ X.K L ρ H Q) := h
          cases e1 : gtL hp i with
          | none => rw [e1] at h; exact False.elim h
          | some xs =>
            cases e2 : gtL hp j with
            | none => rw [e1, e2] at h; exact False.elim h
            | some ys =>
              rw [e1, e2] at h
              obtain ⟨vs, g1, t1⟩ := r.lst ha e1
              obtain ⟨us, g2, t2⟩ := r.lst hb e2
              refine op_cat pins s σ H _ _ v u Q I rx ry ⟨_, _, vs, us, rfl, rfl, g1, g2, ?_, ?_⟩
              · rw [← sz_line, ← t1.len, ← t2.len]; exact h.1
              · exact h.2.new r (.lst (t1.app t2))
  | sub =>
    cases d <;> cases e <;> first | exact False.elim h | skip
    cases q1; cases q2
    exact op_sub pins s σ H _ _ v u Q I rx ry ⟨_, _, rfl, rfl, h.here r (.int _)⟩
  | mul =>
    cases d <;> cases e <;> first | exact False.elim h | skip
    · cases q1; cases q2
      exact op_mul pins s σ H _ _ v u Q I rx ry ⟨_, _, rfl, rfl, h.1, h.2.here r (.int _)⟩
    · rename_i i k
      cases q2
      cases q1 with
      | ref ha =>
        have h : (match gtL hp i with
          | some xs => OutD.cd (-(2 ^ 63) ≤ k ∧ k < 2 ^ 63 ∧ xs.length * k.toNat ≤ SZ) (.ref hp.length) (hp ++ [O.lst (List.replicate k.toNat xs).flatten])
          | none => .no).app (KQ X.K L ρ H Q) := h
        cases e1 : gtL hp i with
        | none => rw [e1] at h; exact False.elim h
        | some xs =>
          rw [e1] at h
          obtain ⟨vs, g1, t1⟩ := r.lst ha e1
          obtain ⟨⟨c1, c2, c3⟩, h⟩ := h
          refine op_rep pins s σ H _ _ v u Q I rx ry ⟨_, _, vs, rfl, rfl, g1, c1, c2, ?_, ?_⟩
          · rw [← sz_line, ← t1.len]; exact c3
          · exact h.new r (.lst (t1.rep _))
  | fdiv =>
    cases d <;> cases e <;> first | exact False.elim h | skip
    cases q1; cases q2
    exact op_fdiv pins s σ H _ _ v u Q I rx ry ⟨_, _, rfl, rfl, h.1, h.2.here r (.int _)⟩
  | mod =>
    cases d <;> cases e <;> first | exact False.elim h | skip
    cases q1; cases q2
    exact op_mod pins s σ H _ _ v u Q I rx ry ⟨_, _, rfl, rfl, h.1, h.2.here r (.int _)⟩
  | pow =>
    cases d <;> cases e <;> first | exact False.elim h | skip
    cases q1; cases q2
    exact op_pow pins s σ H _ _ v u Q I rx ry ⟨_, _, rfl, rfl, h.1, h.2.here r (.int _)⟩
end
end MI
/-! MI, part 6: comparisons, truth, items, slices, built-in functions and methods, by values. -/
namespace MI
open PySem PySem.Spec PyProof.Rows L2
section
variable {X : Cx} {L : Lay} {ρ : List Addr} {hp : Hq} {H : Hp}

theorem flD_eq {K : PySem.W.Frag} {d : D} {x y : V} (q1 : RD K L ρ H d x) (q2 : RD K L ρ H d y) (h : flD d = true) : y = x ∧ flatB x = true := by
  cases q1 <;> first | (cases h; done) | skip
  all_goals
    cases q2
    exact ⟨rfl, rfl⟩
theorem rks_of {K : PySem.W.Frag} : ∀ {ks : List (Key × D)} {vs : List (Key × V)}, RKs K L ρ H ks vs → ∀ q ∈ vs, ∃ p ∈ ks, p.1 = q.1 ∧ RD K L ρ H p.2 q.2
  | _, _, .nil, q, h => by cases h
  | _, _, .cons (a := p) r t, q, h => by
    rcases List.mem_cons.mp h with e | e
    · subst e; exact ⟨p, List.mem_cons_self, r⟩
    · obtain ⟨p', h1, h2⟩ := rks_of t q e
      exact ⟨p', List.mem_cons_of_mem _ h1, h2⟩
theorem eq_dic {K : PySem.W.Frag} {ks ls : List (Key × D)} {vs us : List (Key × V)} (t1 : RKs K L ρ H ks vs) (t2 : RKs K L ρ H ls us) (h : ks.length = ls.length ∧ ∀ p ∈ ks, dget ls p.1 = some p.2 ∧ flD p.2 = true) :
    vs.length = us.length ∧ ∀ p ∈ vs, valV us p.1 = some p.2 ∧ flatB p.2 = true := by
  refine ⟨by rw [← t1.len, ← t2.len]; exact h.1, fun q hq => ?_⟩
  obtain ⟨p, hp, e, r⟩ := rks_of t1 q hq
  obtain ⟨g1, g2⟩ := h.2 p hp
  rcases t2.get p.1 with ⟨z, _⟩ | ⟨d, v, z1, z2, z3⟩
  · rw [z] at g1; cases g1
  · rw [z1] at g1
    cases g1
    obtain ⟨e1, e2⟩ := flD_eq r z3 g2
    rw [← e, z2, e1]
    exact ⟨rfl, e2⟩
theorem eq_cases {K : PySem.W.Frag} {d e : D} {x y : V} {k : Bool → Prop} (r : RelH K L ρ hp H) (q1 : RD K L ρ H d x) (q2 : RD K L ρ H e y) (h : (oEq d e hp).app k) :
    (scal x y = true ∧ k (decide (x = y))) ∨ (∃ a b vs us, x = .ref a ∧ y = .ref b ∧ H a = some (.dK vs) ∧ H b = some (.dK us) ∧ vs.length = us.length ∧ (∀ p ∈ vs, valV us p.1 = some p.2 ∧ flatB p.2 = true) ∧ k true) ∨ ∃ a b, Dp K H x a ∧ Dp K H y b ∧ SeqAt.shaped a = true ∧ SeqAt.shaped b = true ∧ k (PyData.eqv a b) := by
  unfold oEq at h
  split at h
  · cases q1; cases q2
    refine .inl ⟨rfl, ?_⟩
    have : ∀ i j : Int, decide (V.int i = V.int j) = decide (i = j) := fun i j => by simp
    rw [this]; exact h
  · cases q1; cases q2
    refine .inl ⟨rfl, ?_⟩
    have : ∀ i j : Str, decide (V.str i = V.str j) = decide (i = j) := fun i j => by simp
    rw [this]; exact h
  · cases q1; cases q2
    refine .inl ⟨rfl, ?_⟩
    have : ∀ i j : Bool, decide (V.bl i = V.bl j) = decide (i = j) := fun i j => by simp
    rw [this]; exact h
  · cases q1; cases q2
    exact .inl ⟨rfl, h⟩
  · right
    have plain : (oEqP d e hp).app k → ∃ a b, Dp K H x a ∧ Dp K H y b ∧ SeqAt.shaped a = true ∧ SeqAt.shaped b = true ∧ k (PyData.eqv a b) := by
      intro h
      unfold oEqP at h
      cases e1 : toP 40 hp d with
      | none => rw [e1] at h; exact False.elim h
      | some a =>
        cases e2 : toP 40 hp e with
        | none => rw [e1, e2] at h; exact False.elim h
        | some b =>
          rw [e1, e2] at h
          exact ⟨a, b, toP_dp r 40 d x a q1 e1, toP_dp r 40 e y b q2 e2, h.1.1, h.1.2, h.2⟩
    unfold oEqG at h
    split at h
    · split at h
      · rename_i ks ls z1 z2
        left
        cases q1 with
        | ref h1 =>
          cases q2 with
          | ref h2 =>
            obtain ⟨vs, g1, t1⟩ := r.dic h1 z1
            obtain ⟨us, g2, t2⟩ := r.dic h2 z2
            obtain ⟨c1, c2⟩ := eq_dic t1 t2 h.1
            exact ⟨_, _, vs, us, rfl, rfl, g1, g2, c1, c2, h.2⟩
      · exact .inr (plain h)
    · exact .inr (plain h)

theorem isNon_rd {K : PySem.W.Frag} {d : D} {x : V} (q : RD K L ρ H d x) : isNon d = decide (x = .non) := by
  cases q <;> rfl

theorem op_inT (hu : X.A.units + 65 < cLine) : OpR X (compareOp .In) (fun x y H Q => ∃ d ds, Dp X.K H x d ∧ Dp X.K H y (.tuple ds) ∧ SeqAt.shaped d = true ∧ SeqAt.shaped (.list ds) = true ∧ Q (.bl (ds.any fun z => PyData.eqv z d)) H) := by
  intro pins s σ H x y v u Q I rx ry h
  obtain ⟨d, ds, hd, he, sd, se, q⟩ := h
  obtain ⟨as, r1⟩ := Dp.reads I d x v hd rx
  obtain ⟨bs, r2⟩ := Dp.reads I (.tuple ds) y u he ry
  exact SeqAt.in_tuple_reads r2 r1 (SeqAt.canLay_of_shaped se) (SeqAt.canLay_of_shaped sd) (room_in_shaped sd hu) ⟨.bl _, H, I, rfl, q⟩
theorem op_notInT (hu : X.A.units + 65 < cLine) : OpR X (compareOp .NotIn) (fun x y H Q => ∃ d ds, Dp X.K H x d ∧ Dp X.K H y (.tuple ds) ∧ SeqAt.shaped d = true ∧ SeqAt.shaped (.list ds) = true ∧ Q (.bl (!ds.any fun z => PyData.eqv z d)) H) := by
  intro pins s σ H x y v u Q I rx ry h
  obtain ⟨d, ds, hd, he, sd, se, q⟩ := h
  obtain ⟨as, r1⟩ := Dp.reads I d x v hd rx
  obtain ⟨bs, r2⟩ := Dp.reads I (.tuple ds) y u he ry
  exact SeqAt.notIn_tuple_reads r2 r1 (SeqAt.canLay_of_shaped se) (SeqAt.canLay_of_shaped sd) (room_in_shaped sd hu) ⟨.bl _, H, I, rfl, q⟩

theorem in_cases {K : PySem.W.Frag} {d e : D} {x y : V} {k : Bool → Prop} (r : RelH K L ρ hp H) (q1 : RD K L ρ H d x) (q2 : RD K L ρ H e y) (h : (oIn d e hp).app k) :
    (∃ a o, y = .ref a ∧ DGet H a x o ∧ k o.isSome) ∨ (∃ a b, Dp K H x a ∧ Dp K H y (.list b) ∧ SeqAt.shaped a = true ∧ SeqAt.shaped (.list b) = true ∧ k (b.any fun z => PyData.eqv z a)) ∨
      ∃ a b, Dp K H x a ∧ Dp K H y (.tuple b) ∧ SeqAt.shaped a = true ∧ SeqAt.shaped (.list b) = true ∧ k (b.any fun z => PyData.eqv z a) := by
  have seq : ∀ ys : List D, (oInS d ys hp).app k → ∃ a b, toP 40 hp d = some a ∧ mapO (toP 40 hp) ys = some b ∧ SeqAt.shaped a = true ∧ SeqAt.shaped (.list b) = true ∧ k (b.any fun z => PyData.eqv z a) := fun ys h => by
    unfold oInS at h
    cases e1 : toP 40 hp d with
    | none => rw [e1] at h; exact False.elim h
    | some a =>
      cases e2 : mapO (toP 40 hp) ys with
      | none => rw [e1, e2] at h; exact False.elim h
      | some b =>
        rw [e1, e2] at h
        exact ⟨a, b, rfl, rfl, h.1.1, h.1.2, h.2⟩
  have dic : ∀ (a : Addr) (kvs : List (Key × D)) (vs : List (Key × V)), y = .ref a → Rd H a (.dK vs) → RKs K L ρ H kvs vs → (oInD d kvs).app k → ∃ a o, y = .ref a ∧ DGet H a x o ∧ k o.isSome := fun a kvs vs ey hr hk h => by
    unfold oInD at h
    cases e1 : kOf d with
    | none => rw [e1] at h; exact False.elim h
    | some key =>
      rw [e1] at h
      have ex := kOf_kV q1 e1
      refine ⟨a, valV vs key, ey, .inl ⟨vs, key, hr, ex, rfl⟩, ?_⟩
      rcases hk.get key with ⟨g1, g2⟩ | ⟨d', v', g1, g2, _⟩
      · have h : k (dget kvs key).isSome := h
        rw [g1] at h
        rw [g2]; exact h
      · have h : k (dget kvs key).isSome := h
        rw [g1] at h
        rw [g2]; exact h
  cases q2 with
  | @tup a vs ys hs t =>
    right; right
    obtain ⟨a', b, e1, e2, s1, s2, h⟩ := seq ys h
    exact ⟨a', b, toP_dp r 40 d x a' q1 e1, .tup hs (toPs_dp r 40 ys vs b t e2), s1, s2, h⟩
  | @kl a vs ys hs t =>
    right; left
    obtain ⟨a', b, e1, e2, s1, s2, h⟩ := seq ys h
    exact ⟨a', b, toP_dp r 40 d x a' q1 e1, .lst hs.sq (toPs_dp r 40 ys vs b t e2), s1, s2, h⟩
  | @ref i a hs =>
    obtain ⟨o, u, g1, g2, g3⟩ := r.at2 hs
    have h : (match hp[i]? with
      | some (.dic kvs) => oInD d kvs
      | some (.fdic kvs) => oInD d kvs
      | some (.lst ys) => oInS d ys hp
      | _ => .no).app k := h
    rw [g1] at h
    cases g3 with
    | @lst ys vs t =>
      right; left
      obtain ⟨a', b, e1, e2, s1, s2, h⟩ := seq ys h
      exact ⟨a', b, toP_dp r 40 d x a' q1 e1, .lst (.of g2) (toPs_dp r 40 ys vs b t e2), s1, s2, h⟩
    | dic t => exact .inl (dic a _ _ rfl (.inl g2) t h)
    | fdic t => exact .inl (dic a _ _ rfl (.inr ⟨_, g2⟩) t h)
    | _ => exact False.elim h
  | _ => exact False.elim h

theorem val_app {o : OutB} {neg : Bool} {Q : QD} (h : (o.val neg hp).app Q) : o.app fun b => Q (.bl (if neg then !b else b)) hp := by
  cases o with
  | no => exact h
  | ok b => exact h
  | cd C b => exact h
theorem mi_cmp (hu : X.A.units + 65 < cLine) (o : COp) : OpR X (compareOp (copOf o)) (rMI X.K L (oCmp o)) := by
  intro pins s σ H x y v u Q I rx ry h
  obtain ⟨ρ, hp, d, e, r, q1, q2, h⟩ := h
  have bl : ∀ b, KQ X.K L ρ H Q (.bl b) hp → Q (.bl b) H := fun b k => k.here r (.bl b)
  cases o with
  | eq =>
    have h := val_app h
    rcases eq_cases r q1 q2 h with ⟨hs, k⟩ | ⟨a, b, vs, us, e1, e2, g1, g2, c1, c2, k⟩ | ⟨a, b, d1, d2, s1, s2, k⟩
    · exact op_eq pins s σ H x y v u Q I rx ry ⟨hs, bl _ k⟩
    · exact op_eq_dictA (by omega) pins s σ H x y v u Q I rx ry ⟨a, b, vs, us, e1, e2, g1, g2, c1, c2, bl _ k⟩
    · exact op_eqD (by omega) pins s σ H x y v u Q I rx ry ⟨a, b, d1, d2, s1, s2, bl _ k⟩
  | ne =>
    have h := val_app h
    rcases eq_cases r q1 q2 h with ⟨hs, k⟩ | ⟨a, b, vs, us, e1, e2, g1, g2, c1, c2, k⟩ | ⟨a, b, d1, d2, s1, s2, k⟩
    · exact op_ne pins s σ H x y v u Q I rx ry ⟨hs, bl _ k⟩
    · exact op_ne_dictA (by omega) pins s σ H x y v u Q I rx ry ⟨a, b, vs, us, e1, e2, g1, g2, c1, c2, bl _ k⟩
    · exact op_neD (by omega) pins s σ H x y v u Q I rx ry ⟨a, b, d1, d2, s1, s2, bl _ k⟩
  | lt =>
    cases d <;> cases e <;> first | exact False.elim h | skip
    cases q1; cases q2
    exact op_lt pins s σ H _ _ v u Q I rx ry ⟨_, _, rfl, rfl, bl _ h⟩
  | le =>
    cases d <;> cases e <;> first | exact False.elim h | skip
    cases q1; cases q2
    exact op_le pins s σ H _ _ v u Q I rx ry ⟨_, _, rfl, rfl, bl _ h⟩
  | gt =>
    cases d <;> cases e <;> first | exact False.elim h | skip
    cases q1; cases q2
    exact op_gt pins s σ H _ _ v u Q I rx ry ⟨_, _, rfl, rfl, bl _ h⟩
  | ge =>
    cases d <;> cases e <;> first | exact False.elim h | skip
    cases q1; cases q2
    exact op_ge pins s σ H _ _ v u Q I rx ry ⟨_, _, rfl, rfl, bl _ h⟩
  | is =>
    cases e <;> first | exact False.elim h | skip
    cases q2
    have h : KQ X.K L ρ H Q (.bl (isNon d)) hp := h
    rw [isNon_rd q1] at h
    exact op_isN pins s σ H _ _ v u Q I rx ry ⟨rfl, bl _ h⟩
  | nis =>
    cases e <;> first | exact False.elim h | skip
    cases q2
    have h : KQ X.K L ρ H Q (.bl (!isNon d)) hp := h
    rw [isNon_rd q1] at h
    exact op_notN pins s σ H _ _ v u Q I rx ry ⟨rfl, bl _ h⟩
  | isin =>
    have h := val_app h
    rcases in_cases r q1 q2 h with ⟨a, o, ey, g, k⟩ | ⟨a, b, d1, d2, s1, s2, k⟩ | ⟨a, b, d1, d2, s1, s2, k⟩
    · subst ey
      cases ry
      exact d_in (by omega) I g rx fun s3 I3 => ⟨.bl o.isSome, H, I3, rfl, bl _ k⟩
    · exact op_inD hu pins s σ H x y v u Q I rx ry ⟨a, b, d1, d2, s1, s2, bl _ k⟩
    · exact op_inT hu pins s σ H x y v u Q I rx ry ⟨a, b, d1, d2, s1, s2, bl _ k⟩
  | nin =>
    have h := val_app h
    rcases in_cases r q1 q2 h with ⟨a, o, ey, g, k⟩ | ⟨a, b, d1, d2, s1, s2, k⟩ | ⟨a, b, d1, d2, s1, s2, k⟩
    · subst ey
      cases ry
      exact d_notIn (by omega) I g rx fun s3 I3 => ⟨.bl (!o.isSome), H, I3, rfl, bl _ k⟩
    · exact op_notInD hu pins s σ H x y v u Q I rx ry ⟨a, b, d1, d2, s1, s2, bl _ k⟩
    · exact op_notInT hu pins s σ H x y v u Q I rx ry ⟨a, b, d1, d2, s1, s2, bl _ k⟩

/-! ### truth -/
theorem tru_of {K : PySem.W.Frag} {d : D} {x : V} {k : Bool → Prop} (r : RelH K L ρ hp H) (q : RD K L ρ H d x) (h : (oTru d hp).app k) : ∃ b, TruV K x H b ∧ k b := by
  cases q with
  | non => exact ⟨_, rfl, h⟩
  | bl b => exact ⟨_, rfl, h⟩
  | int i => exact ⟨_, rfl, h⟩
  | str y => exact ⟨_, ⟨by rw [← sz_line]; exact h.1, rfl⟩, h.2⟩
  | @tup a xs ds hs t =>
    refine ⟨!xs.isEmpty, .inr (.inl ⟨xs, hs, rfl⟩), ?_⟩
    have h : k (!ds.isEmpty) := h
    cases t <;> exact h
  | @kl a xs ds hs t =>
    refine ⟨!xs.isEmpty, .inl ⟨xs, hs.sq, rfl⟩, ?_⟩
    have h : k (!ds.isEmpty) := h
    cases t <;> exact h
  | @ref i a hs =>
    obtain ⟨o, u, g1, g2, g3⟩ := r.at2 hs
    have h : (match hp[i]? with
      | some (.lst xs) => OutB.ok (!xs.isEmpty)
      | some (.dic kvs) => .ok (!kvs.isEmpty)
      | _ => .no).app k := h
    rw [g1] at h
    cases g3 with
    | @lst xs vs t =>
      refine ⟨!vs.isEmpty, .inl ⟨vs, .of g2, rfl⟩, ?_⟩
      have h : k (!xs.isEmpty) := h
      cases t <;> exact h
    | @dic xs vs t =>
      refine ⟨!vs.isEmpty, .inr (.inr ⟨vs, g2, rfl⟩), ?_⟩
      have h : k (!xs.isEmpty) := h
      unfold RKs at t
      cases t <;> exact h
    | _ => exact False.elim h
  | _ => exact False.elim h

/-! ### items, slices -/
theorem mi_ix (hu : X.A.units + 65 < cLine) : IxR X (rMI X.K L oIx) := by
  intro value slice pins s σ H x y v u Q I rx ry h hs
  obtain ⟨ρ, hp, d, e, r, q1, q2, h⟩ := h
  have item : ∀ (ds : List D) (i : Int) (vs : List V), RDs X.K L ρ H ds vs → (oAtI ds i hp).app (KQ X.K L ρ H Q) → ∃ w, atI vs i = some w ∧ Q w H := fun ds i vs t h => by
    unfold oAtI at h
    cases e1 : atI ds i with
    | none => rw [e1] at h; exact False.elim h
    | some d' =>
      rw [e1] at h
      obtain ⟨w, g1, g2⟩ := atI_rd t e1
      exact ⟨w, g1, KQ.here h r g2⟩
  have dic : ∀ (a : Addr) (kvs : List (Key × D)) (vs : List (Key × V)), x = .ref a → Rd H a (.dK vs) → RKs X.K L ρ H kvs vs → (oAtK kvs e hp).app (KQ X.K L ρ H Q) → wpAny (model X.prog X.w) X.A (subscriptTail value slice v u) (EP X pins σ Q) X.xe s := fun a kvs vs ex hr hk h => by
    unfold oAtK at h
    cases e1 : kOf e with
    | none => rw [e1] at h; exact False.elim h
    | some key =>
      rw [e1] at h
      rcases hk.get key with ⟨g1, g2⟩ | ⟨d', v', g1, g2, g3⟩
      · simp only [g1] at h; exact False.elim h
      · simp only [g1] at h
        have ey := kOf_kV q2 e1
        subst ex
        have rx' : v = Value.ref a := rx
        subst rx'
        have g : DGet H a y (some v') := .inl ⟨vs, key, hr, ey, g2.symm⟩
        obtain ⟨kvs', hd⟩ : ∃ kvs', Rd H a (.dK kvs') := ⟨vs, hr⟩
        obtain ⟨_, hd2, vs', _, dd⟩ := dk_rd I.hok hd
        exact tail_any dd.typeIs PySem.F.slot_dict_getitem.lookup (d_getItem (by omega) I g ry fun w' s' I' rw' => ⟨v', H, I', rw', KQ.here h r g3⟩) hs
  cases q1 with
  | @tup a vs ds hs' t =>
    cases e <;> first | exact False.elim h | skip
    cases q2
    obtain ⟨w, g1, g2⟩ := item ds _ vs t h
    exact ix_tup value slice pins s σ H _ _ v u Q I rx ry ⟨a, vs, _, w, rfl, rfl, hs', g1, g2⟩ hs
  | @kl a vs ds hs' t =>
    cases e <;> first | exact False.elim h | skip
    cases q2
    obtain ⟨w, g1, g2⟩ := item ds _ vs t h
    exact ix_list value slice pins s σ H _ _ v u Q I rx ry ⟨a, vs, _, w, rfl, rfl, hs'.sq, g1, g2⟩ hs
  | @ref i a ha =>
    obtain ⟨o, w, g1, g2, g3⟩ := r.at2 ha
    unfold oIx at h
    simp only [g1] at h
    cases g3 with
    | @lst ds vs t =>
      cases e <;> first | exact False.elim h | skip
      cases q2
      obtain ⟨w, k1, k2⟩ := item ds _ vs t h
      exact ix_list value slice pins s σ H _ _ v u Q I rx ry ⟨a, vs, _, w, rfl, rfl, .of g2, k1, k2⟩ hs
    | dic t => exact dic a _ _ rfl (.inl g2) t h
    | fdic t => exact dic a _ _ rfl (.inr ⟨_, g2⟩) t h
    | _ => exact False.elim h
  | _ => exact False.elim h

def rSlMI (K : PySem.W.Frag) (L : Lay) : V → Option Int → Option Int → Hp → VK → Prop := fun x lo hi H Q => ∃ ρ hp d, RelH K L ρ hp H ∧ RD K L ρ H d x ∧ (oSl d lo hi hp).app (KQ K L ρ H Q)
theorem mi_sl : SlR X (rSlMI X.K L) := by
  intro pins s σ H x v vl vu lo hi sl Q I rx hs pl pu h
  obtain ⟨ρ, hp, d, r, q, h⟩ := h
  unfold oSl at h
  cases q with
  | @tup a vs ds ht t =>
    have h : KQ X.K L ρ H Q (.tup (cutD ds lo hi)) hp := h
    refine sl_tupA pins s σ H _ v vl vu lo hi sl Q I rx hs pl pu ⟨a, vs, rfl, ht, fun hz => ?_, fun _ => h.tup r (cut_rd t lo hi)⟩
    obtain ⟨z1, z2⟩ := hz
    have e : cutD ds lo hi = ds := by
      unfold cutD
      rw [t.len, z1, z2, List.drop_zero, Nat.sub_zero, ← t.len, List.take_length]
    rw [e] at h
    exact h.here r (.tup ht t)
  | @ref i a ha =>
    have h : (match gtL hp i with
      | some xs => oNew hp (.lst (cutD xs lo hi))
      | none => .no).app (KQ X.K L ρ H Q) := h
    cases e1 : gtL hp i with
    | none => rw [e1] at h; exact False.elim h
    | some xs =>
      rw [e1] at h
      obtain ⟨vs, g1, t⟩ := r.lst ha e1
      exact sl_list pins s σ H _ v vl vu lo hi sl Q I rx hs pl pu ⟨a, vs, rfl, .of g1, KQ.new h r (.lst (cut_rd t lo hi))⟩
  | _ => exact False.elim h
end
end MI
/-! MI, part 7: built-in functions, methods of built-in types, stores, by values. -/
namespace MI
open PySem PySem.Spec PyProof.Rows L2

def bfV : BF → Value
  | .list1 => .type "list"
  | .tuple1 => .type "tuple"
  | .int1 => .type "int"
  | .dict1 => .type "dict"
  | .dict0 => .type "dict"
  | .str1 => .type "str"
  | .len => .builtin "len"
  | .repr => .builtin "repr"
  | .sum1 => .builtin "sum"
  | .max1 => .builtin "max"
  | .min1 => .builtin "min"
  | .max2 => .builtin "max"
  | .min2 => .builtin "min"
  | .sorted1 => .builtin "sorted"
  | .all1 => .builtin "all"
  | .any1 => .builtin "any"
  | .isi => .builtin "isinstance"
def rBF (K : PySem.W.Frag) (L : Lay) (b : BF) : List V → Hp → VK → Prop := fun vs H Q => ∃ ρ hp ds, RelH K L ρ hp H ∧ RDs K L ρ H ds vs ∧ (oBF b ds hp).app (KQ K L ρ H Q)

theorem merge_rks {K : PySem.W.Frag} {L : Lay} {ρ : List Addr} {H : Hp} : ∀ {kvs : List (Key × D)} {vs : List (Key × V)} {acc : List (Key × D)} {acv : List (Key × V)}, RKs K L ρ H kvs vs → RKs K L ρ H acc acv → RKs K L ρ H (kvs.foldl (fun acc kv => dput acc kv.1 kv.2) acc) (mergeK acv vs)
  | [], _, acc, acv, .nil, ra => ra
  | p :: kvs, _, acc, acv, .cons (b := q) r t, ra => by
    obtain ⟨e, r⟩ := r
    show RKs K L ρ H (kvs.foldl _ (dput acc p.1 p.2)) (mergeK (putK acv q.1 q.2) _)
    refine merge_rks t ?_
    rw [← e]
    exact ra.put p.1 r
theorem prs_rd {K : PySem.W.Frag} {L : Lay} {ρ : List Addr} {H : Hp} : ∀ {xs : List D} {vs : List V} {kvs : List (Key × D)}, RDs K L ρ H xs vs → prsOf xs = some kvs → ∃ (ps : List Addr) (kvs' : List (Key × V)), vs = ps.map V.ref ∧ Paired (fun p kv => SqT K H p [kV kv.1, kv.2]) ps kvs' ∧ RKs K L ρ H kvs kvs'
  | [], _, kvs, .nil, h => by
    cases h
    exact ⟨[], [], rfl, .nil, .nil⟩
  | d :: xs, _, kvs, .cons r t, h => by
    unfold prsOf at h
    split at h
    · rename_i z
      cases z
    · rename_i k v r' heq
      cases heq
      cases e : kOf k with
      | none => simp only [e] at h; cases h
      | some key =>
        cases e2 : prsOf xs with
        | none => simp only [e, e2] at h; cases h
        | some kvs0 =>
          simp only [e, e2] at h
          cases h
          obtain ⟨ps, kvs', h1, h2, h3⟩ := prs_rd t e2
          cases r with
          | @tup a us _ hs tt =>
            cases tt with
            | cons r1 tt =>
              cases tt with
              | cons r2 tt =>
                cases tt
                have ek := kOf_kV r1 e
                subst ek
                exact ⟨a :: ps, (key, _) :: kvs', by rw [h1]; rfl, .cons hs h2, .cons ⟨rfl, r2⟩ h3⟩
    · cases h
theorem imax_spec : ∀ (ns : List Int) (m : Int), (imax m ns = m ∨ imax m ns ∈ ns) ∧ m ≤ imax m ns ∧ ∀ y ∈ ns, y ≤ imax m ns
  | [], m => ⟨.inl rfl, Int.le_refl _, fun y h => by cases h⟩
  | n :: r, m => by
    have ih := imax_spec r (if n > m then n else m)
    show (imax (if n > m then n else m) r = m ∨ imax (if n > m then n else m) r ∈ n :: r) ∧ m ≤ imax (if n > m then n else m) r ∧ ∀ y ∈ n :: r, y ≤ imax (if n > m then n else m) r
    obtain ⟨h1, h2, h3⟩ := ih
    refine ⟨?_, ?_, fun y hy => ?_⟩
    · rcases h1 with h1 | h1
      · by_cases h : n > m
        · rw [if_pos h] at h1 ⊢; right; rw [h1]; exact List.mem_cons_self
        · rw [if_neg h] at h1 ⊢; left; exact h1
      · right; exact List.mem_cons_of_mem _ h1
    · split at h2 <;> split <;> omega
    · rcases List.mem_cons.mp hy with e | e
      · subst e; split at h2 <;> split <;> omega
      · exact h3 y e
theorem imin_spec : ∀ (ns : List Int) (m : Int), (imin m ns = m ∨ imin m ns ∈ ns) ∧ imin m ns ≤ m ∧ ∀ y ∈ ns, imin m ns ≤ y
  | [], m => ⟨.inl rfl, Int.le_refl _, fun y h => by cases h⟩
  | n :: r, m => by
    have ih := imin_spec r (if n < m then n else m)
    show (imin (if n < m then n else m) r = m ∨ imin (if n < m then n else m) r ∈ n :: r) ∧ imin (if n < m then n else m) r ≤ m ∧ ∀ y ∈ n :: r, imin (if n < m then n else m) r ≤ y
    obtain ⟨h1, h2, h3⟩ := ih
    refine ⟨?_, ?_, fun y hy => ?_⟩
    · rcases h1 with h1 | h1
      · by_cases h : n < m
        · rw [if_pos h] at h1 ⊢; right; rw [h1]; exact List.mem_cons_self
        · rw [if_neg h] at h1 ⊢; left; exact h1
      · right; exact List.mem_cons_of_mem _ h1
    · split at h2 <;> split <;> omega
    · rcases List.mem_cons.mp hy with e | e
      · subst e; split at h2 <;> split <;> omega
      · exact h3 y e

section
variable {X : Cx} {L : Lay}
theorem repr_any (hg : X.A.guards = some []) (hu : X.A.units + 200 < cLine) : CallR X (.builtin "repr") (fun vs H Q => ∃ x a, vs = [x] ∧ Dp X.K H x a ∧ SeqAt.shaped a = true ∧ a.showable = true ∧ a.shown.length ≤ sizeLine ∧ Q (.str a.shown) H) := by
  intro pins s σ H xs us Q I rv h
  obtain ⟨x, a, rfl, hd, hs, hw, hz, q⟩ := h
  obtain ⟨u, rfl, rx⟩ := vals1 rv
  have fin : ∀ (h' : Heap) (t tk : Nat), (∀ b o, s.heap.get? b = some o → h'.get? b = some o) → EP X pins σ Q (.str a.shown t) { s with heap := h', toks := tk } := fun h' t tk k => ⟨.str a.shown, H, I.kept k, ⟨t, rfl⟩, q⟩
  have hdep : a.depth ≤ 64 := by
    unfold SeqAt.shaped at hs
    simp only [Bool.and_eq_true, decide_eq_true_eq] at hs
    exact hs.2
  have hnd : a.hasDict = false := PyData.hasDict_of_canLay a (SeqAt.canLay_of_shaped hs)
  have refs : ∀ (p : Addr), u = .ref p → wpAny (model X.prog X.w) X.A (call (.builtin "repr") [u]) (EP X pins σ Q) X.xe s := fun p e => by
    obtain ⟨as, r1⟩ := Dp.reads I a x u hd rx
    subst e
    exact repr_of_reads' r1 hw (PyData.noDict_hsm hnd) hg (by omega) (fun _ _ e => e) (fun h' t tk k => fin h' t tk k) hz
  cases hd with
  | non =>
    cases rx
    refine PySem.P.repr_of_none ?_
    have := fin s.heap s.toks (s.toks + 1) (fun _ _ e => e)
    rw [PyData.shown_none] at this
    exact this
  | bl b =>
    cases rx
    refine PySem.P.repr_of_bool ?_
    have := fin s.heap s.toks (s.toks + 1) (fun _ _ e => e)
    rw [PyData.shown_bool] at this
    exact this
  | int i =>
    obtain ⟨t, rfl⟩ := rx
    refine PySem.P.repr_of_int (by simpa [PyData.showable] using hw) ?_
    have := fin s.heap s.toks (s.toks + 1) (fun _ _ e => e)
    rw [PyData.shown_int] at this
    exact this
  | str z =>
    obtain ⟨t, rfl⟩ := rx
    refine PySem.P.repr_of_str ?_ (by rw [PyData.shown_str] at hz; exact hz)
    have := fin s.heap s.toks (s.toks + 1) (fun _ _ e => e)
    rw [PyData.shown_str] at this
    exact this
  | lst _ _ => cases rx; exact refs _ rfl
  | tup _ _ => cases rx; exact refs _ rfl

theorem kit_all : ∀ a ∈ "NoneType" :: tyAll, ∀ b ∈ tyAll, kitB a b = some (isiB a b) := by decide +kernel
theorem ty_of {ρ : List Addr} {hp : Hq} {H : Hp} {d : D} {v : V} {a : String} (r : RelH X.K L ρ hp H) (q : RD X.K L ρ H d v) (h : tyOf hp d = some a) : TyX X.K H v (.type a) ∧ a ∈ "NoneType" :: tyAll := by
  cases q with
  | non => cases h; exact ⟨.base .non, by decide +kernel⟩
  | bl b => cases h; exact ⟨.base (.bl b), by decide +kernel⟩
  | int i => cases h; exact ⟨.base (.int i), by decide +kernel⟩
  | str x => cases h; exact ⟨.base (.str x), by decide +kernel⟩
  | tup hs t =>
    cases h
    refine ⟨?_, by decide +kernel⟩
    rcases hs with (e | ⟨o, e⟩) | ⟨o, its, n, e, c, _⟩
    · exact .base (.tup e)
    · exact .fTuple e
    · exact .kTuple e c
  | kl hs t =>
    cases h
    refine ⟨?_, by decide +kernel⟩
    rcases hs with ⟨o, e⟩ | ⟨o, its, n, e, c, _⟩
    · exact .base (.frz e)
    · exact .kList e c
  | @ref i p hs =>
    obtain ⟨o, u, g1, g2, g3⟩ := r.at2 hs
    unfold tyOf at h
    simp only [g1] at h
    cases g3 with
    | lst t => cases h; exact ⟨.base (.lst g2), by decide +kernel⟩
    | dic t => cases h; exact ⟨.base (.dK g2), by decide +kernel⟩
    | fdic t => cases h; exact ⟨.fDict g2, by decide +kernel⟩
    | _ => cases h
  | _ => cases h
theorem mi_bf (hc : X.calm = true) (hg : X.A.guards = some []) (hu : X.A.units + 200 < cLine) (b : BF) : CallR X (bfV b) (rBF X.K L b) := by
  intro pins s σ H vs us Q I rv h
  obtain ⟨ρ, hp, ds, r, q, h⟩ := h
  cases b with
  | len =>
    cases q with
    | nil => exact False.elim h
    | @cons d v _ _ qd qt =>
      cases qt with
      | cons _ _ => exact False.elim (by cases d <;> exact h)
      | nil =>
        cases qd with
        | str x => exact call_len_str pins s σ H _ us Q I rv ⟨x, rfl, by rw [← sz_line]; exact h.1, h.2.here r (.int _)⟩
        | @tup a xs ys hs t =>
          have h : KQ X.K L ρ H Q (.int ys.length) hp := h
          rw [t.len] at h
          exact call_len_seq pins s σ H _ us Q I rv ⟨a, xs, rfl, .inr hs, h.here r (.int _)⟩
        | @kl a xs ys hs t =>
          have h : KQ X.K L ρ H Q (.int ys.length) hp := h
          rw [t.len] at h
          exact call_len_seq pins s σ H _ us Q I rv ⟨a, xs, rfl, .inl hs.sq, h.here r (.int _)⟩
        | @ref i a hs =>
          obtain ⟨o, w, g1, g2, g3⟩ := r.at2 hs
          unfold oBF at h
          simp only [g1] at h
          cases g3 with
          | @lst ys xs t =>
            have h : KQ X.K L ρ H Q (.int ys.length) hp := h
            rw [t.len] at h
            exact call_len_seq pins s σ H _ us Q I rv ⟨a, xs, rfl, .inl (.of g2), h.here r (.int _)⟩
          | @dic ys xs t =>
            have h : KQ X.K L ρ H Q (.int ys.length) hp := h
            rw [t.len] at h
            obtain ⟨u, rfl, rx⟩ := vals1 rv
            cases rx
            exact d_len I (.inl g2) fun t' s' I' => ⟨.int xs.length, H, I', ⟨t', rfl⟩, h.here r (.int _)⟩
          | @fdic ys xs ob t =>
            have h : KQ X.K L ρ H Q (.int ys.length) hp := h
            rw [t.len] at h
            obtain ⟨u, rfl, rx⟩ := vals1 rv
            cases rx
            exact d_len I (.inr ⟨_, g2⟩) fun t' s' I' => ⟨.int xs.length, H, I', ⟨t', rfl⟩, h.here r (.int _)⟩
          | _ => exact False.elim h
        | _ => exact False.elim h
  | list1 =>
    cases q with
    | nil => exact False.elim h
    | @cons d v _ _ qd qt =>
      cases qt with
      | cons _ _ => exact False.elim h
      | nil =>
        unfold oBF at h
        cases e : sqOf hp d with
        | none => simp only [e] at h; exact False.elim h
        | some ys =>
          simp only [e] at h
          obtain ⟨a, xs, rfl, hs, t⟩ := qd.sq r e
          exact call_list_of pins s σ H _ us Q I rv ⟨a, xs, rfl, hs, KQ.new h r (.lst t)⟩
  | tuple1 =>
    cases q with
    | nil => exact False.elim h
    | @cons d v _ _ qd qt =>
      cases qt with
      | cons _ _ => exact False.elim h
      | nil =>
        unfold oBF at h
        cases e : sqOf hp d with
        | none => simp only [e] at h; exact False.elim h
        | some ys =>
          simp only [e] at h
          have h : KQ X.K L ρ H Q (.tup ys) hp := h
          obtain ⟨a, xs, rfl, hs, t⟩ := qd.sq r e
          refine call_tuple_of pins s σ H _ us Q I rv ⟨a, xs, rfl, ?_⟩
          rcases hs with hs | hs
          · exact .inl ⟨hs, h.tup r t⟩
          · exact .inr ⟨hs, h.here r (.tup hs t)⟩
  | dict1 =>
    cases q with
    | nil => exact False.elim h
    | @cons d v _ _ qd qt =>
      cases qt with
      | cons _ _ => exact False.elim h
      | nil =>
        unfold oBF at h
        cases e : lsOf hp d with
        | some ys =>
          simp only [e] at h
          cases e2 : prsOf ys with
          | none => simp only [e2] at h; exact False.elim h
          | some kvs =>
            simp only [e2] at h
            obtain ⟨a, xs, rfl, hs, t⟩ := qd.lsq r e
            obtain ⟨ps, kvs', rfl, h2, h3⟩ := prs_rd t e2
            exact call_dictP hc pins s σ H _ us Q I rv ⟨a, ps, kvs', rfl, hs, h2, KQ.new h r (.dic (merge_rks h3 .nil))⟩
        | none =>
          simp only [e] at h
          cases qd with
          | @ref i a ha =>
            simp only at h
            cases e2 : rdD hp i with
            | none => simp only [e2] at h; exact False.elim h
            | some kvs =>
              simp only [e2] at h
              obtain ⟨vs, g1, t⟩ := r.rdic ha e2
              exact call_dictD pins s σ H _ us Q I rv ⟨a, vs, rfl, g1, KQ.new h r (.dic t)⟩
          | _ => exact False.elim h
  | int1 =>
    cases q with
    | nil => exact False.elim h
    | @cons d v _ _ qd qt =>
      cases qt with
      | cons _ _ => exact False.elim (by cases d <;> exact h)
      | nil =>
        cases qd with
        | int i => exact call_int1 pins s σ H _ us Q I rv (.inl ⟨i, rfl, KQ.here h r (.int _)⟩)
        | bl k => exact call_int1 pins s σ H _ us Q I rv (.inr ⟨k, rfl, KQ.here h r (.int _)⟩)
        | _ => exact False.elim h
  | repr =>
    cases q with
    | nil => exact False.elim h
    | @cons d v _ _ qd qt =>
      cases qt with
      | cons _ _ => exact False.elim h
      | nil =>
        unfold oBF at h
        cases e : toP 40 hp d with
        | none => simp only [e] at h; exact False.elim h
        | some a =>
          simp only [e] at h
          obtain ⟨⟨h1, h2, h3⟩, h⟩ := h
          exact repr_any hg hu pins s σ H _ us Q I rv ⟨v, a, rfl, toP_dp r 40 d v a qd e, h1, h2, by rw [← sz_line]; exact h3, KQ.here h r (.str _)⟩
  | sum1 =>
    cases q with
    | nil => exact False.elim h
    | @cons d v _ _ qd qt =>
      cases qt with
      | cons _ _ => exact False.elim h
      | nil =>
        unfold oBF at h
        cases e : lsOf hp d with
        | none => simp only [e] at h; exact False.elim h
        | some ys =>
          cases e2 : intsOf ys with
          | none => simp only [e, Option.bind_some, e2] at h; exact False.elim h
          | some ns =>
            simp only [e, Option.bind_some, e2] at h
            obtain ⟨a, xs, rfl, hs, t⟩ := qd.lsq r e
            have ex := intsOf_map t e2
            subst ex
            exact cr_sum hc pins s σ H _ us Q I rv ⟨a, ns, rfl, hs, KQ.here h r (.int _)⟩
  | max2 =>
    cases q with
    | nil => exact False.elim h
    | @cons d v _ _ qd qt =>
      cases qt with
      | nil => exact False.elim (by cases d <;> exact h)
      | @cons d2 v2 _ _ qd2 qt =>
        cases qt with
        | cons _ _ => exact False.elim (by cases d <;> cases d2 <;> exact h)
        | nil =>
          cases d <;> cases d2 <;> first | exact False.elim h | skip
          cases qd; cases qd2
          exact call_max2 hc pins s σ H _ us Q I rv ⟨_, _, rfl, KQ.here h r (.int _)⟩
  | min2 =>
    cases q with
    | nil => exact False.elim h
    | @cons d v _ _ qd qt =>
      cases qt with
      | nil => exact False.elim (by cases d <;> exact h)
      | @cons d2 v2 _ _ qd2 qt =>
        cases qt with
        | cons _ _ => exact False.elim (by cases d <;> cases d2 <;> exact h)
        | nil =>
          cases d <;> cases d2 <;> first | exact False.elim h | skip
          cases qd; cases qd2
          exact call_min2 hc pins s σ H _ us Q I rv ⟨_, _, rfl, KQ.here h r (.int _)⟩
  | max1 =>
    cases q with
    | nil => exact False.elim h
    | @cons d v _ _ qd qt =>
      cases qt with
      | cons _ _ => exact False.elim h
      | nil =>
        unfold oBF at h
        cases e : lsOf hp d with
        | none => simp only [e] at h; exact False.elim h
        | some ys =>
          cases e2 : intsOf ys with
          | none => simp only [e, Option.bind_some, e2] at h; exact False.elim h
          | some ns =>
            simp only [e, Option.bind_some, e2] at h
            obtain ⟨a, xs, rfl, hs, t⟩ := qd.lsq r e
            have ex := intsOf_map t e2
            subst ex
            cases ns with
            | nil => exact False.elim h
            | cons n ns =>
              have h : KQ X.K L ρ H Q (.int (imax n ns)) hp := h
              refine cr_max hc pins s σ H _ us Q I rv ⟨a, n :: ns, rfl, hs, by simp, fun m hm hle => ?_⟩
              obtain ⟨k1, k2, k3⟩ := imax_spec ns n
              have e3 : m = imax n ns := by
                apply Int.le_antisymm
                · rcases List.mem_cons.mp hm with z | z
                  · rw [z]; exact k2
                  · exact k3 m z
                · rcases k1 with z | z
                  · rw [z]; exact hle n List.mem_cons_self
                  · exact hle _ (List.mem_cons_of_mem _ z)
              rw [e3]
              exact KQ.here h r (.int _)
  | min1 =>
    cases q with
    | nil => exact False.elim h
    | @cons d v _ _ qd qt =>
      cases qt with
      | cons _ _ => exact False.elim h
      | nil =>
        unfold oBF at h
        cases e : lsOf hp d with
        | none => simp only [e] at h; exact False.elim h
        | some ys =>
          cases e2 : intsOf ys with
          | none => simp only [e, Option.bind_some, e2] at h; exact False.elim h
          | some ns =>
            simp only [e, Option.bind_some, e2] at h
            obtain ⟨a, xs, rfl, hs, t⟩ := qd.lsq r e
            have ex := intsOf_map t e2
            subst ex
            cases ns with
            | nil => exact False.elim h
            | cons n ns =>
              have h : KQ X.K L ρ H Q (.int (imin n ns)) hp := h
              refine cr_min hc pins s σ H _ us Q I rv ⟨a, n :: ns, rfl, hs, by simp, fun m hm hle => ?_⟩
              obtain ⟨k1, k2, k3⟩ := imin_spec ns n
              have e3 : m = imin n ns := by
                apply Int.le_antisymm
                · rcases k1 with z | z
                  · rw [z]; exact hle n List.mem_cons_self
                  · exact hle _ (List.mem_cons_of_mem _ z)
                · rcases List.mem_cons.mp hm with z | z
                  · rw [z]; exact k2
                  · exact k3 m z
              rw [e3]
              exact KQ.here h r (.int _)
  | all1 =>
    cases q with
    | nil => exact False.elim h
    | @cons d v _ _ qd qt =>
      cases qt with
      | cons _ _ => exact False.elim h
      | nil =>
        unfold oBF at h
        cases e : lsOf hp d with
        | none => simp only [e] at h; exact False.elim h
        | some ys =>
          cases e2 : boolsOf ys with
          | none => simp only [e, Option.bind_some, e2] at h; exact False.elim h
          | some ns =>
            simp only [e, Option.bind_some, e2] at h
            obtain ⟨a, xs, rfl, hs, t⟩ := qd.lsq r e
            have ex := boolsOf_map t e2
            subst ex
            exact cr_all hc pins s σ H _ us Q I rv ⟨a, ns, rfl, hs, KQ.here h r (.bl _)⟩
  | any1 =>
    cases q with
    | nil => exact False.elim h
    | @cons d v _ _ qd qt =>
      cases qt with
      | cons _ _ => exact False.elim h
      | nil =>
        unfold oBF at h
        cases e : lsOf hp d with
        | none => simp only [e] at h; exact False.elim h
        | some ys =>
          cases e2 : boolsOf ys with
          | none => simp only [e, Option.bind_some, e2] at h; exact False.elim h
          | some ns =>
            simp only [e, Option.bind_some, e2] at h
            obtain ⟨a, xs, rfl, hs, t⟩ := qd.lsq r e
            have ex := boolsOf_map t e2
            subst ex
            exact cr_any hc pins s σ H _ us Q I rv ⟨a, ns, rfl, hs, KQ.here h r (.bl _)⟩
  | isi =>
    cases q with
    | nil => exact False.elim h
    | @cons d v _ _ qd qt =>
      cases qt with
      | nil => exact False.elim h
      | @cons d2 v2 _ _ qd2 qt =>
        cases qt with
        | cons _ _ => exact False.elim (by cases d2 <;> exact h)
        | nil =>
          cases qd2 with
          | ty b =>
            unfold oBF at h
            cases e : tyOf hp d with
            | none => simp only [e] at h; exact False.elim h
            | some a =>
              simp only [e] at h
              split at h
              · rename_i hb
                obtain ⟨ty, ha⟩ := ty_of r qd e
                exact call_isi pins s σ H _ us Q I rv ⟨v, .ty b, .type a, .type b, isiB a b, rfl, .ty b, ty, kit_ty (kit_all a ha b (by simpa using hb)), h.here r (.bl _)⟩
              · exact False.elim h
          | _ => exact False.elim h
  | _ => exact False.elim h
theorem alike_ints (ns : List Int) : PySem.W.AlikeAll (ns.map PyData.int) := by
  refine ⟨fun x hx y hy => ?_, fun x hx => ?_⟩
  · obtain ⟨i, _, rfl⟩ := List.mem_map.mp hx
    obtain ⟨j, _, rfl⟩ := List.mem_map.mp hy
    rfl
  · obtain ⟨i, _, rfl⟩ := List.mem_map.mp hx
    exact fun z => nomatch z
theorem DpAll.ints {K : PySem.W.Frag} {H : Hp} : ∀ ns : List Int, DpAll K H (ns.map V.int) (ns.map PyData.int)
  | [] => .nil
  | n :: r => .cons (.int n) (DpAll.ints r)
theorem depth_ints : ∀ ns : List Int, PyData.depthAll (ns.map PyData.int) ≤ 1
  | [] => Nat.zero_le _
  | n :: r => by
    show max (PyData.int n).depth (PyData.depthAll (r.map PyData.int)) ≤ 1
    exact Nat.max_le.mpr ⟨by unfold PyData.depth; exact Nat.zero_le _, depth_ints r⟩
theorem imin_fold : ∀ (ns : List Int) (m : Int), imin m ns = ns.foldl min m
  | [], m => rfl
  | n :: r, m => by
    show imin (if n < m then n else m) r = r.foldl min (min m n)
    rw [imin_fold r]
    congr 1
    split <;> omega
theorem imax_fold : ∀ (ns : List Int) (m : Int), imax m ns = ns.foldl max m
  | [], m => rfl
  | n :: r, m => by
    show imax (if n > m then n else m) r = r.foldl max (max m n)
    rw [imax_fold r]
    congr 1
    split <;> omega
def rMmd (K : PySem.W.Frag) (L : Lay) (mx : Bool) : List V → List V → Hp → VK → Prop := fun vs zs H Q => ∃ ρ hp d e v z, vs = [v] ∧ zs = [z] ∧ RelH K L ρ hp H ∧ RD K L ρ H d v ∧ RD K L ρ H e z ∧ (oMmd mx d e hp).app (KQ K L ρ H Q)
theorem mi_mmd (hc : X.calm = true) (hu : X.A.units + 200 < cLine) (mx : Bool) : CallRK X (.builtin (if mx then "max" else "min")) ["default"] (rMmd X.K L mx) := by
  intro pins s σ H vs zs us ws Q I rv rz h
  obtain ⟨ρ, hp, d, e, v, z, rfl, rfl, r, q1, q2, h⟩ := h
  unfold oMmd at h
  cases e1 : lsOf hp d with
  | none => simp only [e1] at h; exact False.elim h
  | some ys =>
    cases e2 : intsOf ys with
    | none => simp only [e1, Option.bind_some, e2] at h; exact False.elim h
    | some ns =>
      simp only [e1, Option.bind_some, e2] at h
      obtain ⟨a, xs, rfl, hs, t⟩ := q1.lsq r e1
      have ex := intsOf_map t e2
      subst ex
      obtain ⟨its, rx, hl, _⟩ := I.list hs
      obtain ⟨as, ra⟩ := Dp.readsAll I (ns.map PyData.int) _ _ (DpAll.ints ns) rx
      have ru := Vals.ref1 rv
      subst ru
      obtain ⟨w, rfl, rw'⟩ := Vals.one rz
      have hd := depth_ints ns
      have kp : ∀ {v' : V} {u' : Value} {h' : Heap} {tk : Nat}, RelV v' u' → Q v' H → (∀ b o, s.heap.get? b = some o → h'.get? b = some o) → EP X pins σ Q u' { s with heap := h', toks := tk } := fun {v' u' h' tk} r q k => ⟨v', H, I.kept k, r, q⟩
      have itm : ∀ {i : Nat} {u : Value} {n : Int} {h' : Heap} {bs : List Addr}, its.toArray[i]? = some u → Reads h' u (.int n) bs → RelV (.int n) u := fun {i u n h' bs} _ rr => by
        cases rr with
        | int _ t => exact ⟨t, rfl⟩
      cases mx with
      | false =>
        refine PySem.W.min_list_default (I.ok.hd hc) hl.isList (by simpa using ra) (alike_ints ns) (by omega) (fun hn h' tk k => ?_) (fun y yt i u h' tk bs hy hi rr k => ?_)
        · cases ns with
          | nil => exact kp rw' (h.here r q2) k
          | cons _ _ => cases hn
        · cases ns with
          | nil => cases hy
          | cons n nr =>
            cases hy
            rw [PySem.W.minD_ints, ← imin_fold] at rr
            exact kp (itm hi rr) (h.here r (.int _)) k
      | true =>
        refine PySem.W.max_list_default (I.ok.hd hc) hl.isList (by simpa using ra) (alike_ints ns) (by omega) (fun hn h' tk k => ?_) (fun y yt i u h' tk bs hy hi rr k => ?_)
        · cases ns with
          | nil => exact kp rw' (h.here r q2) k
          | cons _ _ => cases hn
        · cases ns with
          | nil => cases hy
          | cons n nr =>
            cases hy
            rw [PySem.W.maxD_ints, ← imax_fold] at rr
            exact kp (itm hi rr) (h.here r (.int _)) k
end
end MI
/-! MI, part 8: methods of built-in types; stores; attributes, by values. -/
namespace MI
open PySem PySem.Spec PyProof.Rows L2
section
variable {X : Cx} {L : Lay}

def bkT : BK → String
  | .lst => "list"
  | .dic => "dict"
  | .str => "str"
/-- a built-in type's method, as the text calls it on a receiver of this kind -/
structure BmFact (X : Cx) (L : Lay) (m : BM) (k : BK) : Prop where
  ex : ∃ T id, PlainAttrs T ∧ Slot T (bmName m) id ∧ typeOf (.builtin id) = pure (.type "method_descriptor") ∧ bkT k = T ∧
    ∀ (pins : List (Addr × Obj)) (s : Shared) (σ : L2.St) (H : Hp) (x : V) (xs : List V) (v : Value) (us : List Value) (Q : VK) (ρ : List Addr) (hp : Hq) (d : D) (ds : List D),
      Inv X pins σ H s → RelV x v → Vals xs us → RelH X.K L ρ hp H → RD X.K L ρ H d x → RDs X.K L ρ H ds xs → (oBM m k d ds hp).app (KQ X.K L ρ H Q) →
      wpAny (model X.prog X.w) X.A (call (.builtin id) (v :: us)) (EP X pins σ Q) X.xe s

theorem bm_kind {pins : List (Addr × Obj)} {σ : L2.St} {H : Hp} {s : Shared} {ρ : List Addr} {hp : Hq} {d : D} {x : V} {v : Value} {m : BM} {k : BK} (I : Inv X pins σ H s) (r : RelH X.K L ρ hp H) (q : RD X.K L ρ H d x) (rx : RelV x v) (h : bmK m d hp = some k) :
    s.TypeIs v (bkT k) ∧ ∀ a, v = .ref a → ∃ ob, s.heap.get? a = some ob ∧ ob.dict = none := by
  cases q with
  | @ref i a hs =>
    cases rx
    obtain ⟨o, u, g1, g2, g3⟩ := r.at2 hs
    unfold bmK at h
    cases m <;> simp only [g1] at h <;> cases g3 <;> simp only [Option.some.injEq, reduceCtorEq] at h <;> subst h
    all_goals first
      | exact tyV_is (T := "list") (x := V.ref a) I rfl (.inl ⟨rfl, _, .of g2⟩)
      | exact let ⟨t1, t2, _⟩ := isD_at I (.inl ⟨_, .inl g2⟩); ⟨t1, t2⟩
      | exact let ⟨t1, t2, _⟩ := isD_at I (.inl ⟨_, .inr ⟨_, g2⟩⟩); ⟨t1, t2⟩
  | _ => exact False.elim (by cases m <;> cases h)

theorem bm_fact (hu : X.A.units + 65 < cLine) (hh : X.calm = true) : ∀ (m : BM) (k : BK) (d : D) (hp : Hq), bmK m d hp = some k → BmFact X L m k := by
  intro m k d hp h
  have hk : (m = .append ∧ k = .lst) ∨ (m = .get1 ∧ k = .dic) ∨ (m = .get2 ∧ k = .dic) ∨ (m = .pop1 ∧ k = .dic) ∨ (m = .pop1 ∧ k = .lst) ∨ (m = .pop2 ∧ k = .dic) ∨ (m = .clear ∧ k = .lst) ∨ (m = .clear ∧ k = .dic) := by
    unfold bmK at h
    split at h <;> (try split at h) <;> simp_all
  clear h
  rcases hk with ⟨rfl, rfl⟩ | ⟨rfl, rfl⟩ | ⟨rfl, rfl⟩ | ⟨rfl, rfl⟩ | ⟨rfl, rfl⟩ | ⟨rfl, rfl⟩ | ⟨rfl, rfl⟩ | ⟨rfl, rfl⟩
  · -- append
    refine ⟨"list", "list.append", PySem.F.plainAttrs_list, PySem.F.slot_list_append, PySem.F.type_list_append, rfl, ?_⟩
    intro pins s σ H x xs v us Q ρ hp d ds I rx rv r q qs h
    cases q with
    | @ref i a hs =>
      cases qs with
      | nil => exact False.elim h
      | @cons e w _ _ qe qt =>
        cases qt with
        | cons _ _ => exact False.elim h
        | nil =>
          unfold oBM at h
          cases e1 : gtL hp i with
          | none => simp only [e1] at h; exact False.elim h
          | some ys =>
            simp only [e1] at h
            obtain ⟨vs, g1, t⟩ := r.lst hs e1
            obtain ⟨h1, h2⟩ := h
            have tl : RDs X.K L ρ H (ys ++ [e]) (vs ++ [w]) := t.app (.one qe)
            obtain ⟨r2, e2⟩ := r.put hs (.lst tl) (by intro o k z; rw [g1] at z; cases z)
            exact mt_append pins s σ H _ _ v us Q I rx rv ⟨a, vs, w, rfl, rfl, g1, by rw [← sz_line, ← t.len]; exact h1, h2 _ _ _ e2 r2 .non⟩
    | _ => exact False.elim h
  · -- get1
    refine ⟨"dict", "dict.get", PySem.F.plainAttrs_dict, PySem.F.slot_dict_get, PySem.F.type_dict_get, rfl, ?_⟩
    intro pins s σ H x xs v us Q ρ hp d ds I rx rv r q qs h
    cases q with
    | @ref i a hs =>
      cases qs with
      | nil => exact False.elim h
      | @cons e w _ _ qe qt =>
        cases qt with
        | cons _ _ => exact False.elim h
        | nil =>
          unfold oBM at h
          cases e1 : rdD hp i with
          | none => simp only [e1] at h; exact False.elim h
          | some kvs =>
            cases e2 : kOf e with
            | none => simp only [e1, e2] at h; exact False.elim h
            | some key =>
              simp only [e1, e2] at h
              obtain ⟨vs, g1, t⟩ := r.rdic hs e1
              have ew := kOf_kV qe e2
              obtain ⟨u, rfl, ru⟩ := Vals.one rv
              cases rx
              have g : DGet H a w (valV vs key) := .inl ⟨vs, key, g1, ew, rfl⟩
              refine d_get1 (by omega) I g ru fun w' s3 I3 rw' => ⟨_, H, I3, rw', ?_⟩
              have h : KQ X.K L ρ H Q ((dget kvs key).getD .non) hp := h
              rcases t.get key with ⟨k1, k2⟩ | ⟨d', v', k1, k2, k3⟩
              · rw [k1] at h; rw [k2]; exact h.here r .non
              · rw [k1] at h; rw [k2]; exact h.here r k3
    | _ => exact False.elim h
  · -- get2
    refine ⟨"dict", "dict.get", PySem.F.plainAttrs_dict, PySem.F.slot_dict_get, PySem.F.type_dict_get, rfl, ?_⟩
    intro pins s σ H x xs v us Q ρ hp d ds I rx rv r q qs h
    cases q with
    | @ref i a hs =>
      cases qs with
      | nil => exact False.elim h
      | @cons e w _ _ qe qt =>
        cases qt with
        | nil => exact False.elim h
        | @cons e' w' _ _ qe' qt =>
          cases qt with
          | cons _ _ => exact False.elim h
          | nil =>
            unfold oBM at h
            cases e1 : rdD hp i with
            | none => simp only [e1] at h; exact False.elim h
            | some kvs =>
              cases e2 : kOf e with
              | none => simp only [e1, e2] at h; exact False.elim h
              | some key =>
                simp only [e1, e2] at h
                obtain ⟨vs, g1, t⟩ := r.rdic hs e1
                have ew := kOf_kV qe e2
                obtain ⟨u, u', rfl, ru, ru'⟩ := Vals.two rv
                cases rx
                have g : DGet H a w (valV vs key) := .inl ⟨vs, key, g1, ew, rfl⟩
                refine d_get2 (by omega) I g ru ru' fun w2 s3 I3 rw' => ⟨_, H, I3, rw', ?_⟩
                have h : KQ X.K L ρ H Q ((dget kvs key).getD e') hp := h
                rcases t.get key with ⟨k1, k2⟩ | ⟨d', v', k1, k2, k3⟩
                · rw [k1] at h; rw [k2]; exact h.here r qe'
                · rw [k1] at h; rw [k2]; exact h.here r k3
    | _ => exact False.elim h
  · -- pop1 of a dict
    refine ⟨"dict", "dict.pop", PySem.F.plainAttrs_dict, PySem.F.slot_dict_pop, PySem.F.type_dict_pop, rfl, ?_⟩
    intro pins s σ H x xs v us Q ρ hp d ds I rx rv r q qs h
    cases q with
    | @ref i a hs =>
      cases qs with
      | nil => exact False.elim h
      | @cons e w _ _ qe qt =>
        cases qt with
        | cons _ _ => exact False.elim h
        | nil =>
          unfold oBM at h
          cases e1 : gtD hp i with
          | none => simp only [e1] at h; exact False.elim h
          | some kvs =>
            cases e2 : kOf e with
            | none => simp only [e1, e2] at h; exact False.elim h
            | some key =>
              simp only [e1, e2] at h
              obtain ⟨vs, g1, t⟩ := r.dic hs e1
              have ew := kOf_kV qe e2
              obtain ⟨u, rfl, ru⟩ := Vals.one rv
              cases rx
              rcases t.get key with ⟨k1, k2⟩ | ⟨d', v', k1, k2, k3⟩
              · simp only [k1] at h; exact False.elim h
              · simp only [k1] at h
                have h : KQ X.K L ρ H Q d' (hp.set i (.dic (ddrop kvs key))) := h
                obtain ⟨r2, x2⟩ := r.put hs (.dic (t.drop key)) (by intro o k z; rw [g1] at z; cases z)
                subst ew
                exact d_pop I g1 ru k2 (.inl rfl) fun w' s3 I3 rw' => ⟨_, _, I3, rw', h _ _ _ x2 r2 (k3.mono x2)⟩
    | _ => exact False.elim (by cases ds <;> first | exact h | (rename_i a b; cases b <;> exact h))
  · -- pop1 of a list
    refine ⟨"list", "list.pop", PySem.F.plainAttrs_list, PySem.F.slot_list_pop, PySem.F.type_list_pop, rfl, ?_⟩
    intro pins s σ H x xs v us Q ρ hp d ds I rx rv r q qs h
    cases q with
    | @ref i a hs =>
      cases qs with
      | nil => exact False.elim h
      | @cons e w _ _ qe qt =>
        cases qt with
        | cons _ _ => exact False.elim (by cases e <;> exact h)
        | nil =>
          cases qe with
          | int z =>
            unfold oBM at h
            cases e1 : gtL hp i with
            | none => simp only [e1] at h; exact False.elim h
            | some ys =>
              simp only [e1] at h
              cases e2 : ixN ys.length z with
              | none => simp only [e2] at h; exact False.elim h
              | some j =>
                simp only [e2] at h
                cases e3 : ys[j]? with
                | none => simp only [e3] at h; exact False.elim h
                | some d' =>
                  simp only [e3] at h
                  obtain ⟨⟨h1, h2⟩, h⟩ := h
                  obtain ⟨vs, g1, t⟩ := r.lst hs e1
                  obtain ⟨v', g2, g3⟩ := t.get e3
                  have er : ∀ {ds : List D} {vs : List V} (j : Nat), RDs X.K L ρ H ds vs → RDs X.K L ρ H (ds.eraseIdx j) (vs.eraseIdx j) := by
                    intro ds vs j t
                    rw [List.eraseIdx_eq_take_drop_succ, List.eraseIdx_eq_take_drop_succ]
                    exact (t.take _).app (t.drop _)
                  obtain ⟨r2, x2⟩ := r.put hs (.lst (er j t)) (by intro o k z; rw [g1] at z; cases z)
                  rw [t.len] at e2
                  exact mt_popAt pins s σ H _ _ v us Q I rx rv ⟨a, vs, z, j, v', rfl, rfl, g1, h1, h2, (ixN_seq e2).1, g2, h _ _ _ x2 r2 (g3.mono x2)⟩
          | _ => exact False.elim h
    | _ => exact False.elim (by cases ds <;> first | exact h | (rename_i a b; cases a <;> cases b <;> exact h))
  · -- pop2
    refine ⟨"dict", "dict.pop", PySem.F.plainAttrs_dict, PySem.F.slot_dict_pop, PySem.F.type_dict_pop, rfl, ?_⟩
    intro pins s σ H x xs v us Q ρ hp d ds I rx rv r q qs h
    cases q with
    | @ref i a hs =>
      cases qs with
      | nil => exact False.elim h
      | @cons e w _ _ qe qt =>
        cases qt with
        | nil => exact False.elim h
        | @cons e' w' _ _ qe' qt =>
          cases qt with
          | cons _ _ => exact False.elim h
          | nil =>
            unfold oBM at h
            cases e1 : gtD hp i with
            | none => simp only [e1] at h; exact False.elim h
            | some kvs =>
              cases e2 : kOf e with
              | none => simp only [e1, e2] at h; exact False.elim h
              | some key =>
                simp only [e1, e2] at h
                obtain ⟨vs, g1, t⟩ := r.dic hs e1
                have ew := kOf_kV qe e2
                obtain ⟨u, u', rfl, ru, ru'⟩ := Vals.two rv
                cases rx
                subst ew
                rcases t.get key with ⟨k1, k2⟩ | ⟨d', v', k1, k2, k3⟩
                · simp only [k1] at h
                  have h : KQ X.K L ρ H Q e' hp := h
                  exact d_popD I g1 ru k2 fun s3 I3 => ⟨w', H, I3, ru', h.here r qe'⟩
                · simp only [k1] at h
                  have h : KQ X.K L ρ H Q d' (hp.set i (.dic (ddrop kvs key))) := h
                  obtain ⟨r2, x2⟩ := r.put hs (.dic (t.drop key)) (by intro o k z; rw [g1] at z; cases z)
                  exact d_pop I g1 ru k2 (.inr ⟨_, rfl⟩) fun w2 s3 I3 rw' => ⟨_, _, I3, rw', h _ _ _ x2 r2 (k3.mono x2)⟩
    | _ => exact False.elim h
  · -- clear of a list
    refine ⟨"list", "list.clear", PySem.F.plainAttrs_list, PySem.F.slot_list_clear, PySem.F.type_list_clear, rfl, ?_⟩
    intro pins s σ H x xs v us Q ρ hp d ds I rx rv r q qs h
    cases q with
    | @ref i a hs =>
      cases qs with
      | cons _ _ => exact False.elim h
      | nil =>
        unfold oBM at h
        cases e1 : gtL hp i with
        | none => simp only [e1] at h; exact False.elim h
        | some ys =>
          simp only [e1] at h
          have h : KQ X.K L ρ H Q .non (hp.set i (.lst [])) := h
          obtain ⟨vs, g1, t⟩ := r.lst hs e1
          obtain ⟨r2, x2⟩ := r.put (o := .lst []) (u := .lst []) hs (.lst .nil) (by intro o k z; rw [g1] at z; cases z)
          exact mt_clear pins s σ H _ _ v us Q I rx rv ⟨a, vs, rfl, rfl, g1, h _ _ _ x2 r2 .non⟩
    | _ => exact False.elim (by cases ds <;> exact h)
  · -- clear of a dict
    refine ⟨"dict", "dict.clear", PySem.F.plainAttrs_dict, PySem.F.slot_dict_clear, PySem.F.type_dict_clear, rfl, ?_⟩
    intro pins s σ H x xs v us Q ρ hp d ds I rx rv r q qs h
    cases q with
    | @ref i a hs =>
      cases qs with
      | cons _ _ => exact False.elim h
      | nil =>
        unfold oBM at h
        cases e1 : gtD hp i with
        | none => simp only [e1] at h; exact False.elim h
        | some ys =>
          simp only [e1] at h
          have h : KQ X.K L ρ H Q .non (hp.set i (.dic [])) := h
          obtain ⟨vs, g1, t⟩ := r.dic hs e1
          obtain ⟨r2, x2⟩ := r.put (o := .dic []) (u := .dK []) hs (.dic .nil) (by intro o k z; rw [g1] at z; cases z)
          obtain rfl := Vals.zero rv
          cases rx
          exact d_clear I g1 fun s3 I3 => ⟨.non, _, I3, rfl, h _ _ _ x2 r2 .non⟩
    | _ => exact False.elim (by cases ds <;> exact h)

/-! ### stores -/
def rSetMI (K : PySem.W.Frag) (L : Lay) : TSet := fun o i v H Q => ∃ ρ hp d e x, RelH K L ρ hp H ∧ RD K L ρ H d o ∧ RD K L ρ H e i ∧ RD K L ρ H x v ∧ (oSet d e x hp).app fun hp' => ∀ H', Ext ρ H ρ H' → RelH K L ρ hp' H' → Q H'
theorem mi_set (hu : X.A.units + 65 < cLine) : PSet X (rSetMI X.K L) := by
  intro pins s σ H o i v ov iv u Q I ro ri rv h
  obtain ⟨ρ, hp, d, e, x, r, q1, q2, q3, h⟩ := h
  cases q1 with
  | @ref j a hs =>
    obtain ⟨ob, w, g1, g2, g3⟩ := r.at2 hs
    unfold oSet at h
    simp only [g1] at h
    cases g3 with
    | @dic kvs vs t =>
      cases e2 : kOf e with
      | none => simp only [e2] at h; exact False.elim h
      | some key =>
        simp only [e2] at h
        obtain ⟨h1, h2⟩ := h
        have ew := kOf_kV q2 e2
        obtain ⟨r2, x2⟩ := r.put hs (.dic (t.put key q3)) (by intro o k z; rw [g2] at z; cases z)
        cases ro
        subst ew
        exact d_setItem (by omega) I (DPut.k g2 (by rw [← sz_line, ← t.len]; exact h1)) ri rv fun s3 I3 => ⟨_, I3, h2 _ x2 r2⟩
    | @lst ys vs t =>
      cases q2 with
      | int z =>
        simp only at h
        cases e2 : ixN ys.length z with
        | none => simp only [e2] at h; exact False.elim h
        | some j' =>
          simp only [e2] at h
          have h : ∀ H', Ext ρ H ρ H' → RelH X.K L ρ (hp.set j (.lst (ys.set j' x))) H' → Q H' := h
          obtain ⟨r2, x2⟩ := r.put hs (.lst (t.set j' q3)) (by intro o k z; rw [g2] at z; cases z)
          rw [t.len] at e2
          exact set_list pins s σ H _ _ v ov iv u Q I ro ri rv ⟨a, vs, z, j', rfl, rfl, g2, e2, h _ x2 r2⟩
      | _ => exact False.elim h
    | _ => exact False.elim h
  | _ => exact False.elim h
end
end MI
/-! MI, part 9: expressions. -/
namespace MI
open PySem PySem.Spec PyProof.Rows L2

theorem PE.imp {X : Cx} {e : Expr} {t t' : TE} (h : PE X e t) (i : ∀ σ H Q, t' σ H Q → t σ H Q) : PE X e t' := ⟨fun pins s σ H Q I q => h.run pins s σ H Q I (i σ H Q q)⟩
theorem PT.imp {X : Cx} {e : Expr} {t t' : TT} (h : PT X e t) (i : ∀ σ H Q, t' σ H Q → t σ H Q) : PT X e t' := ⟨fun pins s σ H Q I q => h.run pins s σ H Q I (i σ H Q q)⟩
theorem PW.imp {X : Cx} {e : Expr} {t t' : TT} (h : PW X e t) (i : ∀ σ H Q, t' σ H Q → t σ H Q) : PW X e t' := ⟨fun w pins s σ H Q I q => h.run w pins s σ H Q I (i σ H Q q)⟩
theorem PA.imp {X : Cx} {e : List Expr} {t t' : TA} (h : PA X e t) (i : ∀ σ H Q, t' σ H Q → t σ H Q) : PA X e t' := ⟨fun p pins s σ H Q I q => h.run p pins s σ H Q I (i σ H Q q)⟩
theorem PO.imp {X : Cx} {e : Option Expr} {t t' : TO} (h : PO X e t) (i : ∀ σ H Q, t' σ H Q → t σ H Q) : PO X e t' := ⟨fun pins s σ H Q I q => h.run pins s σ H Q I (i σ H Q q)⟩
theorem PS.imp {X : Cx} {e : Stmt} {t t' : TS} (h : PS X e t) (i : ∀ D σ H, t' D σ H → t D σ H) : PS X e t' := ⟨fun pins s σ H D I q => h.run pins s σ H D I (i D σ H q)⟩
theorem PSs.imp {X : Cx} {e : List Stmt} {t t' : TS} (h : PSs X e t) (i : ∀ D σ H, t' D σ H → t D σ H) : PSs X e t' := ⟨fun pins s σ H D I q => h.run pins s σ H D I (i D σ H q)⟩
theorem PI.imp {X : Cx} {g e : Expr} {t t' : TI} (h : PI X g e t) (i : ∀ σ H R, t' σ H R → t σ H R) : PI X g e t' := ⟨fun pins s σ H R I q => h.run pins s σ H R I (i σ H R q)⟩
theorem PG.imp {X : Cx} {e : Expr} {t t' : TG} (h : PG X e t) (i : ∀ v σ H Q, t' v σ H Q → t v σ H Q) : PG X e t' := ⟨fun pins s σ H v u Q I r q => h.run pins s σ H v u Q I r (i v σ H Q q)⟩
theorem PGs.imp {X : Cx} {e : List Expr} {t t' : TGs} (h : PGs X e t) (i : ∀ v σ H Q, t' v σ H Q → t v σ H Q) : PGs X e t' := ⟨fun pins s σ H v u Q I r q => h.run pins s σ H v u Q I r (i v σ H Q q)⟩

section
variable (K : PySem.W.Frag) (L : Lay) (g : Glob) (cl : Cl) (W : WX)
def tE (e : Ex) : TE := fun σ H Q => ∃ ρ hp env, RelH K L ρ hp H ∧ RE K L ρ H env σ ∧ wE g cl e env hp (KQ K L ρ H Q) (KX K L ρ H σ W)
def tEs (es : Exs) : TA := fun σ H Q => ∃ ρ hp env, RelH K L ρ hp H ∧ RE K L ρ H env σ ∧ wEs g cl es env hp (KQs K L ρ H Q) (KX K L ρ H σ W)
def KO (ρ : List Addr) (H : Hp) (Q : Option Int → Hp → Prop) : Option D → Hq → Prop := fun o hp' => match bnd o with
  | some oi => ∀ ρ' H', Ext ρ H ρ' H' → RelH K L ρ' hp' H' → Q oi H'
  | none => False
def tEo (eo : Exo) : TO := fun σ H Q => ∃ ρ hp env, RelH K L ρ hp H ∧ RE K L ρ H env σ ∧ wEo g cl eo env hp (KO K L ρ H Q) (KX K L ρ H σ W)
def KT (ρ : List Addr) (H : Hp) (Q : Bool → Hp → Prop) : QD := fun x hp' => (oTru x hp').app fun b => ∀ ρ' H', Ext ρ H ρ' H' → RelH K L ρ' hp' H' → Q b H'
def tT (e : Ex) : TT := fun σ H Q => ∃ ρ hp env, RelH K L ρ hp H ∧ RE K L ρ H env σ ∧ wE g cl e env hp (KT K L ρ H Q) (KX K L ρ H σ W)
end

theorem ab_ok {o : Expr} {a : Str} {ev : PySem.Env} {w : Sem Value} (h : ∀ id p pos, o = .Call (.Name id p) [] [] pos → (id != ("super" : Str)) = true) : attributeBase o a ev w = w := by
  unfold attributeBase
  split
  · rename_i id p pos
    have hid := h id p pos rfl
    rw [if_pos (by rw [hid]; simp)]
  · rfl

section
variable {X : Cx} {L : Lay} {g : Glob} {cl : Cl} {W : WX} {x y z : Expr} {a b c : Ex} {pos : Pos}

theorem s_var {i : Nat} {n : Str} {p : Pos} (hN : X.N[i]? = some n) (hv : Vis X.env.scope n) (h1 : (n == ("__debug__" : Str)) = false) (h2 : (n == ("__classdict__" : Str)) = false) : PE X (.Name n p) (tE X.K L g cl W (.var i)) :=
  PE.imp (pe_var (i := i) hN hv h1 h2) fun σ H Q ⟨ρ, hp, env, r, re, h⟩ => by
    unfold wE at h
    split at h
    · rename_i d e
      obtain ⟨v, hv, rd⟩ := re.at_ i d e
      exact ⟨v, hv, h.here r rd⟩
    · exact False.elim h
theorem s_int {i : Int} {j : Nat} : PE X (.Constant (.int i) j pos) (tE X.K L g cl W (.lit (.int i))) :=
  PE.imp pe_int fun σ H Q ⟨ρ, hp, env, r, re, h⟩ => KQ.here (show KQ X.K L ρ H Q (.int i) hp from h) r (.int i)
theorem s_bl {i : Bool} {j : Nat} : PE X (.Constant (.bool i) j pos) (tE X.K L g cl W (.lit (.bl i))) :=
  PE.imp pe_bl fun σ H Q ⟨ρ, hp, env, r, re, h⟩ => KQ.here (show KQ X.K L ρ H Q (.bl i) hp from h) r (.bl i)
theorem s_str {i : Str} {j : Nat} : PE X (.Constant (.str i) j pos) (tE X.K L g cl W (.lit (.str i))) :=
  PE.imp pe_str fun σ H Q ⟨ρ, hp, env, r, re, h⟩ => KQ.here (show KQ X.K L ρ H Q (.str i) hp from h) r (.str i)
theorem s_non {j : Nat} : PE X (.Constant .none j pos) (tE X.K L g cl W (.lit .non)) :=
  PE.imp pe_non fun σ H Q ⟨ρ, hp, env, r, re, h⟩ => KQ.here (show KQ X.K L ρ H Q .non hp from h) r .non
theorem s_glob {k : Nat} {n : Str} {p : Pos} {u : Value} {v : V} {d : D} (hg : Gl X n) (hm : X.mg n = some u) (rv : RelV v u) (hk : g.consts[k]? = some d) (rd : ∀ ρ H, RD X.K L ρ H d v) (h1 : (n == ("__debug__" : Str)) = false) :
    PE X (.Name n p) (tE X.K L g cl W (.glob k)) :=
  PE.imp (pe_glob hg hm rv h1) fun σ H Q ⟨ρ, hp, env, r, re, h⟩ => by
    unfold wE at h
    simp only [hk] at h
    exact KQ.here h r (rd ρ H)

/-- two in a row -/
theorem seq2 (hm : ClMono cl) {σ : L2.St} {H : Hp} {ρ : List Addr} {hp : Hq} {env : Env} {F : D → D → Hq → Prop} {R : V → V → Hp → Prop} (r : RelH X.K L ρ hp H) (re : RE X.K L ρ H env σ)
    (h : wE g cl a env hp (fun d1 hp1 => wE g cl b env hp1 (fun d2 hp2 => F d1 d2 hp2) (KX X.K L ρ H σ W)) (KX X.K L ρ H σ W))
    (k : ∀ ρ2 hp2 H2 d1 d2 v1 v2, Ext ρ H ρ2 H2 → RelH X.K L ρ2 hp2 H2 → RD X.K L ρ2 H2 d1 v1 → RD X.K L ρ2 H2 d2 v2 → F d1 d2 hp2 → R v1 v2 H2) :
    tE X.K L g cl W a σ H fun v1 H1 => tE X.K L g cl W b σ H1 fun v2 H2 => R v1 v2 H2 := by
  refine ⟨ρ, hp, env, r, re, wE_mono hm a env hp _ _ _ _ (fun d1 hp1 q1 => ?_) (fun _ _ _ z => z) h⟩
  intro ρ1 H1 v1 e1 r1 d1r
  refine ⟨ρ1, hp1, env, r1, re.mono e1, wE_mono hm b env hp1 _ _ _ _ (fun d2 hp2 q2 => ?_) (fun _ _ _ z => z.ext e1) q1⟩
  intro ρ2 H2 v2 e2 r2 d2r
  exact k ρ2 hp2 H2 d1 d2 v1 v2 (e1.trans e2) r2 (d1r.mono e2) d2r q2
theorem s_bin (hm : ClMono cl) {o : BOp} (ha : PE X x (tE X.K L g cl W a)) (hb : PE X y (tE X.K L g cl W b)) : PE X (.BinOp x (bopOf o) y pos) (tE X.K L g cl W (.bin o a b)) :=
  PE.imp (pe_op (mi_bin (L := L) o) ha hb) fun σ H Q ⟨ρ, hp, env, r, re, h⟩ => by
    unfold wE at h
    exact seq2 hm (F := fun d1 d2 hp2 => (oBin o d1 d2 hp2).app (KQ X.K L ρ H Q)) (R := fun v1 v2 H2 => rMI X.K L (oBin o) v1 v2 H2 Q) r re h fun ρ2 hp2 H2 d1 d2 v1 v2 e r2 q1 q2 q => ⟨ρ2, hp2, d1, d2, r2, q1, q2, OutD.mono (fun _ _ k => k.ext e) q⟩
theorem s_cmp (hm : ClMono cl) (hu : X.A.units + 65 < cLine) {o : COp} (ha : PE X x (tE X.K L g cl W a)) (hb : PE X y (tE X.K L g cl W b)) (hmk : behindInMarks (copOf o) y = false) : PE X (.Compare x [copOf o] [y] pos) (tE X.K L g cl W (.cmp o a b)) :=
  PE.imp (pe_cmpR (mi_cmp (L := L) hu o) ha hb hmk) fun σ H Q ⟨ρ, hp, env, r, re, h⟩ => by
    unfold wE at h
    exact seq2 hm (F := fun d1 d2 hp2 => (oCmp o d1 d2 hp2).app (KQ X.K L ρ H Q)) (R := fun v1 v2 H2 => rMI X.K L (oCmp o) v1 v2 H2 Q) r re h fun ρ2 hp2 H2 d1 d2 v1 v2 e r2 q1 q2 q => ⟨ρ2, hp2, d1, d2, r2, q1, q2, OutD.mono (fun _ _ k => k.ext e) q⟩
theorem s_ix (hm : ClMono cl) (hu : X.A.units + 65 < cLine) (ha : PE X x (tE X.K L g cl W a)) (hb : PE X y (tE X.K L g cl W b)) (hp : PlainIx y) : PE X (.Subscript x y pos) (tE X.K L g cl W (.ix a b)) :=
  PE.imp (pe_ix (mi_ix (L := L) hu) ha hb hp) fun σ H Q ⟨ρ, hp, env, r, re, h⟩ => by
    unfold wE at h
    exact seq2 hm (F := fun d1 d2 hp2 => (oIx d1 d2 hp2).app (KQ X.K L ρ H Q)) (R := fun v1 v2 H2 => rMI X.K L oIx v1 v2 H2 Q) r re h fun ρ2 hp2 H2 d1 d2 v1 v2 e r2 q1 q2 q => ⟨ρ2, hp2, d1, d2, r2, q1, q2, OutD.mono (fun _ _ k => k.ext e) q⟩
theorem s_neg (hm : ClMono cl) (ha : PE X x (tE X.K L g cl W a)) : PE X (.UnaryOp .USub x pos) (tE X.K L g cl W (.neg a)) :=
  PE.imp (pe_un un_neg ha) fun σ H Q ⟨ρ, hp, env, r, re, h⟩ => by
    unfold wE at h
    refine ⟨ρ, hp, env, r, re, wE_mono hm a env hp _ _ _ _ (fun d1 hp1 q1 => ?_) (fun _ _ _ z => z) h⟩
    intro ρ1 H1 v1 e1 r1 d1r
    cases d1r with
    | int i => exact ⟨i, rfl, q1 _ _ _ e1 r1 (.int _)⟩
    | _ => exact False.elim q1
theorem s_cmp2 (hm : ClMono cl) (hu : X.A.units + 65 < cLine) {o p : COp} (ha : PE X x (tE X.K L g cl W a)) (hb : PE X y (tE X.K L g cl W b)) (hc : PE X z (tE X.K L g cl W c)) (hmk : lastMarks [copOf o, copOf p] [y, z] = false) :
    PE X (.Compare x [copOf o, copOf p] [y, z] pos) (tE X.K L g cl W (.cmp2 o p a b c)) :=
  PE.imp (pe_chain (mi_cmp (L := L) hu o) (mi_cmp (L := L) hu p) ha hb hc hmk) fun σ H Q ⟨ρ, hp, env, r, re, h⟩ => by
    unfold wE at h
    refine seq2 (b := b) hm (R := fun v1 v2 H2 => rMI X.K L (oCmp o) v1 v2 H2 fun z H3 => ∃ k, z = .bl k ∧ if k = true then tE X.K L g cl W c σ H3 fun w' H4 => rMI X.K L (oCmp p) v2 w' H4 Q else Q (.bl false) H3) r re h fun ρ2 hp2 H2 d1 d2 v1 v2 e r2 q1 q2 q => ⟨ρ2, hp2, d1, d2, r2, q1, q2, OutD.mono (fun d3 hp3 k => ?_) q⟩
    intro ρ3 H3 v3 e3 r3 d3r
    cases d3r with
    | bl t =>
      refine ⟨t, rfl, ?_⟩
      cases t with
      | true =>
        rw [if_pos rfl]
        refine ⟨ρ3, hp3, env, r3, (re.mono e).mono e3, wE_mono hm c env hp3 _ _ _ _ (fun d4 hp4 q4 => ?_) (fun _ _ _ z => z.ext (e.trans e3)) k⟩
        intro ρ4 H4 v4 e4 r4 d4r
        exact ⟨ρ4, hp4, d2, d4, r4, (q2.mono e3).mono e4, d4r, OutD.mono (fun _ _ k => k.ext ((e.trans e3).trans e4)) q4⟩
      | false =>
        rw [if_neg Bool.false_ne_true]
        exact k _ _ _ (e.trans e3) r3 (.bl false)
    | _ => exact False.elim k
/-- as a test, where the text takes the value -/
theorem t_plain (hm : ClMono cl) (ha : PE X x (tE X.K L g cl W a)) (he : ∀ whole, isTrue x X.env whole = (do let v ← whole; standAt x.pos; holding [v] (truthy v))) : PT X x (tT X.K L g cl W a) :=
  PT.imp (pt_truth ha he) fun σ H Q ⟨ρ, hp, env, r, re, h⟩ => by
    refine ⟨ρ, hp, env, r, re, wE_mono hm a env hp _ _ _ _ (fun d1 hp1 q1 => ?_) (fun _ _ _ z => z) h⟩
    intro ρ1 H1 v1 e1 r1 d1r
    obtain ⟨k, t, q⟩ := tru_of r1 d1r q1
    exact ⟨k, t, q _ _ e1 r1⟩
theorem KT.ext {K : PySem.W.Frag} {ρ ρ' : List Addr} {H H' : Hp} {Q : Bool → Hp → Prop} {d : D} {hp : Hq} (k : KT K L ρ H Q d hp) (e : Ext ρ H ρ' H') : KT K L ρ' H' Q d hp :=
  OutB.mono (fun _ q ρ2 H2 e2 r2 => q ρ2 H2 (e.trans e2) r2) k
theorem oTru_bl {b : Bool} {hp : Hq} {k : Bool → Prop} (h : (oTru (.bl b) hp).app k) : k b := h
theorem t_cmp (hm : ClMono cl) (hu : X.A.units + 65 < cLine) {o : COp} (ha : PE X x (tE X.K L g cl W a)) (hb : PE X y (tE X.K L g cl W b)) (hmk : behindInMarks (copOf o) y = false) : PT X (.Compare x [copOf o] [y] pos) (tT X.K L g cl W (.cmp o a b)) :=
  PT.imp (pt_cmpR (mi_cmp (L := L) hu o) ha hb hmk) fun σ H Q ⟨ρ, hp, env, r, re, h⟩ => by
    unfold wE at h
    refine seq2 hm (F := fun d1 d2 hp2 => (oCmp o d1 d2 hp2).app (KT X.K L ρ H Q)) (R := fun v1 v2 H2 => rMI X.K L (oCmp o) v1 v2 H2 fun x H' => ∃ k, x = .bl k ∧ Q k H') r re h fun ρ2 hp2 H2 d1 d2 v1 v2 e r2 q1 q2 q => ⟨ρ2, hp2, d1, d2, r2, q1, q2, ?_⟩
    have isb : ∀ {o : COp} {d1 d2 : D} {hp : Hq} {Q' : QD}, (oCmp o d1 d2 hp).app Q' → (oCmp o d1 d2 hp).app fun d h => (∃ t, d = .bl t) ∧ Q' d h := by
      intro o d1 d2 hp Q' h
      cases e : oCmp o d1 d2 hp with
      | no => rw [e] at h; exact h
      | ok d h' =>
        rw [e] at h
        refine ⟨?_, h⟩
        have vb : ∀ {ob : OutB} {neg : Bool} {d : D} {h' : Hq}, ob.val neg hp = .ok d h' → ∃ t, d = .bl t := by
          intro ob neg d h' e
          cases ob <;> cases e
          exact ⟨_, rfl⟩
        cases o <;> first
          | exact vb e
          | (cases d1 <;> cases d2 <;> first | (cases e; exact ⟨_, rfl⟩) | cases e)
      | cd C d h' =>
        rw [e] at h
        refine ⟨h.1, ?_, h.2⟩
        have vb : ∀ {ob : OutB} {neg : Bool} {d : D} {h' : Hq} {C : Prop}, ob.val neg hp = .cd C d h' → ∃ t, d = .bl t := by
          intro ob neg d h' C e
          cases ob <;> cases e
          exact ⟨_, rfl⟩
        cases o <;> first
          | exact vb e
          | (cases d1 <;> cases d2 <;> cases e)
    refine OutD.mono (fun d3 hp3 k => ?_) (isb q)
    obtain ⟨⟨t, rfl⟩, k⟩ := k
    intro ρ3 H3 v3 e3 r3 d3r
    cases d3r
    exact ⟨t, rfl, k _ _ (e.trans e3) r3⟩
theorem s_not (hm : ClMono cl) (ha : PE X x (tE X.K L g cl W a)) : PE X (.UnaryOp .Not x pos) (tE X.K L g cl W (.not a)) :=
  PE.imp (pe_notT ha) fun σ H Q ⟨ρ, hp, env, r, re, h⟩ => by
    unfold wE at h
    refine ⟨ρ, hp, env, r, re, wE_mono hm a env hp _ _ _ _ (fun d1 hp1 q1 => ?_) (fun _ _ _ z => z) h⟩
    intro ρ1 H1 v1 e1 r1 d1r
    obtain ⟨k, t, q⟩ := tru_of r1 d1r q1
    exact ⟨k, t, q _ _ _ e1 r1 (.bl _)⟩
theorem t_not (ha : PT X x (tT X.K L g cl W a)) (hm : ClMono cl) : PT X (.UnaryOp .Not x pos) (tT X.K L g cl W (.not a)) :=
  PT.imp (pt_not ha) fun σ H Q ⟨ρ, hp, env, r, re, h⟩ => by
    unfold wE at h
    refine ⟨ρ, hp, env, r, re, wE_mono hm a env hp _ _ _ _ (fun d1 hp1 q1 => ?_) (fun _ _ _ z => z) h⟩
    exact OutB.mono (fun b q ρ' H' e r' => q _ _ e r') q1
theorem tru_agree {d : D} {hp : Hq} {k k' : Bool → Prop} (h : (oTru d hp).app k) (h' : (oTru d hp).app k') : (oTru d hp).app fun b => k b ∧ k' b := by
  cases e : oTru d hp with
  | no => rw [e] at h; exact h
  | ok b => rw [e] at h h'; exact ⟨h, h'⟩
  | cd C b => rw [e] at h h'; exact ⟨h.1, h.2, h'.2⟩
theorem tru_det {d : D} {hp : Hq} {k : Bool → Prop} {t : Bool} (h : (oTru d hp).app k) (h' : (oTru d hp).app fun b => b = t) : k t := by
  cases e : oTru d hp with
  | no => rw [e] at h; exact False.elim h
  | ok b => rw [e] at h h'; cases (show b = t from h'); exact h
  | cd C b => rw [e] at h h'; cases (show b = t from h'.2); exact h.2
theorem tru_self {d : D} {hp : Hq} {k : Bool → Prop} (h : (oTru d hp).app k) : (oTru d hp).app fun b => k b ∧ (oTru d hp).app fun b' => b' = b := by
  cases e : oTru d hp with
  | no => rw [e] at h; exact h
  | ok b => rw [e] at h; exact ⟨h, rfl⟩
  | cd C b => rw [e] at h; exact ⟨h.1, h.2, h.1, rfl⟩
theorem s_and (hm : ClMono cl) {rest : List Expr} (ha : PE X x (tE X.K L g cl W a)) (hb : PE X (.BoolOp .And (y :: rest) pos) (tE X.K L g cl W b)) : PE X (.BoolOp .And (x :: y :: rest) pos) (tE X.K L g cl W (.and a b)) :=
  PE.imp (pe_andT ha hb) fun σ H Q ⟨ρ, hp, env, r, re, h⟩ => by
    unfold wE at h
    refine ⟨ρ, hp, env, r, re, wE_mono hm a env hp _ _ _ _ (fun d1 hp1 q1 => ?_) (fun _ _ _ z => z) h⟩
    intro ρ1 H1 v1 e1 r1 d1r
    obtain ⟨k, t, q⟩ := tru_of r1 d1r q1
    refine ⟨k, t, ?_⟩
    cases k with
    | true => exact ⟨ρ1, hp1, env, r1, re.mono e1, wE_mono hm b env hp1 _ _ _ _ (fun _ _ k => k.ext e1) (fun _ _ _ z => z.ext e1) q⟩
    | false => exact q _ _ _ e1 r1 d1r
theorem s_or (hm : ClMono cl) {rest : List Expr} (ha : PE X x (tE X.K L g cl W a)) (hb : PE X (.BoolOp .Or (y :: rest) pos) (tE X.K L g cl W b)) : PE X (.BoolOp .Or (x :: y :: rest) pos) (tE X.K L g cl W (.or a b)) :=
  PE.imp (pe_orT ha hb) fun σ H Q ⟨ρ, hp, env, r, re, h⟩ => by
    unfold wE at h
    refine ⟨ρ, hp, env, r, re, wE_mono hm a env hp _ _ _ _ (fun d1 hp1 q1 => ?_) (fun _ _ _ z => z) h⟩
    intro ρ1 H1 v1 e1 r1 d1r
    obtain ⟨k, t, q⟩ := tru_of r1 d1r q1
    refine ⟨k, t, ?_⟩
    cases k with
    | false => exact ⟨ρ1, hp1, env, r1, re.mono e1, wE_mono hm b env hp1 _ _ _ _ (fun _ _ k => k.ext e1) (fun _ _ _ z => z.ext e1) q⟩
    | true => exact q _ _ _ e1 r1 d1r
theorem t_and (hm : ClMono cl) {rest : List Expr} (ha : PT X x (tT X.K L g cl W a)) (hb : PW X (.BoolOp .And (y :: rest) pos) (tT X.K L g cl W b)) : PW X (.BoolOp .And (x :: y :: rest) pos) (tT X.K L g cl W (.and a b)) :=
  PW.imp (pw_and ha hb) fun σ H Q ⟨ρ, hp, env, r, re, h⟩ => by
    unfold wE at h
    refine ⟨ρ, hp, env, r, re, wE_mono hm a env hp _ _ _ _ (fun d1 hp1 q1 => ?_) (fun _ _ _ z => z) h⟩
    refine OutB.mono (fun k q ρ1 H1 e1 r1 => ?_) (tru_self q1)
    obtain ⟨q, hk⟩ := q
    cases k with
    | true => exact ⟨ρ1, hp1, env, r1, re.mono e1, wE_mono hm b env hp1 _ _ _ _ (fun _ _ k => KT.ext k e1) (fun _ _ _ z => z.ext e1) q⟩
    | false => exact tru_det q hk ρ1 H1 e1 r1
theorem t_or (hm : ClMono cl) {rest : List Expr} (ha : PT X x (tT X.K L g cl W a)) (hb : PW X (.BoolOp .Or (y :: rest) pos) (tT X.K L g cl W b)) : PW X (.BoolOp .Or (x :: y :: rest) pos) (tT X.K L g cl W (.or a b)) :=
  PW.imp (pw_or ha hb) fun σ H Q ⟨ρ, hp, env, r, re, h⟩ => by
    unfold wE at h
    refine ⟨ρ, hp, env, r, re, wE_mono hm a env hp _ _ _ _ (fun d1 hp1 q1 => ?_) (fun _ _ _ z => z) h⟩
    refine OutB.mono (fun k q ρ1 H1 e1 r1 => ?_) (tru_self q1)
    obtain ⟨q, hk⟩ := q
    cases k with
    | false => exact ⟨ρ1, hp1, env, r1, re.mono e1, wE_mono hm b env hp1 _ _ _ _ (fun _ _ k => KT.ext k e1) (fun _ _ _ z => z.ext e1) q⟩
    | true => exact tru_det q hk ρ1 H1 e1 r1
theorem s_ite (hm : ClMono cl) (hc : PT X x (tT X.K L g cl W c)) (ha : PE X y (tE X.K L g cl W a)) (hb : PE X z (tE X.K L g cl W b)) : PE X (.IfExp x y z pos) (tE X.K L g cl W (.ite c a b)) :=
  PE.imp (pe_ifExp hc ha hb) fun σ H Q ⟨ρ, hp, env, r, re, h⟩ => by
    unfold wE at h
    refine ⟨ρ, hp, env, r, re, wE_mono hm c env hp _ _ _ _ (fun d1 hp1 q1 => ?_) (fun _ _ _ z => z) h⟩
    refine OutB.mono (fun k q ρ1 H1 e1 r1 => ?_) q1
    cases k with
    | true => exact ⟨ρ1, hp1, env, r1, re.mono e1, wE_mono hm a env hp1 _ _ _ _ (fun _ _ k => k.ext e1) (fun _ _ _ z => z.ext e1) q⟩
    | false => exact ⟨ρ1, hp1, env, r1, re.mono e1, wE_mono hm b env hp1 _ _ _ _ (fun _ _ k => k.ext e1) (fun _ _ _ z => z.ext e1) q⟩
theorem t_ite (hm : ClMono cl) (hc : PT X x (tT X.K L g cl W c)) (ha : PT X y (tT X.K L g cl W a)) (hb : PT X z (tT X.K L g cl W b)) : PT X (.IfExp x y z pos) (tT X.K L g cl W (.ite c a b)) := by
  refine ⟨fun pins s σ H Q I ⟨ρ, hp, env, r, re, h⟩ => ?_⟩
  unfold wE at h
  have e : isTrue (.IfExp x y z pos) X.env (eval (.IfExp x y z pos) X.env) = (do if ← isTrue x X.env (eval x X.env) then isTrue y X.env (eval y X.env) else isTrue z X.env (eval z X.env)) := by
    first | rfl | (unfold isTrue; rfl)
  rw [e]
  refine wpAny_bind (thn (hc.run pins s σ H (fun k H1 => if k = true then tT X.K L g cl W a σ H1 Q else tT X.K L g cl W b σ H1 Q) I
    ⟨ρ, hp, env, r, re, wE_mono hm c env hp _ _ _ _ (fun d1 hp1 q1 => OutB.mono (fun k q ρ1 H1 e1 r1 => ?_) q1) (fun _ _ _ z => z) h⟩) fun k s1 ⟨H1, I1, q1⟩ => ?_)
  · cases k with
    | true => exact ⟨ρ1, hp1, env, r1, re.mono e1, wE_mono hm a env hp1 _ _ _ _ (fun _ _ k => KT.ext k e1) (fun _ _ _ z => z.ext e1) q⟩
    | false => exact ⟨ρ1, hp1, env, r1, re.mono e1, wE_mono hm b env hp1 _ _ _ _ (fun _ _ k => KT.ext k e1) (fun _ _ _ z => z.ext e1) q⟩
  · cases k with
    | true => exact ha.run pins s1 σ H1 Q I1 q1
    | false => exact hb.run pins s1 σ H1 Q I1 q1
end
end MI
/-! MI, part 10: displays, slices, attributes, calls. -/
namespace MI
open PySem PySem.Spec PyProof.Rows L2

def KE (K : PySem.W.Frag) (L : Lay) (ρ : List Addr) (H : Hp) (E : XK) : QX := fun c i hp' => ∀ ρ' H' a C, Ext ρ H ρ' H' → RelH K L ρ' hp' H' → ρ'[i]? = some a → L.clss[c]? = some C → E (.ref C) (some a) H'
/-- the promise of the f-th def: what its run says -/
def spI (K : PySem.W.Frag) (L : Lay) (g : Glob) (n f : Nat) : Sp := fun vs H Q E => ∃ ρ hp ds, RelH K L ρ hp H ∧ RDs K L ρ H ds vs ∧ wCall g n f ds hp (KQ K L ρ H Q) (KE K L ρ H E)
/-- a def keeps a promise, where nothing is being shown -/
structure FnG (P : Program) (w : World) (K : PySem.W.Frag) (mg : Str → Option Value) (base : Heap) (k : Nat) (f : Addr) (fd : FuncData) (ps : List Str) (sp : Sp) : Prop where
  len : ∀ vs H Q E, sp vs H Q E → vs.length = ps.length
  run : ∀ (A : Around) (outer : List PySem.Env) (s : Shared) (H : Hp) (args : Args) (us : List Value) (vs : List V) (Q : VK) (E : XK), Room k A → A.guards = some [] → Env0 P w K mg base A outer s H → BindsTo s fd args (ps.zip us) → Vals vs us → sp vs H Q E →
    codeAny (model P w) A (.call (.ref f) args) (CR (L2.CX P w) outer P w H s Q E) s
theorem FnG.mono {P : Program} {w : World} {K : PySem.W.Frag} {mg : Str → Option Value} {base : Heap} {j k : Nat} {f : Addr} {fd : FuncData} {ps : List Str} {sp : Sp} (F : FnG P w K mg base j f fd ps sp) (h : j ≤ k) : FnG P w K mg base k f fd ps sp :=
  ⟨F.len, fun A outer s H args us vs Q E hr => F.run A outer s H args us vs Q E (hr.mono h)⟩

/-- a call of such a form: n values by their places, some by names; pm: which one each parameter takes -/
def ShpOk (K : PySem.W.Frag) (fd : FuncData) (ps : List Str) (n : Nat) (ks : List Str) (pm : List Nat) : Prop :=
  (∀ j ∈ pm, j < n + ks.length) ∧ ∀ (s : Shared) (us ws : List Value), K.In s.heap → us.length = n → ws.length = ks.length → BindsTo s fd ⟨us, ks.zip ws⟩ (ps.zip (pm.filterMap fun j => (us ++ ws)[j]?))
/-- what the text's own things are, seen from a def's body that may call to depth n -/
structure TF (S : Nm) (g : Glob) (P : Program) (w : World) (K : PySem.W.Frag) (mg : Str → Option Value) (base : Heap) (L : Lay) (n : Nat) : Prop where
  blt : ∀ x ∈ S.blts, mg x = none
  att : L.attrs = S.attrs ∧ S.attrs.Nodup
  fn : ∀ (f : Nat) (x : Str), S.fnN[f]? = some (some x) → ∃ a, L.fns[f]? = some a ∧ mg x = some (.ref a) ∧ PySem.W.keepIn K (.ref a) = true
  call : ∀ (f : Nat) (a : Addr), L.fns[f]? = some a → ∃ fd ps, Binds K fd ps [] ∧ (∀ sh ∈ S.shp, sh.1 = f → ShpOk K fd ps sh.2.1 sh.2.2.1 sh.2.2.2) ∧ FnG P w K mg base (2 * n) a fd ps (spI K L g n f)
  mks : ∀ e ∈ S.mks, ∀ c f, g.meth c e.1 = some f → (f, e.2.1 + 1, e.2.2.1, 0 :: e.2.2.2.map (· + 1)) ∈ S.shp
  mak : ∀ (c : Nat) (x : Str) (f : Nat), S.clsN[c]? = some x → g.init c = some f → ∃ C a, L.clss[c]? = some C ∧ mg x = some (.ref C) ∧ L.fns[f]? = some a ∧ Mk K C a
  ini : ∀ (k : Nat) (x : Str), S.clsN[k]? = some x → g.init k ≠ none
  cls : ∀ (c : Nat) (C : Addr), L.clss[c]? = some C → Cls K C ∧ (∀ x ∈ S.attrs, NoAttr K C x)
  mth : ∀ (c : Nat) (C : Addr) (m : Nat) (nm : Str) (f : Nat), L.clss[c]? = some C → S.mths[m]? = some nm → g.meth c m = some f → ∃ a, L.fns[f]? = some a ∧ Meth K C nm a
  mna : ∀ (m : Nat) (nm : Str), S.mths[m]? = some nm → nm ∉ S.attrs
  con : ∀ (k : Nat) (x : Str), S.constN[k]? = some x → ∃ d u v, g.consts[k]? = some d ∧ mg x = some u ∧ RelV v u ∧ ∀ ρ H, RD K L ρ H d v

section
variable {X : Cx} {L : Lay} {g : Glob} {cl : Cl} {W : WX} {x y z : Expr} {a b c : Ex} {es : Exs} {xs : List Expr} {pos : Pos}

/-! ### items -/
theorem sa_nil : PA X [] (tEs X.K L g cl W .nil) :=
  PA.imp pa_nil fun σ H Q ⟨ρ, hp, env, r, re, h⟩ => (show KQs X.K L ρ H Q [] hp from h) ρ H [] (Ext.refl _ _) r .nil
theorem sa_cons (hm : ClMono cl) (ha : PE X x (tE X.K L g cl W a)) (hb : PA X xs (tEs X.K L g cl W es)) (hs : starEach (x :: xs) X.env = (false, eval x X.env) :: starEach xs X.env) : PA X (x :: xs) (tEs X.K L g cl W (.cons a es)) :=
  PA.imp (pa_cons ha hb hs) fun σ H Q ⟨ρ, hp, env, r, re, h⟩ => by
    unfold wEs at h
    refine ⟨ρ, hp, env, r, re, wE_mono hm a env hp _ _ _ _ (fun d1 hp1 q1 => ?_) (fun _ _ _ z => z) h⟩
    intro ρ1 H1 v1 e1 r1 d1r
    refine ⟨ρ1, hp1, env, r1, re.mono e1, wEs_mono hm es env hp1 _ _ _ _ (fun ds hp2 q2 => ?_) (fun _ _ _ z => z.ext e1) q1⟩
    intro ρ2 H2 vs e2 r2 dsr
    exact q2 ρ2 H2 (v1 :: vs) (e1.trans e2) r2 (.cons (d1r.mono e2) dsr)
/-- the number of items -/
theorem wEs_len (hm : ClMono cl) : ∀ (es : Exs) (env : Env) (hp : Hq) (Q : List D → Hq → Prop) (E : QX), wEs g cl es env hp Q E → wEs g cl es env hp (fun ds h => ds.length = es.len ∧ Q ds h) E
  | .nil, env, hp, Q, E, h => ⟨rfl, h⟩
  | .cons e r, env, hp, Q, E, h => by
    unfold wEs at h ⊢
    refine wE_mono hm e env hp _ _ _ _ (fun d h1 q1 => ?_) (fun _ _ _ z => z) h
    refine wEs_mono hm r env h1 _ _ _ _ (fun ds h2 q2 => ?_) (fun _ _ _ z => z) (wEs_len hm r env h1 _ _ q1)
    exact ⟨by rw [List.length_cons, q2.1]; rfl, q2.2⟩
theorem s_tup (hm : ClMono cl) {k : Nat} (ha : PA X xs (tEs X.K L g cl W es)) (hl : es.len ≤ 1000) : PE X (.Tuple xs k pos) (tE X.K L g cl W (.tup es)) :=
  PE.imp (pe_tup ha) fun σ H Q ⟨ρ, hp, env, r, re, h⟩ => by
    unfold wE at h
    refine ⟨ρ, hp, env, r, re, wEs_mono hm es env hp _ _ _ _ (fun ds hp1 q1 => ?_) (fun _ _ _ z => z) (wEs_len hm es env hp _ _ h)⟩
    intro ρ1 H1 vs e1 r1 dsr
    obtain ⟨hd, q1⟩ := q1
    exact ⟨by rw [← dsr.len, hd, sizeLine_eq]; omega, KQ.tup (KQ.ext q1 e1) r1 dsr⟩
theorem s_lst (hm : ClMono cl) (ha : PA X xs (tEs X.K L g cl W es)) (hl : es.len ≤ 1000) : PE X (.List xs pos) (tE X.K L g cl W (.lst es)) :=
  PE.imp (pe_lst ha) fun σ H Q ⟨ρ, hp, env, r, re, h⟩ => by
    unfold wE at h
    refine ⟨ρ, hp, env, r, re, wEs_mono hm es env hp _ _ _ _ (fun ds hp1 q1 => ?_) (fun _ _ _ z => z) (wEs_len hm es env hp _ _ h)⟩
    intro ρ1 H1 vs e1 r1 dsr
    obtain ⟨hd, q1⟩ := q1
    exact ⟨by rw [← dsr.len, hd, sizeLine_eq]; omega, KQ.new (KQ.ext q1 e1) r1 (.lst dsr)⟩
/-- the pairs of a display -/
def trsOf (K : PySem.W.Frag) (L : Lay) (g : Glob) (cl : Cl) (W : WX) : Exs → List (TE × TE)
  | .nil => []
  | .cons e r => match r with
    | .nil => []
    | .cons e' r' => (tE K L g cl W e, tE K L g cl W e') :: trsOf K L g cl W r'
def evenX : Exs → Bool
  | .nil => true
  | .cons _ r => match r with
    | .nil => false
    | .cons _ r' => evenX r'
def flatP : List (V × V) → List V
  | [] => []
  | p :: r => p.1 :: p.2 :: flatP r
theorem pairs_imp (hm : ClMono cl) : ∀ (es : Exs) (σ : L2.St) (ρ : List Addr) (hp : Hq) (env : Env) (H : Hp) (Q : List (V × V) → Hp → Prop) (R : List D → Hq → Prop), evenX es = true → RelH X.K L ρ hp H → RE X.K L ρ H env σ →
    wEs g cl es env hp R (KX X.K L ρ H σ W) → (∀ ds hp' ρ' H' ps, R ds hp' → Ext ρ H ρ' H' → RelH X.K L ρ' hp' H' → RDs X.K L ρ' H' ds (flatP ps) → Q ps H') → tPairs (trsOf X.K L g cl W es) σ H Q
  | .nil, σ, ρ, hp, env, H, Q, R, ev, r, re, h, k => k [] hp ρ H [] h (Ext.refl _ _) r .nil
  | .cons e .nil, σ, ρ, hp, env, H, Q, R, ev, r, re, h, k => by cases ev
  | .cons e (.cons e' r'), σ, ρ, hp, env, H, Q, R, ev, r, re, h, k => by
    unfold wEs at h
    refine ⟨ρ, hp, env, r, re, wE_mono hm e env hp _ _ _ _ (fun d1 hp1 q1 => ?_) (fun _ _ _ z => z) h⟩
    intro ρ1 H1 v1 e1 r1 d1r
    unfold wEs at q1
    refine ⟨ρ1, hp1, env, r1, re.mono e1, wE_mono hm e' env hp1 _ _ _ _ (fun d2 hp2 q2 => ?_) (fun _ _ _ z => z.ext e1) q1⟩
    intro ρ2 H2 v2 e2 r2 d2r
    refine pairs_imp hm r' σ ρ2 hp2 env H2 _ (fun ds hp' => R (d1 :: d2 :: ds) hp') ev r2 ((re.mono e1).mono e2) (wEs_mono hm r' env hp2 _ _ _ _ (fun _ _ z => z) (fun _ _ _ z => z.ext (e1.trans e2)) q2) fun ds hp' ρ' H' ps hr e3 r3 rd => ?_
    exact k _ hp' ρ' H' ((v1, v2) :: ps) hr ((e1.trans e2).trans e3) r3 (.cons ((d1r.mono e2).mono e3) (.cons (d2r.mono e3) rd))
theorem pairs_of {K : PySem.W.Frag} {L : Lay} {ρ : List Addr} {H : Hp} : ∀ {ds : List D} {ps : List (V × V)} {kvs : List (Key × D)}, RDs K L ρ H ds (flatP ps) → pairsOf ds = some kvs → ∃ kvs' : List (Key × V), ps = kvs'.map (fun kv => (kV kv.1, kv.2)) ∧ RKs K L ρ H kvs kvs' ∧ 2 * kvs'.length = ds.length
  | [], [], kvs, _, h => by cases h; exact ⟨[], rfl, .nil, rfl⟩
  | [], _ :: _, _, r, _ => by cases r
  | [d], ps, kvs, _, h => by cases h
  | k :: v :: ds, [], _, r, _ => by cases r
  | k :: v :: ds, p :: ps, kvs, r, h => by
    unfold pairsOf at h
    cases r with
    | cons r1 r =>
      cases r with
      | cons r2 r =>
        cases e : kOf k with
        | none => simp only [e] at h; cases h
        | some key =>
          cases e2 : pairsOf ds with
          | none => simp only [e, e2] at h; cases h
          | some kvs0 =>
            simp only [e, e2] at h
            cases h
            obtain ⟨kvs', h1, h2, h3⟩ := pairs_of r e2
            refine ⟨(key, p.2) :: kvs', ?_, .cons ⟨rfl, r2⟩ h2, by simp only [List.length_cons]; omega⟩
            rw [h1, List.map_cons]
            congr 1
            exact Prod.ext (kOf_kV r1 e) rfl
theorem RelH.side0 {K : PySem.W.Frag} {L : Lay} {ρ : List Addr} {H : Hp} {hp : Hq} {p : Addr} {o u : HO} (r : RelH K L ρ hp H) (hn : p ∉ ρ) (h : H p = some o) (hs : ¬ Stb o) : RelH K L ρ hp (upd H p u) ∧ ExtW ρ H ρ (upd H p u) := by
  have w : ExtW ρ H ρ (upd H p u) := ⟨⟨[], by simp⟩, fun a o' h' s => by rw [upd_ne fun z => by subst z; rw [h] at h'; cases h'; exact hs s]; exact h'⟩
  refine ⟨⟨r.nd, r.len, fun i o' h' => ?_⟩, w⟩
  obtain ⟨a, u', h1, h2, h3⟩ := r.at_ i o' h'
  exact ⟨a, u', h1, by rw [upd_ne fun z => hn (by rw [← z]; exact List.mem_of_getElem? h1)]; exact h2, h3.monoW w⟩
theorem Ext.side0 {ρ ρ' : List Addr} {H H' : Hp} {p : Addr} {u : HO} (e : Ext ρ H ρ' H') (h : H p = none) : Ext ρ H ρ' (upd H' p u) :=
  ⟨e.pre, e.new, fun a o h1 h2 => by rw [upd_ne (ne_of_none h1 h)]; exact e.out a o h1 h2, fun a o h1 s => by rw [upd_ne (ne_of_none h1 h)]; exact e.st a o h1 s, fun a o k h1 => by rw [upd_ne (ne_of_none h1 h)]; exact e.fz a o k h1⟩
/-- what stands untold is told -/
theorem RelH.tell0 {K : PySem.W.Frag} {L : Lay} {ρ ρ0 : List Addr} {H H0 : Hp} {hp : Hq} {p : Addr} {o : O} {u : HO} (r : RelH K L ρ hp H) (hn : p ∉ ρ) (h : H p = some u) (q : RHO K L ρ H o u) (e : Ext ρ0 H0 ρ H) (h0 : H0 p = none) : RelH K L (ρ ++ [p]) (hp ++ [o]) H ∧ Ext ρ0 H0 (ρ ++ [p]) H := by
  have w : ExtW ρ H (ρ ++ [p]) H := ⟨⟨[p], rfl⟩, fun _ _ h _ => h⟩
  refine ⟨⟨?_, by simp [r.len], fun i o' h' => ?_⟩, ⟨?_, fun a ha => ?_, e.out, e.st, e.fz⟩⟩
  · rw [List.nodup_append]
    refine ⟨r.nd, by simp, fun a ha b hb => ?_⟩
    have : b = p := by simpa using hb
    subst this
    exact fun z => hn (z ▸ ha)
  · by_cases hi : i < hp.length
    · rw [List.getElem?_append_left hi] at h'
      obtain ⟨a, u', h1, h2, h3⟩ := r.at_ i o' h'
      exact ⟨a, u', w.ix h1, h2, h3.monoW w⟩
    · have hl : i < (hp ++ [o]).length := (List.getElem?_eq_some_iff.mp h').1
      have hi2 : i = hp.length := by
        rw [List.length_append, List.length_singleton] at hl
        omega
      subst hi2
      rw [List.getElem?_append_right (Nat.le_refl _)] at h'
      have : o = o' := by simpa using h'
      subst this
      refine ⟨p, u, ?_, h, q.monoW w⟩
      rw [← r.len, List.getElem?_append_right (Nat.le_refl _)]
      simp
  · obtain ⟨m, hm⟩ := e.pre
    exact ⟨m ++ [p], by rw [hm, List.append_assoc]⟩
  · rcases List.mem_append.mp ha with k | k
    · exact e.new a k
    · have : a = p := by simpa using k
      subst this
      exact .inr h0

theorem s_dic (hm : ClMono cl) {ks : List (Option Expr)} {vs : List Expr} (h : PPs X pos ks vs (trsOf X.K L g cl W es)) (ev : evenX es = true) (hl : ks.length = vs.length) (hall : ks.all (·.isSome) = true) (h15 : ks.length ≤ 15) (hes : es.len = 2 * ks.length) (h0 : ks ≠ []) : PE X (.Dict ks vs pos) (tE X.K L g cl W (.dic es)) :=
  PE.imp (pe_disp h hall hl h0 h15) fun σ H Q ⟨ρ, hp, env, r, re, h⟩ => by
    unfold wE at h
    intro p hpn
    obtain ⟨r1, e1⟩ := r.tmp (u := .dK []) hpn
    have hnp := r.notin hpn
    have h := wEs_len hm es env hp _ _ h
    refine pairs_imp hm es σ ρ hp env _ _ _ ev r1 (re.mono e1) (wEs_mono hm es env hp _ _ _ _ (fun _ _ z => z) (fun _ _ _ z => z.ext e1) h) fun ds hp' ρ' H' ps hr e2 r2 rd => ?_
    obtain ⟨hlen, hr⟩ := hr
    have hp2 : H' p = some (.dK []) := e2.out _ _ upd_same hnp
    have hn2 : p ∉ ρ' := fun z => by
      rcases e2.new p z with q | q
      · exact hnp q
      · rw [upd_same] at q; cases q
    refine ⟨hp2, ?_⟩
    cases eq : pairsOf ds with
    | none => simp only [eq] at hr
    | some kvs =>
      simp only [eq] at hr
      obtain ⟨kvs', k1, k2, k3⟩ := pairs_of rd eq
      refine ⟨kvs', k1, by omega, ?_⟩
      obtain ⟨r3, w3⟩ := r2.side0 (u := .dK (mergeK [] kvs')) hn2 hp2 (fun z => by cases z)
      have e3 : Ext ρ H ρ' (upd H' p (.dK (mergeK [] kvs'))) := (e1.trans e2).side0 hpn
      have rel : RHO X.K L ρ' (upd H' p (.dK (mergeK [] kvs'))) (.dic (kvs.foldl (fun acc kv => dput acc kv.1 kv.2) [])) (.dK (mergeK [] kvs')) := .dic ((merge_rks k2 .nil).monoW w3)
      obtain ⟨r4, e4⟩ := r3.tell0 hn2 upd_same rel e3 hpn
      refine hr _ _ _ e4 r4 (.ref ?_)
      rw [← r2.len, List.getElem?_append_right (Nat.le_refl _)]
      simp
theorem s_dic0 : PE X (.Dict [] [] pos) (tE X.K L g cl W (.dic .nil)) :=
  PE.imp pe_dnewK fun σ H Q ⟨ρ, hp, env, r, re, h⟩ => KQ.new (show KQ X.K L ρ H Q (.ref hp.length) (hp ++ [.dic []]) from h) r (.dic .nil)
theorem ty_boot : ∀ n ∈ tyAll, bootBuiltins (PySem.Str.ofString n) = some (.type n) := by decide +kernel
theorem s_bty {n : String} {p : Pos} (hn : n ∈ tyAll) (hg : Gl X (PySem.Str.ofString n)) (hmg : X.mg (PySem.Str.ofString n) = none) (h1 : PySem.Str.ofString n ≠ "__name__") (h2 : (PySem.Str.ofString n == ("__debug__" : Str)) = false) : PE X (.Name (PySem.Str.ofString n) p) (tE X.K L g cl W (.bty n)) :=
  ⟨fun pins s σ H Q I ⟨ρ, hp, env, r, re, h⟩ => ld_blt I hg hmg (ty_boot n hn) ⟨.ty n, H, I, rfl, KQ.here (show KQ X.K L ρ H Q (.ty n) hp from h) r (.ty n)⟩ h1 h2⟩
theorem s_mmd (hm : ClMono cl) (hc : X.calm = true) (hu : X.A.units + 200 < cLine) {mx : Bool} {p kp : Pos} (hg : Gl X (if mx then "max" else "min" : Str)) (hmg : X.mg (if mx then "max" else "min" : Str) = none) (ha : PE X x (tE X.K L g cl W a)) (hb : PE X y (tE X.K L g cl W b)) (hs : isSub x = false) :
    PE X (.Call (.Name (if mx then "max" else "min" : Str) p) [x] [⟨some "default", y, kp⟩] pos) (tE X.K L g cl W (.mmd mx a b)) := by
  have hst : starEach [x] X.env = (false, eval x X.env) :: starEach [] X.env := by cases x <;> first | rfl | cases hs
  have imp : ∀ σ H Q, tE X.K L g cl W (.mmd mx a b) σ H Q → tCKw (rMmd X.K L mx) (tEs X.K L g cl W (.cons a .nil)) (tCons (tE X.K L g cl W b) tNil) σ H Q := fun σ H Q ⟨ρ, hp, env, r, re, h⟩ => by
    unfold wE at h
    refine ⟨ρ, hp, env, r, re, ?_⟩
    show wE g cl a env hp _ _
    refine wE_mono hm a env hp _ _ _ _ (fun d1 hp1 q1 => ?_) (fun _ _ _ z => z) h
    intro ρ1 H1 vs e1 r1 dsr
    cases dsr with
    | cons d1r t =>
      cases t
      refine ⟨ρ1, hp1, env, r1, re.mono e1, wE_mono hm b env hp1 _ _ _ _ (fun d2 hp2 q2 => ?_) (fun _ _ _ z => z.ext e1) q1⟩
      intro ρ2 H2 v2 e2 r2 d2r
      exact ⟨ρ2, hp2, d1, d2, _, v2, rfl, rfl, r2, d1r.mono e2, d2r, OutD.mono (fun _ _ k => k.ext (e1.trans e2)) q2⟩
  have pa : PA X [x] (tEs X.K L g cl W (.cons a .nil)) := sa_cons hm ha sa_nil hst
  have e1 : backTo pos (starEach [x] X.env) = (false, eval x X.env) :: backTo pos (starEach [] X.env) := by rw [hst]; rfl
  have e2 : (backTo pos (starEach [x] X.env)).any (·.1) = false := by rw [hst]; rfl
  cases mx with
  | false => exact PE.imp (pe_callBK (id := "min") (mi_mmd (L := L) hc hu false) hg hmg (by decide +kernel) pa (pk_cons hb pk_nil) (by decide +kernel) (by decide +kernel) e1 e2) imp
  | true => exact PE.imp (pe_callBK (id := "max") (mi_mmd (L := L) hc hu true) hg hmg (by decide +kernel) pa (pk_cons hb pk_nil) (by decide +kernel) (by decide +kernel) e1 e2) imp

/-! ### slices -/
theorem so_no : PO X none (tEo X.K L g cl W .no) :=
  PO.imp po_none fun σ H Q ⟨ρ, hp, env, r, re, h⟩ => (show KO X.K L ρ H Q none hp from h) ρ H (Ext.refl _ _) r
theorem so_so (hm : ClMono cl) (ha : PE X x (tE X.K L g cl W a)) : PO X (some x) (tEo X.K L g cl W (.so a)) := by
  refine PO.imp (po_some ha) fun σ H Q ⟨ρ, hp, env, r, re, h⟩ => ?_
  unfold wEo at h
  refine ⟨ρ, hp, env, r, re, wE_mono hm a env hp _ _ _ _ (fun d1 hp1 q1 => ?_) (fun _ _ _ z => z) h⟩
  intro ρ1 H1 v1 e1 r1 d1r
  cases d1r with
  | int i => exact ⟨i, rfl, q1 _ _ e1 r1⟩
  | _ => exact False.elim q1
theorem s_sl (hm : ClMono cl) {lo hi : Exo} {l h' : Option Expr} {p2 : Pos} (ha : PE X x (tE X.K L g cl W a)) (hl : PO X l (tEo X.K L g cl W lo)) (hh : PO X h' (tEo X.K L g cl W hi)) : PE X (.Subscript x (.Slice l h' none p2) pos) (tE X.K L g cl W (.sl a lo hi)) :=
  PE.imp (pe_slice (mi_sl (L := L)) ha hl hh) fun σ H Q ⟨ρ, hp, env, r, re, h⟩ => by
    unfold wE at h
    refine ⟨ρ, hp, env, r, re, wE_mono hm a env hp _ _ _ _ (fun d1 hp1 q1 => ?_) (fun _ _ _ z => z) h⟩
    intro ρ1 H1 v1 e1 r1 d1r
    refine ⟨ρ1, hp1, env, r1, re.mono e1, wEo_mono hm lo env hp1 _ _ _ _ (fun ol hp2 q2 => ?_) (fun _ _ _ z => z.ext e1) q1⟩
    unfold KO
    cases eb : bnd ol with
    | none => simp only [eb] at q2
    | some ol' =>
      simp only [eb] at q2 ⊢
      intro ρ2 H2 e2 r2
      refine ⟨ρ2, hp2, env, r2, (re.mono e1).mono e2, wEo_mono hm hi env hp2 _ _ _ _ (fun oh hp3 q3 => ?_) (fun _ _ _ z => z.ext (e1.trans e2)) q2⟩
      unfold KO
      cases eh : bnd oh with
      | none => simp only [eh] at q3
      | some oh' =>
        simp only [eh] at q3 ⊢
        intro ρ3 H3 e3 r3
        exact ⟨ρ3, hp3, d1, r3, (d1r.mono e2).mono e3, OutD.mono (fun _ _ k => k.ext ((e1.trans e2).trans e3)) q3⟩

/-! ### attributes -/
theorem s_fld (hm : ClMono cl) {S : Nm} {n : Nat} (T : TF S g X.prog X.w X.K X.mg X.base L n) {f : Nat} {nm : Str} (hf : S.attrs[f]? = some nm) (ha : PE X x (tE X.K L g cl W a)) (hb : attributeBase x nm X.env (eval x X.env) = eval x X.env) : PE X (.Attribute x nm pos) (tE X.K L g cl W (.fld a f)) :=
  PE.imp (pe_fld ha hb) fun σ H Q ⟨ρ, hp, env, r, re, h⟩ => by
    unfold wE at h
    refine ⟨ρ, hp, env, r, re, wE_mono hm a env hp _ _ _ _ (fun d1 hp1 q1 => ?_) (fun _ _ _ z => z) h⟩
    intro ρ1 H1 v1 e1 r1 d1r
    cases d1r with
    | @ref i p hs =>
      unfold oGetF at q1
      cases e : gtI hp1 i with
      | none => simp only [e] at q1; exact False.elim q1
      | some cf =>
        obtain ⟨c, fs⟩ := cf
        simp only [e] at q1
        obtain ⟨C, dx, vs, h1, h2, h3⟩ := r1.ins hs e
        obtain ⟨hc, hn⟩ := T.cls c C h1
        have hmem : nm ∈ S.attrs := List.mem_of_getElem? hf
        have hLa : L.attrs[f]? = some nm := by rw [T.att.1]; exact hf
        have hnd : L.attrs.Nodup := by rw [T.att.1]; exact T.att.2
        rcases h3.get hnd hLa with ⟨k1, k2⟩ | ⟨d', v', k1, k2, k3⟩
        · simp only [k1] at q1; exact False.elim q1
        · simp only [k1] at q1
          exact ⟨p, C, dx, vs, v', rfl, h2, hc, hn nm hmem, k2, q1 _ _ _ e1 r1 k3⟩
    | _ => exact False.elim q1

/-! ### built-in functions -/
theorem s_blt (hm : ClMono cl) (hc : X.calm = true) (hg : X.A.guards = some []) (hu : X.A.units + 200 < cLine) {bf : BF} {p : Pos} (hgl : Gl X (bfName bf)) (hmg : X.mg (bfName bf) = none) (ha : PA X (x :: xs) (tEs X.K L g cl W es))
    (he : starEach (x :: xs) X.env = (false, eval x X.env) :: starEach xs X.env) (hpl : (backTo pos (starEach xs X.env)).any (·.1) = false) : PE X (.Call (.Name (bfName bf) p) (x :: xs) [] pos) (tE X.K L g cl W (.blt bf es)) := by
  have hd : (bfName bf == ("__debug__" : Str)) = false := by cases bf <;> decide +kernel
  have hn : bfName bf ≠ "__name__" := by cases bf <;> decide +kernel
  have imp : ∀ σ H Q, tE X.K L g cl W (.blt bf es) σ H Q → tCB (rBF X.K L bf) (tEs X.K L g cl W es) σ H Q := fun σ H Q ⟨ρ, hp, env, r, re, h⟩ => by
    unfold wE at h
    refine ⟨ρ, hp, env, r, re, wEs_mono hm es env hp _ _ _ _ (fun ds hp1 q1 => ?_) (fun _ _ _ z => z) h⟩
    intro ρ1 H1 vs e1 r1 dsr
    exact ⟨ρ1, hp1, ds, r1, dsr, OutD.mono (fun _ _ k => k.ext e1) q1⟩
  have val : bootBuiltins (bfName bf) = some (bfV bf) := by cases bf <;> decide +kernel
  have run := mi_bf (L := L) hc hg hu bf
  cases bf <;> first
    | exact PE.imp (pe_callB run hgl hmg val ha hn hd he hpl) imp
    | exact PE.imp (pe_callTy run hgl hmg val ha hn hd he hpl) imp

/-! ### methods of built-in types -/
theorem s_bm0 (hm : ClMono cl) (hc : X.calm = true) (hu : X.A.units + 65 < cLine) {m : BM} {apos : Pos} (ho : PE X x (tE X.K L g cl W a))
    (hbase : attributeBase x (bmName m) X.env (eval x X.env) = eval x X.env) (hline : (apos.endLine == pos.line) = true) :
    PE X (.Call (.Attribute x (bmName m) apos) [] [] pos) (tE X.K L g cl W (.bm m a .nil)) := by
  refine ⟨fun pins s σ H Q I ⟨ρ, hp, env, r, re, h⟩ => ?_⟩
  unfold wE at h
  refine wpAny_Call_method0_late hbase hline (thn (ho.run pins s σ H (fun v1 H1 => ∃ ρ1 hp1 d1 k, Ext ρ H ρ1 H1 ∧ RelH X.K L ρ1 hp1 H1 ∧ RD X.K L ρ1 H1 d1 v1 ∧ bmK m d1 hp1 = some k ∧ (oBM m k d1 [] hp1).app (KQ X.K L ρ H Q)) I
    ⟨ρ, hp, env, r, re, wE_mono hm a env hp _ _ _ _ (fun d1 hp1 q1 => ?_) (fun _ _ _ z => z) h⟩) fun v s1 ⟨x1, H1, I1, rx, q⟩ => ?_)
  · intro ρ1 H1 v1 e1 r1 d1r
    split at q1
    · rename_i k ek
      exact ⟨ρ1, hp1, d1, k, e1, r1, d1r, ek, q1⟩
    · exact False.elim q1
  · obtain ⟨ρ1, hp1, d1, k, e1, r1, d1r, ek, q1⟩ := q
    obtain ⟨h1, h2⟩ := bm_kind I1 r1 d1r rx ek
    obtain ⟨T, id, pa, slot, hty, hT, run⟩ := (bm_fact (L := L) hu hc m k d1 hp1 ek).ex
    subst hT
    exact ⟨bkT k, id, pa, slot, hty, h1, h2, Calls.callWith_builtin rfl (PySem.evalArgs_none (run pins s1 σ H1 x1 [] v [] Q ρ1 hp1 d1 [] I1 rx .nil r1 d1r .nil (OutD.mono (fun _ _ k => k.ext e1) q1)))⟩
theorem s_bm (hm : ClMono cl) (hc : X.calm = true) (hu : X.A.units + 65 < cLine) {m : BM} {apos : Pos} (ho : PE X x (tE X.K L g cl W a)) (ha : PA X (y :: xs) (tEs X.K L g cl W es))
    (hbase : attributeBase x (bmName m) X.env (eval x X.env) = eval x X.env)
    (hfew : ((backTo pos (starEach (y :: xs) X.env)).all (fun x => !x.1) && (backToKw pos (keywordEach [] X.env)).all (fun x => x.1.isSome)
      && decide ((y :: xs).length + ([] : List Keyword).length + (if ([] : List Keyword).isEmpty then 0 else 1) < 30)) = true)
    (hline : (apos.endLine == pos.line) = true) (hs : starEach (y :: xs) X.env = (false, eval y X.env) :: starEach xs X.env) (hplain : (backTo pos (starEach xs X.env)).any (·.1) = false) :
    PE X (.Call (.Attribute x (bmName m) apos) (y :: xs) [] pos) (tE X.K L g cl W (.bm m a es)) := by
  refine ⟨fun pins s σ H Q I ⟨ρ, hp, env, r, re, h⟩ => ?_⟩
  unfold wE at h
  refine wpAny_Call_method_late hbase hfew hline rfl (thn (ho.run pins s σ H (fun v1 H1 => ∃ ρ1 hp1 d1 k, Ext ρ H ρ1 H1 ∧ RelH X.K L ρ1 hp1 H1 ∧ RD X.K L ρ1 H1 d1 v1 ∧ bmK m d1 hp1 = some k ∧ wEs g cl es env hp1 (fun ds hp => (oBM m k d1 ds hp).app (KQ X.K L ρ H Q)) (KX X.K L ρ H σ W)) I
    ⟨ρ, hp, env, r, re, wE_mono hm a env hp _ _ _ _ (fun d1 hp1 q1 => ?_) (fun _ _ _ z => z) h⟩) fun v s1 ⟨x1, H1, I1, rx, q⟩ => ?_)
  · intro ρ1 H1 v1 e1 r1 d1r
    split at q1
    · rename_i k ek
      exact ⟨ρ1, hp1, d1, k, e1, r1, d1r, ek, q1⟩
    · exact False.elim q1
  · obtain ⟨ρ1, hp1, d1, k, e1, r1, d1r, ek, q1⟩ := q
    obtain ⟨h1, h2⟩ := bm_kind I1 r1 d1r rx ek
    obtain ⟨T, id, pa, slot, hty, hT, run⟩ := (bm_fact (L := L) hu hc m k d1 hp1 ek).ex
    subst hT
    refine ⟨bkT k, id, pa, slot, hty, h1, h2, ?_⟩
    have hA := ha.run pos pins s1 σ H1 (fun vs H2 => ∃ ρ2 hp2 ds, Ext ρ1 H1 ρ2 H2 ∧ RelH X.K L ρ2 hp2 H2 ∧ RDs X.K L ρ2 H2 ds vs ∧ (oBM m k d1 ds hp2).app (KQ X.K L ρ H Q)) I1
      ⟨ρ1, hp1, env, r1, re.mono e1, wEs_mono hm es env hp1 _ _ _ _ (fun ds hp2 q2 ρ2 H2 vs e2 r2 dsr => ⟨ρ2, hp2, ds, e2, r2, dsr, q2⟩) (fun _ _ _ z => z.ext e1) q1⟩
    rw [hs] at hA ⊢
    refine Calls.callWith_builtin (by show (false || (backTo pos (starEach xs X.env)).any (·.1)) = false; rw [hplain] <;> rfl) (Calls.evalArgs_plain ?_)
    refine thn hA fun us s2 ⟨vs, H2, I2, r2, ρ2, hp2, ds, e2, rr, dsr, q2⟩ => ?_
    exact run pins s2 σ H2 x1 vs v us Q ρ2 hp2 d1 ds I2 rx r2 rr (d1r.mono e2) dsr (OutD.mono (fun _ _ k => k.ext (e1.trans e2)) q2)

/-! ### calls of the text's own -/
theorem run_fnG {pins : List (Addr × Obj)} {σ : L2.St} {H : Hp} {s : Shared} {Q : VK} {us : List Value} {vs : List V} {k : Nat} {f : Addr} {fd : FuncData} {ps : List Str} {sp : Sp} (F : FnG X.prog X.w X.K X.mg X.base k f fd ps sp) (hr : Room k X.A) (hg : X.A.guards = some [])
    (hb : Binds X.K fd ps []) (tk : Takes X W) (I : Inv X pins σ H s) (r : Vals vs us) (h : sp vs H Q fun cls d H' => W cls d σ H') : wpAny (model X.prog X.w) X.A (call (.ref f) us) (EP X pins σ Q) X.xe s := by
  have hl : us.length = ps.length := by rw [← r.length]; exact F.len _ _ _ _ h
  have hb2 : BindsTo s fd ⟨us, []⟩ (ps.zip us) := by
    have := hb s us I.kIn (by rw [List.append_nil]; exact hl)
    rw [List.append_nil] at this
    exact this
  refine wpAny_call (codeAny_mono (F.run X.A X.stack s H ⟨us, []⟩ us vs Q _ hr hg I.env0 hb2 r h) fun r s' hq => ?_)
  cases r with
  | error e => exact tk e s' (XE.of_call I (fun cls d H' h => h) hq)
  | ok fl =>
    cases fl with
    | ret u => exact I.after hq
    | next => exact False.elim hq
    | brk => exact False.elim hq
    | cont => exact False.elim hq
theorem KX.toE {K : PySem.W.Frag} {L : Lay} {ρ ρ1 : List Addr} {H H1 : Hp} {σ : L2.St} {W : WX} {c i : Nat} {hp : Hq} (k : KX K L ρ H σ W c i hp) (e : Ext ρ H ρ1 H1) : KE K L ρ1 H1 (fun cls d H' => W cls d σ H') c i hp :=
  fun ρ' H' a C e' r q z => k ρ' H' a C (e.trans e') r q z
theorem callWith_any {pins : List (Addr × Obj)} {σ : L2.St} {H : Hp} {s : Shared} {f : Value} {first : List Value} {R : List V → Hp → Prop} {t : TA} {Q : Value → Shared → Prop} (hk : PySem.W.keepIn X.K f = true) (I : Inv X pins σ H s) (ha : PA X xs t)
    (hsh : xs = [] ∨ ∃ y ys, xs = y :: ys ∧ starEach (y :: ys) X.env = (false, eval y X.env) :: starEach ys X.env ∧ (backTo pos (starEach ys X.env)).any (·.1) = false)
    (h : t σ H R) (hnil : xs = [] → R [] H) (k : ∀ us vs H1 s1, Inv X pins σ H1 s1 → Vals vs us → R vs H1 → wpAny (model X.prog X.w) X.A (call f (first ++ us)) Q X.xe s1) :
    wpAny (model X.prog X.w) X.A (callWith pos f first (backTo pos (starEach xs X.env)) (backToKw pos (keywordEach [] X.env))) Q X.xe s := by
  rcases hsh with rfl | ⟨y, ys, rfl, he, hpl⟩
  · exact PySem.W.callWith_K0 I.kIn hk (k [] [] H s I .nil (hnil rfl))
  · exact PySem.W.callWith_K (h₀ := X.base) I.ok.mod.kin hk (thn (ha.run pos pins s σ H _ I h) fun us s1 ⟨vs, H1, I1, r, q⟩ => ⟨I1.kIn, k us vs H1 s1 I1 r q⟩) he hpl

variable {S : Nm} {n : Nat}
def Shape (X : Cx) (pos : Pos) (xs : List Expr) : Prop := xs = [] ∨ ∃ y ys, xs = y :: ys ∧ starEach (y :: ys) X.env = (false, eval y X.env) :: starEach ys X.env ∧ (backTo pos (starEach ys X.env)).any (·.1) = false
theorem s_call (T : TF S g X.prog X.w X.K X.mg X.base L n) (hr : Room (2 * n) X.A) (hg : X.A.guards = some []) (tk : Takes X W) {f : Nat} {nm : Str} {p : Pos} (hf : S.fnN[f]? = some (some nm)) (hgl : Gl X nm) (hdb : (nm == ("__debug__" : Str)) = false)
    (ha : PA X xs (tEs X.K L g (wCall g n) W es)) (hsh : Shape X pos xs) (hnl : xs = [] → es = .nil) : PE X (.Call (.Name nm p) xs [] pos) (tE X.K L g (wCall g n) W (.call f es)) := by
  obtain ⟨fa, h1, h2, h3⟩ := T.fn f nm hf
  obtain ⟨fd, ps, hb, _, F⟩ := T.call f fa h1
  refine ⟨fun pins s σ H Q I ⟨ρ, hp, env, r, re, h⟩ => ?_⟩
  unfold wE at h
  refine wpAny_Call_Name_kw (ld_glob I hgl h2 ?_ hdb)
  refine callWith_any (R := fun vs H1 => ∃ ρ1 hp1 ds, Ext ρ H ρ1 H1 ∧ RelH X.K L ρ1 hp1 H1 ∧ RDs X.K L ρ1 H1 ds vs ∧ wCall g n f ds hp1 (KQ X.K L ρ H Q) (KX X.K L ρ H σ W)) h3 I ha hsh
    ⟨ρ, hp, env, r, re, wEs_mono (wCall_mono g n) es env hp _ _ _ _ (fun ds hp1 q1 ρ1 H1 vs e1 r1 dsr => ⟨ρ1, hp1, ds, e1, r1, dsr, q1⟩) (fun _ _ _ z => z) h⟩
    (fun e => by
      have := hnl e
      subst this
      exact ⟨ρ, hp, [], Ext.refl _ _, r, .nil, h⟩) fun us vs H1 s1 I1 rv ⟨ρ1, hp1, ds, e1, r1, dsr, q1⟩ => ?_
  exact run_fnG F hr hg hb tk I1 rv ⟨ρ1, hp1, ds, r1, dsr, wCall_mono g n f ds hp1 _ _ _ _ (fun _ _ k => k.ext e1) (fun _ _ _ k => k.toE e1) q1⟩

/-- o.m( .. ), where the method's name and the call stand in one line -/
theorem methCall_any {env : PySem.Env} {A : Around} {E : Value → Shared → Prop} {s : Shared} {o : Expr} {nm : Str} {apos pos : Pos} {args : List Expr} {prog : Program} {w : World} {Q : Value → Shared → Prop}
    (hbase : attributeBase o nm env (eval o env) = eval o env) (hline : (apos.endLine == pos.line) = true)
    (hfew : methodCallForm (args.length + ([] : List Keyword).length) (backTo pos (starEach args env)) (backToKw pos (keywordEach [] env)) = true)
    (h : wpAny (model prog w) A (eval o env) (fun ov s₁ => ∀ pl, wpAny (model prog w) A (getMethod ov nm pl) (fun fx s₂ => wpAny (model prog w) A (callWith pos fx.1 fx.2 (backTo pos (starEach args env)) (backToKw pos (keywordEach [] env))) Q E s₂) E s₁) E s) :
    wpAny (model prog w) A (eval (.Call (.Attribute o nm apos) args [] pos) env) Q E s := by
  rw [arm_eval_Call, hbase]
  refine wpAny_bind (wpAny_mono h (fun ov s₁ h₁ => ?_) fun _ _ e => e)
  refine wpAny_bind (wpAny_standAt ?_)
  have hpos : methodCallPos true o env apos pos = pure pos := by unfold methodCallPos; simp [hline]
  unfold methodCall
  rw [hfew]
  refine wpAny_bind (wpAny_holding (wpAny_mono (h₁ _) (fun fx s2 h2 => ?_) fun _ _ e => e))
  exact wpAny_bind (wpAny_of_eq hpos h2)

theorem s_meth (T : TF S g X.prog X.w X.K X.mg X.base L n) (hr : Room (2 * n) X.A) (hg : X.A.guards = some []) (tk : Takes X W) {m : Nat} {nm : Str} {apos : Pos} (hf : S.mths[m]? = some nm) (ho : PE X x (tE X.K L g (wCall g n) W a))
    (ha : PA X xs (tEs X.K L g (wCall g n) W es)) (hsh : Shape X pos xs) (hnl : xs = [] → es = .nil) (hbase : attributeBase x nm X.env (eval x X.env) = eval x X.env) (hline : (apos.endLine == pos.line) = true) (hfew : methodCallForm (xs.length + ([] : List Keyword).length) (backTo pos (starEach xs X.env)) (backToKw pos (keywordEach [] X.env)) = true) : PE X (.Call (.Attribute x nm apos) xs [] pos) (tE X.K L g (wCall g n) W (.meth a m es)) := by
  refine ⟨fun pins s σ H Q I ⟨ρ, hp, env, r, re, h⟩ => ?_⟩
  unfold wE at h
  have hm := wCall_mono g n
  refine methCall_any hbase hline hfew (thn (ho.run pins s σ H (fun v1 H1 => ∃ ρ1 hp1 i c fs f, v1 = v1 ∧ Ext ρ H ρ1 H1 ∧ RelH X.K L ρ1 hp1 H1 ∧ RD X.K L ρ1 H1 (.ref i) v1 ∧ gtI hp1 i = some (c, fs) ∧ g.meth c m = some f ∧
      wEs g (wCall g n) es env hp1 (fun ds hp => wCall g n f (.ref i :: ds) hp (KQ X.K L ρ H Q) (KX X.K L ρ H σ W)) (KX X.K L ρ H σ W)) I
    ⟨ρ, hp, env, r, re, wE_mono hm a env hp _ _ _ _ (fun d1 hp1 q1 => ?_) (fun _ _ _ z => z) h⟩) fun v s1 ⟨x1, H1, I1, rx, q⟩ pl => ?_)
  · intro ρ1 H1 v1 e1 r1 d1r
    cases d1r with
    | @ref i pa hs =>
      cases e : gtI hp1 i with
      | none => simp only [e] at q1
      | some cf =>
        obtain ⟨c, fs⟩ := cf
        simp only [e] at q1
        cases e2 : g.meth c m with
        | none => simp only [e2] at q1
        | some f =>
          simp only [e2] at q1
          exact ⟨ρ1, hp1, i, c, fs, f, rfl, e1, r1, .ref hs, e, e2, q1⟩
    | _ => exact False.elim q1
  · obtain ⟨ρ1, hp1, i, c, fs, f, _, e1, r1, d1r, eg, em, q1⟩ := q
    cases d1r with
    | @ref _ pa hs =>
      cases rx
      obtain ⟨C, dx, vs, g1, g2, g3⟩ := r1.ins hs eg
      obtain ⟨hc, _⟩ := T.cls c C g1
      obtain ⟨fa, f1, hmeth⟩ := T.mth c C m nm f g1 hf em
      obtain ⟨fd, ps, hb, _, F⟩ := T.call f fa f1
      have hlook : vs.lookup nm = none := by
        have hna := T.mna m nm hf
        have hat : ∀ x v, (x, v) ∈ vs → x ∈ S.attrs := by
          intro x v hx
          unfold RFs at g3
          clear eg g2
          induction g3 with
          | nil => cases hx
          | cons rr t ih =>
            rcases List.mem_cons.mp hx with e | e
            · rw [← e] at rr
              rw [← T.att.1]
              exact List.mem_of_getElem? rr.1
            · exact ih e
        clear g3 g2 eg
        induction vs with
        | nil => rfl
        | cons p l ih =>
          obtain ⟨x, v⟩ := p
          have hx : ¬ nm = x := fun z => hna (z ▸ hat x v List.mem_cons_self)
          show (match nm == x with | true => some v | false => l.lookup nm) = none
          rw [show (nm == x) = false from beq_eq_false_iff_ne.mpr hx]
          exact ih fun y w hy => hat y w (List.mem_cons_of_mem _ hy)
      refine getmeth_ok I1 g2 hc hmeth hlook ?_
      refine callWith_any (first := [.ref pa]) (R := fun us H2 => ∃ ρ2 hp2 ds, Ext ρ1 H1 ρ2 H2 ∧ RelH X.K L ρ2 hp2 H2 ∧ RDs X.K L ρ2 H2 ds us ∧ wCall g n f (.ref i :: ds) hp2 (KQ X.K L ρ H Q) (KX X.K L ρ H σ W)) hmeth.kp I1 ha hsh
        ⟨ρ1, hp1, env, r1, re.mono e1, wEs_mono hm es env hp1 _ _ _ _ (fun ds hp2 q2 ρ2 H2 us e2 r2 dsr => ⟨ρ2, hp2, ds, e2, r2, dsr, q2⟩) (fun _ _ _ z => z.ext e1) q1⟩
        (fun e => by
          have := hnl e
          subst this
          exact ⟨ρ1, hp1, [], Ext.refl _ _, r1, .nil, q1⟩) fun us vs2 H2 s2 I2 rv ⟨ρ2, hp2, ds, e2, r2, dsr, q2⟩ => ?_
      have hsr : RD X.K L ρ2 H2 (.ref i) (.ref pa) := .ref (e2.ix hs)
      exact run_fnG (vs := .ref pa :: vs2) F hr hg hb tk I2 (.cons rfl rv) ⟨ρ2, hp2, .ref i :: ds, r2, .cons hsr dsr, wCall_mono g n f _ hp2 _ _ _ _ (fun _ _ k => k.ext (e1.trans e2)) (fun _ _ _ k => k.toE (e1.trans e2)) q2⟩

/-! ### with names -/
theorem filt_rd {K : PySem.W.Frag} {L : Lay} {ρ : List Addr} {H : Hp} {ds : List D} {vs : List V} (h : RDs K L ρ H ds vs) : ∀ (pm : List Nat) (ds' : List D), perm (pm.map .inl) ds = some ds' → RDs K L ρ H ds' (pm.filterMap fun j => vs[j]?)
  | [], ds', e => by
    cases e
    exact .nil
  | j :: pm, ds', e => by
    unfold perm at e
    rw [List.map_cons] at e
    unfold mapO at e
    cases e1 : ds[j]? with
    | none => simp only [e1] at e; cases e
    | some y =>
      cases e2 : perm (pm.map .inl) ds with
      | none =>
        unfold perm at e2
        simp only [e1, e2] at e; cases e
      | some ys =>
        have e3 := e2
        unfold perm at e3
        simp only [e1, e3] at e
        cases e
        obtain ⟨v, h1, h2⟩ := h.get e1
        rw [List.filterMap_cons, h1]
        exact .cons h2 (filt_rd h pm ys e2)
theorem filt_vals {vs : List V} {us : List Value} (h : Vals vs us) : ∀ pm : List Nat, Vals (pm.filterMap fun j => vs[j]?) (pm.filterMap fun j => us[j]?)
  | [] => .nil
  | j :: pm => by
    rw [List.filterMap_cons, List.filterMap_cons]
    cases e : vs[j]? with
    | none =>
      have e2 : us[j]? = none := by
        rw [List.getElem?_eq_none_iff] at e ⊢
        rw [← h.length]; exact e
      rw [e2]
      exact filt_vals h pm
    | some v =>
      obtain ⟨u, e2, r⟩ := h.get e
      rw [e2]
      exact .cons r (filt_vals h pm)
theorem filt_shift {α : Type} (x : α) (us : List α) : ∀ pm : List Nat, ((0 :: pm.map (· + 1)).filterMap fun j => (x :: us)[j]?) = x :: pm.filterMap fun j => us[j]? := by
  intro pm
  rw [List.filterMap_cons]
  show x :: _ = _
  congr 1
  rw [List.filterMap_map]
  rfl
theorem perm_inl {pm : List (Sum Nat D)} {pl : List Nat} (h : pm.map (fun s => match s with | .inl j => some j | .inr _ => none) = pl.map some) : pm = pl.map .inl := by
  induction pm generalizing pl with
  | nil =>
    cases pl with
    | nil => rfl
    | cons _ _ => cases h
  | cons s r ih =>
    cases pl with
    | nil => cases h
    | cons j pl =>
      rw [List.map_cons, List.map_cons] at h
      injection h with h1 h2
      cases s with
      | inl j' =>
        cases h1
        rw [ih h2]
        rfl
      | inr _ => cases h1
theorem run_fnS {pins : List (Addr × Obj)} {σ : L2.St} {H : Hp} {s : Shared} {Q : VK} {us ws : List Value} {vs : List V} {k : Nat} {f : Addr} {fd : FuncData} {ps ks : List Str} {sp : Sp} {pm : List Nat} (F : FnG X.prog X.w X.K X.mg X.base k f fd ps sp) (hr : Room k X.A) (hg : X.A.guards = some [])
    (hb : ShpOk X.K fd ps us.length ks pm) (hw : ws.length = ks.length) (tk : Takes X W) (I : Inv X pins σ H s) (r : Vals vs (us ++ ws)) (h : sp (pm.filterMap fun j => vs[j]?) H Q fun cls d H' => W cls d σ H') : wpAny (model X.prog X.w) X.A (call (.ref f) us (ks.zip ws)) (EP X pins σ Q) X.xe s := by
  refine wpAny_call (codeAny_mono (F.run X.A X.stack s H ⟨us, ks.zip ws⟩ _ _ Q _ hr hg I.env0 (hb.2 s us ws I.kIn rfl hw) (filt_vals r pm) h) fun r s' hq => ?_)
  cases r with
  | error e => exact tk e s' (XE.of_call I (fun cls d H' h => h) hq)
  | ok fl =>
    cases fl with
    | ret u => exact I.after hq
    | next => exact False.elim hq
    | brk => exact False.elim hq
    | cont => exact False.elim hq
theorem wEs_split (hm : ClMono cl) : ∀ (k : Nat) (es : Exs) (env : Env) (hp : Hq) (Q : List D → Hq → Prop) (E : QX), wEs g cl es env hp Q E → wEs g cl (takeX k es) env hp (fun ds1 hp1 => wEs g cl (dropX k es) env hp1 (fun ds2 hp2 => Q (ds1 ++ ds2) hp2) E) E
  | 0, es, env, hp, Q, E, h => by
    cases es <;> exact h
  | k + 1, .nil, env, hp, Q, E, h => h
  | k + 1, .cons e r, env, hp, Q, E, h => by
    unfold wEs at h
    show wEs g cl (.cons e (takeX k r)) env hp _ E
    unfold wEs
    exact wE_mono hm e env hp _ _ _ _ (fun d hp1 q1 => wEs_split hm k r env hp1 (fun ds hp => Q (d :: ds) hp) E q1) (fun _ _ _ z => z) h
theorem PK.imp {X : Cx} {kws : List Keyword} {t t' : TA} (h : PK X kws t) (i : ∀ σ H Q, t' σ H Q → t σ H Q) : PK X kws t' := ⟨fun pos pins s σ H Q I q => h.run pos pins s σ H Q I (i σ H Q q)⟩
theorem sk_nil : PK X [] (tEs X.K L g cl W .nil) :=
  PK.imp pk_nil fun σ H Q ⟨ρ, hp, env, r, re, h⟩ => (show KQs X.K L ρ H Q [] hp from h) ρ H [] (Ext.refl _ _) r .nil
theorem sk_cons (hm : ClMono cl) {k : Keyword} {kws : List Keyword} (ha : PE X k.value (tE X.K L g cl W a)) (hb : PK X kws (tEs X.K L g cl W es)) : PK X (k :: kws) (tEs X.K L g cl W (.cons a es)) := by
  obtain ⟨kn, kv, kp⟩ := k
  exact PK.imp (pk_cons ha hb) fun σ H Q ⟨ρ, hp, env, r, re, h⟩ => by
    unfold wEs at h
    refine ⟨ρ, hp, env, r, re, wE_mono hm a env hp _ _ _ _ (fun d1 hp1 q1 => ?_) (fun _ _ _ z => z) h⟩
    intro ρ1 H1 v1 e1 r1 d1r
    refine ⟨ρ1, hp1, env, r1, re.mono e1, wEs_mono hm es env hp1 _ _ _ _ (fun ds hp2 q2 => ?_) (fun _ _ _ z => z.ext e1) q1⟩
    intro ρ2 H2 vs e2 r2 dsr
    exact q2 ρ2 H2 (v1 :: vs) (e1.trans e2) r2 (.cons (d1r.mono e2) dsr)
theorem RDs.app2 {K : PySem.W.Frag} {L : Lay} {ρ : List Addr} {H : Hp} {ds es : List D} {vs us : List V} (a : RDs K L ρ H ds vs) (b : RDs K L ρ H es us) : RDs K L ρ H (ds ++ es) (vs ++ us) := a.app b
theorem callWith_kws {pins : List (Addr × Obj)} {σ : L2.St} {H : Hp} {s : Shared} {f : Value} {first : List Value} {k : Keyword} {kws : List Keyword} {R1 : List V → Hp → Prop} {R : List V → List V → Hp → Prop} {t tk : TA} {Q : Value → Shared → Prop} {ks : List Str} (hk : PySem.W.keepIn X.K f = true) (I : Inv X pins σ H s) (ha : PA X xs t)
    (hsh : xs = [] ∨ ∃ y ys, xs = y :: ys ∧ starEach (y :: ys) X.env = (false, eval y X.env) :: starEach ys X.env ∧ (backTo pos (starEach ys X.env)).any (·.1) = false) (hkw : PK X (k :: kws) tk)
    (hall : (backToKw pos (keywordEach (k :: kws) X.env)).all (·.1.isSome) = true) (hnone : (backToKw pos (keywordEach (k :: kws) X.env)).any (·.1.isNone) = false) (hks : (backToKw pos (keywordEach (k :: kws) X.env)).filterMap (·.1) = ks)
    (h : t σ H R1) (hnil : xs = [] → R1 [] H) (h2 : ∀ vs H1, R1 vs H1 → tk σ H1 (R vs)) (kk : ∀ us ws vs zs H1 s1, Inv X pins σ H1 s1 → Vals vs us → Vals zs ws → R vs zs H1 → wpAny (model X.prog X.w) X.A (call f (first ++ us) (ks.zip ws)) Q X.xe s1) :
    wpAny (model X.prog X.w) X.A (callWith pos f first (backTo pos (starEach xs X.env)) (backToKw pos (keywordEach (k :: kws) X.env))) Q X.xe s := by
  rcases hsh with rfl | ⟨y, ys, rfl, he, hpl⟩
  · refine PySem.W.callWith_KW0 (h₀ := X.base) I.ok.mod.kin hk hall (thn (hkw.run pos pins s σ H _ I (h2 [] H (hnil rfl))) fun ws s2 ⟨zs, H2, I2, rz, q2⟩ => ⟨I2.kIn, ?_⟩) (by rw [hnone]; rfl)
    rw [hks]
    exact kk [] ws [] zs H2 s2 I2 .nil rz q2
  · refine PySem.W.callWith_KW (h₀ := X.base) I.ok.mod.kin hk hall (thn (ha.run pos pins s σ H _ I h) fun us s1 ⟨vs, H1, I1, r, q⟩ => ?_) (by rw [hnone, he]; show ((false || (backTo pos (starEach ys X.env)).any (·.1)) || false) = false; rw [hpl]; rfl) he
    refine thn (hkw.run pos pins s1 σ H1 _ I1 (h2 vs H1 q)) fun ws s2 ⟨zs, H2, I2, rz, q2⟩ => ⟨I2.kIn, ?_⟩
    rw [hks]
    exact kk us ws vs zs H2 s2 I2 r rz q2
theorem methCall_anyK {env : PySem.Env} {A : Around} {E : Value → Shared → Prop} {s : Shared} {o : Expr} {nm : Str} {apos pos : Pos} {args : List Expr} {kws : List Keyword} {prog : Program} {w : World} {Q : Value → Shared → Prop}
    (hbase : attributeBase o nm env (eval o env) = eval o env) (hline : (apos.endLine == pos.line) = true)
    (hfew : methodCallForm (args.length + kws.length) (backTo pos (starEach args env)) (backToKw pos (keywordEach kws env)) = true)
    (h : wpAny (model prog w) A (eval o env) (fun ov s₁ => ∀ pl, wpAny (model prog w) A (getMethod ov nm pl) (fun fx s₂ => wpAny (model prog w) A (callWith pos fx.1 fx.2 (backTo pos (starEach args env)) (backToKw pos (keywordEach kws env))) Q E s₂) E s₁) E s) :
    wpAny (model prog w) A (eval (.Call (.Attribute o nm apos) args kws pos) env) Q E s := by
  rw [arm_eval_Call, hbase]
  refine wpAny_bind (wpAny_mono h (fun ov s₁ h₁ => ?_) fun _ _ e => e)
  refine wpAny_bind (wpAny_standAt ?_)
  have hpos : methodCallPos true o env apos pos = pure pos := by unfold methodCallPos; simp [hline]
  unfold methodCall
  rw [hfew]
  refine wpAny_bind (wpAny_holding (wpAny_mono (h₁ _) (fun fx s2 h2 => ?_) fun _ _ e => e))
  exact wpAny_bind (wpAny_of_eq hpos h2)
/-- an instance's own things hold no method's name -/
theorem no_own {K : PySem.W.Frag} {P : Program} {w : World} {mg : Str → Option Value} {base : Heap} {ρ : List Addr} {H : Hp} {fs : List (Nat × D)} {vs : List (Str × V)} {m : Nat} {nm : Str} (T : TF S g P w K mg base L n) (hf : S.mths[m]? = some nm) (g3 : RFs K L ρ H fs vs) : vs.lookup nm = none := by
  have hna := T.mna m nm hf
  have hat : ∀ x v, (x, v) ∈ vs → x ∈ S.attrs := by
    intro x v hx
    unfold RFs at g3
    induction g3 with
    | nil => cases hx
    | cons rr t ih =>
      rcases List.mem_cons.mp hx with e | e
      · rw [← e] at rr
        rw [← T.att.1]
        exact List.mem_of_getElem? rr.1
      · exact ih e
  clear g3
  induction vs with
  | nil => rfl
  | cons p l ih =>
    obtain ⟨x, v⟩ := p
    have hx : ¬ nm = x := fun z => hna (z ▸ hat x v List.mem_cons_self)
    show (match nm == x with | true => some v | false => l.lookup nm) = none
    rw [show (nm == x) = false from beq_eq_false_iff_ne.mpr hx]
    exact ih fun y w hy => hat y w (List.mem_cons_of_mem _ hy)
theorem s_methK (T : TF S g X.prog X.w X.K X.mg X.base L n) (hr : Room (2 * n) X.A) (hg : X.A.guards = some []) (tk : Takes X W) {m : Nat} {nm : Str} {apos : Pos} {k : Keyword} {kws : List Keyword} {pm : List (Sum Nat D)} {pl : List Nat} {ks : List Str} (hf : S.mths[m]? = some nm) (ho : PE X x (tE X.K L g (wCall g n) W a))
    (ha : PA X xs (tEs X.K L g (wCall g n) W (takeX xs.length es))) (hkw : PK X (k :: kws) (tEs X.K L g (wCall g n) W (dropX xs.length es))) (hsh : Shape X pos xs) (hbase : attributeBase x nm X.env (eval x X.env) = eval x X.env) (hline : (apos.endLine == pos.line) = true)
    (hfew : methodCallForm (xs.length + (k :: kws).length) (backTo pos (starEach xs X.env)) (backToKw pos (keywordEach (k :: kws) X.env)) = true) (hlen : es.len = xs.length + (k :: kws).length)
    (hall : (backToKw pos (keywordEach (k :: kws) X.env)).all (·.1.isSome) = true) (hnone : (backToKw pos (keywordEach (k :: kws) X.env)).any (·.1.isNone) = false) (hks : (backToKw pos (keywordEach (k :: kws) X.env)).filterMap (·.1) = ks) (hksl : ks.length = (k :: kws).length)
    (hin : (m, xs.length, ks, pl) ∈ S.mks) (hpm : pm = pl.map .inl) : PE X (.Call (.Attribute x nm apos) xs (k :: kws) pos) (tE X.K L g (wCall g n) W (.methK a m es pm)) := by
  refine ⟨fun pins s σ H Q I ⟨ρ, hp, env, r, re, h⟩ => ?_⟩
  unfold wE at h
  have hm := wCall_mono g n
  refine methCall_anyK hbase hline hfew (thn (ho.run pins s σ H (fun v1 H1 => ∃ ρ1 hp1 i c fs f, v1 = v1 ∧ Ext ρ H ρ1 H1 ∧ RelH X.K L ρ1 hp1 H1 ∧ RD X.K L ρ1 H1 (.ref i) v1 ∧ gtI hp1 i = some (c, fs) ∧ g.meth c m = some f ∧
      wEs g (wCall g n) es env hp1 (fun ds hp => match perm pm ds with
          | some vs => wCall g n f (.ref i :: vs) hp (KQ X.K L ρ H Q) (KX X.K L ρ H σ W)
          | none => False) (KX X.K L ρ H σ W)) I
    ⟨ρ, hp, env, r, re, wE_mono hm a env hp _ _ _ _ (fun d1 hp1 q1 => ?_) (fun _ _ _ z => z) h⟩) fun v s1 ⟨x1, H1, I1, rx, q⟩ plc => ?_)
  · intro ρ1 H1 v1 e1 r1 d1r
    cases d1r with
    | @ref i pa hs =>
      cases e : gtI hp1 i with
      | none => simp only [e] at q1
      | some cf =>
        obtain ⟨c, fs⟩ := cf
        simp only [e] at q1
        cases e2 : g.meth c m with
        | none => simp only [e2] at q1
        | some f =>
          simp only [e2] at q1
          exact ⟨ρ1, hp1, i, c, fs, f, rfl, e1, r1, .ref hs, e, e2, q1⟩
    | _ => exact False.elim q1
  · obtain ⟨ρ1, hp1, i, c, fs, f, _, e1, r1, d1r, eg, em, q1⟩ := q
    cases d1r with
    | @ref _ pa hs =>
      cases rx
      obtain ⟨C, dx, vs, g1, g2, g3⟩ := r1.ins hs eg
      obtain ⟨hc, _⟩ := T.cls c C g1
      obtain ⟨fa, f1, hmeth⟩ := T.mth c C m nm f g1 hf em
      obtain ⟨fd, ps, hb, hshp, F⟩ := T.call f fa f1
      have hsp := hshp _ (T.mks _ hin c f em) rfl
      have hlook : vs.lookup nm = none := no_own T hf g3
      refine getmeth_ok I1 g2 hc hmeth hlook ?_
      have q1 := wEs_len hm _ _ _ _ _ (wEs_split hm xs.length es env hp1 _ _ (wEs_len hm es env hp1 _ _ q1))
      refine callWith_kws (first := [.ref pa]) (ks := ks) (R1 := fun us H2 => ∃ ρ2 hp2 ds, Ext ρ1 H1 ρ2 H2 ∧ RelH X.K L ρ2 hp2 H2 ∧ RDs X.K L ρ2 H2 ds us ∧ ds.length = (takeX xs.length es).len ∧ wEs g (wCall g n) (dropX xs.length es) env hp2 (fun ds2 hp => (ds ++ ds2).length = es.len ∧ match perm pm (ds ++ ds2) with
          | some vs => wCall g n f (.ref i :: vs) hp (KQ X.K L ρ H Q) (KX X.K L ρ H σ W)
          | none => False) (KX X.K L ρ H σ W))
        (R := fun us zs H2 => ∃ ρ2 hp2 ds vs', Ext ρ1 H1 ρ2 H2 ∧ RelH X.K L ρ2 hp2 H2 ∧ RDs X.K L ρ2 H2 ds (us ++ zs) ∧ ds.length = es.len ∧ us.length = (takeX xs.length es).len ∧ perm pm ds = some vs' ∧ wCall g n f (.ref i :: vs') hp2 (KQ X.K L ρ H Q) (KX X.K L ρ H σ W))
        hmeth.kp I1 ha hsh hkw hall hnone hks
        ⟨ρ1, hp1, env, r1, re.mono e1, wEs_mono hm _ env hp1 _ _ _ _ (fun ds hp2 q2 ρ2 H2 us e2 r2 dsr => ⟨ρ2, hp2, ds, e2, r2, dsr, q2.1, q2.2⟩) (fun _ _ _ z => z.ext e1) q1⟩
        (fun e => ?_) (fun us H2 ⟨ρ2, hp2, ds, e2, r2, dsr, hl, q2⟩ => ?_) fun us ws vs2 zs H2 s2 I2 rv rz ⟨ρ2, hp2, ds, vs', e2, r2, dsr, hl, hl2, ep, q2⟩ => ?_
      · subst e
        refine ⟨ρ1, hp1, [], Ext.refl _ _, r1, .nil, ?_, ?_⟩
        · cases es <;> rfl
        · cases es <;> exact q1.2
      · refine ⟨ρ2, hp2, env, r2, (re.mono e1).mono e2, wEs_mono hm _ env hp2 _ _ _ _ (fun ds2 hp3 q3 => ?_) (fun _ _ _ z => (z.ext e1).ext e2) q2⟩
        intro ρ3 H3 zs e3 r3 zsr
        obtain ⟨hl3, q3⟩ := q3
        cases ep : perm pm (ds ++ ds2) with
        | none => simp only [ep] at q3
        | some vs' =>
          simp only [ep] at q3
          exact ⟨ρ3, hp3, ds ++ ds2, vs', e2.trans e3, r3, (dsr.mono e3).app zsr, hl3, by rw [← dsr.len]; exact hl, ep, q3⟩
      · have hsr : RD X.K L ρ2 H2 (.ref i) (.ref pa) := .ref (e2.ix hs)
        have hul : us.length = xs.length := by
          rw [← rv.length, hl2]
          have : ∀ (k : Nat) (es : Exs), k ≤ es.len → (takeX k es).len = k := by
            intro k
            induction k with
            | zero => intro es _; cases es <;> rfl
            | succ k ih =>
              intro es h
              cases es with
              | nil => cases h
              | cons e r =>
                show (takeX k r).len + 1 = k + 1
                rw [ih r (Nat.le_of_succ_le_succ h)]
          exact this _ _ (by omega)
        have hwl : ws.length = ks.length := by
          have := dsr.len
          rw [List.length_append, hl, rv.length, rz.length, hul, hlen] at this
          omega
        have hrd : RDs X.K L ρ2 H2 (.ref i :: vs') (.ref pa :: pl.filterMap fun j => (vs2 ++ zs)[j]?) := .cons hsr (filt_rd dsr pl vs' (by rw [← hpm]; exact ep))
        refine run_fnS (us := .ref pa :: us) (vs := .ref pa :: (vs2 ++ zs)) (pm := 0 :: pl.map (· + 1)) F hr hg (by rw [List.length_cons, hul]; exact hsp) hwl tk I2 (.cons rfl (rv.append rz)) ?_
        rw [filt_shift]
        exact ⟨ρ2, hp2, .ref i :: vs', r2, hrd, wCall_mono g n f _ hp2 _ _ _ _ (fun _ _ k => k.ext (e1.trans e2)) (fun _ _ _ k => k.toE (e1.trans e2)) q2⟩

theorem s_make (T : TF S g X.prog X.w X.K X.mg X.base L n) (hr : Room (2 * n + 1) X.A) (hg : X.A.guards = some []) (tk : Takes X W) {k : Nat} {nm : Str} {p : Pos} (hf : S.clsN[k]? = some nm) (hgl : Gl X nm) (hdb : (nm == ("__debug__" : Str)) = false)
    (hin : g.init k ≠ none) (ha : PA X xs (tEs X.K L g (wCall g n) W es)) (hsh : Shape X pos xs) (hnl : xs = [] → es = .nil) : PE X (.Call (.Name nm p) xs [] pos) (tE X.K L g (wCall g n) W (.make k es)) := by
  obtain ⟨f, ef⟩ := Option.ne_none_iff_exists'.mp hin
  obtain ⟨C, fa, h1, h2, h3, M⟩ := T.mak k nm f hf ef
  obtain ⟨fd, ps, hb, _, F⟩ := T.call f fa h3
  refine ⟨fun pins s σ H Q I ⟨ρ, hp, env, r, re, h⟩ => ?_⟩
  unfold wE at h
  simp only [ef] at h
  refine wpAny_Call_Name_kw (ld_glob I hgl h2 ?_ hdb)
  refine callWith_any (R := fun vs H1 => ∃ ρ1 hp1 ds, Ext ρ H ρ1 H1 ∧ RelH X.K L ρ1 hp1 H1 ∧ RDs X.K L ρ1 H1 ds vs ∧ wCall g n f (.ref hp1.length :: ds) (hp1 ++ [.ins k []]) (fun v hp' => match v with
      | .non => KQ X.K L ρ H Q (.ref hp1.length) hp'
      | _ => False) (KX X.K L ρ H σ W)) M.kp I ha hsh
    ⟨ρ, hp, env, r, re, wEs_mono (wCall_mono g n) es env hp _ _ _ _ (fun ds hp1 q1 ρ1 H1 vs e1 r1 dsr => ⟨ρ1, hp1, ds, e1, r1, dsr, q1⟩) (fun _ _ _ z => z) h⟩
    (fun e => by
      have := hnl e
      subst this
      exact ⟨ρ, hp, [], Ext.refl _ _, r, .nil, h⟩) fun us vs H1 s1 I1 rv ⟨ρ1, hp1, ds, e1, r1, dsr, q1⟩ => ?_
  -- the instance's dict, then the instance
  have hdx : H1 s1.heap.objs.size = none := I1.hok.fresh (Nat.le_refl _)
  have hx : H1 (s1.heap.objs.size + 1) = none := I1.hok.fresh (Nat.le_succ _)
  have hne : s1.heap.objs.size ≠ s1.heap.objs.size + 1 := Nat.ne_of_lt (Nat.lt_succ_self _)
  obtain ⟨r2, e2⟩ := r1.tmp (u := .own (s1.heap.objs.size + 1)) hdx
  have hx2 : upd H1 s1.heap.objs.size (.own (s1.heap.objs.size + 1)) (s1.heap.objs.size + 1) = none := by rw [upd_ne (Ne.symm hne)]; exact hx
  obtain ⟨r3, e3⟩ := r2.push (o := .ins k []) (u := .ins C s1.heap.objs.size []) hx2 (.ins h1 .nil)
  have e23 := e2.trans e3
  have I2 := Inv.made (C := C) I1
  have hself : (ρ1 ++ [s1.heap.objs.size + 1])[hp1.length]? = some (s1.heap.objs.size + 1) := by
    rw [← r1.len, List.getElem?_append_right (Nat.le_refl _)]
    simp
  have hsp : spI X.K L g n f (V.ref (s1.heap.objs.size + 1) :: vs) (upd (upd H1 s1.heap.objs.size (.own (s1.heap.objs.size + 1))) (s1.heap.objs.size + 1) (.ins C s1.heap.objs.size []))
      (fun v H' => v = .non ∧ Q (.ref (s1.heap.objs.size + 1)) H') fun cls d H' => W cls d σ H' := by
    refine ⟨_, _, _, r3, .cons (.ref hself) (dsr.mono e23), wCall_mono g n f _ _ _ _ _ _ (fun d hp' k ρ' H' v e' r' q => ?_) (fun _ _ _ k => k.toE (e1.trans e23)) q1⟩
    cases q with
    | non => exact ⟨rfl, k _ _ _ ((e1.trans e23).trans e') r' (.ref (e'.ix hself))⟩
    | _ => exact False.elim k
  have r2v : Vals (V.ref (s1.heap.objs.size + 1) :: vs) (Value.ref (s1.heap.objs.size + 1) :: us) := .cons rfl rv
  have hl : (Value.ref (s1.heap.objs.size + 1) :: us).length = ps.length := by rw [← r2v.length]; exact F.len _ _ _ _ hsp
  have hb2 : ∀ s', X.K.In s'.heap → BindsTo s' fd ⟨Value.ref (s1.heap.objs.size + 1) :: us, []⟩ (ps.zip (Value.ref (s1.heap.objs.size + 1) :: us)) := fun s' k => by
    have := hb s' (Value.ref (s1.heap.objs.size + 1) :: us) k (by rw [List.append_nil]; exact hl)
    rw [List.append_nil] at this
    exact this
  refine wpAny_call (make_map (f := fa) I1.kIn M.makes M.init (beq_iff_eq.mp M.fn) (codeAny_mono (F.run _ X.stack _ _ ⟨Value.ref (s1.heap.objs.size + 1) :: us, []⟩ (Value.ref (s1.heap.objs.size + 1) :: us) _ _ _ (hr.make C us [])
    (by first | exact hg | (simpa [Around.under, Code.guards, Code.isGuard, guardIds, pushGuards] using hg)) (I2.env0.make C us []) (hb2 _ I2.kIn) r2v hsp) fun r s' hq' => ?_))
  cases r with
  | error e => exact tk e s' (XE.of_call I2 (fun cls d H' h => h) hq')
  | ok fl =>
    cases fl with
    | ret u =>
      obtain ⟨v, H', I3, rv', ev, q3⟩ := I2.after hq'
      subst ev
      exact ⟨rv', ⟨V.ref (s1.heap.objs.size + 1), H', I3, rfl, q3⟩⟩
    | next => exact False.elim hq'
    | brk => exact False.elim hq'
    | cont => exact False.elim hq'
end
end MI
/-! MI, part 11: what is walked. -/
namespace MI
open PySem PySem.Spec PyProof.Rows L2

/-! ### unlocking -/
def unP (H0 : Hp) (P : Hp → Prop) (H' : Hp) : Prop := P H' ∨ ∃ d od u, H' d = some (.frz od u) ∧ (∀ o' u', H0 d ≠ some (.frz o' u')) ∧ P (upd H' d u)
theorem ps_un {X : Cx} {st : Stmt} {t : TS} (h : PS X st t) : PS X st (fun D σ H => t ⟨fun σ' => unP X.H_0 (D.nx σ'), fun v => unP X.H_0 (D.rt v), fun σ' => unP X.H_0 (D.bk σ'), fun σ' => unP X.H_0 (D.ct σ')⟩ σ H) := by
  refine ⟨fun pins s σ H D I hw => ?_⟩
  refine thn (h.run pins s σ H _ I hw) fun f s1 q => ?_
  cases f with
  | next =>
    obtain ⟨σ', H', I2, q⟩ := q
    rcases q with q | ⟨d, od, u, e, hn, q⟩
    · exact ⟨σ', H', I2, q⟩
    · exact ⟨σ', _, I2.unlock e hn, q⟩
  | brk =>
    obtain ⟨σ', H', I2, q⟩ := q
    rcases q with q | ⟨d, od, u, e, hn, q⟩
    · exact ⟨σ', H', I2, q⟩
    · exact ⟨σ', _, I2.unlock e hn, q⟩
  | cont =>
    obtain ⟨σ', H', I2, q⟩ := q
    rcases q with q | ⟨d, od, u, e, hn, q⟩
    · exact ⟨σ', H', I2, q⟩
    · exact ⟨σ', _, I2.unlock e hn, q⟩
  | ret v =>
    obtain ⟨x, σ', H', I2, r, q⟩ := q
    rcases q with q | ⟨d, od, u, e, hn, q⟩
    · exact ⟨x, σ', H', I2, r, q⟩
    · exact ⟨x, σ', _, I2.unlock e hn, r, q⟩
theorem pe_un {X : Cx} {e : Expr} {t : TE} (h : PE X e t) : PE X e (fun σ H Q => t σ H fun v => unP X.H_0 (Q v)) := by
  refine ⟨fun pins s σ H Q I hw => ?_⟩
  refine thn (h.run pins s σ H _ I hw) fun v s1 ⟨x, H', I2, r, q⟩ => ?_
  rcases q with q | ⟨d, od, u, e, hn, q⟩
  · exact ⟨x, H', I2, r, q⟩
  · exact ⟨x, _, I2.unlock e hn, r, q⟩

/-! ### iterators related -/
structure RIt (K : PySem.W.Frag) (L : Lay) (ρ1 : List Addr) (H1 : Hp) (J : It) (it : Itr) : Prop where
  stop : ∀ (j : Nat) ρ H hp, Ext ρ1 H1 ρ H → RelH K L ρ hp H → it.nx j hp = some none → J.stop j H
  go : ∀ (j : Nat) ρ H hp d, Ext ρ1 H1 ρ H → RelH K L ρ hp H → it.nx j hp = some (some d) → J.go j H ∧ ∀ x H', J.yld j H x H' → Ext ρ H ρ H' ∧ RelH K L ρ hp H' ∧ RD K L ρ H' d x
def UnI (K : PySem.W.Frag) (L : Lay) (H0 : Hp) (ρ1 : List Addr) (Hu H1 : Hp) (it : Itr) : Prop :=
  (Hu = H1 ∧ it.un = id) ∨ ∃ (d : Addr) (i : Nat) (od : Obj) (vs : List (Key × V)) (kvs : List (Key × D)), (∀ o' u', H0 d ≠ some (.frz o' u')) ∧ Hu d = some (.dK vs) ∧ H1 = upd Hu d (.frz od (.dK vs)) ∧ ρ1[i]? = some d ∧ RKs K L ρ1 Hu kvs vs ∧ it.un = fun h => h.set i (.dic kvs)
def KI (K : PySem.W.Frag) (L : Lay) (H0 : Hp) (ρ : List Addr) (H : Hp) (R : It → Hp → Prop) : Itr → Hq → Prop := fun itr hp' => ∀ ρ1 Hu H1 J, Ext ρ H ρ1 Hu → RelH K L ρ1 hp' H1 → RIt K L ρ1 H1 J itr → UnI K L H0 ρ1 Hu H1 itr → R J H1
section
variable {K : PySem.W.Frag} {L : Lay} {ρ ρ1 ρ' : List Addr} {H H' Hu H1 H0 : Hp} {hp hp' : Hq} {it : Itr}
theorem UnI.ext (h : UnI K L H0 ρ1 Hu H1 it) : Ext ρ1 Hu ρ1 H1 := by
  rcases h with ⟨rfl, _⟩ | ⟨d, i, od, vs, kvs, hn, hd, e, hi, rk, hu⟩
  · exact Ext.refl _ _
  · subst e
    refine ⟨⟨[], by simp⟩, fun _ h => .inl h, fun a o h n => ?_, fun a o h s => ?_, fun a o k h => ?_⟩
    · rw [upd_ne fun z => n (by rw [z]; exact List.mem_of_getElem? hi)]; exact h
    · rw [upd_ne fun z => by subst z; rw [hd] at h; cases h; cases s]; exact h
    · rw [upd_ne fun z => by subst z; rw [hd] at h; cases h]; exact h
theorem UnI.fin {P : Hp → Prop} (h : UnI K L H0 ρ1 Hu H1 it) (e : Ext ρ1 H1 ρ' H') (r : RelH K L ρ' hp' H') (k : ∀ H'', Ext ρ1 Hu ρ' H'' → ExtW ρ' H' ρ' H'' → (∀ a u, H' a = some u → (∀ o' u', u ≠ .frz o' u') → H'' a = some u) → RelH K L ρ' (it.un hp') H'' → P H'') : unP H0 P H' := by
  rcases h with ⟨rfl, hu⟩ | ⟨d, i, od, vs, kvs, hn, hd, e1, hi, rk, hu⟩
  · left
    rw [hu] at k
    exact k H' e ⟨⟨[], by simp⟩, fun _ _ h _ => h⟩ (fun _ _ h _ => h) r
  · right
    subst e1
    have hd' : H' d = some (.frz od (.dK vs)) := e.fz d od vs upd_same
    have nd : ∀ {a o}, Hu a = some o → Stb o → a ≠ d := fun {a o} h s z => by subst z; rw [hd] at h; cases h; cases s
    have w : ExtW ρ' H' ρ' (upd H' d (.dK vs)) := ⟨⟨[], by simp⟩, fun a o h s => by rw [upd_ne fun z => by subst z; rw [hd'] at h; cases h; cases s]; exact h⟩
    have wu : ExtW ρ1 Hu ρ' H' := ⟨e.pre, fun a o h s => e.st a o (by rw [upd_ne (nd h s)]; exact h) s⟩
    have rk' : RKs K L ρ' H' kvs vs := rk.monoW wu
    have hi' : ρ'[i]? = some d := e.ix hi
    refine ⟨d, od, .dK vs, hd', hn, k _ ⟨e.pre, fun a ha => ?_, fun a o h n => ?_, fun a o h s => ?_, fun a o q h => ?_⟩ w (fun a u h hu => by rw [upd_ne fun z => by subst z; rw [hd'] at h; cases h; exact hu _ _ rfl]; exact h) ?_⟩
    · rcases e.new a ha with q | q
      · exact .inl q
      · by_cases z : a = d
        · subst z; exact .inl (List.mem_of_getElem? hi)
        · rw [upd_ne z] at q; exact .inr q
    · have z : a ≠ d := fun z => n (by rw [z]; exact List.mem_of_getElem? hi)
      rw [upd_ne z]
      exact e.out a o (by rw [upd_ne z]; exact h) n
    · rw [upd_ne (nd h s)]
      exact e.st a o (by rw [upd_ne (nd h s)]; exact h) s
    · have z : a ≠ d := fun z => by subst z; rw [hd] at h; cases h
      rw [upd_ne z]
      exact e.fz a o q (by rw [upd_ne z]; exact h)
    · rw [hu]
      have hl : i < hp'.length := by rw [← r.len]; exact (List.getElem?_eq_some_iff.mp hi').1
      refine ⟨r.nd, by simp [r.len], fun j o' h => ?_⟩
      by_cases hj : i = j
      · subst hj
        have h : (hp'.set i (.dic kvs))[i]? = some o' := h
        rw [List.getElem?_set_self hl] at h
        cases h
        exact ⟨d, _, hi', upd_same, .dic (rk'.monoW w)⟩
      · have h : (hp'.set i (.dic kvs))[j]? = some o' := h
        rw [List.getElem?_set_ne hj] at h
        obtain ⟨b, u', h1, h2, h3⟩ := r.at_ j o' h
        refine ⟨b, u', h1, ?_, h3.monoW w⟩
        rw [upd_ne fun z => hj (nodup_at r.nd hi' (by rw [← z]; exact h1))]
        exact h2

theorem rks_at : ∀ {kvs : List (Key × D)} {vs : List (Key × V)} {j : Nat} {k : Key} {v : V}, RKs K L ρ H kvs vs → vs[j]? = some (k, v) → ∃ d, kvs[j]? = some (k, d) ∧ RD K L ρ H d v
  | _, _, _, _, _, .nil, h => by simp at h
  | (k', d) :: _, _, 0, k, v, .cons (b := (k2, v')) r _, h => by
    obtain ⟨e, r⟩ := r
    have e : k' = k2 := e
    subst e
    have h : (k', v') = (k, v) := by simpa using h
    cases h
    exact ⟨d, rfl, r⟩
  | _ :: _, _, j + 1, k, v, .cons _ t, h => by
    obtain ⟨d, h1, h2⟩ := rks_at (j := j) t (by simpa using h)
    exact ⟨d, by simpa using h1, h2⟩

/-! ### the kinds -/
theorem rit_list {i : Nat} {a : Addr} (ha : ρ1[i]? = some a) : RIt K L ρ1 H1 (Itl K a) (itLst i) where
  stop := fun j ρ H hp e r h => by
    cases g : gtL hp i with
    | none => simp [itLst, g] at h
    | some xs =>
      simp [itLst, g] at h
      obtain ⟨vs, h1, h2⟩ := r.lst (e.ix ha) g
      exact ⟨vs, .of h1, by rw [← h2.len]; exact h⟩
  go := fun j ρ H hp d e r h => by
    cases g : gtL hp i with
    | none => simp [itLst, g] at h
    | some xs =>
      have h : xs[j]? = some d := by simpa [itLst, g] using h
      obtain ⟨vs, h1, h2⟩ := r.lst (e.ix ha) g
      obtain ⟨v, h3, h4⟩ := h2.get h
      refine ⟨⟨vs, v, .of h1, h3⟩, fun x H' y => ?_⟩
      obtain ⟨rfl, y⟩ := y
      have := y vs (.of h1)
      rw [h3] at this
      cases this
      exact ⟨Ext.refl _ _, r, h4⟩
theorem rit_fixL {ds : List D} {vs : List V} {a : Addr} (hs : KlL K H1 a vs) (t : RDs K L ρ1 H1 ds vs) : RIt K L ρ1 H1 (Itl K a) (itFix ds) where
  stop := fun j ρ H hp e r h => by
    have h : ds[j]? = none := by simpa [itFix] using h
    exact ⟨vs, (KlL.mono e hs).sq, by rw [← t.len]; exact List.getElem?_eq_none_iff.mp h⟩
  go := fun j ρ H hp d e r h => by
    have h : ds[j]? = some d := by simpa [itFix] using h
    obtain ⟨v, h3, h4⟩ := t.get h
    refine ⟨⟨vs, v, (KlL.mono e hs).sq, h3⟩, fun x H' y => ?_⟩
    obtain ⟨rfl, y⟩ := y
    have := y vs (KlL.mono e hs).sq
    rw [h3] at this
    cases this
    exact ⟨Ext.refl _ _, r, h4.mono e⟩
theorem rit_fixT {ds : List D} {vs : List V} {a : Addr} (hs : SqT K H1 a vs) (t : RDs K L ρ1 H1 ds vs) : RIt K L ρ1 H1 (Itt K a) (itFix ds) where
  stop := fun j ρ H hp e r h => by
    have h : ds[j]? = none := by simpa [itFix] using h
    exact ⟨vs, SqT.mono e hs, by rw [← t.len]; exact List.getElem?_eq_none_iff.mp h⟩
  go := fun j ρ H hp d e r h => by
    have h : ds[j]? = some d := by simpa [itFix] using h
    obtain ⟨v, h3, h4⟩ := t.get h
    refine ⟨⟨vs, v, SqT.mono e hs, h3⟩, fun x H' y => ?_⟩
    obtain ⟨rfl, y⟩ := y
    have := y vs (SqT.mono e hs)
    rw [h3] at this
    cases this
    exact ⟨Ext.refl _ _, r, h4.mono e⟩
theorem rit_str {x : Str} {un : Hq → Hq} : RIt K L ρ1 H1 (Its x) ⟨fun j _ => some ((x.cps[j]?).map fun c => .str ⟨#[c]⟩), un⟩ where
  stop := fun j ρ H hp e r h => by
    have h : x.cps[j]? = none := by simpa using h
    exact Array.getElem?_eq_none_iff.mp h
  go := fun j ρ H hp d e r h => by
    have h : ∃ c, x.cps[j]? = some c ∧ D.str ⟨#[c]⟩ = d := by simpa using h
    obtain ⟨c, hx, rfl⟩ := h
    refine ⟨(Array.getElem?_eq_some_iff.mp hx).1, fun v H' y => ?_⟩
    obtain ⟨rfl, c', h', rfl⟩ := y
    rw [hx] at h'
    cases h'
    exact ⟨Ext.refl _ _, r, .str _⟩
theorem rit_rng {lo hi : Int} : RIt K L ρ1 H1 (L2.Itr lo (hi - lo).toNat) (itRng lo hi) where
  stop := fun j ρ H hp e r h => by
    have h : (if (j : Int) < hi - lo then some (D.int (lo + j)) else none) = none := by simpa [itRng] using h
    split at h
    · cases h
    · show (hi - lo).toNat ≤ j
      omega
  go := fun j ρ H hp d e r h => by
    have h : (if (j : Int) < hi - lo then some (D.int (lo + j)) else none) = some d := Option.some.inj h
    split at h
    · cases h
      refine ⟨by show j < (hi - lo).toNat; omega, fun v H' y => ?_⟩
      obtain ⟨rfl, rfl⟩ := y
      exact ⟨Ext.refl _ _, r, .int _⟩
    · cases h
/-- a dict that stands still -/
theorem rit_keys {d : Addr} {o : Obj} {kvs : List (Key × D)} {vs : List (Key × V)} {un : Hq → Hq} (hd : H1 d = some (.frz o (.dK vs))) (t : RKs K L ρ1 H1 kvs vs) : RIt K L ρ1 H1 (Itk d o vs) ⟨fun j _ => some ((kvs.map fun kv => keyD kv.1)[j]?), un⟩ where
  stop := fun j ρ H hp e r h => by
    have h : kvs.length ≤ j := by simpa using h
    exact ⟨e.fz _ _ _ hd, by rw [← t.len]; exact h⟩
  go := fun j ρ H hp x e r h => by
    have h : ∃ k y, kvs[j]? = some (k, y) ∧ keyD k = x := by simpa using h
    obtain ⟨k, y, hx, rfl⟩ := h
    have hl := (List.getElem?_eq_some_iff.mp hx).1
    refine ⟨⟨e.fz _ _ _ hd, by rw [← t.len]; exact hl⟩, fun v H' z => ?_⟩
    obtain ⟨rfl, k', w, h', rfl⟩ := z
    obtain ⟨d', h2, _⟩ := rks_at t h'
    rw [hx] at h2
    cases h2
    exact ⟨Ext.refl _ _, r, keyD_kV k⟩
theorem rit_vals {d : Addr} {o : Obj} {kvs : List (Key × D)} {vs : List (Key × V)} {un : Hq → Hq} (hd : H1 d = some (.frz o (.dK vs))) (t : RKs K L ρ1 H1 kvs vs) : RIt K L ρ1 H1 (Itd d o vs) ⟨fun j _ => some ((kvs.map fun kv => kv.2)[j]?), un⟩ where
  stop := fun j ρ H hp e r h => by
    have h : kvs.length ≤ j := by simpa using h
    exact ⟨e.fz _ _ _ hd, by rw [← t.len]; exact h⟩
  go := fun j ρ H hp x e r h => by
    have h : ∃ k, kvs[j]? = some (k, x) := by simpa using h
    obtain ⟨k, hx⟩ := h
    have hl := (List.getElem?_eq_some_iff.mp hx).1
    refine ⟨⟨e.fz _ _ _ hd, by rw [← t.len]; exact hl⟩, fun v H' z => ?_⟩
    obtain ⟨rfl, k', h'⟩ := z
    obtain ⟨d', h2, h3⟩ := rks_at t h'
    rw [hx] at h2
    cases h2
    exact ⟨Ext.refl _ _, r, h3.mono e⟩
theorem rit_items {d : Addr} {o : Obj} {kvs : List (Key × D)} {vs : List (Key × V)} {un : Hq → Hq} (hd : H1 d = some (.frz o (.dK vs))) (t : RKs K L ρ1 H1 kvs vs) : RIt K L ρ1 H1 (Iti d o vs) ⟨fun j _ => some ((kvs.map fun kv => D.tup [keyD kv.1, kv.2])[j]?), un⟩ where
  stop := fun j ρ H hp e r h => by
    have h : kvs.length ≤ j := by simpa using h
    exact ⟨e.fz _ _ _ hd, by rw [← t.len]; exact h⟩
  go := fun j ρ H hp x e r h => by
    have h : ∃ k y, kvs[j]? = some (k, y) ∧ D.tup [keyD k, y] = x := by simpa using h
    obtain ⟨k, y, hx, rfl⟩ := h
    have hl := (List.getElem?_eq_some_iff.mp hx).1
    refine ⟨⟨e.fz _ _ _ hd, by rw [← t.len]; exact hl⟩, fun v H' z => ?_⟩
    obtain ⟨T, k', w, h', rfl, hT, rfl⟩ := z
    obtain ⟨d', h2, h3⟩ := rks_at t h'
    rw [hx] at h2
    cases h2
    obtain ⟨r2, e2⟩ := r.tmp (u := .tup [kV k, w]) hT
    exact ⟨e2, r2, .tup (.of upd_same) (.cons (keyD_kV k) (.cons ((h3.mono e).mono e2) .nil))⟩
theorem rit_enum {i : Nat} {a : Addr} (ha : ρ1[i]? = some a) : RIt K L ρ1 H1 (Ite K a) (itEnum i) where
  stop := fun j ρ H hp e r h => by
    cases g : gtL hp i with
    | none => simp [itEnum, g] at h
    | some xs =>
      simp [itEnum, g] at h
      obtain ⟨vs, h1, h2⟩ := r.lst (e.ix ha) g
      exact ⟨vs, .of h1, by rw [← h2.len]; exact h⟩
  go := fun j ρ H hp d e r h => by
    cases g : gtL hp i with
    | none => simp [itEnum, g] at h
    | some xs =>
      have h : ∃ y, xs[j]? = some y ∧ D.tup [.int j, y] = d := by simpa [itEnum, g] using h
      obtain ⟨y, hx, rfl⟩ := h
      obtain ⟨vs, h1, h2⟩ := r.lst (e.ix ha) g
      obtain ⟨v, h3, h4⟩ := h2.get hx
      refine ⟨⟨vs, v, .of h1, h3⟩, fun x H' z => ?_⟩
      obtain ⟨T, w, rfl, hT, rfl, z⟩ := z
      have := z vs (.of h1)
      rw [h3] at this
      cases this
      obtain ⟨r2, e2⟩ := r.tmp (u := .tup [.int (j : Nat), v]) hT
      exact ⟨e2, r2, .tup (.of upd_same) (.cons (.int _) (.cons (h4.mono e2) .nil))⟩
theorem rit_zip {i k : Nat} {a b : Addr} (ha : ρ1[i]? = some a) (hb : ρ1[k]? = some b) : RIt K L ρ1 H1 (Itz K a b) (itZip i k) where
  stop := fun j ρ H hp e r h => by
    cases g : gtL hp i with
    | none => simp [itZip, g] at h
    | some xs =>
      cases g2 : gtL hp k with
      | none => simp [itZip, g, g2] at h
      | some ys =>
        obtain ⟨vs, h1, h2⟩ := r.lst (e.ix ha) g
        obtain ⟨us, h3, h4⟩ := r.lst (e.ix hb) g2
        refine ⟨vs, us, .of h1, .of h3, ?_⟩
        rw [← h2.len, ← h4.len]
        cases e1 : xs[j]? with
        | none => exact .inl (List.getElem?_eq_none_iff.mp e1)
        | some x =>
          cases e2 : ys[j]? with
          | none => exact .inr (List.getElem?_eq_none_iff.mp e2)
          | some y => simp [itZip, g, g2, e1, e2] at h
  go := fun j ρ H hp d e r h => by
    cases g : gtL hp i with
    | none => simp [itZip, g] at h
    | some xs =>
      cases g2 : gtL hp k with
      | none => simp [itZip, g, g2] at h
      | some ys =>
        obtain ⟨vs, h1, h2⟩ := r.lst (e.ix ha) g
        obtain ⟨us, h3, h4⟩ := r.lst (e.ix hb) g2
        cases e1 : xs[j]? with
        | none => simp [itZip, g, g2, e1] at h
        | some x =>
          cases e2 : ys[j]? with
          | none => simp [itZip, g, g2, e1, e2] at h
          | some y =>
            have h : D.tup [x, y] = d := by simpa [itZip, g, g2, e1, e2] using h
            subst h
            obtain ⟨v, k1, k2⟩ := h2.get e1
            obtain ⟨u, k3, k4⟩ := h4.get e2
            refine ⟨⟨vs, us, v, u, .of h1, .of h3, k1, k3⟩, fun w H' z => ?_⟩
            obtain ⟨T, v', u', rfl, hT, rfl, z1, z2⟩ := z
            have q1 := z1 vs (.of h1)
            have q2 := z2 us (.of h3)
            rw [k1] at q1
            rw [k3] at q2
            cases q1
            cases q2
            obtain ⟨r2, x2⟩ := r.tmp (u := .tup [v, u]) hT
            exact ⟨x2, r2, .tup (.of upd_same) (.cons (k2.mono x2) (.cons (k4.mono x2) .nil))⟩
end
end MI
/-! MI, part 12: what is walked, as it stands in the text. -/
namespace MI
open PySem PySem.Spec PyProof.Rows L2

def tI (K : PySem.W.Frag) (L : Lay) (g : Glob) (cl : Cl) (W : WX) (H0 : Hp) (it : Ix) : TI := fun σ H R => ∃ ρ hp env, RelH K L ρ hp H ∧ RE K L ρ H env σ ∧ wIt g cl it env hp (KI K L H0 ρ H R) (KX K L ρ H σ W)
section
variable {X : Cx} {L : Lay} {g : Glob} {cl : Cl} {W : WX} {x y tg : Expr} {a b : Ex} {pos : Pos}
theorem dic_in {pins : List (Addr × Obj)} {σ : L2.St} {H1 : Hp} {s1 : Shared} {ρ1 : List Addr} {hp1 hp2 : Hq} {i : Nat} {d : Addr} {f : Key × D → D} {itr : MI.Itr} (I : Inv X pins σ H1 s1) (r : RelH X.K L ρ1 hp1 H1) (hs : ρ1[i]? = some d) (h : itDic f hp1 (.ref i) = some (itr, hp2)) :
    ∃ od vs kvs HL un, Inv X pins σ HL s1 ∧ HL d = some (.frz od (.dK vs)) ∧ RelH X.K L ρ1 hp2 HL ∧ RKs X.K L ρ1 HL kvs vs ∧ itr = ⟨fun j _ => some ((kvs.map f)[j]?), un⟩ ∧ UnI X.K L X.H_0 ρ1 H1 HL itr := by
  obtain ⟨o, u, g1, g2, g3⟩ := r.at2 hs
  unfold itDic at h
  simp only [g1] at h
  cases g3 with
  | @dic kvs vs t =>
    cases h
    obtain ⟨od, I2⟩ := I.lock g2 trivial
    obtain ⟨r2, e2⟩ := r.put (o := .fdic kvs) (u := .frz od (.dK vs)) hs (.fdic t) (by intro o k z; rw [g2] at z; cases z)
    exact ⟨od, vs, kvs, _, _, I2, upd_same, r2, t.mono e2, rfl, .inr ⟨d, i, od, vs, kvs, I.nofrz g2 trivial, g2, rfl, hs, t, rfl⟩⟩
  | @fdic kvs vs ob t =>
    cases h
    exact ⟨ob, vs, kvs, H1, _, I, g2, r, t, rfl, .inl ⟨rfl, rfl⟩⟩
  | _ => cases h
theorem seq_dic {hp : Hq} {i : Nat} {o : O} (h : hp[i]? = some o) (hl : ∀ xs, o ≠ .lst xs) : itSeq hp (.ref i) = itDic (fun kv => keyD kv.1) hp (.ref i) := by
  unfold itSeq itDic
  simp only [h]
  cases o with
  | lst xs => exact absurd rfl (hl xs)
  | _ => rfl

theorem i_vl (hm : ClMono cl) (ha : PE X x (tE X.K L g cl W a)) : PI X tg x (tI X.K L g cl W X.H_0 (.vl a)) := by
  refine ⟨fun pins s σ H R I ⟨ρ, hp, env, r, re, h⟩ => ?_⟩
  unfold wIt at h
  refine thn (ha.run pins s σ H (fun v1 H1 => ∃ ρ1 hp1 d1, Ext ρ H ρ1 H1 ∧ RelH X.K L ρ1 hp1 H1 ∧ RD X.K L ρ1 H1 d1 v1 ∧ ∃ itr hp2, itSeq hp1 d1 = some (itr, hp2) ∧ KI X.K L X.H_0 ρ H R itr hp2) I
    ⟨ρ, hp, env, r, re, wE_mono hm a env hp _ _ _ _ (fun d1 hp1 q1 => ?_) (fun _ _ _ z => z) h⟩) fun v s1 ⟨x1, H1, I1, rx, q⟩ => ?_
  · intro ρ1 H1 v1 e1 r1 d1r
    cases eq : itSeq hp1 d1 with
    | none => simp only [eq] at q1
    | some p =>
      obtain ⟨itr, hp2⟩ := p
      simp only [eq] at q1
      exact ⟨ρ1, hp1, d1, e1, r1, d1r, itr, hp2, eq, q1⟩
  · obtain ⟨ρ1, hp1, d1, e1, r1, d1r, itr, hp2, eq, q1⟩ := q
    cases d1r with
    | @tup p xs ds hs t =>
      cases eq
      obtain rfl : v = Value.ref p := rx
      obtain ⟨its, rv, ht, hz⟩ := I1.tuple hs
      exact wpAny_pyIter_tuple (show s1.heap.IsTuple p its.toArray from ht) (pi_one (tk := s1.toks) I1 _ (turn_tuple p _) ⟨_, Heap.get?_push_size _ rfl, rfl, rfl⟩ (q1 ρ1 H1 H1 _ e1 r1 (rit_fixT hs t) (.inl ⟨rfl, rfl⟩)))
    | @kl p xs ds hs t =>
      cases eq
      obtain rfl : v = Value.ref p := rx
      obtain ⟨its, rv, ht, hz⟩ := I1.list hs.sq
      exact wpAny_pyIter_list ht.isList (pi_one (tk := s1.toks) I1 _ (turn_list p _) ⟨_, Heap.get?_push_size _ rfl, rfl, rfl⟩ (q1 ρ1 H1 H1 _ e1 r1 (rit_fixL hs t) (.inl ⟨rfl, rfl⟩)))
    | str z =>
      cases eq
      obtain ⟨t, rfl⟩ := rx
      have q := q1 ρ1 H1 H1 _ e1 r1 rit_str (.inl ⟨rfl, rfl⟩)
      cases hz : z.cps.all (· < 128)
      · exact wpAny_pyIter_wide hz (pi_one (tk := s1.toks) I1 _ (turn_str _ z t "str_iterator" (.inr rfl)) ⟨_, Heap.get?_push_size _ rfl, rfl, rfl⟩ q)
      · exact wpAny_pyIter_ascii hz (pi_one (tk := s1.toks) I1 _ (turn_str _ z t "str_ascii_iterator" (.inl rfl)) ⟨_, Heap.get?_push_size _ rfl, rfl, rfl⟩ q)
    | @ref i p hs =>
      obtain rfl : v = Value.ref p := rx
      obtain ⟨o, u, g1, g2, g3⟩ := r1.at2 hs
      by_cases hl : ∃ xs, o = .lst xs
      · obtain ⟨xs, rfl⟩ := hl
        unfold itSeq at eq
        simp only [g1] at eq
        cases eq
        cases g3 with
        | @lst _ vs t =>
          obtain ⟨its, rv, ht, hz⟩ := I1.list (SqL.of g2)
          exact wpAny_pyIter_list ht.isList (pi_one (tk := s1.toks) I1 _ (turn_list p _) ⟨_, Heap.get?_push_size _ rfl, rfl, rfl⟩ (q1 ρ1 H1 H1 _ e1 r1 (rit_list hs) (.inl ⟨rfl, rfl⟩)))
      · rw [seq_dic g1 (fun xs z => hl ⟨xs, z⟩)] at eq
        obtain ⟨od, vs, kvs, HL, un, I2, hd, r2, t, ei, ui⟩ := dic_in I1 r1 hs eq
        have q := q1 ρ1 H1 HL _ e1 r2 (by rw [ei]; exact rit_keys hd t) ui
        obtain ⟨hss, hgd, hx, es, ep, us, hdt, hsz, kv, hmm⟩ := I2.frzK hd
        refine iter_keys hss hgd hx hdt (pi_one (tk := s1.toks) I2 _ (turn_keys _ hdt) ⟨_, Heap.get?_push_size _ rfl, rfl, ?_⟩ q)
        rw [hsz] <;> rfl
    | _ => cases eq
theorem i_rng1 (hm : ClMono cl) {p : Pos} (hg : Gl X "range") (hmg : X.mg "range" = none) (ha : PE X x (tE X.K L g cl W a)) (hs : starEach [x] X.env = [(false, eval x X.env)]) (hs0 : starEach [] X.env = []) : PI X tg (.Call (.Name "range" p) [x] [] pos) (tI X.K L g cl W X.H_0 (.rng1 a)) :=
  PI.imp (pi_range1 hg hmg (sa_cons hm ha sa_nil (by rw [hs, hs0])) hs) fun σ H R ⟨ρ, hp, env, r, re, h⟩ => by
    unfold wIt at h
    refine ⟨ρ, hp, env, r, re, ?_⟩
    show wE g cl a env hp _ _
    refine wE_mono hm a env hp _ _ _ _ (fun d1 hp1 q1 => ?_) (fun _ _ _ z => z) h
    intro ρ1 H1 vs e1 r1 dsr
    cases dsr with
    | cons d1r t =>
      cases t
      cases d1r with
      | int j =>
        obtain ⟨⟨q2, q3⟩, q4⟩ := q1
        exact ⟨j, rfl, q2, q3, by simpa using q4 ρ1 H1 H1 _ e1 r1 rit_rng (.inl ⟨rfl, rfl⟩)⟩
      | _ => exact False.elim q1
theorem i_rng2 (hm : ClMono cl) {p : Pos} (hg : Gl X "range") (hmg : X.mg "range" = none) (ha : PE X x (tE X.K L g cl W a)) (hb : PE X y (tE X.K L g cl W b)) (hs : starEach [x, y] X.env = [(false, eval x X.env), (false, eval y X.env)]) (hs2 : starEach [y] X.env = [(false, eval y X.env)]) (hs0 : starEach [] X.env = []) :
    PI X tg (.Call (.Name "range" p) [x, y] [] pos) (tI X.K L g cl W X.H_0 (.rng2 a b)) :=
  PI.imp (pi_range2 hg hmg (sa_cons hm ha (sa_cons hm hb sa_nil (by rw [hs2, hs0])) (by rw [hs, hs2])) hs hs2) fun σ H R ⟨ρ, hp, env, r, re, h⟩ => by
    unfold wIt at h
    refine ⟨ρ, hp, env, r, re, ?_⟩
    show wE g cl a env hp (fun d1 hp1 => wE g cl b env hp1 _ _) _
    refine wE_mono hm a env hp _ _ _ _ (fun d1 hp1 q1 => ?_) (fun _ _ _ z => z) h
    refine wE_mono hm b env hp1 _ _ _ _ (fun d2 hp2 q2 => ?_) (fun _ _ _ z => z) q1
    intro ρ1 H1 vs e1 r1 dsr
    cases dsr with
    | cons d1r t =>
      cases t with
      | cons d2r t =>
        cases t
        cases d1r <;> cases d2r <;> first | exact False.elim q2 | skip
        rename_i i j
        obtain ⟨⟨⟨c1, c2⟩, c3, c4⟩, q4⟩ := q2
        exact ⟨i, j, rfl, ⟨c1, c2, c3, c4⟩, q4 ρ1 H1 H1 _ e1 r1 rit_rng (.inl ⟨rfl, rfl⟩)⟩
theorem i_enum (hm : ClMono cl) {p tpos : Pos} {elts : List Expr} {kk : Nat} (hg : Gl X "enumerate") (hmg : X.mg "enumerate" = none) (ha : PE X x (tE X.K L g cl W a)) (hs : starEach [x] X.env = [(false, eval x X.env)]) (hs0 : starEach [] X.env = []) :
    PI X (.Tuple elts kk tpos) (.Call (.Name "enumerate" p) [x] [] pos) (tI X.K L g cl W X.H_0 (.enum a)) :=
  PI.imp (pi_enum hg hmg (sa_cons hm ha sa_nil (by rw [hs, hs0])) hs) fun σ H R ⟨ρ, hp, env, r, re, h⟩ => by
    unfold wIt at h
    refine ⟨ρ, hp, env, r, re, ?_⟩
    show wE g cl a env hp _ _
    refine wE_mono hm a env hp _ _ _ _ (fun d1 hp1 q1 => ?_) (fun _ _ _ z => z) h
    intro ρ1 H1 vs e1 r1 dsr
    cases dsr with
    | cons d1r t =>
      cases t
      cases d1r with
      | @ref i p hs =>
        cases e : gtL hp1 i with
        | none => simp only [e] at q1
        | some xs =>
          simp only [e] at q1
          obtain ⟨vs, h1, h2⟩ := r1.lst hs e
          exact ⟨p, vs, rfl, .of h1, q1 ρ1 H1 H1 _ e1 r1 (rit_enum hs) (.inl ⟨rfl, rfl⟩)⟩
      | _ => exact False.elim q1
theorem i_zip (hm : ClMono cl) {p tpos : Pos} {elts : List Expr} {kk : Nat} (hg : Gl X "zip") (hmg : X.mg "zip" = none) (ha : PE X x (tE X.K L g cl W a)) (hb : PE X y (tE X.K L g cl W b)) (hs : starEach [x, y] X.env = (false, eval x X.env) :: starEach [y] X.env) (hs2 : starEach [y] X.env = [(false, eval y X.env)]) (hs0 : starEach [] X.env = [])
    (hpl : (backTo pos (starEach [y] X.env)).any (·.1) = false) :
    PI X (.Tuple elts kk tpos) (.Call (.Name "zip" p) [x, y] [] pos) (tI X.K L g cl W X.H_0 (.zip2 a b)) :=
  PI.imp (pi_zip hg hmg (sa_cons hm ha (sa_cons hm hb sa_nil (by rw [hs2, hs0])) hs) hs hpl) fun σ H R ⟨ρ, hp, env, r, re, h⟩ => by
    unfold wIt at h
    refine ⟨ρ, hp, env, r, re, ?_⟩
    show wE g cl a env hp (fun d1 hp1 => wE g cl b env hp1 _ _) _
    refine wE_mono hm a env hp _ _ _ _ (fun d1 hp1 q1 => ?_) (fun _ _ _ z => z) h
    refine wE_mono hm b env hp1 _ _ _ _ (fun d2 hp2 q2 => ?_) (fun _ _ _ z => z) q1
    intro ρ1 H1 vs e1 r1 dsr
    cases dsr with
    | cons d1r t =>
      cases t with
      | cons d2r t =>
        cases t
        cases d1r <;> cases d2r <;> first | exact False.elim q2 | skip
        rename_i i a1 hs1 j b1 hs2
        cases e : gtL hp2 i with
        | none => simp only [e] at q2
        | some xs =>
          cases e' : gtL hp2 j with
          | none => simp only [e, e'] at q2
          | some ys =>
            simp only [e, e'] at q2
            obtain ⟨vs, h1, h2⟩ := r1.lst hs1 e
            obtain ⟨us, h3, h4⟩ := r1.lst hs2 e'
            exact ⟨_, _, vs, us, rfl, .of h1, .of h3, q2 ρ1 H1 H1 _ e1 r1 (rit_zip hs1 hs2) (.inl ⟨rfl, rfl⟩)⟩
theorem i_items (hm : ClMono cl) {apos tpos : Pos} {elts : List Expr} {kk : Nat} (ha : PE X x (tE X.K L g cl W a)) (hbase : attributeBase x "items" X.env (eval x X.env) = eval x X.env) (hline : (apos.endLine == pos.line) = true) :
    PI X (.Tuple elts kk tpos) (.Call (.Attribute x "items" apos) [] [] pos) (tI X.K L g cl W X.H_0 (.items a)) := by
  refine ⟨fun pins s σ H R I ⟨ρ, hp, env, r, re, h⟩ => ?_⟩
  unfold wIt at h
  refine wpAny_Call_method (T := "dict") (id := "dict.items") hbase rfl hline F.plainAttrs_dict F.slot_dict_items F.type_dict_items (thn (ha.run pins s σ H (fun v1 H1 => ∃ ρ1 hp1 d1, Ext ρ H ρ1 H1 ∧ RelH X.K L ρ1 hp1 H1 ∧ RD X.K L ρ1 H1 d1 v1 ∧ ∃ itr hp2, itDic (fun kv => .tup [keyD kv.1, kv.2]) hp1 d1 = some (itr, hp2) ∧ KI X.K L X.H_0 ρ H R itr hp2) I
    ⟨ρ, hp, env, r, re, wE_mono hm a env hp _ _ _ _ (fun d1 hp1 q1 => ?_) (fun _ _ _ z => z) h⟩) fun v s1 ⟨x1, H1, I1, rx, q⟩ => ?_)
  · intro ρ1 H1 v1 e1 r1 d1r
    cases eq : itDic (fun kv => .tup [keyD kv.1, kv.2]) hp1 d1 with
    | none => simp only [eq] at q1
    | some p =>
      obtain ⟨itr, hp2⟩ := p
      simp only [eq] at q1
      exact ⟨ρ1, hp1, d1, e1, r1, d1r, itr, hp2, eq, q1⟩
  · obtain ⟨ρ1, hp1, d1, e1, r1, d1r, itr, hp2, eq, q1⟩ := q
    cases d1r with
    | @ref i d hs =>
      obtain rfl : v = Value.ref d := rx
      obtain ⟨od, vs, kvs, HL, un, I2, hd, r2, t, ei, ui⟩ := dic_in I1 r1 hs eq
      have q := q1 ρ1 H1 HL _ e1 r2 (by rw [ei]; exact rit_items hd t) ui
      obtain ⟨hss, hgd, hx, es, ep, us, hdt, hsz, kv, hmm⟩ := I2.frzK hd
      have hl : vs.length = us.length := Paired.length kv
      refine ⟨hmm.dictOf.typeIs, hmm.dictOf.mapOf.noDict, ?_⟩
      have I3 : Inv X pins σ HL { s1 with heap := s1.heap.push { cls := .type "dict_items", data := .fields #[.ref d] } } := I2.kept (t' := s1.toks) fun b ob q => Heap.get?_push_of_some _ q
      have fin : wpAny (model X.prog X.w) X.A (pyIter (.ref s1.heap.objs.size)) (PIE X pins σ (.Tuple elts kk tpos) R) X.xe { s1 with heap := s1.heap.push { cls := .type "dict_items", data := .fields #[.ref d] } } := by
        refine wpAny_pyIter_items (d := d) (knd := mixKind X.prog X.w) ⟨_, Heap.get?_push_size _ rfl, rfl, rfl⟩ (hmm.push _) (pi_one (tk := s1.toks) I3 _ (turn_items _ hdt) ⟨.none, .none, ?_⟩ q)
        rw [hl]
        exact Heap.get?_push_size _ rfl
      show wpAny _ _ (callWith pos (.builtin "dict.items") [.ref d] [] []) _ X.xe s1
      exact method_meetsIn F.slot_dict_items F.entry_dict_items rfl (PySem.evalArgs_none ⟨rfl, hmm.dictOf.typeIs, F.args_dict_items_1 _, _, meets_dict_items (mixKind X.prog X.w) d hss, ⟨us, hmm.dictOf⟩, fin⟩)
    | _ => cases eq
theorem i_vals (hm : ClMono cl) {apos : Pos} (ha : PE X x (tE X.K L g cl W a)) (hbase : attributeBase x "values" X.env (eval x X.env) = eval x X.env) (hline : (apos.endLine == pos.line) = true) :
    PI X tg (.Call (.Attribute x "values" apos) [] [] pos) (tI X.K L g cl W X.H_0 (.vals a)) := by
  refine ⟨fun pins s σ H R I ⟨ρ, hp, env, r, re, h⟩ => ?_⟩
  unfold wIt at h
  refine wpAny_Call_method (T := "dict") (id := "dict.values") hbase rfl hline F.plainAttrs_dict F.slot_dict_values F.type_dict_values (thn (ha.run pins s σ H (fun v1 H1 => ∃ ρ1 hp1 d1, Ext ρ H ρ1 H1 ∧ RelH X.K L ρ1 hp1 H1 ∧ RD X.K L ρ1 H1 d1 v1 ∧ ∃ itr hp2, itDic (fun kv => kv.2) hp1 d1 = some (itr, hp2) ∧ KI X.K L X.H_0 ρ H R itr hp2) I
    ⟨ρ, hp, env, r, re, wE_mono hm a env hp _ _ _ _ (fun d1 hp1 q1 => ?_) (fun _ _ _ z => z) h⟩) fun v s1 ⟨x1, H1, I1, rx, q⟩ => ?_)
  · intro ρ1 H1 v1 e1 r1 d1r
    cases eq : itDic (fun kv => kv.2) hp1 d1 with
    | none => simp only [eq] at q1
    | some p =>
      obtain ⟨itr, hp2⟩ := p
      simp only [eq] at q1
      exact ⟨ρ1, hp1, d1, e1, r1, d1r, itr, hp2, eq, q1⟩
  · obtain ⟨ρ1, hp1, d1, e1, r1, d1r, itr, hp2, eq, q1⟩ := q
    cases d1r with
    | @ref i d hs =>
      obtain rfl : v = Value.ref d := rx
      obtain ⟨od, vs, kvs, HL, un, I2, hd, r2, t, ei, ui⟩ := dic_in I1 r1 hs eq
      have q := q1 ρ1 H1 HL _ e1 r2 (by rw [ei]; exact rit_vals hd t) ui
      obtain ⟨hss, hgd, hx, es, ep, us, hdt, hsz, kv, hmm⟩ := I2.frzK hd
      have hl : vs.length = us.length := Paired.length kv
      refine ⟨hmm.dictOf.typeIs, hmm.dictOf.mapOf.noDict, ?_⟩
      have I3 : Inv X pins σ HL { s1 with heap := s1.heap.push { cls := .type "dict_values", data := .fields #[.ref d] } } := I2.kept (t' := s1.toks) fun b ob q => Heap.get?_push_of_some _ q
      have fin : wpAny (model X.prog X.w) X.A (pyIter (.ref s1.heap.objs.size)) (PIE X pins σ tg R) X.xe { s1 with heap := s1.heap.push { cls := .type "dict_values", data := .fields #[.ref d] } } := by
        refine wpAny_pyIter_values (d := d) (knd := mixKind X.prog X.w) ⟨_, Heap.get?_push_size _ rfl, rfl, rfl⟩ (hmm.push _) (pi_one (tk := s1.toks) I3 _ (turn_vals _ hdt) ⟨_, Heap.get?_push_size _ rfl, rfl, ?_⟩ q)
        rw [hl] <;> rfl
      show wpAny _ _ (callWith pos (.builtin "dict.values") [.ref d] [] []) _ X.xe s1
      exact method_meetsIn F.slot_dict_values F.entry_dict_values rfl (PySem.evalArgs_none ⟨rfl, hmm.dictOf.typeIs, F.args_dict_values_1 _, _, meets_dict_values (mixKind X.prog X.w) d hss, ⟨us, hmm.dictOf⟩, fin⟩)
    | _ => cases eq
end
end MI
/-! MI, part 13: targets. -/
namespace MI
open PySem PySem.Spec PyProof.Rows L2

theorem wipe_get (σ : L2.St) (k : Nat) : ∀ own : List Nat, (L2.wipe σ own)[k]? = if k ∈ own then (σ[k]?).map (fun _ => none) else σ[k]?
  | [] => by simp [L2.wipe]
  | j :: r => by
    unfold L2.wipe
    by_cases h : j = k
    · subst h
      rw [List.getElem?_set]
      simp only [if_true, List.mem_cons, true_or, wipe_length]
      split
      · rename_i hl
        rw [List.getElem?_eq_getElem hl]; rfl
      · rename_i hl
        rw [List.getElem?_eq_none (Nat.le_of_not_lt hl)]; rfl
    · rw [List.getElem?_set_ne h, wipe_get σ k r]
      have : (k ∈ j :: r) ↔ k ∈ r := by
        constructor
        · intro m
          rcases List.mem_cons.mp m with e | e
          · exact absurd e.symm h
          · exact e
        · exact List.mem_cons_of_mem _
      simp only [this]
theorem wipe_set {σ : L2.St} {i : Nat} {x : Option V} {own : List Nat} (h : i ∈ own) : L2.wipe (σ.set i x) own = L2.wipe σ own := by
  apply List.ext_getElem?
  intro k
  rw [wipe_get, wipe_get]
  by_cases hk : k ∈ own
  · rw [if_pos hk, if_pos hk, List.getElem?_set]
    split
    · subst_vars
      split
      · rename_i hl
        rw [List.getElem?_eq_getElem hl]; rfl
      · rename_i hl
        rw [List.getElem?_eq_none (Nat.le_of_not_lt hl)]
    · rfl
  · rw [if_neg hk, if_neg hk, List.getElem?_set_ne (fun z : i = k => hk (by rw [← z]; exact h))]

def KG (K : PySem.W.Frag) (L : Lay) (ρ : List Addr) (H : Hp) (P : List Nat → Bool) (σ : L2.St) (Q : L2.St → Hp → Prop) : Env → Hq → Prop := fun env' hp' => ∀ ρ' H' σ', Ext ρ H ρ' H' → RelH K L ρ' hp' H' → RE K L ρ' H' env' σ' → (∀ own, P own = true → L2.wipe σ' own = L2.wipe σ own) → Q σ' H'
def tG (K : PySem.W.Frag) (L : Lay) (g : Glob) (cl : Cl) (t : Tg) : TG := fun v σ H Q => ∃ ρ hp env d, RelH K L ρ hp H ∧ RE K L ρ H env σ ∧ RD K L ρ H d v ∧ wTg g cl t d env hp (KG K L ρ H (fun own => tgIn own t) σ Q)
def tGs (K : PySem.W.Frag) (L : Lay) (g : Glob) (cl : Cl) (ts : Tgs) : TGs := fun vs σ H Q => ∃ ρ hp env ds, RelH K L ρ hp H ∧ RE K L ρ H env σ ∧ RDs K L ρ H ds vs ∧ wTgs g cl ts ds env hp (KG K L ρ H (fun own => tgsIn own ts) σ Q)
section
variable {X : Cx} {L : Lay} {g : Glob} {cl : Cl} {W : WX} {x y tg : Expr} {a b : Ex} {pos : Pos} {t : Tg} {ts : Tgs} {xs : List Expr}
theorem g_nm {i : Nat} {n : Str} (hN : X.N.Nodup) (hi : X.N[i]? = some n) (hx : Loc X.env.scope n) (hf : X.fn n = true ∨ X.env.scope.names.lookup n = some .local) : PG X (.Name n pos) (tG X.K L g cl (.nm i)) :=
  PG.imp (pg_name hN hi hx hf) fun v σ H Q ⟨ρ, hp, env, d, r, re, rd, h⟩ => by
    unfold wTg at h
    refine h ρ H _ (Ext.refl _ _) r (re.set i rd) fun own ho => ?_
    exact wipe_set (by unfold tgIn at ho; simpa using ho)
theorem gs_nil : PGs X [] (tGs X.K L g cl .nil) :=
  PGs.imp pgs_nil fun v σ H Q ⟨ρ, hp, env, ds, r, re, rd, h⟩ => by
    unfold wTgs at h
    cases rd with
    | nil => exact ⟨rfl, h ρ H σ (Ext.refl _ _) r re fun _ _ => rfl⟩
    | cons _ _ => exact False.elim h
theorem gs_cons (hm : ClMono cl) (h1 : PG X x (tG X.K L g cl t)) (h2 : PGs X xs (tGs X.K L g cl ts)) (hs : (assignEach (x :: xs) X.env).map (·.2) = assign x X.env :: (assignEach xs X.env).map (·.2)) : PGs X (x :: xs) (tGs X.K L g cl (.cons t ts)) :=
  PGs.imp (pgs_cons h1 h2 hs) fun v σ H Q ⟨ρ, hp, env, ds, r, re, rd, h⟩ => by
    unfold wTgs at h
    cases rd with
    | nil => exact False.elim h
    | @cons d v ds vs r1 r2 =>
      refine ⟨_, _, rfl, ρ, hp, env, d, r, re, r1, wTg_mono hm t d env hp _ _ (fun env1 hp1 q => ?_) h⟩
      intro ρ1 H1 σ1 e1 rr re1 w1
      refine ⟨ρ1, hp1, env1, ds, rr, re1, r2.mono e1, wTgs_mono hm ts ds env1 hp1 _ _ (fun env2 hp2 q2 => ?_) q⟩
      intro ρ2 H2 σ2 e2 rr2 re2 w2
      refine q2 ρ2 H2 σ2 (e1.trans e2) rr2 re2 fun own ho => ?_
      have ho : (tgIn own t && tgsIn own ts) = true := by unfold tgsIn at ho; exact ho
      rw [Bool.and_eq_true] at ho
      rw [w2 own ho.2, w1 own ho.1]
theorem g_tp (hc : X.calm = true) (h : PGs X xs (tGs X.K L g cl ts)) {k : Nat} (hn : (assignEach xs X.env).length = ts.len) (hst : (assignEach xs X.env).findIdx? (·.1) = none) : PG X (.Tuple xs k pos) (tG X.K L g cl (.tp ts)) :=
  PG.imp (pg_tup hc h hn hst) fun v σ H Q ⟨ρ, hp, env, d, r, re, rd, h⟩ => by
    unfold wTg at h
    cases rd with
    | @tup p vs ds hs t =>
      obtain ⟨hl, h⟩ := h
      exact ⟨p, vs, rfl, hs, by rw [← t.len, hl], ρ, hp, env, ds, r, re, t, h⟩
    | _ => exact False.elim h
theorem g_at (hm : ClMono cl) {S : Nm} {n : Nat} (T : TF S g X.prog X.w X.K X.mg X.base L n) {f : Nat} {nm : Str} (hf : S.attrs[f]? = some nm) (ha : PE X x (tE X.K L g cl W a)) : PG X (.Attribute x nm pos) (tG X.K L g cl (.at a f)) := by
  refine ⟨fun pins s σ H v u Q I rv ⟨ρ, hp, env, d, r, re, rd, h⟩ => ?_⟩
  unfold wTg at h
  rw [assign_Attribute]
  refine wpAny_bind (wpAny_holding (thn (ha.run pins s σ H (fun v1 H1 => ∃ ρ1 hp1 d1, Ext ρ H ρ1 H1 ∧ RelH X.K L ρ1 hp1 H1 ∧ RD X.K L ρ1 H1 d1 v1 ∧ (oSetF d1 f d hp1).app (KG X.K L ρ H (fun own => tgIn own (.at a f)) σ Q env)) I
    ⟨ρ, hp, env, r, re, wE_mono hm a env hp _ _ _ _ (fun d1 hp1 q1 => ?_) (fun _ _ _ z => False.elim z) h⟩) fun ov s1 ⟨x1, H1, I1, rx, q⟩ => ?_))
  · intro ρ1 H1 v1 e1 r1 d1r
    exact ⟨ρ1, hp1, d1, e1, r1, d1r, q1⟩
  · obtain ⟨ρ1, hp1, d1, e1, r1, d1r, q1⟩ := q
    cases d1r with
    | @ref i p hs =>
      unfold oSetF at q1
      cases e : gtI hp1 i with
      | none => simp only [e] at q1; exact False.elim q1
      | some cf =>
        obtain ⟨c, fs⟩ := cf
        simp only [e] at q1
        obtain ⟨hl, q1⟩ := q1
        obtain ⟨C, dx, vs, h1, h2, h3⟩ := r1.ins hs e
        obtain ⟨hc, hn⟩ := T.cls c C h1
        have hmem : nm ∈ S.attrs := List.mem_of_getElem? hf
        have hLa : L.attrs[f]? = some nm := by rw [T.att.1]; exact hf
        have hnd : L.attrs.Nodup := by rw [T.att.1]; exact T.att.2
        obtain rfl : ov = Value.ref p := rx
        obtain ⟨r2, e2⟩ := r1.put hs (.ins h1 (h3.put hnd hLa (rd.mono e1))) (by intro o k z; rw [h2] at z; cases z)
        refine wpAny_bind (wpAny_standAt (wpAny_bind (wpAny_holding (setattr_ok I1 h2 hc (hn nm hmem) (by rw [← h3.len]; omega) rv fun s3 I3 => ?_))))
        exact wpAny_release ⟨σ, _, I3, q1 ρ1 _ σ (e1.trans e2) r2 ((re.mono e1).mono e2) fun own ho => rfl⟩
    | _ => exact False.elim q1
theorem g_sb (hm : ClMono cl) (hu : X.A.units + 65 < cLine) (ha : PE X x (tE X.K L g cl W a)) (hb : PE X y (tE X.K L g cl W b)) (hns : isSub y = false) : PG X (.Subscript x y pos) (tG X.K L g cl (.sb a b)) :=
  PG.imp (pg_sub ha hb (mi_set (L := L) hu) (by intro v; cases y <;> first | rfl | cases hns)) fun v σ H Q ⟨ρ, hp, env, d, r, re, rd, h⟩ => by
    unfold wTg at h
    refine ⟨ρ, hp, env, r, re, wE_mono hm a env hp _ _ _ _ (fun d1 hp1 q1 => ?_) (fun _ _ _ z => False.elim z) h⟩
    intro ρ1 H1 v1 e1 r1 d1r
    refine ⟨ρ1, hp1, env, r1, re.mono e1, wE_mono hm b env hp1 _ _ _ _ (fun d2 hp2 q2 => ?_) (fun _ _ _ z => False.elim z) q1⟩
    intro ρ2 H2 v2 e2 r2 d2r
    refine ⟨ρ2, hp2, d1, d2, d, r2, d1r.mono e2, d2r, (rd.mono e1).mono e2, OutH.mono (fun hp3 k H3 e3 r3 => ?_) q2⟩
    exact k ρ2 H3 σ ((e1.trans e2).trans e3) r3 (((re.mono e1).mono e2).mono e3) fun own ho => rfl
end
end MI
/-! MI, part 14: statements. -/
namespace MI
open PySem PySem.Spec PyProof.Rows L2

def KSt (K : PySem.W.Frag) (L : Lay) (ρ : List Addr) (H : Hp) (D : Ends) (W : WX) : KS where
  nx := fun env' hp' => ∀ ρ' H' σ', Ext ρ H ρ' H' → RelH K L ρ' hp' H' → RE K L ρ' H' env' σ' → D.nx σ' H'
  bk := fun env' hp' => ∀ ρ' H' σ', Ext ρ H ρ' H' → RelH K L ρ' hp' H' → RE K L ρ' H' env' σ' → D.bk σ' H'
  ct := fun env' hp' => ∀ ρ' H' σ', Ext ρ H ρ' H' → RelH K L ρ' hp' H' → RE K L ρ' H' env' σ' → D.ct σ' H'
  rt := KQ K L ρ H D.rt
  ex := fun c i env' hp' => ∀ ρ' H' σ' a C, Ext ρ H ρ' H' → RelH K L ρ' hp' H' → RE K L ρ' H' env' σ' → ρ'[i]? = some a → L.clss[c]? = some C → W (.ref C) (some a) σ' H'
theorem KSt.ext {K : PySem.W.Frag} {L : Lay} {ρ ρ1 : List Addr} {H H1 : Hp} {D : Ends} {W : WX} (e : Ext ρ H ρ1 H1) : KS.le (KSt K L ρ H D W) (KSt K L ρ1 H1 D W) :=
  ⟨fun _ _ q ρ' H' σ' e' => q ρ' H' σ' (e.trans e'), fun _ _ q ρ' H' σ' e' => q ρ' H' σ' (e.trans e'), fun _ _ q ρ' H' σ' e' => q ρ' H' σ' (e.trans e'), fun _ _ q => KQ.ext q e, fun _ _ _ _ q ρ' H' σ' a C e' => q ρ' H' σ' a C (e.trans e')⟩
theorem KSt.kx {K : PySem.W.Frag} {L : Lay} {ρ ρ1 : List Addr} {H H1 : Hp} {D : Ends} {W : WX} {env : Env} {σ : L2.St} {c i : Nat} {hp : Hq} (re : RE K L ρ1 H1 env σ) (e : Ext ρ H ρ1 H1) (q : (KSt K L ρ H D W).ex c i env hp) : KX K L ρ1 H1 σ W c i hp :=
  fun ρ' H' a C e' r h1 h2 => q ρ' H' σ a C (e.trans e') r (re.mono e') h1 h2
section
variable (K : PySem.W.Frag) (L : Lay) (g : Glob) (cl : Cl) (W : WX)
def tS (s : MI.St) : TS := fun D σ H => ∃ ρ hp env, RelH K L ρ hp H ∧ RE K L ρ H env σ ∧ wS g cl s env hp (KSt K L ρ H D W)
def tSs (s : Sts) : TS := fun D σ H => ∃ ρ hp env, RelH K L ρ hp H ∧ RE K L ρ H env σ ∧ wSs g cl s env hp (KSt K L ρ H D W)
end
section
variable {X : Cx} {L : Lay} {g : Glob} {cl : Cl} {W : WX} {x y tg : Expr} {a b : Ex} {pos : Pos} {t : Tg} {s r : MI.St} {sb rs : Sts} {st : Stmt} {rest : List Stmt}
theorem ss_nil : PSs X [] (tSs X.K L g cl W .nil) :=
  PSs.imp pss_nil fun D σ H ⟨ρ, hp, env, r, re, h⟩ => by
    unfold wSs at h
    exact h ρ H σ (Ext.refl _ _) r re
theorem ss_cons (hm : ClMono cl) (h1 : PS X st (tS X.K L g cl W s)) (h2 : PSs X rest (tSs X.K L g cl W rs)) : PSs X (st :: rest) (tSs X.K L g cl W (.cons s rs)) :=
  PSs.imp (pss_cons h1 h2) fun D σ H ⟨ρ, hp, env, r, re, h⟩ => by
    unfold wSs at h
    refine ⟨ρ, hp, env, r, re, wS_mono hm s env hp { KSt X.K L ρ H D W with nx := fun env hp => wSs g cl rs env hp (KSt X.K L ρ H D W) } _ ⟨fun env' hp' q => ?_, fun _ _ q => q, fun _ _ q => q, fun _ _ q => q, fun _ _ _ _ q => q⟩ h⟩
    intro ρ' H' σ' e' r' re'
    exact ⟨ρ', hp', env', r', re', wSs_mono hm rs env' hp' _ _ (KSt.ext e') q⟩
theorem ss_never (h : PS X st tNever) : PSs X (st :: rest) (tSs X.K L g cl W (.cons .never rs)) := ⟨fun pins s σ H D I ⟨ρ, hp, env, r, re, h⟩ => by unfold wSs at h; exact False.elim h⟩
theorem s_never : PS X st (tS X.K L g cl W .never) := ⟨fun pins s σ H D I ⟨ρ, hp, env, r, re, h⟩ => False.elim h⟩
theorem s_pass : PS X (.Pass pos) (tS X.K L g cl W .pass) := PS.imp ps_pass fun D σ H ⟨ρ, hp, env, r, re, h⟩ => h ρ H σ (Ext.refl _ _) r re
theorem s_doc {z : Str} {j : Nat} {p : Pos} : PS X (.Expr (.Constant (.str z) j p) pos) (tS X.K L g cl W .pass) := PS.imp ps_doc fun D σ H ⟨ρ, hp, env, r, re, h⟩ => h ρ H σ (Ext.refl _ _) r re
theorem s_brk : PS X (.Break pos) (tS X.K L g cl W .brk) := PS.imp ps_break fun D σ H ⟨ρ, hp, env, r, re, h⟩ => h ρ H σ (Ext.refl _ _) r re
theorem s_cont : PS X (.Continue pos) (tS X.K L g cl W .cont) := PS.imp ps_continue fun D σ H ⟨ρ, hp, env, r, re, h⟩ => h ρ H σ (Ext.refl _ _) r re
theorem s_expr (hm : ClMono cl) (ha : PE X x (tE X.K L g cl W a)) (hs : swapsWith x none pos.line X.env = pure false) : PS X (.Expr x pos) (tS X.K L g cl W (.expr a)) :=
  PS.imp (ps_expr ha hs) fun D σ H ⟨ρ, hp, env, r, re, h⟩ => by
    unfold wS at h
    refine ⟨ρ, hp, env, r, re, wE_mono hm a env hp _ _ _ _ (fun d1 hp1 q1 => ?_) (fun c i hp1 z => KSt.kx re (Ext.refl _ _) z) h⟩
    intro ρ1 H1 v1 e1 r1 d1r
    exact q1 ρ1 H1 σ e1 r1 (re.mono e1)
theorem s_ret (hm : ClMono cl) (ha : PE X x (tE X.K L g cl W a)) : PS X (.Return (some x) pos) (tS X.K L g cl W (.ret (.so a))) :=
  PS.imp (ps_ret ha) fun D σ H ⟨ρ, hp, env, r, re, h⟩ => by
    unfold wS wEo at h
    exact ⟨ρ, hp, env, r, re, wE_mono hm a env hp _ _ _ _ (fun d1 hp1 q1 => q1) (fun c i hp1 z => KSt.kx re (Ext.refl _ _) z) h⟩
theorem s_retN : PS X (.Return none pos) (tS X.K L g cl W (.ret .no)) :=
  PS.imp ps_retN fun D σ H ⟨ρ, hp, env, r, re, h⟩ => by
    unfold wS wEo at h
    exact KQ.here h r .non
theorem s_asg (hm : ClMono cl) (ha : PE X x (tE X.K L g cl W a)) (hg : PG X tg (tG X.K L g cl t)) (hs : swapsWithSole [tg] x pos.line X.env = pure false) (hw : swappedStores [tg] x X.env = pure none) (h1 : (assignEach [tg] X.env).map (·.2) = [assign tg X.env]) : PS X (.Assign [tg] x pos) (tS X.K L g cl W (.asg t a)) :=
  PS.imp (ps_asg ha hg hs hw h1) fun D σ H ⟨ρ, hp, env, r, re, h⟩ => by
    unfold wS at h
    refine ⟨ρ, hp, env, r, re, wE_mono hm a env hp _ _ _ _ (fun d1 hp1 q1 => ?_) (fun c i hp1 z => KSt.kx re (Ext.refl _ _) z) h⟩
    intro ρ1 H1 v1 e1 r1 d1r
    refine ⟨ρ1, hp1, env, d1, r1, re.mono e1, d1r, wTg_mono hm t d1 env hp1 _ _ (fun env2 hp2 q2 => ?_) q1⟩
    intro ρ2 H2 σ2 e2 r2 re2 _
    exact q2 ρ2 H2 σ2 (e1.trans e2) r2 re2
theorem s_asgN (hm : ClMono cl) (ha : PE X x (tE X.K L g cl W a)) {i : Nat} {n : Str} {p : Pos} (hN : X.N.Nodup) (hi : X.N[i]? = some n) (hx : Loc X.env.scope n) (hs : swapsWith x (some (.Name n p)) pos.line X.env = pure false) (hf : X.fn n = true ∨ X.env.scope.names.lookup n = some .local) :
    PS X (.Assign [.Name n p] x pos) (tS X.K L g cl W (.asg (.nm i) a)) :=
  PS.imp (ps_set hN hi hx ha hs hf) fun D σ H ⟨ρ, hp, env, r, re, h⟩ => by
    unfold wS at h
    refine ⟨ρ, hp, env, r, re, wE_mono hm a env hp _ _ _ _ (fun d1 hp1 q1 => ?_) (fun c i hp1 z => KSt.kx re (Ext.refl _ _) z) h⟩
    intro ρ1 H1 v1 e1 r1 d1r
    unfold wTg at q1
    exact q1 ρ1 H1 _ e1 r1 ((re.mono e1).set i d1r)
theorem s_par (hm : ClMono cl) {i j : Nat} {u v : Str} {p q pt pt2 : Pos} {kt k2 : Nat} {xa xb : Expr} (hc : X.calm = true) (hN : X.N.Nodup) (hi : X.N[i]? = some u) (hj : X.N[j]? = some v) (hij : i ≠ j) (hx : X.env.scope.names.lookup u = some .local) (hy : X.env.scope.names.lookup v = some .local)
    (ha : PA X [xa, xb] (tEs X.K L g cl W (.cons a (.cons b .nil)))) (hw : swappedStores [.Tuple [.Name u p, .Name v q] kt pt] (.Tuple [xa, xb] k2 pt2) X.env = pure (some [u, v]))
    (hs : swapsWithSole [.Tuple [.Name u p, .Name v q] kt pt] (.Tuple [xa, xb] k2 pt2) pos.line X.env = pure false) :
    PS X (.Assign [.Tuple [.Name u p, .Name v q] kt pt] (.Tuple [xa, xb] k2 pt2) pos) (tS X.K L g cl W (.asg (.tp (.cons (.nm i) (.cons (.nm j) .nil))) (.tup (.cons a (.cons b .nil))))) :=
  PS.imp (ps_par hc hN hi hj hij hx hy ha hw hs) fun D σ H ⟨ρ, hp, env, r, re, h⟩ => by
    unfold wS wE at h
    refine ⟨ρ, hp, env, r, re, wEs_mono hm _ env hp _ _ _ _ (fun ds hp1 q1 => ?_) (fun c i hp1 z => KSt.kx re (Ext.refl _ _) z) h⟩
    intro ρ1 H1 vs e1 r1 dsr
    unfold wTg at q1
    obtain ⟨hl, q1⟩ := q1
    cases dsr with
    | nil => cases hl
    | cons d1r t =>
      cases t with
      | nil => cases hl
      | cons d2r t =>
        cases t with
        | cons _ _ => cases hl
        | nil =>
          have q1 := q1
          unfold wTgs wTg at q1
          unfold wTgs wTg at q1
          unfold wTgs at q1
          exact ⟨_, _, rfl, q1 ρ1 H1 _ e1 r1 (((re.mono e1).set i d1r).set j d2r)⟩
theorem mi_aug {o : BOp} {d e : D} {pins : List (Addr × Obj)} {s : Shared} {σ : L2.St} {H : Hp} {v w : V} {u u' : Value} {Q : VK} {ρ : List Addr} {hp : Hq} (I : Inv X pins σ H s) (rv : RelV v u) (rw' : RelV w u') (r : RelH X.K L ρ hp H) (q1 : RD X.K L ρ H d v) (q2 : RD X.K L ρ H e w) (h : (oAug o d e hp).app (KQ X.K L ρ H Q)) :
    wpAny (model X.prog X.w) X.A (inplaceOp (bopOf o) u u') (EP X pins σ Q) X.xe s := by
  cases o <;> cases d <;> cases e <;> first | exact False.elim h | skip
  · cases q1; cases q2
    exact ip_add pins s σ H _ _ u u' Q I rv rw' ⟨_, _, rfl, rfl, h.here r (.int _)⟩
  · cases q1; cases q2
    exact ip_sub pins s σ H _ _ u u' Q I rv rw' ⟨_, _, rfl, rfl, h.here r (.int _)⟩
def rAugMI (K : PySem.W.Frag) (L : Lay) (o : BOp) : TIp := fun x y H Q => ∃ ρ hp d e, RelH K L ρ hp H ∧ RD K L ρ H d x ∧ RD K L ρ H e y ∧ (oAug o d e hp).app (KQ K L ρ H Q)
theorem s_augn (hm : ClMono cl) {i : Nat} {n : Str} {p : Pos} {o : BOp} (hN : X.N.Nodup) (hi : X.N[i]? = some n) (hx : Loc X.env.scope n) (ha : PE X x (tE X.K L g cl W a)) (hf : X.fn n = true ∨ X.env.scope.names.lookup n = some .local) :
    PS X (.AugAssign (.Name n p) (bopOf o) x pos) (tS X.K L g cl W (.augn i o a)) :=
  PS.imp (ps_aug (ti := rAugMI X.K L o) hN hi hx ha (fun pins s σ H v w u u' Q I rv rw' ⟨ρ, hp, d, e, r, q1, q2, h⟩ => mi_aug I rv rw' r q1 q2 h) hf) fun D σ H ⟨ρ, hp, env, r, re, h⟩ => by
    unfold wS at h
    split at h
    · rename_i d eq
      obtain ⟨v, hv, rd⟩ := re.at_ i d eq
      refine ⟨v, hv, ρ, hp, env, r, re, wE_mono hm a env hp _ _ _ _ (fun d1 hp1 q1 => ?_) (fun c i hp1 z => KSt.kx re (Ext.refl _ _) z) h⟩
      intro ρ1 H1 v1 e1 r1 d1r
      refine ⟨ρ1, hp1, d, d1, r1, rd.mono e1, d1r, OutD.mono (fun d2 hp2 q2 => ?_) q1⟩
      intro ρ2 H2 v2 e2 r2 d2r
      exact q2 ρ2 H2 _ (e1.trans e2) r2 (((re.mono e1).mono e2).set i d2r)
    · exact False.elim h
theorem s_augf (hm : ClMono cl) {S : Nm} {n : Nat} (T : TF S g X.prog X.w X.K X.mg X.base L n) {f : Nat} {nm : Str} {tpos : Pos} {o : BOp} (hf : S.attrs[f]? = some nm) (ha : PE X x (tE X.K L g cl W a)) (hb : PE X y (tE X.K L g cl W b)) :
    PS X (.AugAssign (.Attribute x nm tpos) (bopOf o) y pos) (tS X.K L g cl W (.augf a f o b)) := by
  refine ⟨fun pins s σ H D I ⟨ρ, hp, env, r, re, h⟩ => ?_⟩
  unfold wS at h
  have hmem : nm ∈ S.attrs := List.mem_of_getElem? hf
  have hLa : L.attrs[f]? = some nm := by rw [T.att.1]; exact hf
  have hnd : L.attrs.Nodup := by rw [T.att.1]; exact T.att.2
  refine wpAny_AugAssign_AttributeAny (thn (ha.run pins s σ H (fun v1 H1 => ∃ ρ1 hp1 d1, Ext ρ H ρ1 H1 ∧ RelH X.K L ρ1 hp1 H1 ∧ RD X.K L ρ1 H1 d1 v1 ∧ (oGetF d1 f hp1).app fun x hp => wE g cl b env hp (fun y hp => (oAug o x y hp).app fun z hp => (oSetF d1 f z hp).app ((KSt X.K L ρ H D W).nx env)) fun c i hp => (KSt X.K L ρ H D W).ex c i env hp) I
    ⟨ρ, hp, env, r, re, wE_mono hm a env hp _ _ _ _ (fun d1 hp1 q1 => ?_) (fun c i hp1 z => KSt.kx re (Ext.refl _ _) z) h⟩) fun ov s1 ⟨x1, H1, I1, rx, q⟩ => ?_)
  · intro ρ1 H1 v1 e1 r1 d1r
    exact ⟨ρ1, hp1, d1, e1, r1, d1r, q1⟩
  · obtain ⟨ρ1, hp1, d1, e1, r1, d1r, q1⟩ := q
    cases d1r with
    | @ref i p hs =>
      unfold oGetF at q1
      cases e : gtI hp1 i with
      | none => simp only [e] at q1; exact False.elim q1
      | some cf =>
        obtain ⟨c, fs⟩ := cf
        simp only [e] at q1
        obtain ⟨C, dx, vs, h1, h2, h3⟩ := r1.ins hs e
        obtain ⟨hc, hn⟩ := T.cls c C h1
        obtain rfl : ov = Value.ref p := rx
        rcases h3.get hnd hLa with ⟨k1, k2⟩ | ⟨d', v', k1, k2, k3⟩
        · simp only [k1] at q1; exact False.elim q1
        · simp only [k1] at q1
          refine getattr_ok I1 h2 hc (hn nm hmem) k2 fun u s2 I2 ru => ?_
          refine thn (hb.run pins s2 σ H1 (fun v2 H2 => ∃ ρ2 hp2 d2, Ext ρ1 H1 ρ2 H2 ∧ RelH X.K L ρ2 hp2 H2 ∧ RD X.K L ρ2 H2 d2 v2 ∧ (oAug o d' d2 hp2).app fun z hp => (oSetF (.ref i) f z hp).app ((KSt X.K L ρ H D W).nx env)) I2
            ⟨ρ1, hp1, env, r1, re.mono e1, wE_mono hm b env hp1 _ _ _ _ (fun d2 hp2 q2 => ?_) (fun c i hp1 z => KSt.kx (re.mono e1) e1 z) q1⟩) fun w s3 ⟨x2, H2, I3, rx2, q2⟩ => ?_
          · intro ρ2 H2 v2 e2 r2 d2r
            exact ⟨ρ2, hp2, d2, e2, r2, d2r, q2⟩
          · obtain ⟨ρ2, hp2, d2, e2, r2, d2r, q2⟩ := q2
            refine thn (mi_aug (Q := fun v3 H3 => ∃ ρ3 hp3 d3, Ext ρ2 H2 ρ3 H3 ∧ RelH X.K L ρ3 hp3 H3 ∧ RD X.K L ρ3 H3 d3 v3 ∧ (oSetF (.ref i) f d3 hp3).app ((KSt X.K L ρ H D W).nx env)) I3 ru rx2 r2 (k3.mono e2) d2r (OutD.mono (fun d3 hp3 q3 => ?_) q2)) fun w4 s4 ⟨z, H3, I4, rz, q4⟩ => ?_
            · intro ρ3 H3 v3 e3 r3 d3r
              exact ⟨ρ3, hp3, d3, e3, r3, d3r, q3⟩
            · obtain ⟨ρ3, hp3, d3, e3, r3, d3r, q3⟩ := q4
              unfold oSetF at q3
              cases e5 : gtI hp3 i with
              | none => simp only [e5] at q3; exact False.elim q3
              | some cf =>
                obtain ⟨c', fs'⟩ := cf
                simp only [e5] at q3
                obtain ⟨hl, q3⟩ := q3
                have hs3 := e3.ix (e2.ix hs)
                obtain ⟨C', dx', vs', g1, g2, g3⟩ := r3.ins hs3 e5
                obtain ⟨hc', hn'⟩ := T.cls c' C' g1
                obtain ⟨r4, e4⟩ := r3.put hs3 (.ins g1 (g3.put hnd hLa d3r)) (by intro o k z; rw [g2] at z; cases z)
                have e14 := ((e1.trans e2).trans e3).trans e4
                exact setattr_ok I4 g2 hc' (hn' nm hmem) (by rw [← g3.len]; omega) rz fun s5 I5 => ⟨σ, _, I5, q3 ρ3 _ σ e14 r4 (re.mono e14)⟩
    | _ => exact False.elim q1
theorem s_if (hm : ClMono cl) {ca : Ex} {sa sb : Sts} {p q : List Stmt} (hc : PT X x (tT X.K L g cl W ca)) (ha : PSs X p (tSs X.K L g cl W sa)) (hb : PSs X q (tSs X.K L g cl W sb)) : PS X (.If x p q pos) (tS X.K L g cl W (.ifs ca sa sb)) :=
  PS.imp (ps_if hc ha hb) fun D σ H ⟨ρ, hp, env, r, re, h⟩ => by
    unfold wS at h
    refine ⟨ρ, hp, env, r, re, wE_mono hm ca env hp _ _ _ _ (fun d1 hp1 q1 => OutB.mono (fun k q2 ρ1 H1 e1 r1 => ?_) q1) (fun c i hp1 z => KSt.kx re (Ext.refl _ _) z) h⟩
    cases k with
    | true => exact ⟨ρ1, hp1, env, r1, re.mono e1, wSs_mono hm sa env hp1 _ _ (KSt.ext e1) q2⟩
    | false => exact ⟨ρ1, hp1, env, r1, re.mono e1, wSs_mono hm sb env hp1 _ _ (KSt.ext e1) q2⟩
theorem s_while (hm : ClMono cl) {ca : Ex} {sb : Sts} {body : List Stmt} (hp : PassesOwn (model X.prog X.w) X.A X.env X.xe) (hc : PT X x (tT X.K L g cl W ca)) (hb : PSs X body (tSs X.K L g cl W sb)) : PS X (.While x body [] pos) (tS X.K L g cl W (.whl ca sb)) :=
  PS.imp (ps_while hp hc hb) fun D σ H ⟨ρ, hp, env, r, re, h⟩ => by
    unfold wS at h
    obtain ⟨N, h⟩ := h
    refine ⟨fun m σ' H' => ∃ ρ' hp' env', Ext ρ H ρ' H' ∧ RelH X.K L ρ' hp' H' ∧ RE X.K L ρ' H' env' σ' ∧ whLoop (fun env hp kn ke => wE g cl ca env hp (fun x hp => (oTru x hp).app fun t => if t = true then wSs g cl sb env hp { KSt X.K L ρ H D W with nx := kn, ct := kn, bk := (KSt X.K L ρ H D W).nx } else ke env hp) fun c i hp => (KSt X.K L ρ H D W).ex c i env hp) m env' hp' (KSt X.K L ρ H D W).nx, ⟨N, ρ, hp, env, Ext.refl _ _, r, re, h⟩, fun m σ1 H1 hw => ?_⟩
    obtain ⟨ρ1, hp1, env1, e1, r1, re1, hw⟩ := hw
    cases m with
    | zero => exact False.elim hw
    | succ m =>
      unfold whLoop at hw
      refine ⟨ρ1, hp1, env1, r1, re1, wE_mono hm ca env1 hp1 _ _ _ _ (fun d2 hp2 q2 => OutB.mono (fun k q ρ2 H2 e2 r2 => ?_) q2) (fun c i hp1 z => KSt.kx re1 e1 z) hw⟩
      cases k with
      | true =>
        refine ⟨_, fun σ' H' w => ⟨m, Nat.lt_succ_self m, w⟩, ρ2, hp2, env1, r2, re1.mono e2, wSs_mono hm sb env1 hp2 _ _ ⟨fun env3 hp3 q3 => ?_, fun env3 hp3 q3 => ?_, fun env3 hp3 q3 => ?_, fun d3 hp3 q3 => ?_, fun c i env3 hp3 q3 => ?_⟩ q⟩
        · intro ρ3 H3 σ3 e3 r3 re3
          exact ⟨ρ3, hp3, env3, (e1.trans e2).trans e3, r3, re3, q3⟩
        · intro ρ3 H3 σ3 e3 r3 re3
          exact q3 ρ3 H3 σ3 ((e1.trans e2).trans e3) r3 re3
        · intro ρ3 H3 σ3 e3 r3 re3
          exact ⟨ρ3, hp3, env3, (e1.trans e2).trans e3, r3, re3, q3⟩
        · exact KQ.ext q3 (e1.trans e2)
        · intro ρ3 H3 σ3 a3 C3 e3 r3 re3
          exact q3 ρ3 H3 σ3 a3 C3 ((e1.trans e2).trans e3) r3 re3
      | false => exact q ρ2 H2 σ1 (e1.trans e2) r2 (re1.mono e2)
theorem s_for (hm : ClMono cl) {it : Ix} {sb : Sts} {body : List Stmt} (hp : PassesOwn (model X.prog X.w) X.A X.env X.xe) (hc : X.calm = true) (hi : PI X tg x (tI X.K L g cl W X.H_0 it)) (hg : PG X tg (tG X.K L g cl t)) (hb : PSs X body (tSs X.K L g cl W sb))
    (hs : ∀ z, foldedSetIterable x X.env z = pure z) : PS X (.For tg x body [] pos) (tS X.K L g cl W (.for_ t it sb)) := by
  refine PS.imp (ps_un (ps_for hp hc hi hg hb hs)) fun D σ H ⟨ρ, hp, env, r, re, h⟩ => ?_
  unfold wS at h
  refine ⟨ρ, hp, env, r, re, wIt_mono hm it env hp _ _ _ _ (fun itr hp1 q1 => ?_) (fun c i hp1 z => KSt.kx re (Ext.refl _ _) z) h⟩
  intro ρ1 Hu H1 J eu r1 ri ui
  obtain ⟨N, q1⟩ := q1
  have e1 : Ext ρ H ρ1 H1 := eu.trans ui.ext
  refine ⟨fun j m σ' H' => ∃ ρ' hp' env', Ext ρ1 H1 ρ' H' ∧ RelH X.K L ρ' hp' H' ∧ RE X.K L ρ' H' env' σ' ∧ forLoop itr.nx (fun d env hp kn => wTg g cl t d env hp fun env hp =>
      wSs g cl sb env hp { nx := kn, ct := kn, bk := fun env hp => (KSt X.K L ρ H D W).nx env (itr.un hp), rt := fun d hp => (KSt X.K L ρ H D W).rt d (itr.un hp), ex := (KSt X.K L ρ H D W).ex }) m j env' hp' (fun env hp => (KSt X.K L ρ H D W).nx env (itr.un hp)), ⟨N, ρ1, hp1, env, Ext.refl _ _, r1, re.mono e1, q1⟩, fun j m σ2 H2 hw => ?_⟩
  obtain ⟨ρ2, hp2, env2, e2, r2, re2, hw⟩ := hw
  -- the end
  have fin : ∀ {ρ3 : List Addr} {H3 : Hp} {σ3 : L2.St} {env3 : Env} {hp3 : Hq} {P : L2.St → Hp → Prop}, Ext ρ1 H1 ρ3 H3 → RelH X.K L ρ3 hp3 H3 → RE X.K L ρ3 H3 env3 σ3 → (∀ ρ' H' σ', Ext ρ H ρ' H' → RelH X.K L ρ' (itr.un hp3) H' → RE X.K L ρ' H' env3 σ' → P σ' H') → unP X.H_0 (P σ3) H3 := by
    intro ρ3 H3 σ3 env3 hp3 P e3 r3 re3 k
    exact ui.fin e3 r3 fun H4 e4 w4 _ r4 => k ρ3 H4 σ3 (eu.trans e4) r4 (re3.monoW w4)
  cases m with
  | zero => exact False.elim hw
  | succ m =>
    unfold forLoop at hw
    cases en : itr.nx j hp2 with
    | none => rw [en] at hw; exact False.elim hw
    | some o =>
      rw [en] at hw
      cases o with
      | none => exact .inl ⟨ri.stop j ρ2 H2 hp2 e2 r2 en, fin e2 r2 re2 hw⟩
      | some d =>
        obtain ⟨hgo, hy⟩ := ri.go j ρ2 H2 hp2 d e2 r2 en
        refine .inr ⟨hgo, _, fun σ' H' w => ⟨m, Nat.lt_succ_self m, w⟩, fun v H3 y3 => ?_⟩
        obtain ⟨e3, r3, rd⟩ := hy v H3 y3
        refine ⟨ρ2, hp2, env2, d, r3, re2.mono e3, rd, wTg_mono hm t d env2 hp2 _ _ (fun env4 hp4 q4 => ?_) hw⟩
        intro ρ4 H4 σ4 e4 r4 re4 _
        have e24 := (e2.trans e3).trans e4
        refine ⟨ρ4, hp4, env4, r4, re4, wSs_mono hm sb env4 hp4 _ _ ⟨fun env5 hp5 q5 => ?_, fun env5 hp5 q5 => ?_, fun env5 hp5 q5 => ?_, fun d5 hp5 q5 => ?_, fun c i env5 hp5 q5 => ?_⟩ q4⟩
        · intro ρ5 H5 σ5 e5 r5 re5
          exact ⟨ρ5, hp5, env5, e24.trans e5, r5, re5, q5⟩
        · intro ρ5 H5 σ5 e5 r5 re5
          exact fin (e24.trans e5) r5 re5 q5
        · intro ρ5 H5 σ5 e5 r5 re5
          exact ⟨ρ5, hp5, env5, e24.trans e5, r5, re5, q5⟩
        · intro ρ5 H5 v5 e5 r5 rd5
          exact ui.fin (e24.trans e5) r5 fun H6 e6 w6 _ r6 => q5 ρ5 H6 v5 (eu.trans e6) r6 (rd5.monoW w6)
        · intro ρ5 H5 σ5 a5 C5 e5 r5 re5
          exact q5 ρ5 H5 σ5 a5 C5 ((e1.trans e24).trans e5) r5 re5
end
end MI
/-! MI, part 15: list comprehensions. -/
namespace MI
open PySem PySem.Spec PyProof.Rows L2

theorem wipe_idem (σ : L2.St) (own : List Nat) : L2.wipe (L2.wipe σ own) own = L2.wipe σ own := by
  apply List.ext_getElem?
  intro k
  rw [wipe_get, wipe_get]
  by_cases hk : k ∈ own
  · rw [if_pos hk, if_pos hk]
    cases σ[k]? <;> rfl
  · rw [if_neg hk, if_neg hk]
theorem Ext.notin {ρ ρ' : List Addr} {H H' : Hp} {p : Addr} {u : HO} (e : Ext ρ H ρ' H') (hn : p ∉ ρ) (h : H p = some u) : p ∉ ρ' := fun z => by
  rcases e.new p z with q | q
  · exact hn q
  · rw [q] at h; cases h
def ttOf (K : PySem.W.Frag) (L : Lay) (g : Glob) (cl : Cl) : Exo → TT
  | .no => tYes
  | .so e => tT K L g cl (fun _ _ _ _ => False) e
section
variable {X : Cx} {L : Lay} {g : Glob} {cl : Cl} {W : WX}
theorem lc_imp (hm : ClMono cl) {own : List Nat} {t : Tg} {it : Ix} {c : Exo} {e : Ex} (ht : tgIn own t = true) {σ : L2.St} {H : Hp} {Q : VK} (h : tE X.K L g cl W (.lc own t it c e) σ H Q) :
    tLc (tI X.K L g cl W X.H_0 it) (tG X.K L g cl t) (ttOf X.K L g cl c) (tE X.K L g cl (fun _ _ _ _ => False) e) own σ H (fun v => unP X.H_0 (Q v)) := by
  obtain ⟨ρ, hp, env, r, re, h⟩ := h
  unfold wE at h
  refine ⟨ρ, hp, env, r, re, wIt_mono hm it env hp _ _ _ _ (fun itr hp1 q1 => ?_) (fun _ _ _ z => z) h⟩
  intro ρ1 Hu H1 J eu r1 ri ui Dd hD
  obtain ⟨N, q1⟩ := q1
  have e1 : Ext ρ H ρ1 H1 := eu.trans ui.ext
  have hDu : Hu Dd = none := by
    rcases ui with ⟨rfl, _⟩ | ⟨d, i, od, vs, kvs, hn, hd, ee, hi, rk, hu⟩
    · exact hD
    · subst ee
      have z : Dd ≠ d := fun z => by subst z; rw [upd_same] at hD; cases hD
      rw [upd_ne z] at hD
      exact hD
  obtain ⟨r1', e1'⟩ := r1.tmp (u := .lst []) hD
  let body : D → Hq → (Option D → Hq → Prop) → Prop := fun d hp k => wTg g cl t d (wipeE env own) hp fun env2 hp =>
      wEo g cl c env2 hp (fun r hp => match r with
        | none => wE g cl e env2 hp (fun y hp => k (some y) hp) fun _ _ _ => False
        | some x => (oTru x hp).app fun b => if b = true then wE g cl e env2 hp (fun y hp => k (some y) hp) fun _ _ _ => False else k none hp) fun _ _ _ => False
  let fk : List D → Hq → Prop := fun ds hp => KQ X.K L ρ H Q (.ref (itr.un hp).length) (itr.un hp ++ [.lst ds])
  have q1 : lcLoop itr.nx body N 0 [] hp1 fk := q1
  refine ⟨fun j m H' => ∃ ρ' hp' ds vs, Ext ρ1 H1 ρ' H' ∧ RelH X.K L ρ' hp' H' ∧ Dd ∉ ρ' ∧ H' Dd = some (.lst vs) ∧ RDs X.K L ρ' H' ds vs ∧ lcLoop itr.nx body m j ds hp' fk,
    ⟨N, ρ1, hp1, [], [], (Ext.refl ρ1 H1).side0 hD, r1', r1.notin hD, upd_same, .nil, q1⟩, fun j m H2 hw => ?_⟩
  obtain ⟨ρ2, hp2, ds, vs, e2, r2, hn2, hd2, rd2, hw⟩ := hw
  cases m with
  | zero => exact False.elim hw
  | succ m =>
    unfold lcLoop at hw
    cases en : itr.nx j hp2 with
    | none => rw [en] at hw; exact False.elim hw
    | some o =>
      rw [en] at hw
      cases o with
      | none =>
        refine .inl ⟨ri.stop j ρ2 H2 hp2 e2 r2 en, ui.fin e2 r2 fun H4 e4 w4 oth r4 => ?_⟩
        have hd4 : H4 Dd = some (.lst vs) := oth _ _ hd2 (fun _ _ z => by cases z)
        obtain ⟨r5, e5⟩ := r4.tell0 (o := .lst ds) (u := .lst vs) hn2 hd4 (.lst (rd2.monoW w4)) (eu.trans e4) (by
          cases hH : H Dd with
          | none => rfl
          | some z =>
            by_cases hm : Dd ∈ ρ
            · exact absurd (by obtain ⟨mo, hmo⟩ := (eu.trans e4).pre; rw [hmo]; exact List.mem_append_left _ hm) hn2
            · have := eu.out Dd z hH hm
              rw [hDu] at this; cases this)
        have hw : KQ X.K L ρ H Q (.ref (itr.un hp2).length) (itr.un hp2 ++ [.lst ds]) := hw
        refine hw _ H4 _ e5 r5 (.ref ?_)
        rw [← r4.len, List.getElem?_append_right (Nat.le_refl _)]
        simp
      | some d =>
        obtain ⟨hgo, hy⟩ := ri.go j ρ2 H2 hp2 d e2 r2 en
        refine .inr ⟨hgo, _, fun H' w => ⟨m, Nat.lt_succ_self m, w⟩, fun v H3 y3 => ?_⟩
        obtain ⟨e3, r3, rdv⟩ := hy v H3 y3
        have re3 : RE X.K L ρ2 H3 (wipeE env own) (L2.wipe σ own) := ((re.wipe own).mono e1).mono (e2.trans e3)
        have hd3 : H3 Dd = some (.lst vs) := e3.out _ _ hd2 hn2
        refine ⟨ρ2, hp2, _, d, r3, re3, rdv, wTg_mono hm t d _ hp2 _ _ (fun env4 hp4 q4 => ?_) hw⟩
        intro ρ4 H4 σ4 e4 r4 re4 w4
        refine ⟨by rw [w4 own ht, wipe_idem], ?_⟩
        -- the item
        have item : ∀ {ρ5 : List Addr} {H5 : Hp} {hp5 : Hq}, Ext ρ4 H4 ρ5 H5 → RelH X.K L ρ5 hp5 H5 → wE g cl e env4 hp5 (fun y hp => ds.length < SZ ∧ lcLoop itr.nx body m (j + 1) (ds ++ [y]) hp fk) (fun _ _ _ => False) →
            tE X.K L g cl (fun _ _ _ _ => False) e σ4 H5 fun y H6 => ∃ acc, H6 Dd = some (.lst acc) ∧ acc.length < sizeLine ∧ ∃ ρ' hp' ds vs, Ext ρ1 H1 ρ' (upd H6 Dd (.lst (acc ++ [y]))) ∧ RelH X.K L ρ' hp' (upd H6 Dd (.lst (acc ++ [y]))) ∧ Dd ∉ ρ' ∧ (upd H6 Dd (.lst (acc ++ [y]))) Dd = some (.lst vs) ∧ RDs X.K L ρ' (upd H6 Dd (.lst (acc ++ [y]))) ds vs ∧ lcLoop itr.nx body m (j + 1) ds hp' fk := by
          intro ρ5 H5 hp5 e5 r5 q5
          refine ⟨ρ5, hp5, env4, r5, re4.mono e5, wE_mono hm e env4 hp5 _ _ _ _ (fun y hp6 q6 => ?_) (fun _ _ _ z => False.elim z) q5⟩
          intro ρ6 H6 v6 e6 r6 rd6
          obtain ⟨hl, q6⟩ := q6
          have e36 := (e4.trans e5).trans e6
          have hd6 : H6 Dd = some (.lst vs) := e36.out _ _ hd3 hn2
          have hn6 := e36.notin hn2 hd3
          obtain ⟨r7, w7⟩ := r6.side0 (u := .lst (vs ++ [v6])) hn6 hd6 (fun z => by cases z)
          exact ⟨vs, hd6, by rw [← sz_line, ← rd2.len]; exact hl, ρ6, hp6, ds ++ [y], vs ++ [v6], ((e2.trans e3).trans e36).side0 hD, r7, hn6, upd_same, ((rd2.mono (e3.trans e36)).app (.one rd6)).monoW w7, q6⟩
        cases c with
        | no =>
          unfold wEo at q4
          dsimp only [ttOf, tYes]
          rw [if_pos rfl]
          exact item (Ext.refl _ _) r4 q4
        | so ce =>
          unfold wEo at q4
          refine ⟨ρ4, hp4, env4, r4, re4, wE_mono hm ce env4 hp4 _ _ _ _ (fun d5 hp5 q5 => OutB.mono (fun b q ρ5 H5 e5 r5 => ?_) q5) (fun _ _ _ z => False.elim z) q4⟩
          cases b with
          | true => exact item e5 r5 q
          | false =>
            have e35 := e4.trans e5
            exact ⟨ρ5, hp5, ds, vs, (e2.trans e3).trans e35, r5, e35.notin hn2 hd3, e35.out _ _ hd3 hn2, rd2.mono (e3.trans e35), q⟩
variable {x tg elt : Expr} {ifs : List Expr} {scope : Scope} {pos : Pos}
theorem s_lc (hm : ClMono cl) {own : List Nat} {ow : List (Str × Nat)} {t : Tg} {it : Ix} {c : Exo} {e : Ex} (how : ow.map (·.2) = own) (ht : tgIn own t = true) (hc : X.calm = true) (hN : X.N.Nodup) (hi : PI X tg x (tI X.K L g cl W X.H_0 it)) (ok : BlkOk X.N X.env.scope scope ow)
    (hg : ∀ (s : Shared) (H : Hp) (C : Addr) (ce : List (Str × Addr)) (fp : List Addr), PG (X.blk s H scope (compEnvC scope ce C X.env) fp) tg (tG X.K L g cl t)) (hif : ∀ (s : Shared) (H : Hp) (C : Addr) (ce : List (Str × Addr)) (fp : List Addr), PTs (X.blk s H scope (compEnvC scope ce C X.env) fp) ifs (ttOf X.K L g cl c))
    (he : ∀ (s : Shared) (H : Hp) (C : Addr) (ce : List (Str × Addr)) (fp : List Addr), PE (X.blk s H scope (compEnvC scope ce C X.env) fp) elt (tE X.K L g cl (fun _ _ _ _ => False) e)) (hs : ∀ z, foldedSetIterable x X.env z = pure z) :
    PE X (.ListComp elt [⟨tg, x, ifs, 0⟩] scope pos) (tE X.K L g cl W (.lc own t it c e)) :=
  PE.imp (pe_un (pe_lc hc hN hi ok hg hif he hs)) fun σ H Q h => by
    rw [how]
    exact lc_imp hm ht h
theorem s_setLc (hm : ClMono cl) {own : List Nat} {ow : List (Str × Nat)} {t : Tg} {it : Ix} {c : Exo} {e : Ex} {i : Nat} {n : Str} {py spos : Pos} (how : ow.map (·.2) = own) (ht : tgIn own t = true) (hc : X.calm = true) (hN : X.N.Nodup) (hy : X.N[i]? = some n) (hyl : X.env.scope.names.lookup n = some .local)
    (hsw : swapsWith (.ListComp elt [⟨tg, x, ifs, 0⟩] scope pos) (some (.Name n py)) spos.line X.env = pure true) (hi : PI X tg x (tI X.K L g cl W X.H_0 it)) (ok : BlkOk X.N X.env.scope scope ow)
    (hg : ∀ (s : Shared) (H : Hp) (C : Addr) (ce : List (Str × Addr)) (fp : List Addr), PG (X.blk s H scope (compEnvC scope ce C X.env) fp) tg (tG X.K L g cl t)) (hif : ∀ (s : Shared) (H : Hp) (C : Addr) (ce : List (Str × Addr)) (fp : List Addr), PTs (X.blk s H scope (compEnvC scope ce C X.env) fp) ifs (ttOf X.K L g cl c))
    (he : ∀ (s : Shared) (H : Hp) (C : Addr) (ce : List (Str × Addr)) (fp : List Addr), PE (X.blk s H scope (compEnvC scope ce C X.env) fp) elt (tE X.K L g cl (fun _ _ _ _ => False) e)) (hs : ∀ z, foldedSetIterable x X.env z = pure z) :
    PS X (.Assign [.Name n py] (.ListComp elt [⟨tg, x, ifs, 0⟩] scope pos) spos) (tS X.K L g cl W (.asg (.nm i) (.lc own t it c e))) :=
  PS.imp (ps_un (ps_setLc hc hN hy hyl hsw hi ok hg hif he hs)) fun D σ H ⟨ρ, hp, env, r, re, h⟩ => by
    unfold wS at h
    have h2 : tE X.K L g cl W (.lc own t it c e) σ H fun v H' => D.nx (σ.set i (some v)) H' := by
      refine ⟨ρ, hp, env, r, re, wE_mono hm _ env hp _ _ _ _ (fun d1 hp1 q1 => ?_) (fun c i hp1 z => KSt.kx re (Ext.refl _ _) z) h⟩
      intro ρ1 H1 v1 e1 r1 d1r
      unfold wTg at q1
      exact q1 ρ1 H1 _ e1 r1 ((re.mono e1).set i d1r)
    show tLc _ _ _ _ _ σ H _
    rw [how]
    exact lc_imp hm ht h2
end
end MI
/-! MI, part 15a: dict comprehensions, comprehensions of two clauses, len by an own __len__. -/
namespace MI
open PySem PySem.Spec PyProof.Rows L2
section
variable {X : Cx} {L : Lay} {g : Glob} {cl : Cl} {W : WX}
theorem dc_imp (hm : ClMono cl) {own : List Nat} {t : Tg} {it : Ix} {c : Exo} {kx e : Ex} (ht : tgIn own t = true) {σ : L2.St} {H : Hp} {Q : VK} (h : tE X.K L g cl W (.dc own t it c kx e) σ H Q) :
    tDc (tI X.K L g cl W X.H_0 it) (tG X.K L g cl t) (ttOf X.K L g cl c) (tE X.K L g cl (fun _ _ _ _ => False) kx) (tE X.K L g cl (fun _ _ _ _ => False) e) own σ H (fun v => unP X.H_0 (Q v)) := by
  obtain ⟨ρ, hp, env, r, re, h⟩ := h
  unfold wE at h
  refine ⟨ρ, hp, env, r, re, wIt_mono hm it env hp _ _ _ _ (fun itr hp1 q1 => ?_) (fun _ _ _ z => z) h⟩
  intro ρ1 Hu H1 J eu r1 ri ui Dd hD
  obtain ⟨N, q1⟩ := q1
  have e1 : Ext ρ H ρ1 H1 := eu.trans ui.ext
  have hDu : Hu Dd = none := by
    rcases ui with ⟨rfl, _⟩ | ⟨d, i, od, vs, kvs, hn, hd, ee, hi, rk, hu⟩
    · exact hD
    · subst ee
      have z : Dd ≠ d := fun z => by subst z; rw [upd_same] at hD; cases hD
      rw [upd_ne z] at hD
      exact hD
  obtain ⟨r1', e1'⟩ := r1.tmp (u := .dK []) hD
  let body : D → Hq → (Option (D × D) → Hq → Prop) → Prop := fun d hp kk => wTg g cl t d (wipeE env own) hp fun env2 hp =>
      wEo g cl c env2 hp (fun r hp => match r with
        | none => wE g cl kx env2 hp (fun y hp => wE g cl e env2 hp (fun z hp => kk (some (y, z)) hp) fun _ _ _ => False) fun _ _ _ => False
        | some x => (oTru x hp).app fun b => if b = true then wE g cl kx env2 hp (fun y hp => wE g cl e env2 hp (fun z hp => kk (some (y, z)) hp) fun _ _ _ => False) fun _ _ _ => False else kk none hp) fun _ _ _ => False
  let fk : List (Key × D) → Hq → Prop := fun ds hp => KQ X.K L ρ H Q (.ref (itr.un hp).length) (itr.un hp ++ [.dic ds])
  have q1 : dcLoop itr.nx body N 0 [] hp1 fk := q1
  refine ⟨fun j m H' => ∃ ρ' hp' ds vs, Ext ρ1 H1 ρ' H' ∧ RelH X.K L ρ' hp' H' ∧ Dd ∉ ρ' ∧ H' Dd = some (.dK vs) ∧ RKs X.K L ρ' H' ds vs ∧ dcLoop itr.nx body m j ds hp' fk,
    ⟨N, ρ1, hp1, [], [], (Ext.refl ρ1 H1).side0 hD, r1', r1.notin hD, upd_same, .nil, q1⟩, fun j m H2 hw => ?_⟩
  obtain ⟨ρ2, hp2, ds, vs, e2, r2, hn2, hd2, rd2, hw⟩ := hw
  cases m with
  | zero => exact False.elim hw
  | succ m =>
    unfold dcLoop at hw
    cases en : itr.nx j hp2 with
    | none => rw [en] at hw; exact False.elim hw
    | some o =>
      rw [en] at hw
      cases o with
      | none =>
        refine .inl ⟨ri.stop j ρ2 H2 hp2 e2 r2 en, ui.fin e2 r2 fun H4 e4 w4 oth r4 => ?_⟩
        have hd4 : H4 Dd = some (.dK vs) := oth _ _ hd2 (fun _ _ z => by cases z)
        obtain ⟨r5, e5⟩ := r4.tell0 (o := .dic ds) (u := .dK vs) hn2 hd4 (.dic (rd2.monoW w4)) (eu.trans e4) (by
          cases hH : H Dd with
          | none => rfl
          | some z =>
            by_cases hm : Dd ∈ ρ
            · exact absurd (by obtain ⟨mo, hmo⟩ := (eu.trans e4).pre; rw [hmo]; exact List.mem_append_left _ hm) hn2
            · have := eu.out Dd z hH hm
              rw [hDu] at this; cases this)
        have hw : KQ X.K L ρ H Q (.ref (itr.un hp2).length) (itr.un hp2 ++ [.dic ds]) := hw
        refine hw _ H4 _ e5 r5 (.ref ?_)
        rw [← r4.len, List.getElem?_append_right (Nat.le_refl _)]
        simp
      | some d =>
        obtain ⟨hgo, hy⟩ := ri.go j ρ2 H2 hp2 d e2 r2 en
        refine .inr ⟨hgo, _, fun H' w => ⟨m, Nat.lt_succ_self m, w⟩, fun v H3 y3 => ?_⟩
        obtain ⟨e3, r3, rdv⟩ := hy v H3 y3
        have re3 : RE X.K L ρ2 H3 (wipeE env own) (L2.wipe σ own) := ((re.wipe own).mono e1).mono (e2.trans e3)
        have hd3 : H3 Dd = some (.dK vs) := e3.out _ _ hd2 hn2
        refine ⟨ρ2, hp2, _, d, r3, re3, rdv, wTg_mono hm t d _ hp2 _ _ (fun env4 hp4 q4 => ?_) hw⟩
        intro ρ4 H4 σ4 e4 r4 re4 w4
        refine ⟨by rw [w4 own ht, wipe_idem], ?_⟩
        -- the pair
        have item : ∀ {ρ5 : List Addr} {H5 : Hp} {hp5 : Hq}, Ext ρ4 H4 ρ5 H5 → RelH X.K L ρ5 hp5 H5 →
            wE g cl kx env4 hp5 (fun y hp => wE g cl e env4 hp (fun z hp => match kOf y with | some key => ds.length < SZ ∧ dcLoop itr.nx body m (j + 1) (dput ds key z) hp fk | none => False) (fun _ _ _ => False)) (fun _ _ _ => False) →
            tE X.K L g cl (fun _ _ _ _ => False) kx σ4 H5 fun y H6 => tE X.K L g cl (fun _ _ _ _ => False) e σ4 H6 fun z H7 => ∃ kvs k, y = kV k ∧ H7 Dd = some (.dK kvs) ∧ kvs.length < sizeLine ∧
              ∃ ρ' hp' ds vs, Ext ρ1 H1 ρ' (upd H7 Dd (.dK (putK kvs k z))) ∧ RelH X.K L ρ' hp' (upd H7 Dd (.dK (putK kvs k z))) ∧ Dd ∉ ρ' ∧ (upd H7 Dd (.dK (putK kvs k z))) Dd = some (.dK vs) ∧ RKs X.K L ρ' (upd H7 Dd (.dK (putK kvs k z))) ds vs ∧ dcLoop itr.nx body m (j + 1) ds hp' fk := by
          intro ρ5 H5 hp5 e5 r5 q5
          refine ⟨ρ5, hp5, env4, r5, re4.mono e5, wE_mono hm kx env4 hp5 _ _ _ _ (fun y hp6 q6 => ?_) (fun _ _ _ z => False.elim z) q5⟩
          intro ρ6 H6 v6 e6 r6 rd6
          refine ⟨ρ6, hp6, env4, r6, (re4.mono e5).mono e6, wE_mono hm e env4 hp6 _ _ _ _ (fun z hp7 q7 => ?_) (fun _ _ _ z => False.elim z) q6⟩
          intro ρ7 H7 v7 e7 r7 rd7
          cases ek : kOf y with
          | none => simp only [ek] at q7
          | some key =>
            simp only [ek] at q7
            obtain ⟨hl, q7⟩ := q7
            have e37 := ((e4.trans e5).trans e6).trans e7
            have hd7 : H7 Dd = some (.dK vs) := e37.out _ _ hd3 hn2
            have hn7 := e37.notin hn2 hd3
            obtain ⟨r8, w8⟩ := r7.side0 (u := .dK (putK vs key v7)) hn7 hd7 (fun z => by cases z)
            exact ⟨vs, key, kOf_kV rd6 ek, hd7, by rw [← sz_line, ← rd2.len]; exact hl, ρ7, hp7, dput ds key z, putK vs key v7, ((e2.trans e3).trans e37).side0 hD, r8, hn7, upd_same, ((rd2.mono (e3.trans e37)).put key rd7).monoW w8, q7⟩
        cases c with
        | no =>
          unfold wEo at q4
          dsimp only [ttOf, tYes]
          rw [if_pos rfl]
          exact item (Ext.refl _ _) r4 q4
        | so ce =>
          unfold wEo at q4
          refine ⟨ρ4, hp4, env4, r4, re4, wE_mono hm ce env4 hp4 _ _ _ _ (fun d5 hp5 q5 => OutB.mono (fun b q ρ5 H5 e5 r5 => ?_) q5) (fun _ _ _ z => False.elim z) q4⟩
          cases b with
          | true => exact item e5 r5 q
          | false =>
            have e35 := e4.trans e5
            exact ⟨ρ5, hp5, ds, vs, (e2.trans e3).trans e35, r5, e35.notin hn2 hd3, e35.out _ _ hd3 hn2, rd2.mono (e3.trans e35), q⟩
variable {x tg kx' elt : Expr} {ifs : List Expr} {scope : Scope} {pos : Pos}
theorem s_dc (hm : ClMono cl) {own : List Nat} {ow : List (Str × Nat)} {t : Tg} {it : Ix} {c : Exo} {kx e : Ex} (how : ow.map (·.2) = own) (ht : tgIn own t = true) (hc : X.calm = true) (hN : X.N.Nodup) (hi : PI X tg x (tI X.K L g cl W X.H_0 it)) (ok : BlkOk X.N X.env.scope scope ow)
    (hg : ∀ (s : Shared) (H : Hp) (C : Addr) (ce : List (Str × Addr)) (fp : List Addr), PG (X.blk s H scope (compEnvC scope ce C X.env) fp) tg (tG X.K L g cl t)) (hif : ∀ (s : Shared) (H : Hp) (C : Addr) (ce : List (Str × Addr)) (fp : List Addr), PTs (X.blk s H scope (compEnvC scope ce C X.env) fp) ifs (ttOf X.K L g cl c))
    (hk : ∀ (s : Shared) (H : Hp) (C : Addr) (ce : List (Str × Addr)) (fp : List Addr), PE (X.blk s H scope (compEnvC scope ce C X.env) fp) kx' (tE X.K L g cl (fun _ _ _ _ => False) kx))
    (he : ∀ (s : Shared) (H : Hp) (C : Addr) (ce : List (Str × Addr)) (fp : List Addr), PE (X.blk s H scope (compEnvC scope ce C X.env) fp) elt (tE X.K L g cl (fun _ _ _ _ => False) e)) (hs : ∀ z, foldedSetIterable x X.env z = pure z) :
    PE X (.DictComp kx' elt [⟨tg, x, ifs, 0⟩] scope pos) (tE X.K L g cl W (.dc own t it c kx e)) :=
  PE.imp (pe_un (pe_dc hc hN hi ok hg hif hk he hs)) fun σ H Q h => by
    rw [how]
    exact dc_imp hm ht h
/-! ### two clauses -/
/-- how a list or tuple is walked, whatever comes in between -/
structure RItW (K : PySem.W.Frag) (L : Lay) (ρ1 : List Addr) (H1 : Hp) (J : It) (it : MI.Itr) : Prop where
  stop : ∀ (j : Nat) ρ H hp, ExtW ρ1 H1 ρ H → RelH K L ρ hp H → it.nx j hp = some none → J.stop j H
  go : ∀ (j : Nat) ρ H hp d, ExtW ρ1 H1 ρ H → RelH K L ρ hp H → it.nx j hp = some (some d) → J.go j H ∧ ∀ x H', J.yld j H x H' → H' = H ∧ RD K L ρ H d x
theorem ritw_list {K : PySem.W.Frag} {ρ1 : List Addr} {H1 : Hp} {i : Nat} {a : Addr} (ha : ρ1[i]? = some a) : RItW K L ρ1 H1 (Itl K a) (itLst i) where
  stop := fun j ρ H hp e r h => by
    cases g : gtL hp i with
    | none => simp [itLst, g] at h
    | some xs =>
      simp [itLst, g] at h
      obtain ⟨vs, h1, h2⟩ := r.lst (e.ix ha) g
      exact ⟨vs, .of h1, by rw [← h2.len]; exact h⟩
  go := fun j ρ H hp d e r h => by
    cases g : gtL hp i with
    | none => simp [itLst, g] at h
    | some xs =>
      have h : xs[j]? = some d := by simpa [itLst, g] using h
      obtain ⟨vs, h1, h2⟩ := r.lst (e.ix ha) g
      obtain ⟨v, h3, h4⟩ := h2.get h
      refine ⟨⟨vs, v, .of h1, h3⟩, fun x H' y => ?_⟩
      obtain ⟨rfl, y⟩ := y
      have := y vs (.of h1)
      rw [h3] at this
      cases this
      exact ⟨rfl, h4⟩
theorem ritw_fixL {K : PySem.W.Frag} {ρ1 : List Addr} {H1 : Hp} {ds : List D} {vs : List V} {a : Addr} (hs : KlL K H1 a vs) (t : RDs K L ρ1 H1 ds vs) : RItW K L ρ1 H1 (Itl K a) (itFix ds) where
  stop := fun j ρ H hp e r h => by
    have h : ds[j]? = none := by simpa [itFix] using h
    exact ⟨vs, (KlL.monoW e hs).sq, by rw [← t.len]; exact List.getElem?_eq_none_iff.mp h⟩
  go := fun j ρ H hp d e r h => by
    have h : ds[j]? = some d := by simpa [itFix] using h
    obtain ⟨v, h3, h4⟩ := t.get h
    refine ⟨⟨vs, v, (KlL.monoW e hs).sq, h3⟩, fun x H' y => ?_⟩
    obtain ⟨rfl, y⟩ := y
    have := y vs (KlL.monoW e hs).sq
    rw [h3] at this
    cases this
    exact ⟨rfl, h4.monoW e⟩
theorem ritw_fixT {K : PySem.W.Frag} {ρ1 : List Addr} {H1 : Hp} {ds : List D} {vs : List V} {a : Addr} (hs : SqT K H1 a vs) (t : RDs K L ρ1 H1 ds vs) : RItW K L ρ1 H1 (Itt K a) (itFix ds) where
  stop := fun j ρ H hp e r h => by
    have h : ds[j]? = none := by simpa [itFix] using h
    exact ⟨vs, SqT.monoW e hs, by rw [← t.len]; exact List.getElem?_eq_none_iff.mp h⟩
  go := fun j ρ H hp d e r h => by
    have h : ds[j]? = some d := by simpa [itFix] using h
    obtain ⟨v, h3, h4⟩ := t.get h
    refine ⟨⟨vs, v, SqT.monoW e hs, h3⟩, fun x H' y => ?_⟩
    obtain ⟨rfl, y⟩ := y
    have := y vs (SqT.monoW e hs)
    rw [h3] at this
    cases this
    exact ⟨rfl, h4.monoW e⟩
def KIs (K : PySem.W.Frag) (L : Lay) (ρ : List Addr) (H : Hp) (R : It → Hp → Prop) : MI.Itr → Hq → Prop := fun itr hp' => ∀ ρ1 H1 J, Ext ρ H ρ1 H1 → RelH K L ρ1 hp' H1 → RItW K L ρ1 H1 J itr → R J H1
def tIs (K : PySem.W.Frag) (L : Lay) (g : Glob) (cl : Cl) (W : WX) (a : Ex) : TI := fun σ H R => ∃ ρ hp env, RelH K L ρ hp H ∧ RE K L ρ H env σ ∧ wE g cl a env hp (fun x hp => match itSq hp x with | some it => KIs K L ρ H R it hp | none => False) (KX K L ρ H σ W)
theorem i_sq {a : Ex} {x tg : Expr} (hm : ClMono cl) (ha : PE X x (tE X.K L g cl W a)) : PI X tg x (tIs X.K L g cl W a) := by
  refine ⟨fun pins s σ H R I ⟨ρ, hp, env, r, re, h⟩ => ?_⟩
  refine thn (ha.run pins s σ H (fun v1 H1 => ∃ ρ1 hp1 d1, Ext ρ H ρ1 H1 ∧ RelH X.K L ρ1 hp1 H1 ∧ RD X.K L ρ1 H1 d1 v1 ∧ ∃ itr, itSq hp1 d1 = some itr ∧ KIs X.K L ρ H R itr hp1) I
    ⟨ρ, hp, env, r, re, wE_mono hm a env hp _ _ _ _ (fun d1 hp1 q1 => ?_) (fun _ _ _ z => z) h⟩) fun v s1 ⟨x1, H1, I1, rx, q⟩ => ?_
  · intro ρ1 H1 v1 e1 r1 d1r
    cases eq : itSq hp1 d1 with
    | none => simp only [eq] at q1
    | some itr =>
      simp only [eq] at q1
      exact ⟨ρ1, hp1, d1, e1, r1, d1r, itr, eq, q1⟩
  · obtain ⟨ρ1, hp1, d1, e1, r1, d1r, itr, eq, q1⟩ := q
    cases d1r with
    | @tup p xs ds hs t =>
      cases eq
      obtain rfl : v = Value.ref p := rx
      obtain ⟨its, rv, ht, hz⟩ := I1.tuple hs
      exact wpAny_pyIter_tuple (show s1.heap.IsTuple p its.toArray from ht) (pi_one (tk := s1.toks) I1 _ (turn_tuple p _) ⟨_, Heap.get?_push_size _ rfl, rfl, rfl⟩ (q1 ρ1 H1 _ e1 r1 (ritw_fixT hs t)))
    | @kl p xs ds hs t =>
      cases eq
      obtain rfl : v = Value.ref p := rx
      obtain ⟨its, rv, ht, hz⟩ := I1.list hs.sq
      exact wpAny_pyIter_list ht.isList (pi_one (tk := s1.toks) I1 _ (turn_list p _) ⟨_, Heap.get?_push_size _ rfl, rfl, rfl⟩ (q1 ρ1 H1 _ e1 r1 (ritw_fixL hs t)))
    | @ref i p hs =>
      obtain rfl : v = Value.ref p := rx
      obtain ⟨o, u, g1, g2, g3⟩ := r1.at2 hs
      unfold itSq at eq
      simp only [g1] at eq
      cases g3 with
      | @lst _ vs t =>
        cases eq
        obtain ⟨its, rv, ht, hz⟩ := I1.list (SqL.of g2)
        exact wpAny_pyIter_list ht.isList (pi_one (tk := s1.toks) I1 _ (turn_list p _) ⟨_, Heap.get?_push_size _ rfl, rfl, rfl⟩ (q1 ρ1 H1 _ e1 r1 (ritw_list hs)))
      | _ => cases eq
    | _ => cases eq
theorem ExtW.trans {ρ ρ1 ρ2 : List Addr} {H H1 H2 : Hp} (a : ExtW ρ H ρ1 H1) (b : ExtW ρ1 H1 ρ2 H2) : ExtW ρ H ρ2 H2 := by
  obtain ⟨m1, e1⟩ := a.pre
  obtain ⟨m2, e2⟩ := b.pre
  exact ⟨⟨m1 ++ m2, by rw [e2, e1, List.append_assoc]⟩, fun x o h s => b.st x o (a.st x o h s) s⟩
theorem wipe_in {σ2 σ3 : L2.St} {own own1 : List Nat} (hi : ∀ i ∈ own1, i ∈ own) (h : L2.wipe σ3 own1 = L2.wipe σ2 own1) : L2.wipe σ3 own = L2.wipe σ2 own := by
  apply List.ext_getElem?
  intro k
  have hk := congrArg (fun l : L2.St => l[k]?) h
  simp only [wipe_get] at hk ⊢
  by_cases h1 : k ∈ own1
  · rw [if_pos (hi k h1), if_pos (hi k h1)]
    rw [if_pos h1, if_pos h1] at hk
    exact hk
  · rw [if_neg h1, if_neg h1] at hk
    rw [hk]
theorem lc2_imp (hm : ClMono cl) {own own1 : List Nat} {t t1 : Tg} {it : Ix} {a e : Ex} (ht : tgIn own t = true) (ht1 : tgIn own1 t1 = true) {σ : L2.St} {H : Hp} {Q : VK} (h : tE X.K L g cl W (.lc2 own own1 t it t1 a e) σ H Q) :
    tLc2 (tI X.K L g cl W X.H_0 it) (tG X.K L g cl t) tYes (tIs X.K L g cl (fun _ _ _ _ => False) a) (tG X.K L g cl t1) tYes (tE X.K L g cl (fun _ _ _ _ => False) e) own own1 σ H (fun v => unP X.H_0 (Q v)) := by
  obtain ⟨ρ, hp, env, r, re, h⟩ := h
  unfold wE at h
  refine ⟨ρ, hp, env, r, re, wIt_mono hm it env hp _ _ _ _ (fun itr hp1 q1 => ?_) (fun _ _ _ z => z) h⟩
  intro ρ1 Hu H1 J eu r1 ri ui Dd hD
  obtain ⟨N, q1⟩ := q1
  have e1 : Ext ρ H ρ1 H1 := eu.trans ui.ext
  have hDu : Hu Dd = none := by
    rcases ui with ⟨rfl, _⟩ | ⟨d, i, od, vs, kvs, hn, hd, ee, hi, rk, hu⟩
    · exact hD
    · subst ee
      have z : Dd ≠ d := fun z => by subst z; rw [upd_same] at hD; cases hD
      rw [upd_ne z] at hD
      exact hD
  obtain ⟨r1', e1'⟩ := r1.tmp (u := .lst []) hD
  let body1 : Env → D → Hq → (Option D → Hq → Prop) → Prop := fun env2 d hp k1 => wTg g cl t1 d (wipeE env2 own1) hp fun env3 hp => wE g cl e env3 hp (fun y hp => k1 (some y) hp) fun _ _ _ => False
  let body : D → List D → Hq → (List D → Hq → Prop) → Prop := fun d acc hp k => wTg g cl t d (wipeE env own) hp fun env2 hp =>
      wE g cl a env2 hp (fun x hp => match itSq hp x with
        | some it1 => ∃ M, lcLoop it1.nx (body1 env2) M 0 acc hp k
        | none => False) fun _ _ _ => False
  let fk : List D → Hq → Prop := fun ds hp => KQ X.K L ρ H Q (.ref (itr.un hp).length) (itr.un hp ++ [.lst ds])
  have q1 : acLoop itr.nx body N 0 [] hp1 fk := q1
  refine ⟨fun j m H' => ∃ ρ' hp' ds vs, Ext ρ1 H1 ρ' H' ∧ RelH X.K L ρ' hp' H' ∧ Dd ∉ ρ' ∧ H' Dd = some (.lst vs) ∧ RDs X.K L ρ' H' ds vs ∧ acLoop itr.nx body m j ds hp' fk,
    ⟨N, ρ1, hp1, [], [], (Ext.refl ρ1 H1).side0 hD, r1', r1.notin hD, upd_same, .nil, q1⟩, fun j m H2 hw => ?_⟩
  obtain ⟨ρ2, hp2, ds, vs, e2, r2, hn2, hd2, rd2, hw⟩ := hw
  cases m with
  | zero => exact False.elim hw
  | succ m =>
    unfold acLoop at hw
    cases en : itr.nx j hp2 with
    | none => rw [en] at hw; exact False.elim hw
    | some o =>
      rw [en] at hw
      cases o with
      | none =>
        refine .inl ⟨ri.stop j ρ2 H2 hp2 e2 r2 en, ui.fin e2 r2 fun H4 e4 w4 oth r4 => ?_⟩
        have hd4 : H4 Dd = some (.lst vs) := oth _ _ hd2 (fun _ _ z => by cases z)
        obtain ⟨r5, e5⟩ := r4.tell0 (o := .lst ds) (u := .lst vs) hn2 hd4 (.lst (rd2.monoW w4)) (eu.trans e4) (by
          cases hH : H Dd with
          | none => rfl
          | some z =>
            by_cases hm : Dd ∈ ρ
            · exact absurd (by obtain ⟨mo, hmo⟩ := (eu.trans e4).pre; rw [hmo]; exact List.mem_append_left _ hm) hn2
            · have := eu.out Dd z hH hm
              rw [hDu] at this; cases this)
        have hw : KQ X.K L ρ H Q (.ref (itr.un hp2).length) (itr.un hp2 ++ [.lst ds]) := hw
        refine hw _ H4 _ e5 r5 (.ref ?_)
        rw [← r4.len, List.getElem?_append_right (Nat.le_refl _)]
        simp
      | some d =>
        obtain ⟨hgo, hy⟩ := ri.go j ρ2 H2 hp2 d e2 r2 en
        refine .inr ⟨hgo, _, fun H' w => ⟨m, Nat.lt_succ_self m, w⟩, fun v H3 y3 => ?_⟩
        obtain ⟨e3, r3, rdv⟩ := hy v H3 y3
        have re3 : RE X.K L ρ2 H3 (wipeE env own) (L2.wipe σ own) := ((re.wipe own).mono e1).mono (e2.trans e3)
        have hd3 : H3 Dd = some (.lst vs) := e3.out _ _ hd2 hn2
        refine ⟨ρ2, hp2, _, d, r3, re3, rdv, wTg_mono hm t d _ hp2 _ _ (fun env4 hp4 q4 => ?_) hw⟩
        intro ρ4 H4 σ4 e4 r4 re4 w4
        refine ⟨by rw [w4 own ht, wipe_idem], ?_⟩
        dsimp only [tYes]
        rw [if_pos rfl]
        refine ⟨ρ4, hp4, env4, r4, re4, wE_mono hm a env4 hp4 _ _ _ _ (fun x5 hp5 q5 => ?_) (fun _ _ _ z => False.elim z) q4⟩
        cases ei : itSq hp5 x5 with
        | none => simp only [ei] at q5
        | some it1 =>
          simp only [ei] at q5 ⊢
          obtain ⟨M, q5⟩ := q5
          intro ρ5 H5 J1 e5 r5 ri1
          have e35 := e4.trans e5
          have hd5 : H5 Dd = some (.lst vs) := e35.out _ _ hd3 hn2
          have hn5 := e35.notin hn2 hd3
          have re5 : RE X.K L ρ5 H5 env4 σ4 := re4.mono e5
          refine ⟨fun j1 m1 H' => ∃ ρ' hp' ds vs, Ext ρ1 H1 ρ' H' ∧ ExtW ρ5 H5 ρ' H' ∧ RelH X.K L ρ' hp' H' ∧ Dd ∉ ρ' ∧ H' Dd = some (.lst vs) ∧ RDs X.K L ρ' H' ds vs ∧ lcLoop it1.nx (body1 env4) m1 j1 ds hp' (fun acc' hp' => acLoop itr.nx body m (j + 1) acc' hp' fk),
            ⟨M, ρ5, hp5, ds, vs, (e2.trans e3).trans e35, ⟨⟨[], by simp⟩, fun _ _ h _ => h⟩, r5, hn5, hd5, rd2.mono (e3.trans e35), q5⟩, fun j1 m1 H6 hw6 => ?_⟩
          obtain ⟨ρ6, hp6, ds6, vs6, e6, w6, r6, hn6, hd6, rd6, hw6⟩ := hw6
          cases m1 with
          | zero => exact False.elim hw6
          | succ m1 =>
            unfold lcLoop at hw6
            cases en1 : it1.nx j1 hp6 with
            | none => rw [en1] at hw6; exact False.elim hw6
            | some o1 =>
              rw [en1] at hw6
              cases o1 with
              | none => exact .inl ⟨ri1.stop j1 ρ6 H6 hp6 w6 r6 en1, ρ6, hp6, ds6, vs6, e6, r6, hn6, hd6, rd6, hw6⟩
              | some d1 =>
                obtain ⟨hgo1, hy1⟩ := ri1.go j1 ρ6 H6 hp6 d1 w6 r6 en1
                refine .inr ⟨hgo1, _, fun H' w => ⟨m1, Nat.lt_succ_self m1, w⟩, fun v7 H7 y7 => ?_⟩
                obtain ⟨rfl, rdv7⟩ := hy1 v7 H7 y7
                have re7 : RE X.K L ρ6 H7 (wipeE env4 own1) (L2.wipe σ4 own1) := (re5.wipe own1).monoW w6
                refine ⟨ρ6, hp6, _, d1, r6, re7, rdv7, wTg_mono hm t1 d1 _ hp6 _ _ (fun env8 hp8 q8 => ?_) hw6⟩
                intro ρ8 H8 σ8 e8 r8 re8 w8
                refine ⟨by rw [w8 own1 ht1, wipe_idem], ?_⟩
                dsimp only [tYes]
                rw [if_pos trivial]
                refine ⟨ρ8, hp8, env8, r8, re8, wE_mono hm e env8 hp8 _ _ _ _ (fun y hp9 q9 => ?_) (fun _ _ _ z => False.elim z) q8⟩
                intro ρ9 H9 v9 e9 r9 rd9
                obtain ⟨hl, q9⟩ := q9
                have e69 := e8.trans e9
                have hd9 : H9 Dd = some (.lst vs6) := e69.out _ _ hd6 hn6
                have hn9 := e69.notin hn6 hd6
                obtain ⟨rA, wA⟩ := r9.side0 (u := .lst (vs6 ++ [v9])) hn9 hd9 (fun z => by cases z)
                exact ⟨vs6, hd9, by rw [← sz_line, ← rd6.len]; exact hl, ρ9, hp9, ds6 ++ [y], vs6 ++ [v9], (e6.trans e69).side0 hD, ((w6.trans e69.w).trans wA), rA, hn9, upd_same, ((rd6.mono e69).app (.one rd9)).monoW wA, q9⟩
variable {x tg elt tg1 iter1 : Expr} {scope : Scope} {pos : Pos}
theorem s_lc2 (hm : ClMono cl) {own own1 : List Nat} {ow : List (Str × Nat)} {t t1 : Tg} {it : Ix} {a e : Ex} (how : ow.map (·.2) = own) (hin : ∀ i ∈ own1, i ∈ own) (ht : tgIn own t = true) (ht1 : tgIn own1 t1 = true) (hc : X.calm = true) (hN : X.N.Nodup) (hi : PI X tg x (tI X.K L g cl W X.H_0 it)) (ok : BlkOk X.N X.env.scope scope ow)
    (hg : ∀ (s : Shared) (H : Hp) (C : Addr) (ce : List (Str × Addr)) (fp : List Addr), PG (X.blk s H scope (compEnvC scope ce C X.env) fp) tg (tG X.K L g cl t))
    (hg1 : ∀ (s : Shared) (H : Hp) (C : Addr) (ce : List (Str × Addr)) (fp : List Addr), PG (X.blk s H scope (compEnvC scope ce C X.env) fp) tg1 (tG X.K L g cl t1))
    (ha : ∀ (s : Shared) (H : Hp) (C : Addr) (ce : List (Str × Addr)) (fp : List Addr), PE (X.blk s H scope (compEnvC scope ce C X.env) fp) iter1 (tE X.K L g cl (fun _ _ _ _ => False) a))
    (he : ∀ (s : Shared) (H : Hp) (C : Addr) (ce : List (Str × Addr)) (fp : List Addr), PE (X.blk s H scope (compEnvC scope ce C X.env) fp) elt (tE X.K L g cl (fun _ _ _ _ => False) e)) (hs : ∀ z, foldedSetIterable x X.env z = pure z) (hs1 : ∀ env z, foldedSetIterable iter1 env z = pure z) :
    PE X (.ListComp elt [⟨tg, x, [], 0⟩, ⟨tg1, iter1, [], 0⟩] scope pos) (tE X.K L g cl W (.lc2 own own1 t it t1 a e)) :=
  PE.imp (pe_un (pe_lc2 (own := ow) (vs1 := own1) hc hN hi ok (by rw [how]; exact hin) hg (fun _ _ _ _ _ => pts_nil) (fun s H C ce fp => i_sq hm (ha s H C ce fp)) hg1 (fun _ _ _ _ _ => pts_nil) he hs hs1)) fun σ H Q h => by
    rw [how]
    exact lc2_imp hm ht ht1 h
/-! ### len by an own __len__ -/
def rLenD (K : PySem.W.Frag) (L : Lay) (g : Glob) (n m : Nat) : List V → Hp → VK → Prop := fun vs H Q => ∃ ρ hp d v, vs = [v] ∧ RelH K L ρ hp H ∧ RD K L ρ H d v ∧ match d with
    | .ref i => match gtI hp i with
      | some (c, _) => match g.meth c m with
        | some f => wCall g n f [.ref i] hp (fun v hp => match v with
          | .int n => (0 ≤ n ∧ n < 2 ^ 62) ∧ KQ K L ρ H Q (.int n) hp
          | _ => False) fun _ _ _ => False
        | none => False
      | none => (oBF .len [d] hp).app (KQ K L ρ H Q)
    | _ => (oBF .len [d] hp).app (KQ K L ρ H Q)
theorem takes_false : Takes X (fun _ _ _ _ => False) := fun u s' ⟨_, _, _, _, _, _, _, _, _, _, _, _, _, _, _, _, w⟩ => w.elim
theorem mi_lenD {S : Nm} {n m : Nat} (T : TF S g X.prog X.w X.K X.mg X.base L n) (hr : Room (2 * n + 1) X.A) (hc : X.calm = true) (hg : X.A.guards = some []) (hg1 : X.A.in1.guards = some []) (hu : X.A.units + 200 < cLine) (hf : S.mths[m]? = some "__len__") : CallR X (.builtin "len") (rLenD X.K L g n m) := by
  intro pins s σ H vs us Q I rv h
  obtain ⟨ρ, hp, d, v, rfl, r, q, h⟩ := h
  have plain : (oBF .len [d] hp).app (KQ X.K L ρ H Q) → wpAny (model X.prog X.w) X.A (call (.builtin "len") us) (EP X pins σ Q) X.xe s := fun h =>
    mi_bf (L := L) hc hg hu .len pins s σ H _ us Q I rv ⟨ρ, hp, [d], r, .cons q .nil, h⟩
  cases d with
  | ref i =>
    simp only at h
    cases e : gtI hp i with
    | none => simp only [e] at h; exact plain h
    | some cf =>
      obtain ⟨c, fs⟩ := cf
      simp only [e] at h
      cases e2 : g.meth c m with
      | none => simp only [e2] at h
      | some f =>
        simp only [e2] at h
        cases q with
        | @ref _ pa hs =>
          obtain ⟨u, rfl, ru⟩ := vals1 rv
          obtain rfl : u = Value.ref pa := ru
          obtain ⟨C, dx, vs, g1, g2, g3⟩ := r.ins hs e
          obtain ⟨fa, f1, hmeth⟩ := T.mth c C m "__len__" f g1 hf e2
          obtain ⟨fd, ps, hb, _, F⟩ := T.call f fa f1
          obtain ⟨mA, J, _⟩ := ins_get I.hok g2
          obtain ⟨od, J, _⟩ := J.look
          obtain ⟨mm, hF⟩ := I.fr
          refine PySem.W.len_K hF I.ok.mod.kin J hmeth.at_ hmeth.fn ?_
          have hsp : spI X.K L g n f [.ref pa] H (fun v H' => ∃ k : Int, v = .int k ∧ (0 ≤ k ∧ k < 2 ^ 62) ∧ Q (.int k) H') (fun _ _ _ => False) := by
            refine ⟨ρ, hp, [.ref i], r, .cons (.ref hs) .nil, wCall_mono g n f _ hp _ _ _ _ (fun d hp' z => ?_) (fun _ _ _ z => False.elim z) h⟩
            intro ρ' H' v' e' r' rd'
            cases rd' with
            | int k =>
              obtain ⟨z1, z2⟩ := z
              exact ⟨k, rfl, z1, z2 ρ' H' _ e' r' (.int k)⟩
            | _ => exact False.elim z
          have e0 : Env0 X.prog X.w X.K X.mg X.base X.A.in1 X.stack s H := by
            have e := I.env0
            exact ⟨e.frames, e.mod, e.bs, e.bsz, e.funs, e.frf, e.hok, e.bare⟩
          have hl := F.len _ _ _ _ hsp
          have r2 : Vals [V.ref pa] [Value.ref pa] := .cons rfl .nil
          have hb2 : BindsTo s fd ⟨[Value.ref pa], []⟩ (ps.zip [Value.ref pa]) := by
            have := hb s [Value.ref pa] I.kIn (by simpa using hl)
            simpa using this
          refine wpAny_call (codeAny_mono (F.run X.A.in1 X.stack s H ⟨[.ref pa], []⟩ [.ref pa] [.ref pa] _ _ hr.in1 hg1 e0 hb2 r2 hsp) fun rr s' hq => ?_)
          cases rr with
          | error e => exact takes_false e s' (XE.of_call I (fun cls d H' h => h) hq)
          | ok fl =>
            cases fl with
            | ret u =>
              obtain ⟨v', H', I', rv', k, rfl, ⟨k1, k2⟩, qq⟩ := I.after hq
              obtain ⟨t, rfl⟩ := rv'
              exact ⟨⟨k1, by omega⟩, .int k, H', I'.tok _, ⟨_, rfl⟩, qq⟩
            | next => exact False.elim hq
            | brk => exact False.elim hq
            | cont => exact False.elim hq
  | _ => exact plain h
theorem s_lenD {S : Nm} {n m : Nat} {a : Ex} {x : Expr} {p pos : Pos} (T : TF S g X.prog X.w X.K X.mg X.base L n) (hr : Room (2 * n + 1) X.A) (hc : X.calm = true) (hg : X.A.guards = some []) (hg1 : X.A.in1.guards = some []) (hu : X.A.units + 200 < cLine) (hf : S.mths[m]? = some "__len__") (hgl : Gl X "len") (hmg : X.mg "len" = none)
    (ha : PE X x (tE X.K L g (wCall g n) W a)) (hst : isSub x = false) : PE X (.Call (.Name "len" p) [x] [] pos) (tE X.K L g (wCall g n) W (.lenD a m)) := by
  have he : starEach [x] X.env = (false, eval x X.env) :: starEach [] X.env := by cases x <;> first | rfl | cases hst
  have hm := wCall_mono g n
  have imp : ∀ σ H Q, tE X.K L g (wCall g n) W (.lenD a m) σ H Q → tCB (rLenD X.K L g n m) (tEs X.K L g (wCall g n) W (.cons a .nil)) σ H Q := fun σ H Q ⟨ρ, hp, env, r, re, h⟩ => by
    unfold wE at h
    refine ⟨ρ, hp, env, r, re, ?_⟩
    show wE g (wCall g n) a env hp _ _
    refine wE_mono hm a env hp _ _ _ _ (fun d1 hp1 q1 => ?_) (fun _ _ _ z => z) h
    intro ρ1 H1 vs e1 r1 dsr
    cases dsr with
    | @cons _ v1 _ _ d1r t =>
      cases t
      refine ⟨ρ1, hp1, d1, v1, rfl, r1, d1r, ?_⟩
      have pl : (oBF .len [d1] hp1).app (KQ X.K L ρ H Q) → (oBF .len [d1] hp1).app (KQ X.K L ρ1 H1 Q) := OutD.mono fun _ _ k => k.ext e1
      cases d1 with
      | ref i =>
        simp only at q1 ⊢
        cases e : gtI hp1 i with
        | none => simp only [e] at q1; exact pl q1
        | some cf =>
          obtain ⟨c, fs⟩ := cf
          simp only [e] at q1
          cases e2 : g.meth c m with
          | none => simp only [e2] at q1
          | some f =>
            simp only [e2] at q1 ⊢
            refine hm _ _ _ _ _ _ _ (fun v h2 q2 => ?_) (fun _ _ _ z => z) q1
            split at q2
            · exact ⟨q2.1, q2.2.ext e1⟩
            · exact False.elim q2
      | _ => exact pl q1
  exact PE.imp (pe_callB (mi_lenD T hr hc hg hg1 hu hf) hgl hmg PySem.boot_len (sa_cons hm ha sa_nil he) (by decide) (by decide) he rfl) imp
end
end MI
set_option maxHeartbeats 1000000
/-! MI, part 16: what the check says of a tree. -/
namespace MI
open PySem PySem.Spec PyProof.Rows L2

/-! ### forms -/
theorem chk_sub {c : Ck} {e : Ex} {x : Expr} (h : chkE c e x = true) : isSub x = false := by
  cases x <;> first | rfl | skip
  all_goals
    cases e <;> first
      | cases h
      | (unfold chkE at h
         split at h <;> first | rfl | contradiction | (cases h; done))
theorem chk_tst {c : Ck} {e : Ex} {x : Expr} (h : chkE c e x = true) (k : tstK e = false) : tstX x = false := by
  cases e <;> first | cases k | skip
  all_goals
    first
      | cases h
      | (unfold chkE at h
         split at h <;> first | rfl | cases h)
theorem isTrue_of {x : Expr} {env : PySem.Env} (h : tstX x = false) : ∀ whole, isTrue x env whole = (do let v ← whole; standAt x.pos; holding [v] (truthy v)) := by
  intro whole
  cases x <;> first | rfl | cases h | skip
  rename_i op y p
  cases op <;> first | rfl | cases h
theorem star_of {x : Expr} {xs : List Expr} {env : PySem.Env} (h : isSub x = false) : starEach (x :: xs) env = (false, eval x env) :: starEach xs env := by
  cases x <;> first | rfl | cases h
theorem marks_of {op : CmpOp} {x : Expr} (h : isSub x = false) : behindInMarks op x = false := by
  cases x <;> first | rfl | cases h
theorem plain_of {x : Expr} (h : isSub x = false) : PlainIx x := by
  intro o i
  cases x <;> first | rfl | cases h
theorem fold_of {x : Expr} {env : PySem.Env} (h : isSub x = false) : ∀ z, foldedSetIterable x env z = pure z := by
  intro z
  cases x <;> first | rfl | cases h
theorem swap_of {x : Expr} {tg : Option Expr} {l : Nat} {env : PySem.Env} (h : noComp x = true) : swapsWith x tg l env = pure false := by
  cases x <;> first | rfl | cases h
theorem chks_sub {c : Ck} : ∀ {es : Exs} {xs : List Expr}, chkEs c es xs = true → ∀ x ∈ xs, isSub x = false
  | .nil, [], _, x, hx => by cases hx
  | .nil, _ :: _, h, _, _ => by cases h
  | .cons e r, [], h, _, _ => by cases h
  | .cons e r, y :: ys, h, x, hx => by
    have h : (chkE c e y && chkEs c r ys) = true := h
    rw [Bool.and_eq_true] at h
    rcases List.mem_cons.mp hx with q | q
    · subst q; exact chk_sub h.1
    · exact chks_sub h.2 x q
theorem chks_len {c : Ck} : ∀ {es : Exs} {xs : List Expr}, chkEs c es xs = true → es.len = xs.length
  | .nil, [], _ => rfl
  | .nil, _ :: _, h => by cases h
  | .cons e r, [], h => by cases h
  | .cons e r, y :: ys, h => by
    have h : (chkE c e y && chkEs c r ys) = true := h
    rw [Bool.and_eq_true] at h
    show r.len + 1 = ys.length + 1
    rw [chks_len h.2]
theorem any_of {pos : Pos} {env : PySem.Env} : ∀ {xs : List Expr}, (∀ x ∈ xs, isSub x = false) → (backTo pos (starEach xs env)).any (·.1) = false
  | [], _ => rfl
  | x :: xs, h => by
    rw [star_of (h x List.mem_cons_self)]
    show (false || (backTo pos (starEach xs env)).any (·.1)) = false
    rw [any_of fun y hy => h y (List.mem_cons_of_mem _ hy)]
    rfl
theorem all_of {pos : Pos} {env : PySem.Env} : ∀ {xs : List Expr}, (∀ x ∈ xs, isSub x = false) → (backTo pos (starEach xs env)).all (fun x => !x.1) = true
  | [], _ => rfl
  | x :: xs, h => by
    rw [star_of (h x List.mem_cons_self)]
    show (true && (backTo pos (starEach xs env)).all (fun x => !x.1)) = true
    rw [all_of fun y hy => h y (List.mem_cons_of_mem _ hy)]
    rfl
theorem few_of {pos : Pos} {env : PySem.Env} {xs : List Expr} (h : ∀ x ∈ xs, isSub x = false) (hl : xs.length ≤ 20) : ((backTo pos (starEach xs env)).all (fun x => !x.1) && (backToKw pos (keywordEach [] env)).all (fun x => x.1.isSome)
      && decide (xs.length + ([] : List Keyword).length + (if ([] : List Keyword).isEmpty then 0 else 1) < 30)) = true := by
  rw [all_of h]
  show (true && true && decide (xs.length + 0 + (if true = true then 0 else 1) < 30)) = true
  rw [if_pos rfl]
  simp
  omega
theorem form_of {pos : Pos} {env : PySem.Env} {xs : List Expr} (h : ∀ x ∈ xs, isSub x = false) (hl : xs.length ≤ 20) : methodCallForm (xs.length + ([] : List Keyword).length) (backTo pos (starEach xs env)) (backToKw pos (keywordEach [] env)) = true := few_of h hl
theorem shape_of {X : Cx} {pos : Pos} {xs : List Expr} (h : ∀ x ∈ xs, isSub x = false) : Shape X pos xs := by
  cases xs with
  | nil => exact .inl rfl
  | cons y ys => exact .inr ⟨y, ys, rfl, star_of (h y List.mem_cons_self), any_of fun x hx => h x (List.mem_cons_of_mem _ hx)⟩
theorem dis_form {c : Ck} : ∀ {es : Exs} {ks : List (Option Expr)} {vs : List Expr}, chkDi c es ks vs = true → evenX es = true ∧ ks.length = vs.length ∧ ks.all (·.isSome) = true ∧ es.len = 2 * ks.length
  | .nil, ks, vs, h => by
    unfold chkDi at h
    split at h
    · exact ⟨rfl, rfl, rfl, rfl⟩
    · cases h
  | .cons e .nil, ks, vs, h => by cases h
  | .cons e (.cons e' r), ks, vs, h => by
    unfold chkDi at h
    simp only at h
    split at h
    · simp only [Bool.and_eq_true] at h
      obtain ⟨f1, f2, f3, f4⟩ := dis_form h.2
      refine ⟨f1, by simp [f2], by simpa using f3, ?_⟩
      show r.len + 1 + 1 = 2 * (_ + 1)
      rw [f4]
      omega
    · cases h
theorem chkk_sub {c : Ck} : ∀ {es : Exs} {xs : List Expr} {ks : List Keyword}, chkEk c es xs ks = true → (∀ x ∈ xs, isSub x = false) ∧ es.len = xs.length + ks.length
  | .nil, xs, ks, h => by
    unfold chkEk at h
    split at h
    · exact ⟨fun x hx => (nomatch hx), rfl⟩
    · cases h
  | .cons e r, [], [], h => by cases h
  | .cons e r, [], k :: ks, h => by
    have h : (chkE c e k.value && chkEk c r [] ks) = true := h
    rw [Bool.and_eq_true] at h
    obtain ⟨_, h2⟩ := chkk_sub h.2
    refine ⟨fun x hx => (nomatch hx), ?_⟩
    show r.len + 1 = _
    rw [h2, List.length_cons]
    simp
  | .cons e r, y :: ys, ks, h => by
    have h : (chkE c e y && chkEk c r ys ks) = true := h
    rw [Bool.and_eq_true] at h
    obtain ⟨h1, h2⟩ := chkk_sub h.2
    refine ⟨fun x hx => ?_, ?_⟩
    · rcases List.mem_cons.mp hx with q | q
      · subst q; exact chk_sub h.1
      · exact h1 x q
    · show r.len + 1 = _
      rw [h2, List.length_cons]
      omega
theorem kws_form {pos : Pos} {env : PySem.Env} : ∀ {ks : List Keyword}, ks.all (fun z => z.arg.isSome) = true → (backToKw pos (keywordEach ks env)).all (·.1.isSome) = true ∧ (backToKw pos (keywordEach ks env)).any (·.1.isNone) = false ∧ (backToKw pos (keywordEach ks env)).filterMap (·.1) = kwNames ks ∧ (kwNames ks).length = ks.length
  | [], _ => ⟨rfl, rfl, rfl, rfl⟩
  | k :: ks, h => by
    rw [List.all_cons, Bool.and_eq_true] at h
    obtain ⟨h1, h2, h3, h4⟩ := kws_form (pos := pos) (env := env) h.2
    obtain ⟨kn, kv, kp⟩ := k
    cases kn with
    | none => cases h.1
    | some nm =>
      refine ⟨?_, ?_, ?_, ?_⟩
      · show (true && (backToKw pos (keywordEach ks env)).all (·.1.isSome)) = true
        rw [h1]; rfl
      · show (false || (backToKw pos (keywordEach ks env)).any (·.1.isNone)) = false
        rw [h2]; rfl
      · show nm :: (backToKw pos (keywordEach ks env)).filterMap (·.1) = nm :: kwNames ks
        rw [h3]
      · show (kwNames ks).length + 1 = ks.length + 1
        rw [h4]
theorem kform_of {pos : Pos} {env : PySem.Env} {xs : List Expr} {k : Keyword} {ks : List Keyword} (h : ∀ x ∈ xs, isSub x = false) (h2 : (backToKw pos (keywordEach (k :: ks) env)).all (·.1.isSome) = true) (hl : xs.length + (k :: ks).length ≤ 20) :
    methodCallForm (xs.length + (k :: ks).length) (backTo pos (starEach xs env)) (backToKw pos (keywordEach (k :: ks) env)) = true := by
  have e : ∀ a b, methodCallForm (xs.length + (k :: ks).length) a b = (a.all (fun x => !x.1) && b.all (fun x => x.1.isSome) && decide (xs.length + (k :: ks).length + (if b.isEmpty then 0 else 1) < 30)) := fun a b => rfl
  rw [e, all_of h, h2]
  have q : (if (backToKw pos (keywordEach (k :: ks) env)).isEmpty = true then 0 else 1) ≤ 1 := by split <;> decide
  generalize (if (backToKw pos (keywordEach (k :: ks) env)).isEmpty = true then 0 else 1) = z at q ⊢
  rw [decide_eq_true (show xs.length + (k :: ks).length + z < 30 by omega)]
  rfl
/-! ### targets' forms -/
theorem tgs_form {c : Ck} {env : PySem.Env} : ∀ {ts : Tgs} {xs : List Expr}, chkTgs c ts xs = true → (assignEach xs env).length = ts.len ∧ (assignEach xs env).findIdx? (·.1) = none
  | .nil, [], _ => ⟨rfl, rfl⟩
  | .nil, _ :: _, h => by cases h
  | .cons t r, [], h => by cases h
  | .cons t r, y :: ys, h => by
    have h : (chkTg c t y && chkTgs c r ys) = true := h
    rw [Bool.and_eq_true] at h
    have e : assignEach (y :: ys) env = (false, assign y env) :: assignEach ys env := by
      have h1 := h.1
      cases y <;> first
        | rfl
        | (cases t <;> cases h1)
    obtain ⟨a, b⟩ := tgs_form (env := env) h.2
    rw [e]
    refine ⟨?_, ?_⟩
    · show (assignEach ys env).length + 1 = r.len + 1
      rw [a]
    · rw [List.findIdx?_cons, b]
      rfl
theorem tg_ae {c : Ck} {t : Tg} {y : Expr} {ys : List Expr} {env : PySem.Env} (h : chkTg c t y = true) : (assignEach (y :: ys) env).map (·.2) = assign y env :: (assignEach ys env).map (·.2) := by
  cases y <;> first
    | rfl
    | (cases t <;> cases h)
/-! ### chains as tests -/
theorem cmp_isb {o : COp} {d1 d2 : D} {hp : Hq} {Q' : QD} (h : (oCmp o d1 d2 hp).app Q') : (oCmp o d1 d2 hp).app fun d h => (∃ t, d = .bl t) ∧ Q' d h := by
  have vb : ∀ {ob : OutB} {neg : Bool} {d : D} {h' : Hq}, ob.val neg hp = .ok d h' → ∃ t, d = .bl t := by
    intro ob neg d h' e
    cases ob <;> cases e
    exact ⟨_, rfl⟩
  have vc : ∀ {ob : OutB} {neg : Bool} {d : D} {h' : Hq} {C : Prop}, ob.val neg hp = .cd C d h' → ∃ t, d = .bl t := by
    intro ob neg d h' C e
    cases ob <;> cases e
    exact ⟨_, rfl⟩
  cases e : oCmp o d1 d2 hp with
  | no => rw [e] at h; exact h
  | ok d h' =>
    rw [e] at h
    refine ⟨?_, h⟩
    cases o <;> first
      | exact vb e
      | (cases d1 <;> cases d2 <;> first | (cases e; exact ⟨_, rfl⟩) | cases e)
  | cd C d h' =>
    rw [e] at h
    refine ⟨h.1, ?_, h.2⟩
    cases o <;> first
      | exact vc e
      | (cases d1 <;> cases d2 <;> cases e)
section
variable {X : Cx} {L : Lay} {g : Glob} {cl : Cl} {W : WX} {x y z : Expr} {a b c : Ex} {pos : Pos}
theorem t_cmp2 (hm : ClMono cl) (hu : X.A.units + 65 < cLine) {o p : COp} (ha : PE X x (tE X.K L g cl W a)) (hb : PE X y (tE X.K L g cl W b)) (hc : PE X z (tE X.K L g cl W c)) (hmk : lastMarks [copOf o, copOf p] [y, z] = false) :
    PT X (.Compare x [copOf o, copOf p] [y, z] pos) (tT X.K L g cl W (.cmp2 o p a b c)) :=
  PT.imp (pt_chain (mi_cmp (L := L) hu o) (mi_cmp (L := L) hu p) ha hb hc hmk) fun σ H Q ⟨ρ, hp, env, r, re, h⟩ => by
    unfold wE at h
    refine seq2 (b := b) hm (R := fun v1 v2 H2 => rMI X.K L (oCmp o) v1 v2 H2 fun z H3 => ∃ k, z = .bl k ∧ if k = true then tE X.K L g cl W c σ H3 fun w' H4 => rMI X.K L (oCmp p) v2 w' H4 fun x H' => ∃ k, x = .bl k ∧ Q k H' else (∃ k, V.bl false = .bl k ∧ Q k H3)) r re h fun ρ2 hp2 H2 d1 d2 v1 v2 e r2 q1 q2 q => ⟨ρ2, hp2, d1, d2, r2, q1, q2, OutD.mono (fun d3 hp3 k => ?_) q⟩
    intro ρ3 H3 v3 e3 r3 d3r
    cases d3r with
    | bl t =>
      refine ⟨t, rfl, ?_⟩
      cases t with
      | true =>
        rw [if_pos rfl]
        refine ⟨ρ3, hp3, env, r3, (re.mono e).mono e3, wE_mono hm c env hp3 _ _ _ _ (fun d4 hp4 q4 => ?_) (fun _ _ _ z => z.ext (e.trans e3)) k⟩
        intro ρ4 H4 v4 e4 r4 d4r
        refine ⟨ρ4, hp4, d2, d4, r4, (q2.mono e3).mono e4, d4r, OutD.mono (fun d5 hp5 k5 => ?_) (cmp_isb q4)⟩
        obtain ⟨⟨t, rfl⟩, k5⟩ := k5
        intro ρ5 H5 v5 e5 r5 d5r
        cases d5r
        exact ⟨t, rfl, k5 _ _ (((e.trans e3).trans e4).trans e5) r5⟩
      | false =>
        rw [if_neg Bool.false_ne_true]
        exact ⟨false, rfl, k _ _ (e.trans e3) r3⟩
    | _ => exact False.elim k
theorem e_bool1 {op : BoolOp} {t : TE} (h : PE X x t) : PE X (.BoolOp op [x] pos) t := ⟨fun pins s σ H Q I q => by
  have e : eval (.BoolOp op [x] pos) X.env = eval x X.env := by cases op <;> rfl
  rw [e]
  exact h.run pins s σ H Q I q⟩
end
end MI
set_option maxHeartbeats 4000000
/-! MI, part 17: the check is enough (expressions). -/
namespace MI
open PySem PySem.Spec PyProof.Rows L2

structure Good (S : Nm) (g : Glob) (L : Lay) (n : Nat) (X : Cx) (c : Ck) (W : WX) : Prop where
  nm : c.nm = S
  sc : c.sc = X.env.scope
  N : c.N = X.N
  nd : X.N.Nodup
  fn : c.top = true → ∀ x, X.fn x = true
  calm : X.calm = true
  gd : X.A.guards = some []
  room : Room (2 * n + 1) X.A
  tk : Takes X W
  po : PassesOwn (model X.prog X.w) X.A X.env X.xe
  kind : X.env.scope.kind = .function
  tf : TF S g X.prog X.w X.K X.mg X.base L n
section
variable {S : Nm} {g : Glob} {L : Lay} {n : Nat} {X : Cx} {c : Ck} {W : WX}
theorem Good.u200 (G : Good S g L n X c W) : X.A.units + 200 < cLine := by have := G.room.un; omega
theorem Good.u65 (G : Good S g L n X c W) : X.A.units + 65 < cLine := by have := G.room.un; omega
theorem Good.hr (G : Good S g L n X c W) : Room (2 * n) X.A := G.room.mono (by omega)
theorem Good.blk (G : Good S g L n X c W) {scope : Scope} (hk : scope.kind = .function) (s : Shared) (H : Hp) (C : Addr) (ce : List (Str × Addr)) (fp : List Addr) :
    Good S g L n (X.blk s H scope (compEnvC scope ce C X.env) fp) (c.inner scope) (fun _ _ _ _ => False) where
  nm := G.nm
  sc := by rw [show (c.inner scope).sc = relS scope c.sc from rfl, G.sc]; rfl
  N := G.N
  nd := G.nd
  fn := fun h => by cases h
  calm := G.calm
  gd := G.gd
  room := G.room
  tk := fun u s' ⟨_, _, _, _, _, _, _, _, _, _, _, _, _, _, _, _, w⟩ => w
  po := PassesOwn.never
  kind := by
    show (relS scope X.env.scope).kind = .function
    exact hk
  tf := G.tf
theorem Good.loc (G : Good S g L n X c W) {x : Str} (h : c.loc x = true) : Loc X.env.scope x ∧ (X.fn x = true ∨ X.env.scope.names.lookup x = some .local) := by
  unfold Ck.loc at h
  rw [G.sc] at h
  split at h
  · rename_i e
    exact ⟨.inl e, .inr e⟩
  · rename_i e
    exact ⟨.inr e, .inl (G.fn h x)⟩
  · cases h
theorem Good.vis (G : Good S g L n X c W) {x : Str} (h : c.vis x = true) : Vis X.env.scope x ∧ (x == ("__debug__" : Str)) = false ∧ (x == ("__classdict__" : Str)) = false := by
  unfold Ck.vis at h
  rw [G.sc] at h
  simp only [Bool.and_eq_true, Bool.not_eq_true'] at h
  obtain ⟨⟨h1, h2⟩, h3⟩ := h
  refine ⟨?_, h2, h3⟩
  split at h1
  · rename_i e; exact .inl e
  · rename_i e; exact .inr (.inl e)
  · rename_i e; exact .inr (.inr e)
  · cases h1
theorem Good.glob (G : Good S g L n X c W) {x : Str} (h : c.glob x = true) : Gl X x ∧ (x == ("__debug__" : Str)) = false ∧ x ≠ "__name__" ∧ (x != ("super" : Str)) = true := by
  unfold Ck.glob at h
  rw [G.sc] at h
  simp only [Bool.and_eq_true, Bool.not_eq_true', decide_eq_true_eq] at h
  obtain ⟨⟨⟨h1, h2⟩, h3⟩, h4⟩ := h
  exact ⟨h1, h2, h3, h4⟩
theorem Good.blt (G : Good S g L n X c W) {x : Str} (h : c.nm.blts.contains x = true) : X.mg x = none := G.tf.blt x (by rw [← G.nm]; simpa using h)
/-- super() is no base of the text's -/
theorem base_of {e : Ex} {x : Expr} (G : Good S g L n X c W) (h : chkE c e x = true) (nm : Str) : attributeBase x nm X.env (eval x X.env) = eval x X.env := by
  refine ab_ok fun id p pos hx => ?_
  subst hx
  cases e <;> first
    | cases h
    | skip
  all_goals
    first
      | (rename_i d; cases d <;> cases h; done)
      | (unfold chkE at h
         simp only [Bool.and_eq_true] at h
         exact (G.glob h.1.2).2.2.2)
      | (unfold chkE at h
         simp only [Bool.and_eq_true] at h
         exact (G.glob h.2).2.2.2)
end

structure EOk (X : Cx) (L : Lay) (g : Glob) (cl : Cl) (W : WX) (e : Ex) (x : Expr) : Prop where
  pe : PE X x (tE X.K L g cl W e)
  pt : PT X x (tT X.K L g cl W e)
  pw : isBoolX x = true → PW X x (tT X.K L g cl W e)
theorem EOk.of {X : Cx} {L : Lay} {g : Glob} {cl : Cl} {W : WX} {e : Ex} {x : Expr} (hm : ClMono cl) (h : PE X x (tE X.K L g cl W e)) (ht : tstX x = false) : EOk X L g cl W e x :=
  ⟨h, t_plain hm h (isTrue_of ht), fun hb => by cases x <;> first | (cases hb; done) | (cases ht; done)⟩

section
variable {S : Nm} {g : Glob} {L : Lay} {n : Nat}
mutual
theorem okE : ∀ (e : Ex) {X : Cx} {c : Ck} {W : WX} {x : Expr}, Good S g L n X c W → chkE c e x = true → EOk X L g (wCall g n) W e x
  | .var i, X, c, W, x, G, h => by
    refine EOk.of (wCall_mono g n) ?_ (chk_tst h rfl)
    unfold chkE at h
    split at h
    · simp only [Bool.and_eq_true, decide_eq_true_eq] at h
      obtain ⟨a, b, d⟩ := G.vis h.2
      exact s_var (by rw [← G.N]; exact h.1) a b d
    · cases h
  | .lit d, X, c, W, x, G, h => by
    refine EOk.of (wCall_mono g n) ?_ (chk_tst h rfl)
    unfold chkE at h
    split at h
    · exact s_non
    · have h := beq_iff_eq.mp h
      subst h
      exact s_bl
    · have h := of_decide_eq_true h
      subst h
      exact s_int
    · have h := of_decide_eq_true h
      subst h
      exact s_str
    · cases h
  | .glob k, X, c, W, x, G, h => by
    refine EOk.of (wCall_mono g n) ?_ (chk_tst h rfl)
    unfold chkE at h
    split at h
    · simp only [Bool.and_eq_true, decide_eq_true_eq] at h
      obtain ⟨a, b, _⟩ := G.glob h.2
      obtain ⟨d, u, v, h1, h2, h3, h4⟩ := G.tf.con k _ (by rw [← G.nm]; exact h.1)
      exact s_glob a h2 h3 h1 h4 b
    · cases h
  | .bin o a b, X, c, W, x, G, h => by
    refine EOk.of (wCall_mono g n) ?_ (chk_tst h rfl)
    unfold chkE at h
    split at h
    · simp only [Bool.and_eq_true, decide_eq_true_eq] at h
      obtain ⟨⟨rfl, h1⟩, h2⟩ := h
      exact s_bin (wCall_mono g n) (okE a G h1).pe (okE b G h2).pe
    · cases h
  | .neg a, X, c, W, x, G, h => by
    refine EOk.of (wCall_mono g n) ?_ (chk_tst h rfl)
    unfold chkE at h
    split at h
    · exact s_neg (wCall_mono g n) (okE a G h).pe
    · cases h
  | .cmp o a b, X, c, W, x, G, h => by
    unfold chkE at h
    split at h
    · simp only [Bool.and_eq_true, decide_eq_true_eq] at h
      obtain ⟨⟨rfl, h1⟩, h2⟩ := h
      have pa := (okE a G h1).pe
      have pb := (okE b G h2).pe
      exact ⟨s_cmp (wCall_mono g n) G.u65 pa pb (marks_of (chk_sub h2)), t_cmp (wCall_mono g n) G.u65 pa pb (marks_of (chk_sub h2)), fun z => by cases z⟩
    · cases h
  | .cmp2 o p a b d, X, c, W, x, G, h => by
    unfold chkE at h
    split at h
    · simp only [Bool.and_eq_true, decide_eq_true_eq] at h
      obtain ⟨⟨⟨⟨rfl, rfl⟩, h1⟩, h2⟩, h3⟩ := h
      have pa := (okE a G h1).pe
      have pb := (okE b G h2).pe
      have pd := (okE d G h3).pe
      have hmk : ∀ {y z : Expr}, isSub z = false → lastMarks [copOf o, copOf p] [y, z] = false := fun hz => marks_of hz
      exact ⟨s_cmp2 (wCall_mono g n) G.u65 pa pb pd (hmk (chk_sub h3)), t_cmp2 (wCall_mono g n) G.u65 pa pb pd (hmk (chk_sub h3)), fun z => by cases z⟩
    · cases h
  | .and a b, X, c, W, x, G, h => by
    unfold chkE at h
    split at h
    · rename_i y z rest p
      rw [Bool.and_eq_true] at h
      obtain ⟨h1, h2⟩ := h
      have oa := okE a G h1
      cases rest with
      | nil =>
        have ob := okE b G h2
        have w := t_and (pos := p) (wCall_mono g n) oa.pt (PW.imp (pw_and1 ob.pt) fun _ _ _ q => q)
        exact ⟨s_and (wCall_mono g n) oa.pe (e_bool1 ob.pe), w.pt, fun _ => w⟩
      | cons z2 rest =>
        have ob := okE b G h2
        have w := t_and (pos := p) (wCall_mono g n) oa.pt (ob.pw rfl)
        exact ⟨s_and (wCall_mono g n) oa.pe ob.pe, w.pt, fun _ => w⟩
    · cases h
  | .or a b, X, c, W, x, G, h => by
    unfold chkE at h
    split at h
    · rename_i y z rest p
      rw [Bool.and_eq_true] at h
      obtain ⟨h1, h2⟩ := h
      have oa := okE a G h1
      cases rest with
      | nil =>
        have ob := okE b G h2
        have w := t_or (pos := p) (wCall_mono g n) oa.pt (PW.imp (pw_or1 ob.pt) fun _ _ _ q => q)
        exact ⟨s_or (wCall_mono g n) oa.pe (e_bool1 ob.pe), w.pt, fun _ => w⟩
      | cons z2 rest =>
        have ob := okE b G h2
        have w := t_or (pos := p) (wCall_mono g n) oa.pt (ob.pw rfl)
        exact ⟨s_or (wCall_mono g n) oa.pe ob.pe, w.pt, fun _ => w⟩
    · cases h
  | .not a, X, c, W, x, G, h => by
    unfold chkE at h
    split at h
    · have oa := okE a G h
      exact ⟨s_not (wCall_mono g n) oa.pe, t_not oa.pt (wCall_mono g n), fun z => by cases z⟩
    · cases h
  | .ite t a b, X, c, W, x, G, h => by
    unfold chkE at h
    split at h
    · simp only [Bool.and_eq_true] at h
      obtain ⟨⟨h1, h2⟩, h3⟩ := h
      have ot := okE t G h1
      have oa := okE a G h2
      have ob := okE b G h3
      exact ⟨s_ite (wCall_mono g n) ot.pt oa.pe ob.pe, t_ite (wCall_mono g n) ot.pt oa.pt ob.pt, fun z => by cases z⟩
    · cases h
  | .tup es, X, c, W, x, G, h => by
    refine EOk.of (wCall_mono g n) ?_ (chk_tst h rfl)
    unfold chkE at h
    split at h
    · simp only [Bool.and_eq_true, decide_eq_true_eq] at h
      exact s_tup (wCall_mono g n) (okEs es G h.1) (by rw [chks_len h.1]; exact h.2)
    · cases h
  | .lst es, X, c, W, x, G, h => by
    refine EOk.of (wCall_mono g n) ?_ (chk_tst h rfl)
    unfold chkE at h
    split at h
    · simp only [Bool.and_eq_true, decide_eq_true_eq] at h
      exact s_lst (wCall_mono g n) (okEs es G h.1) (by rw [chks_len h.1]; exact h.2)
    · cases h
  | .dic es, X, c, W, x, G, h => by
    refine EOk.of (wCall_mono g n) ?_ (chk_tst h rfl)
    unfold chkE at h
    split at h
    · rename_i ks vs p
      simp only [Bool.and_eq_true, decide_eq_true_eq] at h
      cases ks with
      | nil =>
        cases es with
        | nil =>
          cases vs with
          | nil => exact s_dic0
          | cons _ _ => cases h.1
        | cons e r => cases r <;> cases h.1
      | cons k ks =>
        obtain ⟨f1, f2, f3, f4⟩ := dis_form h.1
        exact s_dic (wCall_mono g n) (okDi es G h.1) f1 f2 f3 h.2 f4 (by intro z; cases z)
    · cases h
  | .bty b, X, c, W, x, G, h => by
    refine EOk.of (wCall_mono g n) ?_ (chk_tst h rfl)
    unfold chkE at h
    split at h
    · simp only [Bool.and_eq_true, decide_eq_true_eq] at h
      obtain ⟨⟨⟨rfl, h2⟩, h3⟩, h4⟩ := h
      obtain ⟨ga, gb, gn, _⟩ := G.glob h3
      exact s_bty (by simpa using h2) ga (G.blt h4) gn gb
    · cases h
  | .mmd mx a d, X, c, W, x, G, h => by
    refine EOk.of (wCall_mono g n) ?_ (chk_tst h rfl)
    unfold chkE at h
    split at h
    · simp only [Bool.and_eq_true, decide_eq_true_eq] at h
      obtain ⟨⟨⟨⟨⟨rfl, rfl⟩, h3⟩, h4⟩, h5⟩, h6⟩ := h
      obtain ⟨ga, gb, gn, _⟩ := G.glob h3
      exact s_mmd (wCall_mono g n) G.calm G.u200 ga (G.blt h4) (okE a G h5).pe (okE d G h6).pe (chk_sub h5)
    · cases h
  | .ix a i, X, c, W, x, G, h => by
    refine EOk.of (wCall_mono g n) ?_ (chk_tst h rfl)
    unfold chkE at h
    split at h
    · rw [Bool.and_eq_true] at h
      exact s_ix (wCall_mono g n) G.u65 (okE a G h.1).pe (okE i G h.2).pe (plain_of (chk_sub h.2))
    · cases h
  | .sl a lo hi, X, c, W, x, G, h => by
    refine EOk.of (wCall_mono g n) ?_ (chk_tst h rfl)
    unfold chkE at h
    split at h
    · simp only [Bool.and_eq_true] at h
      exact s_sl (wCall_mono g n) (okE a G h.1.1).pe ((okEo lo).1 G h.1.2) ((okEo hi).1 G h.2)
    · cases h
  | .fld a f, X, c, W, x, G, h => by
    refine EOk.of (wCall_mono g n) ?_ (chk_tst h rfl)
    unfold chkE at h
    split at h
    · simp only [Bool.and_eq_true, decide_eq_true_eq] at h
      exact s_fld (wCall_mono g n) G.tf (by rw [← G.nm]; exact h.1) (okE a G h.2).pe (base_of G h.2 _)
    · cases h
  | .call f es, X, c, W, x, G, h => by
    refine EOk.of (wCall_mono g n) ?_ (chk_tst h rfl)
    unfold chkE at h
    split at h
    · simp only [Bool.and_eq_true, decide_eq_true_eq] at h
      obtain ⟨a, b, _⟩ := G.glob h.1.2
      exact s_call G.tf G.hr G.gd G.tk (by rw [← G.nm]; exact h.1.1) a b (okEs es G h.2) (shape_of (chks_sub h.2)) fun z => by cases z
    · simp only [Bool.and_eq_true, decide_eq_true_eq] at h
      obtain ⟨a, b, _⟩ := G.glob h.1.2
      cases es with
      | nil => exact s_call G.tf G.hr G.gd G.tk (by rw [← G.nm]; exact h.1.1) a b sa_nil (.inl rfl) fun _ => rfl
      | cons _ _ => cases h.2
    · cases h
  | .make k es, X, c, W, x, G, h => by
    refine EOk.of (wCall_mono g n) ?_ (chk_tst h rfl)
    unfold chkE at h
    split at h
    · simp only [Bool.and_eq_true, decide_eq_true_eq] at h
      obtain ⟨a, b, _⟩ := G.glob h.1.2
      have hk := h.1.1
      rw [G.nm] at hk
      exact s_make G.tf G.room G.gd G.tk hk a b (G.tf.ini _ _ hk) (okEs es G h.2) (shape_of (chks_sub h.2)) fun z => by cases z
    · simp only [Bool.and_eq_true, decide_eq_true_eq] at h
      obtain ⟨a, b, _⟩ := G.glob h.1.2
      have hk := h.1.1
      rw [G.nm] at hk
      cases es with
      | nil => exact s_make G.tf G.room G.gd G.tk hk a b (G.tf.ini _ _ hk) sa_nil (.inl rfl) fun _ => rfl
      | cons _ _ => cases h.2
    · cases h
  | .meth a m es, X, c, W, x, G, h => by
    refine EOk.of (wCall_mono g n) ?_ (chk_tst h rfl)
    unfold chkE at h
    split at h
    · simp only [Bool.and_eq_true, decide_eq_true_eq] at h
      obtain ⟨⟨⟨⟨h1, h2⟩, h3⟩, h4⟩, h5⟩ := h
      exact s_meth G.tf G.hr G.gd G.tk (by rw [← G.nm]; exact h1) (okE a G h2).pe (okEs es G h3) (shape_of (chks_sub h3)) (fun z => by cases z) (base_of G h2 _) h5 (form_of (chks_sub h3) h4)
    · simp only [Bool.and_eq_true, decide_eq_true_eq] at h
      obtain ⟨⟨⟨h1, h2⟩, h3⟩, h5⟩ := h
      cases es with
      | nil => exact s_meth G.tf G.hr G.gd G.tk (by rw [← G.nm]; exact h1) (okE a G h2).pe sa_nil (.inl rfl) (fun _ => rfl) (base_of G h2 _) h5 rfl
      | cons _ _ => cases h3
    · cases h
  | .blt b es, X, c, W, x, G, h => by
    refine EOk.of (wCall_mono g n) ?_ (chk_tst h rfl)
    unfold chkE at h
    split at h
    · simp only [Bool.and_eq_true, decide_eq_true_eq] at h
      obtain ⟨⟨⟨⟨rfl, h2⟩, h3⟩, h4⟩, h5⟩ := h
      obtain ⟨ga, gb, _⟩ := G.glob h2
      have hs := chks_sub h4
      exact s_blt (wCall_mono g n) G.calm G.gd G.u200 ga (G.blt h3) (okEs es G h4) (star_of (hs _ List.mem_cons_self)) (any_of fun y hy => hs y (List.mem_cons_of_mem _ hy))
    · cases h
  | .bm m a es, X, c, W, x, G, h => by
    refine EOk.of (wCall_mono g n) ?_ (chk_tst h rfl)
    unfold chkE at h
    split at h
    · simp only [Bool.and_eq_true, decide_eq_true_eq] at h
      obtain ⟨⟨⟨⟨rfl, h2⟩, h3⟩, h4⟩, h5⟩ := h
      have hs := chks_sub h3
      exact s_bm (wCall_mono g n) G.calm G.u65 (okE a G h2).pe (okEs es G h3) (base_of G h2 _) (few_of hs (by omega)) h5 (star_of (hs _ List.mem_cons_self)) (any_of fun y hy => hs y (List.mem_cons_of_mem _ hy))
    · simp only [Bool.and_eq_true, decide_eq_true_eq] at h
      obtain ⟨⟨⟨rfl, h2⟩, h3⟩, h5⟩ := h
      cases es with
      | nil => exact s_bm0 (wCall_mono g n) G.calm G.u65 (okE a G h2).pe (base_of G h2 _) h5
      | cons _ _ => cases h3
    · cases h
  | .lc own t it d e', X, c, W, x, G, h => by
    refine EOk.of (wCall_mono g n) ?_ (chk_tst h rfl)
    unfold chkE at h
    split at h
    · rename_i elt tg iter ifs scope pos
      simp only [Bool.and_eq_true] at h
      obtain ⟨⟨⟨⟨⟨⟨h1, h2⟩, h3⟩, h4⟩, h5⟩, h6⟩, h7⟩ := h
      rw [G.N, G.sc] at h1
      have ok := blkOk_by h1
      have how : (ownOf X.N own).map (·.2) = own := by
        unfold ownOf
        rw [List.map_map]
        exact List.map_id' own
      have G2 := fun s H C ce fp => G.blk ok.kind s H C ce fp
      exact s_lc (wCall_mono g n) how h3 G.calm G.nd (okIt it G h4 h5).1 ok (fun s H C ce fp => okTg t (G2 s H C ce fp) h2) (fun s H C ce fp => (okEo d).2 (G2 s H C ce fp) h6) (fun s H C ce fp => (okE e' (G2 s H C ce fp) h7).pe) (okIt it G h4 h5).2
    · cases h
  | .dc own t it d k e', X, c, W, x, G, h => by
    refine EOk.of (wCall_mono g n) ?_ (chk_tst h rfl)
    unfold chkE at h
    split at h
    · rename_i kx elt tg iter ifs scope pos
      simp only [Bool.and_eq_true] at h
      obtain ⟨⟨⟨⟨⟨⟨⟨h1, h2⟩, h3⟩, h4⟩, h5⟩, h6⟩, h7⟩, h8⟩ := h
      rw [G.N, G.sc] at h1
      have ok := blkOk_by h1
      have how : (ownOf X.N own).map (·.2) = own := by
        unfold ownOf
        rw [List.map_map]
        exact List.map_id' own
      have G2 := fun s H C ce fp => G.blk ok.kind s H C ce fp
      exact s_dc (wCall_mono g n) how h3 G.calm G.nd (okIt it G h4 h5).1 ok (fun s H C ce fp => okTg t (G2 s H C ce fp) h2) (fun s H C ce fp => (okEo d).2 (G2 s H C ce fp) h6) (fun s H C ce fp => (okE k (G2 s H C ce fp) h7).pe) (fun s H C ce fp => (okE e' (G2 s H C ce fp) h8).pe) (okIt it G h4 h5).2
    · cases h
  | .lc2 own own1 t it t1 a e', X, c, W, x, G, h => by
    refine EOk.of (wCall_mono g n) ?_ (chk_tst h rfl)
    unfold chkE at h
    split at h
    · rename_i elt tg iter tg1 iter1 scope pos
      simp only [Bool.and_eq_true] at h
      obtain ⟨⟨⟨⟨⟨⟨⟨⟨⟨h1, h2⟩, h3⟩, h4⟩, h5⟩, h6⟩, h7⟩, h8⟩, h9⟩, h10⟩ := h
      rw [G.N, G.sc] at h1
      have ok := blkOk_by h1
      have how : (ownOf X.N own).map (·.2) = own := by
        unfold ownOf
        rw [List.map_map]
        exact List.map_id' own
      have G2 := fun s H C ce fp => G.blk ok.kind s H C ce fp
      have hin : ∀ i ∈ own1, i ∈ own := fun i hi => by simpa using List.all_eq_true.mp h8 i hi
      exact s_lc2 (wCall_mono g n) how hin h3 h7 G.calm G.nd (okIt it G h4 h5).1 ok (fun s H C ce fp => okTg t (G2 s H C ce fp) h2) (fun s H C ce fp => okTg t1 (G2 s H C ce fp) h6) (fun s H C ce fp => (okE a (G2 s H C ce fp) h9).pe) (fun s H C ce fp => (okE e' (G2 s H C ce fp) h10).pe) (okIt it G h4 h5).2 (fun env => fold_of (chk_sub h9))
    · cases h
  | .lenD a m, X, c, W, x, G, h => by
    refine EOk.of (wCall_mono g n) ?_ (chk_tst h rfl)
    unfold chkE at h
    split at h
    · simp only [Bool.and_eq_true, decide_eq_true_eq] at h
      obtain ⟨⟨⟨⟨rfl, h2⟩, h3⟩, h4⟩, h5⟩ := h
      obtain ⟨ga, gb, gn, _⟩ := G.glob h2
      exact s_lenD G.tf G.room G.calm G.gd G.gd G.u200 (by rw [← G.nm]; exact h4) ga (G.blt h3) (okE a G h5).pe (chk_sub h5)
    · cases h
  | .callK _ _ _, X, c, W, x, G, h => by cases h
  | .makeK _ _ _, X, c, W, x, G, h => by cases h
  | .methK a m es pm, X, c, W, x, G, h => by
    refine EOk.of (wCall_mono g n) ?_ (chk_tst h rfl)
    unfold chkE at h
    split at h
    · rename_i o nm p xs k ks q
      simp only [Bool.and_eq_true, decide_eq_true_eq, List.any_eq_true] at h
      obtain ⟨⟨⟨⟨⟨⟨h1, h2⟩, h3⟩, h4⟩, ⟨e, he, ⟨⟨e1, e2⟩, e3⟩, e4⟩⟩, h6⟩, h7⟩ := h
      obtain ⟨pa, pk⟩ := okEk es G h3
      obtain ⟨s1, s2⟩ := chkk_sub h3
      obtain ⟨k1, k2, k3, k4⟩ := kws_form (pos := q) (env := X.env) h4
      obtain ⟨em, en, ek, ep⟩ := e
      simp only at e1 e2 e3 e4
      subst e1 e2 e3
      exact s_methK G.tf G.hr G.gd G.tk (by rw [← G.nm]; exact h1) (okE a G h2).pe pa pk (shape_of s1) (base_of G h2 _) h7 (kform_of s1 k1 h6) s2 k1 k2 k3 k4 (by rw [← G.nm]; exact he) (perm_inl e4)
    · cases h
theorem okEs : ∀ (es : Exs) {X : Cx} {c : Ck} {W : WX} {xs : List Expr}, Good S g L n X c W → chkEs c es xs = true → PA X xs (tEs X.K L g (wCall g n) W es)
  | .nil, X, c, W, xs, G, h => by
    cases xs with
    | nil => exact sa_nil
    | cons _ _ => cases h
  | .cons e r, X, c, W, xs, G, h => by
    cases xs with
    | nil => cases h
    | cons y ys =>
      have h : (chkE c e y && chkEs c r ys) = true := h
      rw [Bool.and_eq_true] at h
      exact sa_cons (wCall_mono g n) (okE e G h.1).pe (okEs r G h.2) (star_of (chk_sub h.1))
theorem okEk : ∀ (es : Exs) {X : Cx} {c : Ck} {W : WX} {xs : List Expr} {ks : List Keyword}, Good S g L n X c W → chkEk c es xs ks = true → PA X xs (tEs X.K L g (wCall g n) W (takeX xs.length es)) ∧ PK X ks (tEs X.K L g (wCall g n) W (dropX xs.length es))
  | .nil, X, c, W, xs, ks, G, h => by
    unfold chkEk at h
    split at h
    · exact ⟨sa_nil, sk_nil⟩
    · cases h
  | .cons e r, X, c, W, xs, ks, G, h => by
    cases xs with
    | nil =>
      cases ks with
      | nil => cases h
      | cons k ks =>
        have h : (chkE c e k.value && chkEk c r [] ks) = true := h
        rw [Bool.and_eq_true] at h
        have q := (okEk r G h.2).2
        refine ⟨sa_nil, sk_cons (wCall_mono g n) (okE e G h.1).pe ?_⟩
        cases r <;> exact q
    | cons y ys =>
      have h : (chkE c e y && chkEk c r ys ks) = true := h
      rw [Bool.and_eq_true] at h
      have q := okEk r G h.2
      exact ⟨sa_cons (wCall_mono g n) (okE e G h.1).pe q.1 (star_of (chk_sub h.1)), q.2⟩
theorem okDi : ∀ (es : Exs) {X : Cx} {c : Ck} {W : WX} {ks : List (Option Expr)} {vs : List Expr} {pos : Pos}, Good S g L n X c W → chkDi c es ks vs = true → PPs X pos ks vs (trsOf X.K L g (wCall g n) W es)
  | .nil, X, c, W, ks, vs, pos, G, h => by
    unfold chkDi at h
    split at h
    · exact pps_nil
    · cases h
  | .cons e .nil, X, c, W, ks, vs, pos, G, h => by cases h
  | .cons e (.cons e' r), X, c, W, ks, vs, pos, G, h => by
    unfold chkDi at h
    simp only at h
    split at h
    · simp only [Bool.and_eq_true] at h
      exact pps_cons (okE e G h.1.1).pe (okE e' G h.1.2).pe (okDi r G h.2)
    · cases h
theorem okEo : ∀ (eo : Exo), (∀ {X : Cx} {c : Ck} {W : WX} {x : Option Expr}, Good S g L n X c W → chkEo c eo x = true → PO X x (tEo X.K L g (wCall g n) W eo)) ∧
    (∀ {X : Cx} {c : Ck} {x : List Expr}, Good S g L n X c (fun _ _ _ _ => False) → chkIf c eo x = true → PTs X x (ttOf X.K L g (wCall g n) eo))
  | .no => by
    refine ⟨fun {X c W x} G h => ?_, fun {X c x} G h => ?_⟩
    · cases x with
      | none => exact so_no
      | some _ => cases h
    · cases x with
      | nil => exact pts_nil
      | cons _ _ => cases h
  | .so e => by
    refine ⟨fun {X c W x} G h => ?_, fun {X c x} G h => ?_⟩
    · cases x with
      | none => cases h
      | some y => exact so_so (wCall_mono g n) (okE e G h).pe
    · cases x with
      | nil => cases h
      | cons y ys =>
        cases ys with
        | nil => exact pts_one (okE e G h).pt
        | cons _ _ => cases h
theorem okTg : ∀ (t : Tg) {X : Cx} {c : Ck} {W : WX} {x : Expr}, Good S g L n X c W → chkTg c t x = true → PG X x (tG X.K L g (wCall g n) t)
  | .nm i, X, c, W, x, G, h => by
    unfold chkTg at h
    split at h
    · simp only [Bool.and_eq_true, decide_eq_true_eq] at h
      obtain ⟨a, b⟩ := G.loc h.2
      exact g_nm G.nd (by rw [← G.N]; exact h.1) a b
    · cases h
  | .tp ts, X, c, W, x, G, h => by
    unfold chkTg at h
    split at h
    · exact g_tp G.calm (okTgs ts G h) (tgs_form h).1 (tgs_form h).2
    · cases h
  | .at o f, X, c, W, x, G, h => by
    unfold chkTg at h
    split at h
    · simp only [Bool.and_eq_true, decide_eq_true_eq] at h
      exact g_at (wCall_mono g n) G.tf (by rw [← G.nm]; exact h.1) (okE o G h.2).pe
    · cases h
  | .sb o i, X, c, W, x, G, h => by
    unfold chkTg at h
    split at h
    · rw [Bool.and_eq_true] at h
      exact g_sb (wCall_mono g n) G.u65 (okE o G h.1).pe (okE i G h.2).pe (chk_sub h.2)
    · cases h
theorem okTgs : ∀ (ts : Tgs) {X : Cx} {c : Ck} {W : WX} {xs : List Expr}, Good S g L n X c W → chkTgs c ts xs = true → PGs X xs (tGs X.K L g (wCall g n) ts)
  | .nil, X, c, W, xs, G, h => by
    cases xs with
    | nil => exact gs_nil
    | cons _ _ => cases h
  | .cons t r, X, c, W, xs, G, h => by
    cases xs with
    | nil => cases h
    | cons y ys =>
      have h : (chkTg c t y && chkTgs c r ys) = true := h
      rw [Bool.and_eq_true] at h
      exact gs_cons (wCall_mono g n) (okTg t G h.1) (okTgs r G h.2) (tg_ae h.1)
theorem okIt : ∀ (it : Ix) {X : Cx} {c : Ck} {W : WX} {tg x : Expr}, Good S g L n X c W → itTg it tg = true → chkIt c it x = true → PI X tg x (tI X.K L g (wCall g n) W X.H_0 it) ∧ ∀ z, foldedSetIterable x X.env z = pure z
  | .vl e, X, c, W, tg, x, G, ht, h => by
    have h : chkE c e x = true := h
    exact ⟨i_vl (wCall_mono g n) (okE e G h).pe, fold_of (chk_sub h)⟩
  | .rng1 e, X, c, W, tg, x, G, ht, h => by
    unfold chkIt at h
    split at h
    · simp only [Bool.and_eq_true, decide_eq_true_eq] at h
      obtain ⟨⟨⟨rfl, h2⟩, h3⟩, h4⟩ := h
      obtain ⟨ga, gb, _⟩ := G.glob h2
      exact ⟨i_rng1 (wCall_mono g n) ga (G.blt h3) (okE e G h4).pe (star_of (chk_sub h4)) rfl, fun _ => rfl⟩
    · cases h
  | .rng2 a b, X, c, W, tg, x, G, ht, h => by
    unfold chkIt at h
    split at h
    · simp only [Bool.and_eq_true, decide_eq_true_eq] at h
      obtain ⟨⟨⟨⟨rfl, h2⟩, h3⟩, h4⟩, h5⟩ := h
      obtain ⟨ga, gb, _⟩ := G.glob h2
      have e2 := star_of (xs := []) (env := X.env) (chk_sub h5)
      exact ⟨i_rng2 (wCall_mono g n) ga (G.blt h3) (okE a G h4).pe (okE b G h5).pe ((star_of (chk_sub h4)).trans (by rw [e2]; rfl)) e2 rfl, fun _ => rfl⟩
    · cases h
  | .enum e, X, c, W, tg, x, G, ht, h => by
    unfold chkIt at h
    split at h
    · simp only [Bool.and_eq_true, decide_eq_true_eq] at h
      obtain ⟨⟨⟨rfl, h2⟩, h3⟩, h4⟩ := h
      obtain ⟨ga, gb, _⟩ := G.glob h2
      cases tg <;> first | cases ht | skip
      exact ⟨i_enum (wCall_mono g n) ga (G.blt h3) (okE e G h4).pe (star_of (chk_sub h4)) rfl, fun _ => rfl⟩
    · cases h
  | .zip2 a b, X, c, W, tg, x, G, ht, h => by
    unfold chkIt at h
    split at h
    · simp only [Bool.and_eq_true, decide_eq_true_eq] at h
      obtain ⟨⟨⟨⟨rfl, h2⟩, h3⟩, h4⟩, h5⟩ := h
      obtain ⟨ga, gb, _⟩ := G.glob h2
      cases tg <;> first | cases ht | skip
      have e2 := star_of (xs := []) (env := X.env) (chk_sub h5)
      exact ⟨i_zip (wCall_mono g n) ga (G.blt h3) (okE a G h4).pe (okE b G h5).pe (star_of (chk_sub h4)) e2 rfl (by rw [e2]; rfl), fun _ => rfl⟩
    · cases h
  | .items e, X, c, W, tg, x, G, ht, h => by
    unfold chkIt at h
    split at h
    · simp only [Bool.and_eq_true, decide_eq_true_eq] at h
      obtain ⟨⟨rfl, h2⟩, h3⟩ := h
      cases tg <;> first | cases ht | skip
      exact ⟨i_items (wCall_mono g n) (okE e G h2).pe (base_of G h2 _) h3, fun _ => rfl⟩
    · cases h
  | .vals e, X, c, W, tg, x, G, ht, h => by
    unfold chkIt at h
    split at h
    · simp only [Bool.and_eq_true, decide_eq_true_eq] at h
      obtain ⟨⟨rfl, h2⟩, h3⟩ := h
      exact ⟨i_vals (wCall_mono g n) (okE e G h2).pe (base_of G h2 _) h3, fun _ => rfl⟩
    · cases h
end
end
end MI
set_option maxHeartbeats 4000000
/-! MI, part 18: the check is enough (statements). -/
namespace MI
open PySem PySem.Spec PyProof.Rows L2

section
variable {S : Nm} {g : Glob} {L : Lay} {n : Nat}
theorem blockKind_fn {env : PySem.Env} (h : env.scope.kind = .function) : env.blockKind = .function := by
  unfold PySem.Env.blockKind
  rw [h]
  rfl
theorem swap_par {env : PySem.Env} {u v : Str} {p q pt pt2 : Pos} {kt k2 : Nat} {xa xb : Expr} (hk : env.scope.kind = .function) (hx : env.scope.names.lookup u = some .local) (hy : env.scope.names.lookup v = some .local) (hl : (q.line == p.line) = true) (hne : u ≠ v) (ha : isSub xa = false) (hb : isSub xb = false)
    (hf : ([xa, xb].all (foldedForSure 8)) = false) (hc : ([xa, xb].all (constantsAlone 8)) = false) : swappedStores [.Tuple [.Name u p, .Name v q] kt pt] (.Tuple [xa, xb] k2 pt2) env = pure (some [u, v]) := by
  have hst : ([xa, xb].any fun | .Starred .. => true | _ => false) = false := by
    cases xa <;> first | cases ha | skip
    all_goals cases xb <;> first | rfl | cases hb
  have hbk := blockKind_fn hk
  have ku : env.kindOf u = some .local := hx
  have kv : env.kindOf v = some .local := hy
  have hl' : q.line = p.line := beq_iff_eq.mp hl
  unfold swappedStores
  simp only [hbk, hst, hf, hc, ku, kv, Expr.pos, hl', List.length_cons, List.length_nil, List.head?_cons, Option.map_some, Option.getD_some, List.filterMap_cons, List.filterMap_nil]
  simp [List.eraseDups_cons, hne, Ne.symm hne]
  intro h
  exfalso
  rcases h with h | h
  · cases xa <;> first | (cases ha; done) | (cases h; done)
  · cases xb <;> first | (cases hb; done) | (cases h; done)
theorem okS_setLc {X : Cx} {c : Ck} {W : WX} (G : Good S g L n X c W) {i : Nat} {x : Str} {p spos : Pos} {y : Expr} {e : Ex} (hi : X.N[i]? = some x) (hl : Loc X.env.scope x ∧ (X.fn x = true ∨ X.env.scope.names.lookup x = some .local)) (h : chkE c e y = true) (hn : (noComp y || isLc e) = true) :
    PS X (.Assign [.Name x p] y spos) (tS X.K L g (wCall g n) W (.asg (.nm i) e)) := by
  rw [Bool.or_eq_true] at hn
  rcases hn with hn | hn
  · exact s_asgN (wCall_mono g n) (okE e G h).pe G.nd hi hl.1 (swap_of hn) hl.2
  · cases e with
    | lc own t it d e' =>
      have hpe := (okE _ G h).pe
      unfold chkE at h
      split at h
      · rename_i elt tg iter ifs scope pos
        simp only [Bool.and_eq_true] at h
        obtain ⟨⟨⟨⟨⟨⟨h1, h2⟩, h3⟩, h4⟩, h5⟩, h6⟩, h7⟩ := h
        rw [G.N, G.sc] at h1
        have ok := blkOk_by h1
        have how : (ownOf X.N own).map (·.2) = own := by
          unfold ownOf
          rw [List.map_map]
          exact List.map_id' own
        have G2 := fun s H C ce fp => G.blk ok.kind s H C ce fp
        by_cases hcase : X.env.scope.names.lookup x = some .local ∧ (p.line == pos.line) = true ∧ (scope.names.any fun (n, k) => n == x && (k == .local || k == .cell)) = false
        · obtain ⟨c1, c2, c3⟩ := hcase
          exact s_setLc (wCall_mono g n) how h3 G.calm G.nd hi c1 (sw_true G.kind c1 c2 c3) (okIt it G h4 h5).1 ok (fun s H C ce fp => okTg t (G2 s H C ce fp) h2) (fun s H C ce fp => (okEo d).2 (G2 s H C ce fp) h6) (fun s H C ce fp => (okE e' (G2 s H C ce fp) h7).pe) (okIt it G h4 h5).2
        · refine s_asgN (wCall_mono g n) hpe G.nd hi hl.1 ?_ hl.2
          have hbk := blockKind_fn G.kind
          show (pure (X.env.blockKind == .function && X.env.kindOf x == some .local && p.line == pos.line && !(scope.names.any fun (n, k) => n == x && (k == .local || k == .cell))) : Sem Bool) = pure false
          congr 1
          cases hb : (X.env.blockKind == .function && X.env.kindOf x == some .local && p.line == pos.line && !(scope.names.any fun (n, k) => n == x && (k == .local || k == .cell))) with
          | false => rfl
          | true =>
            exfalso
            simp only [Bool.and_eq_true, Bool.not_eq_true'] at hb
            obtain ⟨⟨⟨b1, b2⟩, b3⟩, b4⟩ := hb
            exact hcase ⟨beq_iff_eq.mp b2, b3, b4⟩
      · cases h
    | _ => cases hn
mutual
theorem okS : ∀ (s : MI.St) {X : Cx} {c : Ck} {W : WX} {st : Stmt}, Good S g L n X c W → chkS c s st = true → PS X st (tS X.K L g (wCall g n) W s)
  | .pass, X, c, W, st, G, h => by
    unfold chkS at h
    split at h
    · exact s_pass
    · exact s_doc
    · cases h
  | .brk, X, c, W, st, G, h => by
    unfold chkS at h
    split at h
    · exact s_brk
    · cases h
  | .cont, X, c, W, st, G, h => by
    unfold chkS at h
    split at h
    · exact s_cont
    · cases h
  | .expr e, X, c, W, st, G, h => by
    unfold chkS at h
    split at h
    · rw [Bool.and_eq_true] at h
      exact s_expr (wCall_mono g n) (okE e G h.1).pe (swap_of h.2)
    · cases h
  | .ret eo, X, c, W, st, G, h => by
    unfold chkS at h
    split at h
    · rename_i x p
      cases eo with
      | no =>
        cases x with
        | none => exact s_retN
        | some _ => cases h
      | so e =>
        cases x with
        | none => cases h
        | some y => exact s_ret (wCall_mono g n) (okE e G h).pe
    · cases h
  | .asg t e, X, c, W, st, G, h => by
    unfold chkS at h
    split at h
    · rename_i x y p
      split at h
      · rename_i ts
        split at h
        · rename_i es
          -- a, b = x, y
          unfold chkPar at h
          split at h
          · split at h
            · simp only [Bool.and_eq_true, decide_eq_true_eq, Bool.not_eq_true'] at h
              obtain ⟨⟨⟨⟨⟨⟨⟨⟨⟨⟨h1, h2⟩, h3⟩, h4⟩, h5⟩, h6⟩, h7⟩, h8⟩, h9⟩, h10⟩, h11⟩ := h
              rw [G.N] at h3 h4
              rw [G.sc] at h5 h6
              have sa := chk_sub h8
              have sb := chk_sub h9
              exact s_par (wCall_mono g n) G.calm G.nd h3 h4 h1 h5 h6 (sa_cons (wCall_mono g n) (okE _ G h8).pe (sa_cons (wCall_mono g n) (okE _ G h9).pe sa_nil (star_of sb)) (star_of sa)) (swap_par G.kind h5 h6 h7 h2 sa sb h10 h11) rfl
            · cases h
          · cases h
        · rename_i hne
          simp only [Bool.and_eq_true, Bool.not_eq_true'] at h
          obtain ⟨⟨h1, h2⟩, h3⟩ := h
          have hx : ∃ xs k q, x = .Tuple xs k q := by
            cases x <;> first | exact ⟨_, _, _, rfl⟩ | cases h1
          obtain ⟨xs, k, q, rfl⟩ := hx
          refine s_asg (wCall_mono g n) (okE e G h2).pe (okTg _ G h1) ?_ ?_ rfl
          · show swapsWith y (some (.Tuple xs k q)) p.line X.env = pure false
            cases y <;> rfl
          · cases y <;> first | rfl | cases h3
      · rename_i i
        simp only [Bool.and_eq_true] at h
        obtain ⟨⟨h1, h2⟩, h3⟩ := h
        unfold chkTg at h1
        split at h1
        · simp only [Bool.and_eq_true, decide_eq_true_eq] at h1
          exact okS_setLc G (by rw [← G.N]; exact h1.1) (G.loc h1.2) h2 h3
        · cases h1
      · rename_i hn1 hn2
        rw [Bool.and_eq_true] at h
        obtain ⟨h1, h2⟩ := h
        cases t with
        | nm i => exact absurd rfl (hn2 i)
        | tp ts => exact absurd rfl (hn1 ts)
        | «at» o f =>
          have hx : ∃ a b q, x = .Attribute a b q := by
            cases x <;> first | exact ⟨_, _, _, rfl⟩ | cases h1
          obtain ⟨a, b, q, rfl⟩ := hx
          refine s_asg (wCall_mono g n) (okE e G h2).pe (okTg _ G h1) ?_ rfl rfl
          show swapsWith y (some (.Attribute a b q)) p.line X.env = pure false
          cases y <;> rfl
        | sb o i =>
          have hx : ∃ a b q, x = .Subscript a b q := by
            cases x <;> first | exact ⟨_, _, _, rfl⟩ | cases h1
          obtain ⟨a, b, q, rfl⟩ := hx
          refine s_asg (wCall_mono g n) (okE e G h2).pe (okTg _ G h1) ?_ rfl rfl
          show swapsWith y (some (.Subscript a b q)) p.line X.env = pure false
          cases y <;> rfl
    · cases h
  | .augn i o e, X, c, W, st, G, h => by
    unfold chkS at h
    split at h
    · simp only [Bool.and_eq_true, decide_eq_true_eq] at h
      obtain ⟨⟨⟨⟨h1, h2⟩, rfl⟩, h4⟩, h5⟩ := h
      obtain ⟨a, b⟩ := G.loc h2
      exact s_augn (wCall_mono g n) G.nd (by rw [← G.N]; exact h1) a (okE e G h5).pe b
    · cases h
  | .augf a f o e, X, c, W, st, G, h => by
    unfold chkS at h
    split at h
    · simp only [Bool.and_eq_true, decide_eq_true_eq] at h
      obtain ⟨⟨⟨⟨h1, rfl⟩, h3⟩, h4⟩, h5⟩ := h
      exact s_augf (wCall_mono g n) G.tf (by rw [← G.nm]; exact h1) (okE a G h4).pe (okE e G h5).pe
    · cases h
  | .ifs t a b, X, c, W, st, G, h => by
    unfold chkS at h
    split at h
    · simp only [Bool.and_eq_true] at h
      exact s_if (wCall_mono g n) (okE t G h.1.1).pt (okSs a G h.1.2) (okSs b G h.2)
    · cases h
  | .whl t b, X, c, W, st, G, h => by
    unfold chkS at h
    split at h
    · rw [Bool.and_eq_true] at h
      exact s_while (wCall_mono g n) G.po (okE t G h.1).pt (okSs b G h.2)
    · cases h
  | .for_ t it b, X, c, W, st, G, h => by
    unfold chkS at h
    split at h
    · simp only [Bool.and_eq_true] at h
      obtain ⟨⟨⟨h1, h2⟩, h3⟩, h4⟩ := h
      exact s_for (wCall_mono g n) G.po G.calm (okIt it G h2 h3).1 (okTg t G h1) (okSs b G h4) (okIt it G h2 h3).2
    · cases h
  | .never, X, c, W, st, G, h => s_never
theorem okSs : ∀ (ss : Sts) {X : Cx} {c : Ck} {W : WX} {sts : List Stmt}, Good S g L n X c W → chkSs c ss sts = true → PSs X sts (tSs X.K L g (wCall g n) W ss)
  | .nil, X, c, W, sts, G, h => by
    cases sts with
    | nil => exact ss_nil
    | cons _ _ => cases h
  | .cons s r, X, c, W, sts, G, h => by
    cases sts with
    | nil => cases h
    | cons x xs =>
      have h : (chkS c s x && chkSs c r xs) = true := h
      rw [Bool.and_eq_true] at h
      exact ss_cons (wCall_mono g n) (okS s G h.1) (okSs r G h.2)
end
end
end MI
set_option maxHeartbeats 4000000
/-! MI, part 19: the text's functions, level by level; the end. -/
namespace MI
open PySem PySem.Spec PyProof.Rows L2

/-- the f-th def of the text stands at fa and its body is the f-th body -/
structure FnT (S : Nm) (g : Glob) (K : PySem.W.Frag) (f : Nat) (fa : Addr) : Prop where
  ex : ∃ (name qual : Str) (params : Arguments) (body : List Stmt) (scope : Scope) (dV kV doc pm cdv ct oc : Value) (an od : Option Addr) (osl : Array (Option Value)) (N : List Str) (fi : FnI),
    g.fns[f]? = some fi ∧ K.lookup fa = some ⟨oc, od, .func (PySem.W.fnOf name qual params body scope dV kV doc pm an cdv ct), osl⟩ ∧ PySem.W.codeIn K cdv qual = true ∧ FnScope N (N.take fi.np) scope ∧ fi.np ≤ N.length ∧ fi.ns = N.length ∧
      Binds K (PySem.W.fnOf name qual params body scope dV kV doc pm an cdv ct) (N.take fi.np) [] ∧ (∀ sh ∈ S.shp, sh.1 = f → ShpOk K (PySem.W.fnOf name qual params body scope dV kV doc pm an cdv ct) (N.take fi.np) sh.2.1 sh.2.2.1 sh.2.2.2) ∧ chkSs ⟨S, scope, N, true⟩ fi.body body = true
/-- what does not hang on the level -/
structure TFS (S : Nm) (g : Glob) (K : PySem.W.Frag) (mg : Str → Option Value) (L : Lay) : Prop where
  blt : ∀ x ∈ S.blts, mg x = none
  att : L.attrs = S.attrs ∧ S.attrs.Nodup
  fn : ∀ (f : Nat) (x : Str), S.fnN[f]? = some (some x) → ∃ a, L.fns[f]? = some a ∧ mg x = some (.ref a) ∧ PySem.W.keepIn K (.ref a) = true
  fnt : ∀ (f : Nat) (a : Addr), L.fns[f]? = some a → FnT S g K f a
  mak : ∀ (c : Nat) (x : Str) (f : Nat), S.clsN[c]? = some x → g.init c = some f → ∃ C a, L.clss[c]? = some C ∧ mg x = some (.ref C) ∧ L.fns[f]? = some a ∧ Mk K C a
  ini : ∀ (k : Nat) (x : Str), S.clsN[k]? = some x → g.init k ≠ none
  cls : ∀ (c : Nat) (C : Addr), L.clss[c]? = some C → Cls K C ∧ (∀ x ∈ S.attrs, NoAttr K C x)
  mth : ∀ (c : Nat) (C : Addr) (m : Nat) (nm : Str) (f : Nat), L.clss[c]? = some C → S.mths[m]? = some nm → g.meth c m = some f → ∃ a, L.fns[f]? = some a ∧ Meth K C nm a
  mna : ∀ (m : Nat) (nm : Str), S.mths[m]? = some nm → nm ∉ S.attrs
  mks : ∀ e ∈ S.mks, ∀ c f, g.meth c e.1 = some f → (f, e.2.1 + 1, e.2.2.1, 0 :: e.2.2.2.map (· + 1)) ∈ S.shp
  con : ∀ (k : Nat) (x : Str), S.constN[k]? = some x → ∃ d u v, g.consts[k]? = some d ∧ mg x = some u ∧ RelV v u ∧ ∀ ρ H, RD K L ρ H d v

section
variable {S : Nm} {g : Glob} {P : Program} {w : World} {K : PySem.W.Frag} {mg : Str → Option Value} {base : Heap} {L : Lay}
theorem spI_len {n f : Nat} {fi : FnI} {N : List Str} (hf : g.fns[f]? = some fi) (hnp : fi.np ≤ N.length) {vs : List V} {H : Hp} {Q : VK} {E : XK} (h : spI K L g n f vs H Q E) : vs.length = (N.take fi.np).length := by
  obtain ⟨ρ, hp, ds, r, rd, h⟩ := h
  cases n with
  | zero => exact False.elim h
  | succ n =>
    unfold wCall at h
    simp only [hf] at h
    rw [← rd.len, h.1, List.length_take, Nat.min_eq_left hnp]
/-- the context of a body is good -/
theorem good_cx {n : Nat} (T : TF S g P w K mg base L n) {N : List Str} {qual : Str} {scope : Scope} {f : Addr} {cd : Value} {A : Around} {outer : List PySem.Env} {s : Shared} {H : Hp} {E : XK} (nd : N.Nodup) (hk : scope.kind = .function) (hg : A.guards = some []) (hr : Room (2 * n + 1) (A.deeper (envOfC qual scope s.heap.objs.size f cd))) :
    Good S g L n (cxOf (L2.CX P w) P w K mg base N qual scope f cd A outer s H E) ⟨S, scope, N, true⟩ (fun cls d _ H' => E cls d H') where
  nm := rfl
  sc := rfl
  N := rfl
  nd := nd
  fn := fun _ _ => rfl
  calm := rfl
  gd := hg
  room := hr
  tk := takes_of (X := cxOf (L2.CX P w) P w K mg base N qual scope f cd A outer s H E) rfl rfl rfl rfl
  po := passes_of (X := cxOf (L2.CX P w) P w K mg base N qual scope f cd A outer s H E) rfl
  kind := hk
  tf := T
theorem fnG_of {n f : Nat} {fa : Addr} {name qual : Str} {params : Arguments} {body : List Stmt} {scope : Scope} {dV kV doc pm cdv ct oc : Value} {an od : Option Addr} {osl : Array (Option Value)} {N : List Str} {fi : FnI} (T : TF S g P w K mg base L n)
    (hf : g.fns[f]? = some fi) (lk : K.lookup fa = some ⟨oc, od, .func (PySem.W.fnOf name qual params body scope dV kV doc pm an cdv ct), osl⟩) (hcd : PySem.W.codeIn K cdv qual = true) (SC : FnScope N (N.take fi.np) scope) (hnp : fi.np ≤ N.length) (hns : fi.ns = N.length)
    (hchk : chkSs ⟨S, scope, N, true⟩ fi.body body = true) : FnG P w K mg base (2 * (n + 1)) fa (PySem.W.fnOf name qual params body scope dV kV doc pm an cdv ct) (N.take fi.np) (spI K L g (n + 1) f) := by
  refine ⟨fun vs H Q E h => spI_len hf hnp h, fun A outer s H args us vs Q E hr hg e0 hb rv hsp => ?_⟩
  have hl := spI_len hf hnp hsp
  have hKs : K.In s.heap := e0.mod.kin.keeps fun b o e => (e0.bs b o e).1
  have lim : s.heap.NoLimit := e0.mod.nolimit.keeps fun b o e => (e0.bs b o e).1
  have kinds : ∀ y ∈ (N.take fi.np).zip us, scope.names.lookup y.1 = some .local ∨ (scope.names.lookup y.1 = some .cell ∧ ((cellsFrom (s.heap.objs.size + 1) scope.names []).lookup y.1).isSome = true) := fun y hy => by
    rcases SC.par y.1 (List.of_mem_zip (show (y.1, y.2) ∈ _ from hy)).1 with q | q
    · exact .inl q
    · exact .inr ⟨q, PySem.W.cellsFrom_some _ _ _ (.inl q)⟩
  have hrd : Room (2 * n + 1) (A.deeper (envOfC qual scope s.heap.objs.size fa cdv)) := (show Room ((2 * n + 1) + 1) A from hr).deeper _
  refine codeAny_call_function hr.depth (hKs _ _ lk) rfl SC.co SC.gen rfl (PySem.W.codeRec_of hKs hcd) (hb _ _ _ _ ?_)
  refine wpAny_newFunctionEnv_cells SC.kind kinds fun env he s1 x => ?_
  subst he
  refine ⟨lim.keeps x.toInCall.keep, codeAny_func ?_⟩
  have G := good_cx (N := N) (qual := qual) (f := fa) (cd := cdv) (outer := outer) (H := H) (E := E) T SC.nd SC.kind hg hrd
  have hps := okSs fi.body G hchk
  have I : Inv (cxOf (L2.CX P w) P w K mg base N qual scope fa cdv A outer s H E) [] (L2.start N vs) H s1 := inv_start SC hr.hd e0 hl rv x
  obtain ⟨ρ, hp, ds, r, rd, h⟩ := hsp
  unfold wCall at h
  simp only [hf] at h
  obtain ⟨hdl, h⟩ := h
  have hrt : tSs K L g (wCall g n) (fun cls d _ H' => E cls d H') fi.body { nx := fun _ H' => Q .non H', rt := Q } (L2.start N vs) H := by
    refine ⟨ρ, hp, _, r, ⟨?_, fun i d hd => ?_⟩, wSs_mono (wCall_mono g n) fi.body _ hp { nx := fun _ hp => KQ K L ρ H Q .non hp, bk := fun _ _ => False, ct := fun _ _ => False, rt := KQ K L ρ H Q, ex := fun c i _ hp => KE K L ρ H E c i hp } _ ⟨fun env' hp' q => ?_, fun _ _ q => False.elim q, fun _ _ q => False.elim q, fun _ _ q => q, fun c i env' hp' q => ?_⟩ h⟩
    · unfold L2.start
      rw [List.length_append, List.length_append, List.length_map, List.length_map, List.length_replicate, List.length_replicate, ← rd.len, hdl, hns]
    · have hi : i < ds.length := by
        by_cases hi : i < ds.length
        · exact hi
        · rw [List.getElem?_append_right (by simpa using hi), List.getElem?_replicate] at hd
          split at hd <;> cases hd
      rw [List.getElem?_append_left (by simpa using hi), List.getElem?_map] at hd
      cases e : ds[i]? with
      | none => rw [e] at hd; cases hd
      | some d' =>
        rw [e] at hd
        cases hd
        obtain ⟨v, h1, h2⟩ := rd.get e
        refine ⟨v, ?_, h2⟩
        unfold L2.start
        rw [List.getElem?_append_left (by rw [List.length_map, ← rd.len]; exact hi), List.getElem?_map, h1]
        rfl
    · intro ρ' H' σ' e' r' _
      exact q ρ' H' .non e' r' .non
    · intro ρ' H' σ' a C e' r' _ h1 h2
      exact q ρ' H' a C e' r' h1 h2
  refine wpAny_mono (hps.run [] s1 (L2.start N vs) H _ I hrt) (fun fl s' hs => ?_) fun e s' hs => hs
  cases fl with
  | ret u =>
    obtain ⟨v, σ', H', J, rv', q⟩ := hs
    exact ⟨v, H', J.os, J.bare, J.base, J.hok, rv', q⟩
  | next =>
    obtain ⟨σ', H', J, q⟩ := hs
    exact ⟨.non, H', J.os, J.bare, J.base, J.hok, rfl, q⟩
  | brk =>
    obtain ⟨_, _, _, q⟩ := hs
    exact False.elim q
  | cont =>
    obtain ⟨_, _, _, q⟩ := hs
    exact False.elim q
theorem tf_of (T : TFS S g K mg L) (P : Program) (w : World) (base : Heap) : ∀ n, TF S g P w K mg base L n := by
  intro n
  induction n with
  | zero =>
    refine ⟨T.blt, T.att, T.fn, fun f a ha => ?_, T.mks, T.mak, T.ini, T.cls, T.mth, T.mna, T.con⟩
    obtain ⟨name, qual, params, body, scope, dV, kV, doc, pm, cdv, ct, oc, an, od, osl, N, fi, hf, lk, hcd, SC, hnp, hns, hb, hsh, hchk⟩ := (T.fnt f a ha).ex
    refine ⟨_, N.take fi.np, hb, hsh, fun vs H Q E h => spI_len hf hnp h, fun A outer s H args us vs Q E hr hg e0 hb rv hsp => ?_⟩
    obtain ⟨ρ, hp, ds, r, rd, h⟩ := hsp
    exact False.elim h
  | succ n ih =>
    refine ⟨T.blt, T.att, T.fn, fun f a ha => ?_, T.mks, T.mak, T.ini, T.cls, T.mth, T.mna, T.con⟩
    obtain ⟨name, qual, params, body, scope, dV, kV, doc, pm, cdv, ct, oc, an, od, osl, N, fi, hf, lk, hcd, SC, hnp, hns, hb, hsh, hchk⟩ := (T.fnt f a ha).ex
    exact ⟨_, _, hb, hsh, fnG_of ih hf lk hcd SC hnp hns hchk⟩

/-! ### the end: the law is called with the script -/
/-- nothing is tracked but the script, if it is none of the written part -/
def hS (K : PySem.W.Frag) (a : Addr) (vs : List Value) (ns : List Int) : Hp := fun b => if b = a ∧ K.lookup a = none then some (.frz { cls := .type "list", data := .seq vs.toArray } (.lst (ns.map V.int))) else none
theorem hS_some {a b : Addr} {vs : List Value} {ns : List Int} {u : HO} (h : hS K a vs ns b = some u) : b = a ∧ K.lookup a = none ∧ u = .frz { cls := .type "list", data := .seq vs.toArray } (.lst (ns.map V.int)) := by
  unfold hS at h
  split at h
  · rename_i q
    exact ⟨q.1, q.2, (Option.some.inj h).symm⟩
  · cases h
theorem end_call {mb : Str → Option Value} {k : Nat} {fa a : Addr} {sp : Sp} {s₁ : Shared} {vs : List Value} {ns : List Int}
    (hK : K.In s₁.heap) (hmg : s₁.heap.Ns mainGlobals mg) (hmb : s₁.heap.Ns builtinsNs mb) (hbb : ∀ x : Str, x ≠ "__name__" → mb x = bootBuiltins x) (hlim : s₁.heap.NoLimit) (hgn : s₁.gens = #[])
    (ha : s₁.heap.get? a = some { cls := .type "list", data := .seq vs.toArray }) (hi : IntsAre vs ns) (hl : ns.length ≤ sizeLine) (hr : Room k callerA)
    (F : ∀ base : Heap, ∃ fd ps, Binds K fd ps [] ∧ FnG P w K mg base k fa fd ps sp)
    (hsp : KlL K (hS K a vs ns) a (ns.map V.int) → sp [.ref a] (hS K a vs ns) (fun v _ => v = .bl true) fun _ _ _ => False) :
    codeAny (model P w) callerA (.call (.ref fa) ⟨[.ref a], []⟩) (fun r s' => r = .ok (.ret (.bool true)) ∧ OldK s₁.heap s'.heap ∧ s'.os = s₁.os ∧ AllBare s'.gens) s₁ := by
  have rv := vals_ints hi
  generalize hH : hS K a vs ns = H at hsp
  have hsome : ∀ {b : Addr} {u : HO}, H b = some u → b = a ∧ K.lookup a = none ∧ u = .frz { cls := .type "list", data := .seq vs.toArray } (.lst (ns.map V.int)) := fun {b u} h => hS_some (by rw [hH]; exact h)
  -- what is not the script is not tracked
  have hnone : ∀ {b : Addr} {o : Obj}, s₁.heap.get? b = some o → (∀ vs n, o.data ≠ .seq vs n) → H b = none := fun {b o} e hd => by
    cases q : H b with
    | none => rfl
    | some u =>
      obtain ⟨rfl, _, _⟩ := hsome q
      rw [ha] at e
      cases e
      exact absurd rfl (hd _ _)
  have ns2 : ∀ {b : Addr} {m : Str → Option Value}, s₁.heap.Ns b m → (hidT s₁.heap H).Ns b m := fun {b m} ⟨o, es, ep, e, d, r⟩ => ⟨o, es, ep, hidT_get e (hnone e fun _ _ z => by rw [d] at z; cases z), d, r⟩
  have hKb : K.In (hidT s₁.heap H) := fun b o e => hidT_get (hK b o e) (by
    cases q : H b with
    | none => rfl
    | some u =>
      obtain ⟨rfl, q2, _⟩ := hsome q
      rw [q2] at e
      cases e)
  have hM : Mod K mg (hidT s₁.heap H) := ⟨hKb, ns2 hmg, ⟨mb, ns2 hmb, hbb⟩, let ⟨mc, h1, h2⟩ := hlim; ⟨mc, ns2 h1, h2⟩⟩
  have hok : HOk P w H s₁.heap := fun b u e => by
    obtain ⟨rfl, _, rfl⟩ := hsome e
    exact ⟨ha, by rw [List.length_map]; exact hl, vs, _, rv, ha⟩
  have e0 : Env0 P w K mg (hidT s₁.heap H) callerA [] s₁ H := ⟨rfl, hM, fun b o e => of_hidT e, Nat.le_of_eq (hidT_size _ _), trivial, fun b hb => absurd (show b ∈ ([] : List Addr) from hb) (by simp), hok, .of_eq hgn⟩
  have hkl : KlL K H a (ns.map V.int) := by
    cases q : K.lookup a with
    | none =>
      left
      refine ⟨{ cls := .type "list", data := .seq vs.toArray }, ?_⟩
      rw [← hH]
      exact if_pos ⟨rfl, q⟩
    | some o =>
      right
      have e := hK a o q
      rw [ha] at e
      cases e
      exact ⟨_, vs.toArray, _, q, rfl, rfl, rfl, by rw [List.size_toArray, hi.length]; exact hl, by simpa using rv⟩
  obtain ⟨fd, ps, hbind, F⟩ := F (hidT s₁.heap H)
  have hsp := hsp hkl
  have hln := F.len _ _ _ _ hsp
  have hbd : BindsTo s₁ fd ⟨[.ref a], []⟩ (ps.zip [.ref a]) := by
    have q := hbind s₁ [.ref a] hK hln
    rw [List.append_nil] at q
    exact q
  refine codeAny_mono (F.run callerA [] s₁ H ⟨[.ref a], []⟩ [.ref a] [.ref a] _ _ hr rfl e0 hbd (.cons rfl .nil) hsp) fun r s' h => ?_
  cases r with
  | error e =>
    -- no exception is let out
    exfalso
    obtain ⟨_, _, _, _, _, _, _, _, _, _, _, _, z⟩ := h
    exact z
  | ok fl =>
    cases fl with
    | next => exact False.elim h
    | brk => exact False.elim h
    | cont => exact False.elim h
    | ret u =>
      obtain ⟨v, H', os, bare, un, hok', rv', q⟩ := h
      have q' : v = .bl true := q
      subst q'
      obtain rfl : u = Value.bool true := rv'
      refine ⟨rfl, OldK.of_keep fun b o e => ?_, os, bare⟩
      cases q : H b with
      | none => exact un.keep b o e q (by intro z; exact absurd (show b ∈ ([] : List Addr) from z) (by simp)) (by simp)
      | some u =>
        obtain ⟨rfl, _, rfl⟩ := hsome q
        have z2 := un.frzs b _ _ q
        obtain ⟨e1, _⟩ := hok b _ q
        obtain ⟨e2, _⟩ := hok' b _ z2
        rw [e] at e1
        cases e1
        exact e2
end
theorem rds_ints {K : PySem.W.Frag} {L : Lay} {ρ : List Addr} {H : Hp} : ∀ ns : List Int, RDs K L ρ H (ns.map D.int) (ns.map V.int)
  | [] => .nil
  | n :: r => .cons (.int n) (rds_ints r)
/-- the promise of the law, from its run in the small language -/
theorem law_run {K : PySem.W.Frag} {L : Lay} {g : Glob} {N lf : Nat} {a : Addr} {H : Hp} {ns : List Int} (h : wCall g N lf [.kl (ns.map D.int)] [] (fun d _ => d = .bl true) fun _ _ _ => False) (hk : KlL K H a (ns.map V.int)) :
    spI K L g N lf [.ref a] H (fun v _ => v = .bl true) fun _ _ _ => False := by
  refine ⟨[], [], [.kl (ns.map D.int)], ⟨List.nodup_nil, rfl, fun i o h => by simp at h⟩, .cons (.kl hk (rds_ints ns)) .nil, wCall_mono g N lf _ _ _ _ _ _ (fun d hp q => ?_) (fun _ _ _ z => False.elim z) h⟩
  intro ρ' H' v _ _ rd
  subst q
  cases rd
  rfl
theorem walk_mi {l : PySem.W.OpenLaw} {n N : Nat} {q : Program} {loose : List Str} {XP : (Str → Option Value) → Heap → Prop} {YP : World → Heap → Prop} {d : DefRec} {K : Params → PySem.W.Frag} {S : Nm} {g : Glob} {lf : Nat}
    (hn : l.most = some n) (hn2 : n ≤ sizeLine) (hdf : d.params.defaults = []) (hr : Room (2 * N) callerA)
    (hY : ∀ (w : World) (h : Heap), YP w h → (K w.params).In h)
    (F : ∀ (w : World) (mg : Str → Option Value) (fa : Addr) (h : Heap), (K w.params).In h → h.Ns mainGlobals mg → mg d.name = some (.ref fa) → ∃ L : Lay, TFS S g (K w.params) mg L ∧ L.fns[lf]? = some fa)
    (run : ∀ ns : List Int, ns.length ≤ n → wCall g N lf [.kl (ns.map D.int)] [] (fun d _ => d = .bl true) fun _ _ _ => False) :
    PySem.W.WalkO q loose XP YP l.row.toRowW d [] (fun f vs => PySem.call f vs) := by
  refine Att.attach_call hn hdf fun w s₀ s₁ mg mb fa o pm cd doc a vs ns G Y ho hd hcd hmg hobj hints hlen hg => ?_
  have hK := hY w _ Y
  obtain ⟨L, T, hL⟩ := F w mg fa _ hK G.T.g hmg
  exact end_call (sp := spI (K w.params) L g N lf) hK G.T.g G.T.b G.T.builtins G.T.nolimit hg hobj hints (Nat.le_trans hlen hn2) hr (fun base => let ⟨fd, ps, hb, _, F⟩ := (tf_of T l.prog w base N).call lf fa hL; ⟨fd, ps, hb, F⟩) fun hk => law_run (run ns hlen) hk
/-- .. where no int of the script is above 2^1048576 or so -/
theorem walk_miB {l : PySem.W.OpenLaw} {n N : Nat} {q : Program} {loose : List Str} {XP : (Str → Option Value) → Heap → Prop} {YP : World → Heap → Prop} {d : DefRec} {K : Params → PySem.W.Frag} {S : Nm} {g : Glob} {lf : Nat}
    (hn : l.most = some n) (hn2 : n ≤ sizeLine) (hdf : d.params.defaults = []) (hr : Room (2 * N) callerA)
    (hY : ∀ (w : World) (h : Heap), YP w h → (K w.params).In h)
    (F : ∀ (w : World) (mg : Str → Option Value) (fa : Addr) (h : Heap), (K w.params).In h → h.Ns mainGlobals mg → mg d.name = some (.ref fa) → ∃ L : Lay, TFS S g (K w.params) mg L ∧ L.fns[lf]? = some fa)
    (run : ∀ ns : List Int, ns.length ≤ n → (∀ k ∈ ns, Builtin.Int.intBits k ≤ 1048576) → wCall g N lf [.kl (ns.map D.int)] [] (fun d _ => d = .bl true) fun _ _ _ => False) :
    PySem.W.WalkO q loose XP YP l.row.toRowW d [] (fun f vs => PySem.call f vs) := by
  refine Att.attach_callB hn hdf fun w s₀ s₁ mg mb fa o pm cd doc a vs ns G Y ho hd hcd hmg hobj hints hlen hbits hg => ?_
  have hK := hY w _ Y
  obtain ⟨L, T, hL⟩ := F w mg fa _ hK G.T.g hmg
  exact end_call (sp := spI (K w.params) L g N lf) hK G.T.g G.T.b G.T.builtins G.T.nolimit hg hobj hints (Nat.le_trans hlen hn2) hr (fun base => let ⟨fd, ps, hb, _, F⟩ := (tf_of T l.prog w base N).call lf fa hL; ⟨fd, ps, hb, F⟩) fun hk => law_run (run ns hlen hbits) hk
end MI
/-! MI, part 20: the head's facts, gathered. -/
namespace MI
open PySem PySem.Spec PyProof.Rows L2

inductive AllM {α : Type} (P : α → Prop) : List α → Prop
  | nil : AllM P []
  | cons {a : α} {l : List α} : P a → AllM P l → AllM P (a :: l)
theorem all_mem {α : Type} {P : α → Prop} : ∀ {l : List α}, AllM P l → ∀ x ∈ l, P x
  | _, .cons h t, x, hx => by
    rcases List.mem_cons.mp hx with e | e
    · subst e; exact h
    · exact all_mem t x e
inductive AllI {α : Type} (P : Nat → α → Prop) : Nat → List α → Prop
  | nil {n : Nat} : AllI P n []
  | cons {n : Nat} {a : α} {l : List α} : P n a → AllI P (n + 1) l → AllI P n (a :: l)
theorem all_ix0 {α : Type} {P : Nat → α → Prop} : ∀ {l : List α} {n : Nat}, AllI P n l → ∀ i a, l[i]? = some a → P (n + i) a
  | _, n, .nil, i, a, h => by simp at h
  | _, n, .cons p t, 0, a, h => by
    have h : some _ = some a := h
    cases h
    exact p
  | _, n, .cons p t, i + 1, a, h => by
    have := all_ix0 t i a (by simpa using h)
    rw [show n + (i + 1) = n + 1 + i by omega]
    exact this
theorem all_ix {α : Type} {P : Nat → α → Prop} {l : List α} (h : AllI P 0 l) : ∀ i a, l[i]? = some a → P i a := fun i a e => by
  have := all_ix0 h i a e
  rwa [Nat.zero_add] at this
section
variable {S : Nm} {g : Glob} {K : PySem.W.Frag} {mg : Str → Option Value} {L : Lay}
inductive AllF (K : PySem.W.Frag) (mg : Str → Option Value) (fns : List Addr) : Nat → List (Option Str) → Prop
  | nil {n : Nat} : AllF K mg fns n []
  | none {n : Nat} {l : List (Option Str)} : AllF K mg fns (n + 1) l → AllF K mg fns n (.none :: l)
  | some {n : Nat} {x : Str} {a : Addr} {l : List (Option Str)} : fns[n]? = .some a → mg x = .some (.ref a) → PySem.W.keepIn K (.ref a) = true → AllF K mg fns (n + 1) l → AllF K mg fns n (.some x :: l)
theorem all_fn0 {fns : List Addr} : ∀ {l : List (Option Str)} {n : Nat}, AllF K mg fns n l → ∀ (f : Nat) (x : Str), l[f]? = some (some x) → ∃ a, fns[n + f]? = some a ∧ mg x = some (.ref a) ∧ PySem.W.keepIn K (.ref a) = true
  | _, n, .nil, f, x, h => by simp at h
  | _, n, .none t, 0, x, h => by simp at h
  | _, n, .none t, f + 1, x, h => by
    have := all_fn0 t f x (by simpa using h)
    rwa [show n + (f + 1) = n + 1 + f by omega]
  | _, n, .some a b c t, 0, x, h => by
    have h : some (some _) = some (some x) := h
    cases h
    exact ⟨_, a, b, c⟩
  | _, n, .some a b c t, f + 1, x, h => by
    have := all_fn0 t f x (by simpa using h)
    rwa [show n + (f + 1) = n + 1 + f by omega]
theorem all_fn {fns : List Addr} {l : List (Option Str)} (h : AllF K mg fns 0 l) (f : Nat) (x : Str) (e : l[f]? = some (some x)) : ∃ a, fns[f]? = some a ∧ mg x = some (.ref a) ∧ PySem.W.keepIn K (.ref a) = true := by
  have := all_fn0 h f x e
  rwa [Nat.zero_add] at this
theorem fnt_mk {f : Nat} {fi : FnI} {N : List Str} {a : Addr} {name qual : Str} {params : Arguments} {body : List Stmt} {scope : Scope} {dV kV doc pm cdv ct oc : Value} {an od : Option Addr} {osl : Array (Option Value)} (hf : g.fns[f]? = some fi)
    (l : K.lookup a = some ⟨oc, od, .func (PySem.W.fnOf name qual params body scope dV kV doc pm an cdv ct), osl⟩) (c : PySem.W.codeIn K cdv qual = true) (hsc : fnScopeB N fi.np scope = true) (hns : fi.ns = N.length)
    (hchk : chkSs ⟨S, scope, N, true⟩ fi.body body = true) (hb : Binds K (PySem.W.fnOf name qual params body scope dV kV doc pm an cdv ct) (N.take fi.np) []) (hsh : ∀ sh ∈ S.shp, sh.1 = f → ShpOk K (PySem.W.fnOf name qual params body scope dV kV doc pm an cdv ct) (N.take fi.np) sh.2.1 sh.2.2.1 sh.2.2.2) : FnT S g K f a := by
  have hnp : fi.np ≤ N.length := by
    unfold fnScopeB at hsc
    simp only [Bool.and_eq_true, decide_eq_true_eq] at hsc
    exact hsc.1.1.2
  exact ⟨name, qual, params, body, scope, dV, kV, doc, pm, cdv, ct, oc, an, od, osl, N, fi, hf, l, c, fnScope_by hsc, hnp, hns, hb, hsh, hchk⟩
theorem all_mak (h : AllI (fun c x => ∃ f C a, g.init c = some f ∧ L.clss[c]? = some C ∧ mg x = some (.ref C) ∧ L.fns[f]? = some a ∧ Mk K C a) 0 S.clsN) (c : Nat) (x : Str) (f : Nat) (e : S.clsN[c]? = some x) (e2 : g.init c = some f) :
    ∃ C a, L.clss[c]? = some C ∧ mg x = some (.ref C) ∧ L.fns[f]? = some a ∧ Mk K C a := by
  obtain ⟨f', C, a, h1, h2, h3, h4, h5⟩ := all_ix h c x e
  rw [e2] at h1
  cases h1
  exact ⟨C, a, h2, h3, h4, h5⟩
theorem all_ini (h : ((List.range S.clsN.length).all fun k => (g.init k).isSome) = true) (k : Nat) (x : Str) (e : S.clsN[k]? = some x) : g.init k ≠ none := by
  have hl := (List.getElem?_eq_some_iff.mp e).1
  have := List.all_eq_true.mp h k (List.mem_range.mpr hl)
  intro z
  rw [z] at this
  cases this
theorem nfind_mem : ∀ {l : List (Nat × Nat)} {m f : Nat}, nfind l m = some f → (m, f) ∈ l
  | [], m, f, h => by cases h
  | (k, v) :: r, m, f, h => by
    unfold nfind at h
    split at h
    · rename_i e
      cases h
      subst e
      exact List.mem_cons_self
    · exact List.mem_cons_of_mem _ (nfind_mem h)
theorem all_mth (h : AllI (fun c C => ∃ ci, g.clss[c]? = some ci ∧ AllM (fun p : Nat × Nat => ∃ nm a, S.mths[p.1]? = some nm ∧ L.fns[p.2]? = some a ∧ Meth K C nm a) ci.meths) 0 L.clss) (c : Nat) (C : Addr) (m : Nat) (nm : Str) (f : Nat)
    (e : L.clss[c]? = some C) (e1 : S.mths[m]? = some nm) (e2 : g.meth c m = some f) : ∃ a, L.fns[f]? = some a ∧ Meth K C nm a := by
  obtain ⟨ci, h1, h2⟩ := all_ix h c C e
  unfold Glob.meth at e2
  simp only [h1] at e2
  obtain ⟨nm', a, h3, h4, h5⟩ := all_mem h2 _ (nfind_mem e2)
  have h3 : S.mths[m]? = some nm' := h3
  rw [e1] at h3
  cases h3
  exact ⟨a, h4, h5⟩
theorem all_mna (h : (S.mths.all fun nm => !S.attrs.contains nm) = true) (m : Nat) (nm : Str) (e : S.mths[m]? = some nm) : nm ∉ S.attrs := by
  have := List.all_eq_true.mp h nm (List.mem_of_getElem? e)
  simpa using this
def mksB (S : Nm) (g : Glob) : Bool := S.mks.all fun e => (List.range g.clss.length).all fun c =>
  match g.meth c e.1 with
  | some f => decide ((f, e.2.1 + 1, e.2.2.1, 0 :: e.2.2.2.map (· + 1)) ∈ S.shp)
  | none => true
theorem all_mks (h : mksB S g = true) : ∀ e ∈ S.mks, ∀ c f, g.meth c e.1 = some f → (f, e.2.1 + 1, e.2.2.1, 0 :: e.2.2.2.map (· + 1)) ∈ S.shp := fun e he c f hm => by
  have h1 := List.all_eq_true.mp h e he
  have hc : c < g.clss.length := by
    unfold Glob.meth at hm
    cases hg : g.clss[c]? with
    | none => rw [hg] at hm; cases hm
    | some _ => exact (List.getElem?_eq_some_iff.mp hg).1
  have h2 := List.all_eq_true.mp h1 c (List.mem_range.mpr hc)
  rw [hm] at h2
  exact of_decide_eq_true h2
theorem all_con (h : AllI (fun k x => ∃ d u v, g.consts[k]? = some d ∧ mg x = some u ∧ RelV v u ∧ ∀ ρ H, RD K L ρ H d v) 0 S.constN) (k : Nat) (x : Str) (e : S.constN[k]? = some x) : ∃ d u v, g.consts[k]? = some d ∧ mg x = some u ∧ RelV v u ∧ ∀ ρ H, RD K L ρ H d v := all_ix h k x e
end
end MI
/-! MI, part 21: running the small language by hand. -/
namespace MI
open PySem L2

/-- a loop, by what holds ahead of each turn -/
theorem for_run {nx : Nat → Hq → Option (Option D)} {body : D → Env → Hq → (Env → Hq → Prop) → Prop} {k : Env → Hq → Prop} (M : Nat) (Inv : Nat → Env → Hq → Prop)
    (step : ∀ j env hp kn, j < M → Inv j env hp → (∀ env' hp', Inv (j + 1) env' hp' → kn env' hp') → ∃ d, nx j hp = some (some d) ∧ body d env hp kn)
    (fin : ∀ env hp, Inv M env hp → nx M hp = some none ∧ k env hp) {env : Env} {hp : Hq} (h0 : Inv 0 env hp) : ∃ N, forLoop nx body N 0 env hp k := by
  have go : ∀ m j env hp, m + j = M → Inv j env hp → forLoop nx body (m + 1) j env hp k := by
    intro m
    induction m with
    | zero =>
      intro j env hp e h
      have e : j = M := by omega
      subst e
      obtain ⟨h1, h2⟩ := fin env hp h
      unfold forLoop
      rw [h1]
      exact h2
    | succ m ih =>
      intro j env hp e h
      unfold forLoop
      obtain ⟨d, h1, h2⟩ := step j env hp (fun env' hp' => forLoop nx body (m + 1) (j + 1) env' hp' k) (by omega) h fun env' hp' h' => ih (j + 1) env' hp' (by omega) h'
      rw [h1]
      exact h2
  exact ⟨M + 1, go M 0 env hp (by omega) h0⟩
/-- a comprehension, likewise: acc is what stands so far -/
theorem lc_run {nx : Nat → Hq → Option (Option D)} {body : D → Hq → (Option D → Hq → Prop) → Prop} {k : List D → Hq → Prop} (M : Nat) (Inv : Nat → List D → Hq → Prop)
    (step : ∀ j acc hp kn, j < M → Inv j acc hp → (∀ hp', Inv (j + 1) acc hp' → kn none hp') → (∀ y hp', Inv (j + 1) (acc ++ [y]) hp' → kn (some y) hp') → ∃ d, nx j hp = some (some d) ∧ body d hp kn)
    (small : ∀ j acc hp, Inv j acc hp → acc.length < SZ)
    (fin : ∀ acc hp, Inv M acc hp → nx M hp = some none ∧ k acc hp) {hp : Hq} (h0 : Inv 0 [] hp) : ∃ N, lcLoop nx body N 0 [] hp k := by
  have go : ∀ m j acc hp, m + j = M → Inv j acc hp → lcLoop nx body (m + 1) j acc hp k := by
    intro m
    induction m with
    | zero =>
      intro j acc hp e h
      have e : j = M := by omega
      subst e
      obtain ⟨h1, h2⟩ := fin acc hp h
      unfold lcLoop
      rw [h1]
      exact h2
    | succ m ih =>
      intro j acc hp e h
      unfold lcLoop
      obtain ⟨d, h1, h2⟩ := step j acc hp (fun r hp' => match r with
        | none => lcLoop nx body (m + 1) (j + 1) acc hp' k
        | some y => acc.length < SZ ∧ lcLoop nx body (m + 1) (j + 1) (acc ++ [y]) hp' k) (by omega) h (fun hp' h' => ih (j + 1) acc hp' (by omega) h') fun y hp' h' => ⟨small j acc hp h, ih (j + 1) (acc ++ [y]) hp' (by omega) h'⟩
      rw [h1]
      exact h2
  exact ⟨M + 1, go M 0 [] hp (by omega) h0⟩
theorem set_same {hp : Hq} {i : Nat} {o o' : O} (h : hp[i]? = some o) : (hp.set i o')[i]? = some o' := List.getElem?_set_self (List.getElem?_eq_some_iff.mp h).1
theorem set_other {hp : Hq} {i j : Nat} {o' : O} (h : i ≠ j) : (hp.set i o')[j]? = hp[j]? := List.getElem?_set_ne h
theorem app_old {hp : Hq} {i : Nat} {o : O} {l : List O} (h : hp[i]? = some o) : (hp ++ l)[i]? = some o := by
  rw [List.getElem?_append_left (List.getElem?_eq_some_iff.mp h).1]
  exact h
theorem lt_of {hp : Hq} {i : Nat} {o : O} (h : hp[i]? = some o) : i < hp.length := (List.getElem?_eq_some_iff.mp h).1
/-! ### steps -/
section
variable {hp : Hq} {Q : QD} {k : Bool → Prop} {kh : Hq → Prop} {i j : Int} {x y : Str} {a b : Bool} {n : Nat} {d e : D} {xs ys : List D} {C : Prop}
theorem a_ok : (OutD.ok d hp).app Q = Q d hp := rfl
theorem a_cd : (OutD.cd C d hp).app Q = (C ∧ Q d hp) := rfl
theorem a_no : OutD.no.app Q = False := rfl
theorem ab_okB : (OutB.ok a).app k = k a := rfl
theorem ab_cd : (OutB.cd C a).app k = (C ∧ k a) := rfl
theorem ah_ok : (OutH.ok hp).app kh = kh hp := rfl
theorem ah_cd : (OutH.cd C hp).app kh = (C ∧ kh hp) := rfl
theorem o_add : oBin .add (.int i) (.int j) hp = .ok (.int (i + j)) hp := rfl
theorem o_addt : oBin .add (.tup xs) (.tup ys) hp = .cd (xs.length + ys.length ≤ SZ) (.tup (xs ++ ys)) hp := rfl
theorem o_adds : oBin .add (.str x) (.str y) hp = .cd (x.length + y.length ≤ SZ) (.str (x ++ y)) hp := rfl
theorem o_addl {p q : Nat} : oBin .add (.ref p) (.ref q) hp = (match gtL hp p, gtL hp q with
    | some xs, some ys => .cd (xs.length + ys.length ≤ SZ) (.ref hp.length) (hp ++ [.lst (xs ++ ys)])
    | _, _ => .no) := rfl
theorem o_mull {p : Nat} : oBin .mul (.ref p) (.int i) hp = (match gtL hp p with
    | some xs => .cd (-(2 ^ 63) ≤ i ∧ i < 2 ^ 63 ∧ xs.length * i.toNat ≤ SZ) (.ref hp.length) (hp ++ [.lst (List.replicate i.toNat xs).flatten])
    | none => .no) := rfl
theorem o_sub : oBin .sub (.int i) (.int j) hp = .ok (.int (i - j)) hp := rfl
theorem o_mul : oBin .mul (.int i) (.int j) hp = .cd ((-(2 ^ 64) < i ∧ i < 2 ^ 64) ∨ (-(2 ^ 64) < j ∧ j < 2 ^ 64)) (.int (i * j)) hp := rfl
theorem o_fdiv : oBin .fdiv (.int i) (.int j) hp = .cd (0 < j ∧ j < 1073741824) (.int (i / j)) hp := rfl
theorem o_mod : oBin .mod (.int i) (.int j) hp = .cd (0 < j) (.int (i % j)) hp := rfl
theorem o_pow : oBin .pow (.int i) (.int j) hp = .cd (0 ≤ j ∧ j ≤ 1000000 ∧ i.natAbs < 2 ^ 64) (.int (i ^ j.toNat)) hp := rfl
theorem t_non : oTru .non hp = .ok false := rfl
theorem t_bl : oTru (.bl a) hp = .ok a := rfl
theorem t_int : oTru (.int i) hp = .ok (i != 0) := rfl
theorem t_tup : oTru (.tup xs) hp = .ok (!xs.isEmpty) := rfl
theorem c_eqi : oCmp .eq (.int i) (.int j) hp = .ok (.bl (decide (i = j))) hp := rfl
theorem c_eqs : oCmp .eq (.str x) (.str y) hp = .ok (.bl (decide (x = y))) hp := rfl
theorem c_eqb : oCmp .eq (.bl a) (.bl b) hp = .ok (.bl (decide (a = b))) hp := rfl
theorem c_nei : oCmp .ne (.int i) (.int j) hp = .ok (.bl (!decide (i = j))) hp := rfl
theorem c_nes : oCmp .ne (.str x) (.str y) hp = .ok (.bl (!decide (x = y))) hp := rfl
theorem c_eqt : oCmp .eq (.tup xs) d hp = (oEqG (.tup xs) d hp).val false hp := by cases d <;> rfl
theorem c_net : oCmp .ne (.tup xs) d hp = (oEqG (.tup xs) d hp).val true hp := by cases d <;> rfl
theorem c_eqr : oCmp .eq (.ref n) d hp = (oEqG (.ref n) d hp).val false hp := by cases d <;> rfl
theorem c_ner : oCmp .ne (.ref n) d hp = (oEqG (.ref n) d hp).val true hp := by cases d <;> rfl
theorem c_lt : oCmp .lt (.int i) (.int j) hp = .ok (.bl (decide (i < j))) hp := rfl
theorem c_le : oCmp .le (.int i) (.int j) hp = .ok (.bl (decide (i ≤ j))) hp := rfl
theorem c_gt : oCmp .gt (.int i) (.int j) hp = .ok (.bl (decide (j < i))) hp := rfl
theorem c_ge : oCmp .ge (.int i) (.int j) hp = .ok (.bl (decide (j ≤ i))) hp := rfl
theorem c_is : oCmp .is d .non hp = .ok (.bl (isNon d)) hp := by cases d <;> rfl
theorem c_nis : oCmp .nis d .non hp = .ok (.bl (!isNon d)) hp := by cases d <;> rfl
theorem c_in : oCmp .isin d e hp = (oIn d e hp).val false hp := rfl
theorem c_nin : oCmp .nin d e hp = (oIn d e hp).val true hp := rfl
theorem v_ok {neg : Bool} : (OutB.ok a).val neg hp = .ok (.bl (if neg then !a else a)) hp := rfl
theorem v_cd {neg : Bool} : (OutB.cd C a).val neg hp = .cd C (.bl (if neg then !a else a)) hp := rfl
theorem x_tup : oIx (.tup xs) (.int i) hp = oAtI xs i hp := rfl
theorem x_kl : oIx (.kl xs) (.int i) hp = oAtI xs i hp := rfl
theorem x_refi {p : Nat} : oIx (.ref p) (.int i) hp = (match hp[p]? with
    | some (.dic kvs) => oAtK kvs (.int i) hp
    | some (.fdic kvs) => oAtK kvs (.int i) hp
    | some (.lst xs) => oAtI xs i hp
    | _ => .no) := rfl
theorem x_refs {p : Nat} : oIx (.ref p) (.str x) hp = (match hp[p]? with
    | some (.dic kvs) => oAtK kvs (.str x) hp
    | some (.fdic kvs) => oAtK kvs (.str x) hp
    | _ => .no) := by
  show (match hp[p]? with
    | some (.dic kvs) => oAtK kvs (.str x) hp
    | some (.fdic kvs) => oAtK kvs (.str x) hp
    | some (.lst xs) => OutD.no
    | _ => .no) = _
  rcases hp[p]? with _ | (_ | _ | _ | _ | _) <;> rfl
theorem s_refi {p : Nat} : oSet (.ref p) (.int i) d hp = (match hp[p]? with
    | some (.dic kvs) => .cd (kvs.length < SZ) (hp.set p (.dic (dput kvs (.inl i) d)))
    | some (.lst xs) => (match L2.ixN xs.length i with
        | some j => .ok (hp.set p (.lst (xs.set j d)))
        | none => .no)
    | _ => .no) := by
  show (match hp[p]? with
    | some (.dic kvs) => _
    | some (.lst xs) => _
    | _ => _) = _
  rcases hp[p]? with _ | (_ | _ | _ | _ | _) <;> rfl
theorem s_refs {p : Nat} : oSet (.ref p) (.str x) d hp = (match hp[p]? with
    | some (.dic kvs) => .cd (kvs.length < SZ) (hp.set p (.dic (dput kvs (.inr x) d)))
    | _ => .no) := by
  show (match hp[p]? with
    | some (.dic kvs) => _
    | some (.lst xs) => OutH.no
    | _ => _) = _
  rcases hp[p]? with _ | (_ | _ | _ | _ | _) <;> rfl
theorem f_ref {p f : Nat} : oGetF (.ref p) f hp = (match gtI hp p with
    | some (_, fs) => (match fget fs f with
      | some d => .ok d hp
      | none => .no)
    | none => .no) := rfl
theorem sf_ref {p f : Nat} : oSetF (.ref p) f d hp = (match gtI hp p with
    | some (c, fs) => .cd (fs.length < 900) (hp.set p (.ins c (fput fs f d)))
    | none => .no) := rfl
theorem atI_nat {α : Type} (xs : List α) (k : Nat) : L2.atI xs (k : Int) = xs[k]? := by
  unfold L2.atI L2.ixN
  by_cases h : k < xs.length
  · rw [if_pos (Int.natCast_nonneg k), if_pos (by exact_mod_cast h)]
    simp
  · rw [if_pos (Int.natCast_nonneg k), if_neg (by omega)]
    rw [List.getElem?_eq_none (Nat.le_of_not_lt h)]
    rfl
theorem oAt_nat (k : Nat) : oAtI xs (k : Int) hp = (match xs[k]? with | some d => .ok d hp | none => .no) := by
  unfold oAtI
  rw [atI_nat]
  all_goals (cases xs[k]? <;> rfl)
theorem at_0 {x : D} : oAtI (x :: xs) 0 hp = .ok x hp := oAt_nat 0
theorem at_1 {x y : D} : oAtI (x :: y :: xs) 1 hp = .ok y hp := oAt_nat 1
theorem at_2 {x y z : D} : oAtI (x :: y :: z :: xs) 2 hp = .ok z hp := oAt_nat 2
theorem ixN_nat {n k : Nat} (h : k < n) : L2.ixN n (k : Int) = some k := by
  unfold L2.ixN
  rw [if_pos (Int.natCast_nonneg k), if_pos (by exact_mod_cast h)]
  simp
theorem ixN_0 {n : Nat} : L2.ixN (n + 1) 0 = some 0 := ixN_nat (k := 0) (Nat.succ_pos n)
theorem ixN_1 {n : Nat} : L2.ixN (n + 1 + 1) 1 = some 1 := ixN_nat (k := 1) (by omega)
theorem atI_m1 {α : Type} (xs : List α) (h : xs ≠ []) : L2.atI xs (-1) = xs.getLast? := by
  have hl : 0 < xs.length := List.length_pos_iff.mpr h
  unfold L2.atI L2.ixN
  rw [if_neg (by decide), if_pos (by omega)]
  show xs[((-1 : Int) + (xs.length : Int)).toNat]? = _
  rw [List.getLast?_eq_getElem?]
  congr 1
  omega
theorem sl_lst {p : Nat} {l h : Option Int} (e : hp[p]? = some (.lst xs)) : oSl (.ref p) l h hp = .ok (.ref hp.length) (hp ++ [.lst (cutD xs l h)]) := by
  show (match gtL hp p with | some xs => oNew hp (.lst (cutD xs l h)) | none => OutD.no) = _
  unfold gtL
  rw [e]
  rfl
theorem sl_tup {l h : Option Int} : oSl (.tup xs) l h hp = .ok (.tup (cutD xs l h)) hp := rfl
theorem list_l {p : Nat} (e : hp[p]? = some (.lst xs)) : oBF .list1 [.ref p] hp = .ok (.ref hp.length) (hp ++ [.lst xs]) := by
  show (match gtL hp p with | some xs => oNew hp (.lst xs) | none => OutD.no) = _
  unfold gtL
  rw [e]
  rfl
theorem seq_lst {p : Nat} (h : hp[p]? = some (.lst xs)) : itSeq hp (.ref p) = some (itLst p, hp) := by
  unfold itSeq
  simp only [h]
theorem app_k {p : Nat} (e : hp[p]? = some (.lst xs)) : bmK .append (.ref p) hp = some .lst := by
  unfold bmK
  simp only [e]
theorem app_l {p : Nat} (e : hp[p]? = some (.lst xs)) : oBM .append .lst (.ref p) [d] hp = .cd (xs.length < SZ) .non (hp.set p (.lst (xs ++ [d]))) := by
  show (match gtL hp p with | some xs => OutD.cd (xs.length < SZ) .non (hp.set p (.lst (xs ++ [d]))) | none => .no) = _
  unfold gtL
  rw [e]
theorem mapO_map {α β γ : Type} {f : β → Option γ} {u : α → β} {v : α → γ} : ∀ xs : List α, (∀ x ∈ xs, f (u x) = some (v x)) → mapO f (xs.map u) = some (xs.map v)
  | [], _ => rfl
  | k :: r, h => by
    rw [List.map_cons]
    unfold mapO
    rw [h k List.mem_cons_self, mapO_map r fun x hx => h x (List.mem_cons_of_mem _ hx)]
    rfl
theorem mapO_ints (n : Nat) (hp : Hq) (ns : List Int) : mapO (toP (n + 1) hp) (ns.map D.int) = some (ns.map PyData.int) := mapO_map ns fun _ _ => rfl
theorem sh_ints (ns : List Int) : SeqAt.shaped (.list (ns.map PyData.int)) = true := by
  have h1 : ∀ ns : List Int, PyData.canLayAll0 (ns.map PyData.int) = true := by
    intro ns
    induction ns with
    | nil => rfl
    | cons k r ih => simp [PyData.canLayAll0, PyData.canLay0, ih]
  have h2 := depth_ints ns
  have h3 : (PyData.list (ns.map PyData.int)).depth ≤ 64 := by
    simp only [PyData.depth]
    omega
  unfold SeqAt.shaped
  rw [Bool.and_eq_true]
  exact ⟨by simpa [PyData.canLay0] using h1 ns, decide_eq_true h3⟩
theorem sh_int (n : Int) : SeqAt.shaped (.int n) = true := by
  unfold SeqAt.shaped
  simp [PyData.canLay0, PyData.depth]
theorem any_ints (n : Int) : ∀ ns : List Int, ((ns.map PyData.int).any fun b => PyData.eqv b (.int n)) = decide (n ∈ ns)
  | [] => rfl
  | k :: r => by
    rw [List.map_cons, List.any_cons, any_ints n r]
    simp only [PyData.eqv, List.mem_cons]
    by_cases h : k = n
    · subst h; simp
    · simp [h, Ne.symm h]
theorem in_ints {p : Nat} {ns : List Int} (e : hp[p]? = some (.lst (ns.map D.int))) : oIn (.int i) (.ref p) hp = .cd (SeqAt.shaped (.int i) = true ∧ SeqAt.shaped (.list (ns.map PyData.int)) = true) (decide (i ∈ ns)) := by
  have h : oIn (.int i) (.ref p) hp = oInS (.int i) (ns.map D.int) hp := by
    unfold oIn
    simp only [e]
  rw [h]
  unfold oInS
  rw [mapO_ints 39 hp ns, show toP 40 hp (.int i) = some (.int i) from rfl]
  simp only [any_ints]
theorem isi_tt : oBF .isi [.tup xs, .ty "tuple"] hp = .ok (.bl true) hp := by
  show (if tyAll.contains "tuple" then OutD.ok (.bl (isiB "tuple" "tuple")) hp else .no) = _
  rw [if_pos (by decide +kernel), show isiB "tuple" "tuple" = true by decide +kernel]
theorem isi_ss : oBF .isi [.str x, .ty "str"] hp = .ok (.bl true) hp := by
  show (if tyAll.contains "str" then OutD.ok (.bl (isiB "str" "str")) hp else .no) = _
  rw [if_pos (by decide +kernel), show isiB "str" "str" = true by decide +kernel]
theorem isi_ii : oBF .isi [.int i, .ty "int"] hp = .ok (.bl true) hp := by
  show (if tyAll.contains "int" then OutD.ok (.bl (isiB "int" "int")) hp else .no) = _
  rw [if_pos (by decide +kernel), show isiB "int" "int" = true by decide +kernel]
theorem isi_ib : oBF .isi [.int i, .ty "bool"] hp = .ok (.bl false) hp := by
  show (if tyAll.contains "bool" then OutD.ok (.bl (isiB "int" "bool")) hp else .no) = _
  rw [if_pos (by decide +kernel), show isiB "int" "bool" = false by decide +kernel]
theorem isi_ll {p : Nat} (h : hp[p]? = some (.lst xs)) : oBF .isi [.ref p, .ty "list"] hp = .ok (.bl true) hp := by
  show (match tyOf hp (.ref p) with | some a => if tyAll.contains "list" then OutD.ok (.bl (isiB a "list")) hp else .no | none => .no) = _
  have : tyOf hp (.ref p) = some "list" := by simp only [tyOf, h]
  rw [this]
  show (if tyAll.contains "list" then OutD.ok (.bl (isiB "list" "list")) hp else .no) = _
  rw [if_pos (by decide +kernel), show isiB "list" "list" = true by decide +kernel]
theorem len_t : oBF .len [.tup xs] hp = .ok (.int xs.length) hp := rfl
theorem len_t0 : oBF .len [.tup []] hp = .ok (.int 0) hp := rfl
theorem len_t1 : oBF .len [.tup [d]] hp = .ok (.int 1) hp := rfl
theorem len_t2 : oBF .len [.tup [d, e]] hp = .ok (.int 2) hp := rfl
theorem len_k : oBF .len [.kl xs] hp = .ok (.int xs.length) hp := rfl
theorem max_2 : oBF .max2 [.int i, .int j] hp = .ok (.int (if j > i then j else i)) hp := rfl
theorem min_2 : oBF .min2 [.int i, .int j] hp = .ok (.int (if j < i then j else i)) hp := rfl
theorem int_b : oBF .int1 [.bl a] hp = .ok (.int (if a then 1 else 0)) hp := rfl
theorem gtL_of {p : Nat} (h : hp[p]? = some (.lst xs)) : gtL hp p = some xs := by unfold gtL; rw [h]
theorem gtI_of {p c : Nat} {fs : List (Nat × D)} (h : hp[p]? = some (.ins c fs)) : gtI hp p = some (c, fs) := by unfold gtI; rw [h]
theorem gtD_of {p : Nat} {kvs : List (L2.Key × D)} (h : hp[p]? = some (.dic kvs)) : gtD hp p = some kvs := by unfold gtD; rw [h]
end
/-- old places stay, but some -/
structure Keep (P : Nat → Prop) (hp hp' : Hq) : Prop where
  len : hp.length ≤ hp'.length
  at_ : ∀ i, i < hp.length → ¬ P i → hp'[i]? = hp[i]?
theorem Keep.refl (P : Nat → Prop) (hp : Hq) : Keep P hp hp := ⟨Nat.le_refl _, fun _ _ _ => rfl⟩
theorem Keep.trans {P : Nat → Prop} {a b c : Hq} (h1 : Keep P a b) (h2 : Keep P b c) : Keep P a c :=
  ⟨Nat.le_trans h1.len h2.len, fun i hi hp => (h2.at_ i (Nat.lt_of_lt_of_le hi h1.len) hp).trans (h1.at_ i hi hp)⟩
theorem Keep.set {P : Nat → Prop} {hp : Hq} {i : Nat} {o : O} (h : P i) : Keep P hp (hp.set i o) := ⟨by simp, fun j _ hj => List.getElem?_set_ne (fun e : i = j => hj (by rw [← e]; exact h))⟩
theorem Keep.app {P : Nat → Prop} {hp : Hq} {l : List O} : Keep P hp (hp ++ l) := ⟨by simp, fun j hj _ => List.getElem?_append_left hj⟩
theorem Keep.get {P : Nat → Prop} {a b : Hq} (h : Keep P a b) {i : Nat} {o : O} (e : a[i]? = some o) (hn : ¬ P i) : b[i]? = some o := (h.at_ i (lt_of e) hn).trans e
theorem Keep.mono {P Q : Nat → Prop} {a b : Hq} (h : Keep P a b) (hq : ∀ i, i < a.length → P i → Q i) : Keep Q a b := ⟨h.len, fun i hi hn => h.at_ i hi fun p => hn (hq i hi p)⟩
end MI
set_option maxHeartbeats 4000000
/-! MI, part 22: how a law draws its numbers. -/
local macro_rules | `(tactic| walk_at "mi") => `(tactic| simp (disch := (first | assumption | omega | (simp only [List.length_append, List.length_cons, List.length_nil, List.length_set]; omega))) only [*, MI.wSs, MI.wS, MI.wE, MI.wEs, MI.wEo, MI.wTg, MI.wTgs, MI.a_ok, MI.a_cd, MI.a_no, MI.ab_okB, MI.ab_cd, MI.ah_ok, MI.ah_cd, MI.o_add, MI.o_addt, MI.o_adds, MI.o_addl, MI.o_mull, MI.o_sub, MI.o_mul, MI.o_fdiv, MI.o_mod, MI.o_pow, MI.t_non, MI.t_bl, MI.t_int, MI.t_tup, MI.c_eqi, MI.c_eqs, MI.c_eqb, MI.c_nei, MI.c_nes, MI.c_eqt, MI.c_net, MI.c_eqr, MI.c_ner, MI.c_lt, MI.c_le, MI.c_gt, MI.c_ge, MI.c_is, MI.c_nis, MI.c_in, MI.c_nin, MI.v_ok, MI.v_cd, MI.x_tup, MI.x_kl, MI.x_refi, MI.x_refs, MI.s_refi, MI.s_refs, MI.f_ref, MI.sf_ref, MI.at_0, MI.at_1, MI.at_2, MI.ixN_0, MI.ixN_1, List.getElem?_cons_zero, List.getElem?_cons_succ, List.set_cons_zero, List.set_cons_succ, List.map_cons, List.map_nil, List.cons_append, List.nil_append, List.replicate, Option.getD_some, Option.getD_none, Bool.false_eq_true, if_true, if_false, List.length_cons, List.length_nil, List.getElem?_set_self', Option.map_eq_map, Option.map_some, Function.const_apply, List.set_set, decide_eq_true_eq, true_and, and_true])
namespace MI
open PySem L2

def bCell : Sts :=
  (.cons (.ifs (.cmp .lt (.var 1) (.blt .len (.cons (.var 0) .nil))) (.cons (.ret (.so (.ix (.var 0) (.var 1)))) .nil) .nil) (.cons (.ret (.so (.lit (.int 0)))) .nil))
def bPool (f : Nat) : Sts :=
  (.cons (.asg (.nm 2) (.call f (.cons (.var 0) (.cons (.var 1) .nil)))) (.cons (.asg (.nm 3) (.bin .mod (.bin .mul (.bin .add (.bin .add (.bin .mod (.var 2) (.lit (.int 2147483629))) (.bin .mul (.bin .mul (.lit (.int 7919)) (.var 1)) (.var 1))) (.lit (.int 1))) (.lit (.int 48271))) (.lit (.int 2147483647)))) (.cons (.ifs (.cmp .lt (.var 2) (.bin .pow (.lit (.int 10)) (.lit (.int 18)))) (.cons (.asg (.nm 2) (.lit (.int 0))) .nil) .nil) (.cons (.ret (.so (.lst (.cons (.var 2) (.cons (.bin .mod (.bin .mul (.var 3) (.var 3)) (.lit (.int 2147483629))) .nil))))) .nil))))
def bTake : Sts :=
  (.cons (.ifs (.cmp .gt (.ix (.var 0) (.lit (.int 0))) (.lit (.int 0))) (.cons (.asg (.nm 2) (.bin .mod (.ix (.var 0) (.lit (.int 0))) (.var 1))) (.cons (.asg (.sb (.var 0) (.lit (.int 0))) (.bin .fdiv (.ix (.var 0) (.lit (.int 0))) (.var 1))) (.cons (.ret (.so (.var 2))) .nil))) .nil) (.cons (.asg (.sb (.var 0) (.lit (.int 1))) (.bin .mod (.bin .add (.bin .mul (.ix (.var 0) (.lit (.int 1))) (.lit (.int 48271))) (.lit (.int 11))) (.lit (.int 2147483647)))) (.cons (.ret (.so (.bin .mod (.bin .fdiv (.bin .mod (.bin .mul (.ix (.var 0) (.lit (.int 1))) (.ix (.var 0) (.lit (.int 1)))) (.lit (.int 2147483629))) (.lit (.int 64))) (.var 1)))) .nil)))
theorem call_of {g : Glob} {f np ns : Nat} {b : Sts} (h : g.fns[f]? = some ⟨np, ns, b⟩) (n : Nat) (ds : List D) (hp : Hq) (Q : QD) (E : QX) :
    wCall g (n + 1) f ds hp Q E = (ds.length = np ∧ wSs g (wCall g n) b (ds.map some ++ List.replicate (ns - np) none) hp { nx := fun _ hp => Q .non hp, bk := fun _ _ => False, ct := fun _ _ => False, rt := Q, ex := fun c i _ hp => E c i hp }) := by
  show (match g.fns[f]? with | none => False | some fi => _) = _
  rw [h]
section
variable {g : Glob} {f n : Nat} {hp : Hq} {Q : QD} {E : QX}
/-- the pool: what is left of the cell, a seed -/
def PoolAt (hp : Hq) (i : Nat) : Prop := ∃ c s : Int, hp[i]? = some (.lst [.int c, .int s]) ∧ 0 ≤ c ∧ 0 ≤ s ∧ s < 2147483647
theorem take_run (hf : g.fns[f]? = some ⟨2, 3, bTake⟩) {i : Nat} {m : Int} (h : PoolAt hp i) (hm : 0 < m) (hm2 : m < 1073741824)
    (k : ∀ (r : Int) hp', 0 ≤ r → r < m → Keep (· = i) hp hp' → hp'.length = hp.length → PoolAt hp' i → Q (.int r) hp') : wCall g (n + 1) f [.ref i, .int m] hp Q E := by
  obtain ⟨c, s, h, hc, hs, hs2⟩ := h
  have fin : ∀ r c' s' : Int, 0 ≤ r → r < m → 0 ≤ c' → 0 ≤ s' → s' < 2147483647 → Q (.int r) (hp.set i (.lst [.int c', .int s'])) := fun r c' s' h1 h2 h3 h4 h5 =>
    k r _ h1 h2 (Keep.set rfl) (by simp) ⟨c', s', set_same h, h3, h4, h5⟩
  clear k
  rw [call_of hf]
  refine ⟨rfl, ?_⟩
  unfold bTake
  revert fin
  walk_at "mi"
  intro fin
  split
  · exact fin _ _ _ (Int.emod_nonneg _ (by omega)) (Int.emod_lt_of_pos _ hm) (Int.ediv_nonneg hc (by omega)) hs hs2
  · have q1 := Int.emod_nonneg (s * 48271 + 11) (b := 2147483647) (by decide)
    have q2 := Int.emod_lt_of_pos (s * 48271 + 11) (b := 2147483647) (by decide)
    refine ⟨.inr ⟨by decide, by decide⟩, by decide, .inl ⟨by omega, by omega⟩, by decide, ⟨by decide, by decide⟩, fin _ _ _ (Int.emod_nonneg _ (by omega)) (Int.emod_lt_of_pos _ hm) hc q1 q2⟩
theorem cell_run (hf : g.fns[f]? = some ⟨2, 2, bCell⟩) {ns : List Int} {j : Nat} (k : ∀ c : Int, Q (.int c) hp) : wCall g (n + 1) f [.kl (ns.map D.int), .int j] hp Q E := by
  rw [call_of hf]
  refine ⟨rfl, ?_⟩
  unfold bCell
  by_cases h : j < ns.length
  · have e : L2.atI (ns.map D.int) (j : Int) = some (.int ns[j]) := by rw [atI_nat]; simp [h]
    have h' : (j : Int) < ((ns.map D.int).length : Int) := by simpa using h
    simp only [wSs, wS, wE, wEs, wEo, a_ok, ab_okB, oBF, c_lt, t_bl, x_kl, oAtI, e, List.map_cons, List.map_nil, List.cons_append, List.nil_append, List.replicate, List.getElem?_cons_zero, List.getElem?_cons_succ, Option.getD_some, h', decide_true, if_true]
    exact k _
  · have h' : ¬ (j : Int) < ((ns.map D.int).length : Int) := by simpa using h
    simp only [wSs, wS, wE, wEs, wEo, a_ok, ab_okB, oBF, c_lt, t_bl, x_kl, oAtI, List.map_cons, List.map_nil, List.cons_append, List.nil_append, List.replicate, List.getElem?_cons_zero, List.getElem?_cons_succ, Option.getD_some, h', decide_false, if_false, Bool.false_eq_true]
    exact k _
theorem pool_run {fc : Nat} (hf : g.fns[f]? = some ⟨2, 4, bPool fc⟩) (hc : g.fns[fc]? = some ⟨2, 2, bCell⟩) {ns : List Int} {j : Nat} (hj : j < 1000)
    (k : ∀ hp', hp' = hp ++ [hp'.getD hp.length (.lst [])] → PoolAt hp' hp.length → Q (.ref hp.length) hp') : wCall g (n + 2) f [.kl (ns.map D.int), .int j] hp Q E := by
  have fin : ∀ c s : Int, 0 ≤ c → 0 ≤ s → s < 2147483647 → Q (.ref hp.length) (hp ++ [.lst [.int c, .int s]]) := fun c s h1 h2 h3 => k _ (by simp) ⟨c, s, by simp, h1, h2, h3⟩
  clear k
  rw [call_of hf]
  refine ⟨rfl, ?_⟩
  unfold bPool
  simp only [wSs, wS, wE, wEs, wTg, List.map_cons, List.map_nil, List.cons_append, List.nil_append, List.replicate, List.getElem?_cons_zero, List.getElem?_cons_succ]
  refine cell_run hc fun c => ?_
  have sd : ∀ x : Int, 0 ≤ x % 2147483629 ∧ x % 2147483629 < 2147483629 := fun x => ⟨Int.emod_nonneg _ (by decide), Int.emod_lt_of_pos _ (by decide)⟩
  have sd2 : ∀ x : Int, 0 ≤ x % 2147483647 ∧ x % 2147483647 < 2147483647 := fun x => ⟨Int.emod_nonneg _ (by decide), Int.emod_lt_of_pos _ (by decide)⟩
  have p18 : (10 : Int) ^ (18 : Int).toNat = 1000000000000000000 := by decide
  simp only [wEs, wEo, wE, a_ok, a_cd, ab_okB, o_add, o_mul, o_mod, o_pow, c_lt, t_bl, p18, List.set_cons_zero, List.set_cons_succ, List.getElem?_cons_zero, List.getElem?_cons_succ]
  refine ⟨by decide, .inl ⟨by decide, by decide⟩, .inr ⟨by omega, by omega⟩, .inr ⟨by decide, by decide⟩, by decide, by decide, ?_⟩
  have q := sd2 ((c % 2147483629 + 7919 * (j : Int) * (j : Int) + 1) * 48271)
  generalize (c % 2147483629 + 7919 * (j : Int) * (j : Int) + 1) * 48271 % 2147483647 = s at q ⊢
  by_cases h : c < 1000000000000000000
  · simp only [h, decide_true, if_true]
    refine ⟨.inl ⟨by omega, by omega⟩, by decide, fin 0 _ (by decide) (sd _).1 ?_⟩
    have := (sd (s * s)).2
    omega
  · simp only [h, decide_false, if_false, Bool.false_eq_true]
    refine ⟨.inl ⟨by omega, by omega⟩, by decide, fin c _ (by omega) (sd _).1 ?_⟩
    have := (sd (s * s)).2
    omega
end
end MI
set_option maxHeartbeats 4000000
/-! MI, part 23: repr of small data. -/
namespace MI
open PySem L2
mutual
def smal : PyData → Bool
  | .none => true
  | .bool _ => true
  | .int i => decide (-999999999999 ≤ i) && decide (i ≤ 999999999999)
  | .str x => PyData.strOk x && x.cps.toList.all fun c => decide (c < 16 ^ 8)
  | .list xs => smalAll xs
  | .tuple xs => smalAll xs
  | .dict _ => false
def smalAll : List PyData → Bool
  | [] => true
  | x :: xs => smal x && smalAll xs
end
theorem log2_small {i : Int} (h1 : -999999999999 ≤ i) (h2 : i ≤ 999999999999) : i.natAbs.log2 < 1920 := by
  have h : i.natAbs ≤ 999999999999 := by omega
  by_cases z : i.natAbs = 0
  · rw [z]; decide
  · have : i.natAbs.log2 < 40 := (Nat.log2_lt z).mpr (by omega)
    omega
mutual
theorem smal_ok : ∀ d : PyData, smal d = true → d.leavesShort 13 = true ∧ d.showable = true ∧ d.canLay0 = true
  | .none, _ => by simp [PyData.leavesShort, PyData.showable, PyData.canLay0]
  | .bool b, _ => by simp [PyData.leavesShort, PyData.showable, PyData.canLay0]
  | .int i, h => by
    have h' : -999999999999 ≤ i ∧ i ≤ 999999999999 := by simpa [smal] using h
    refine ⟨?_, ?_, by simp [PyData.canLay0]⟩
    · simp only [PyData.leavesShort, decide_eq_true_eq]
      exact PyData.shown_int_le2 h'.1 h'.2
    · simp only [PyData.showable, decide_eq_true_eq]
      exact log2_small h'.1 h'.2
  | .str x, h => by
    unfold smal at h
    rw [Bool.and_eq_true] at h
    refine ⟨?_, by simp [PyData.showable], ?_⟩
    · unfold PyData.leavesShort; exact h.2
    · unfold PyData.canLay0; exact h.1
  | .list xs, h => by
    have q := smalAll_ok xs (by simpa [smal] using h)
    simpa [PyData.leavesShort, PyData.showable, PyData.canLay0] using q
  | .tuple xs, h => by
    have q := smalAll_ok xs (by simpa [smal] using h)
    simpa [PyData.leavesShort, PyData.showable, PyData.canLay0] using q
  | .dict kvs, h => by simp [smal] at h
theorem smalAll_ok : ∀ xs : List PyData, smalAll xs = true → PyData.leavesShortAll 13 xs = true ∧ PyData.showableAll xs = true ∧ PyData.canLayAll0 xs = true
  | [], _ => by simp [PyData.leavesShortAll, PyData.showableAll, PyData.canLayAll0]
  | x :: xs, h => by
    have h' : smal x = true ∧ smalAll xs = true := by simpa [smalAll] using h
    have q1 := smal_ok x h'.1
    have q2 := smalAll_ok xs h'.2
    simp [PyData.leavesShortAll, PyData.showableAll, PyData.canLayAll0, q1, q2]
end
def RpOk (a : PyData) : Prop := SeqAt.shaped a = true ∧ a.showable = true ∧ a.shown.length ≤ SZ
theorem rp_of {a : PyData} (h : smal a = true) (hd : a.depth ≤ 64) (hb : a.bulk ≤ 100000) : RpOk a := by
  obtain ⟨h1, h2, h3⟩ := smal_ok a h
  refine ⟨?_, h2, ?_⟩
  · unfold SeqAt.shaped
    rw [Bool.and_eq_true]
    exact ⟨h3, decide_eq_true hd⟩
  · have := PyData.shown_le_bulk 13 (by decide) a h1
    show _ ≤ 16777216
    omega
theorem repr_at {x : D} {a : PyData} {hp : Hq} (h : toP 40 hp x = some a) : oBF .repr [x] hp = .cd (RpOk a) (.str a.shown) hp := by
  show (match toP 40 hp x with | some a => OutD.cd (SeqAt.shaped a = true ∧ a.showable = true ∧ a.shown.length ≤ SZ) (.str a.shown) hp | none => .no) = _
  rw [h]
  rfl
theorem smal_ints : ∀ ns : List Int, (∀ n ∈ ns, -999999999999 ≤ n ∧ n ≤ 999999999999) → smalAll (ns.map .int) = true
  | [], _ => by simp [smalAll]
  | n :: r, h => by
    have q := h n List.mem_cons_self
    have q2 := smal_ints r fun x hx => h x (List.mem_cons_of_mem _ hx)
    simp [smalAll, smal, q, q2]
theorem bulk_ints : ∀ ns : List Int, PyData.bulkAll (ns.map .int) = ns.length
  | [] => rfl
  | n :: r => by
    have := bulk_ints r
    simp only [List.map_cons, PyData.bulkAll, PyData.bulk, List.length_cons]
    omega
end MI
set_option maxHeartbeats 4000000
/-! MI, part 24: dicts by their keys. -/
namespace MI
open PySem L2
section
variable {α β : Type}
theorem dget_map (k : Key) (f : Key × α → β) : ∀ kvs : List (Key × α), dget (kvs.map fun kv => (kv.1, f kv)) k = (dget kvs k).map fun v => f (k, v)
  | [] => rfl
  | (k', v) :: r => by
    show (if k' = k then some (f (k', v)) else dget (r.map fun kv => (kv.1, f kv)) k) = (if k' = k then some v else dget r k).map _
    by_cases h : k' = k
    · rw [if_pos h, if_pos h, h]; rfl
    · rw [if_neg h, if_neg h]; exact dget_map k f r
theorem dget_mem {k : Key} {v : α} : ∀ {kvs : List (Key × α)}, dget kvs k = some v → (k, v) ∈ kvs
  | (k', v') :: r, h => by
    have h : (if k' = k then some v' else dget r k) = some v := h
    by_cases e : k' = k
    · rw [if_pos e] at h; cases h; rw [e]; exact List.mem_cons_self
    · rw [if_neg e] at h; exact List.mem_cons_of_mem _ (dget_mem h)
theorem dget_none {k : Key} : ∀ {kvs : List (Key × α)}, (∀ kv ∈ kvs, kv.1 ≠ k) → dget kvs k = none
  | [], _ => rfl
  | (k', v') :: r, h => by
    show (if k' = k then some v' else dget r k) = none
    rw [if_neg (h (k', v') List.mem_cons_self)]
    exact dget_none fun kv hk => h kv (List.mem_cons_of_mem _ hk)
theorem dget_of_mem {k : Key} {v : α} : ∀ {kvs : List (Key × α)}, (kvs.map (·.1)).Nodup → (k, v) ∈ kvs → dget kvs k = some v
  | (k', v') :: r, hn, h => by
    have hn' := List.nodup_cons.mp hn
    show (if k' = k then some v' else dget r k) = some v
    rcases List.mem_cons.mp h with e | e
    · cases e; rw [if_pos rfl]
    · rw [if_neg fun z => hn'.1 (List.mem_map.mpr ⟨_, e, z.symm⟩)]
      exact dget_of_mem hn'.2 e
theorem dget_app {k : Key} : ∀ (a b : List (Key × α)), dget (a ++ b) k = match dget a k with | some v => some v | none => dget b k
  | [], b => rfl
  | (k', v') :: r, b => by
    show (if k' = k then some v' else dget (r ++ b) k) = match (if k' = k then some v' else dget r k) with | some v => some v | none => dget b k
    by_cases e : k' = k
    · simp only [if_pos e]
    · simp only [if_neg e]; exact dget_app r b
theorem any_key {k : Key} {kvs : List (Key × α)} : ((kvs.any fun kv => decide (kv.1 = k)) = true) ↔ k ∈ kvs.map (·.1) := by
  simp only [List.any_eq_true, decide_eq_true_eq, List.mem_map]
theorem dput_new {k : Key} {v : α} {kvs : List (Key × α)} (h : k ∉ kvs.map (·.1)) : dput kvs k v = kvs ++ [(k, v)] := by
  unfold dput
  rw [if_neg fun z => h (any_key.mp z)]
theorem dput_keys {k : Key} {v : α} {kvs : List (Key × α)} (hn : (kvs.map (·.1)).Nodup) : ((dput kvs k v).map (·.1)).Nodup ∧ ∀ kv ∈ dput kvs k v, kv.1 = k ∨ kv.1 ∈ kvs.map (·.1) := by
  by_cases h : k ∈ kvs.map (·.1)
  · have e : (dput kvs k v).map (·.1) = kvs.map (·.1) := by
      unfold dput
      rw [if_pos (any_key.mpr h), List.map_map]
      exact List.map_congr_left fun kv _ => by
        show (if kv.1 = k then (kv.1, v) else kv).1 = kv.1
        split <;> rfl
    refine ⟨e ▸ hn, fun kv hk => .inr ?_⟩
    rw [← e]
    exact List.mem_map.mpr ⟨kv, hk, rfl⟩
  · rw [dput_new h]
    refine ⟨?_, fun kv hk => ?_⟩
    · rw [List.map_append, List.nodup_append]
      refine ⟨hn, by simp, fun a ha b hb => ?_⟩
      have : b = k := by simpa using hb
      intro e
      exact h (by rw [← this, ← e]; exact ha)
    · rcases List.mem_append.mp hk with z | z
      · exact .inr (List.mem_map.mpr ⟨kv, z, rfl⟩)
      · have : kv = (k, v) := by simpa using z
        exact .inl (by rw [this])
theorem dget_put_map {k k' : Key} {v : α} : ∀ kvs : List (Key × α), dget (kvs.map fun kv => if kv.1 = k then (kv.1, v) else kv) k' = if k = k' then (dget kvs k').map fun _ => v else dget kvs k'
  | [] => by simp [dget]
  | (k1, v1) :: r => by
    have ih := dget_put_map (k := k) (k' := k') (v := v) r
    rw [List.map_cons]
    by_cases h1 : k1 = k
    · subst h1
      simp only [if_true]
      show (if k1 = k' then some v else _) = if k1 = k' then (if k1 = k' then some v1 else dget r k').map _ else if k1 = k' then some v1 else dget r k'
      by_cases h2 : k1 = k'
      · simp [h2]
      · simp only [if_neg h2] at ih ⊢; exact ih
    · simp only [if_neg h1]
      show (if k1 = k' then some v1 else _) = if k = k' then (if k1 = k' then some v1 else dget r k').map _ else if k1 = k' then some v1 else dget r k'
      by_cases h2 : k1 = k'
      · have h3 : k ≠ k' := fun z => h1 (h2.trans z.symm)
        simp only [if_pos h2, if_neg h3]
      · simp only [if_neg h2]; exact ih
theorem dget_dput {k k' : Key} {v : α} {kvs : List (Key × α)} : dget (dput kvs k v) k' = if k = k' then some v else dget kvs k' := by
  by_cases h : k ∈ kvs.map (·.1)
  · unfold dput
    rw [if_pos (any_key.mpr h), dget_put_map]
    by_cases e : k = k'
    · subst e
      rw [if_pos rfl, if_pos rfl]
      cases z : dget kvs k with
      | some w => rfl
      | none =>
        exfalso
        obtain ⟨kv, h1, h2⟩ := List.mem_map.mp h
        clear h
        induction kvs with
        | nil => cases h1
        | cons a r ih =>
          have z : (if a.1 = k then some a.2 else dget r k) = none := z
          by_cases q : a.1 = k
          · rw [if_pos q] at z; cases z
          · rw [if_neg q] at z
            rcases List.mem_cons.mp h1 with w | w
            · subst w; exact q h2
            · exact ih z w
    · rw [if_neg e, if_neg e]
  · rw [dput_new h, dget_app]
    by_cases e : k = k'
    · subst e
      rw [if_pos rfl, dget_none fun kv hk z => h (List.mem_map.mpr ⟨kv, hk, z⟩)]
      show (if k = k then some v else none) = some v
      rw [if_pos rfl]
    · rw [if_neg e]
      cases dget kvs k' with
      | some w => rfl
      | none =>
        show (if k = k' then some v else none) = none
        rw [if_neg e]
theorem dget_ddrop {k k' : Key} : ∀ kvs : List (Key × α), dget (ddrop kvs k) k' = if k = k' then none else dget kvs k'
  | [] => by simp [ddrop, dget]
  | (k1, v1) :: r => by
    have ih := dget_ddrop (k := k) (k' := k') r
    unfold ddrop at ih ⊢
    by_cases h1 : k1 = k
    · subst h1
      rw [List.filter_cons_of_neg (by simp), ih]
      show _ = if k1 = k' then none else if k1 = k' then some v1 else dget r k'
      by_cases h2 : k1 = k'
      · rw [if_pos h2, if_pos h2]
      · rw [if_neg h2, if_neg h2, if_neg h2]
    · rw [List.filter_cons_of_pos (by simpa using h1)]
      show (if k1 = k' then some v1 else _) = if k = k' then none else if k1 = k' then some v1 else dget r k'
      by_cases h2 : k1 = k'
      · have h3 : k ≠ k' := fun z => h1 (h2.trans z.symm)
        simp only [if_pos h2, if_neg h3]
      · simp only [if_neg h2]; exact ih
theorem ddrop_sub {k : Key} {kvs : List (Key × α)} : (ddrop kvs k).Sublist kvs := List.filter_sublist
/-- a fold of puts over new keys hangs them on -/
theorem fold_put : ∀ (l acc : List (Key × α)), ((acc ++ l).map (·.1)).Nodup → l.foldl (fun a kv => dput a kv.1 kv.2) acc = acc ++ l
  | [], acc, _ => by simp
  | (k, v) :: r, acc, h => by
    show r.foldl _ (dput acc k v) = _
    have hk : k ∉ acc.map (·.1) := by
      intro z
      rw [List.map_append, List.nodup_append] at h
      exact h.2.2 k z k (by simp) rfl
    rw [dput_new hk, fold_put r _ (by simpa using h)]
    simp
end
/-- the keys are 0 .. n-1, each once -/
structure Kys {α : Type} (n : Nat) (kvs : List (Key × α)) : Prop where
  nd : (kvs.map (·.1)).Nodup
  lt : ∀ kv ∈ kvs, ∃ j : Nat, j < n ∧ kv.1 = .inl (j : Int)
section
variable {α : Type} {n : Nat} {kvs : List (Key × α)}
theorem Kys.nil : Kys n ([] : List (Key × α)) := ⟨by simp, fun _ h => by cases h⟩
theorem Kys.put (h : Kys n kvs) {j : Nat} (hj : j < n) (v : α) : Kys n (dput kvs (.inl (j : Int)) v) :=
  ⟨(dput_keys h.nd).1, fun kv hk => by
    rcases (dput_keys h.nd).2 kv hk with e | e
    · exact ⟨j, hj, e⟩
    · obtain ⟨w, h1, h2⟩ := List.mem_map.mp e
      obtain ⟨i, h3, h4⟩ := h.lt w h1
      exact ⟨i, h3, h2 ▸ h4⟩⟩
theorem Kys.drop (h : Kys n kvs) (k : Key) : Kys n (ddrop kvs k) :=
  ⟨(ddrop_sub.map _).nodup h.nd, fun kv hk => h.lt kv (ddrop_sub.subset hk)⟩
theorem Kys.big (h : Kys n kvs) {j : Nat} (hj : n ≤ j) : dget kvs (.inl (j : Int)) = none := dget_none fun kv hk e => by
  obtain ⟨i, h1, h2⟩ := h.lt kv hk
  rw [h2] at e
  have : (i : Int) = j := by injection e
  omega
def wsum (w : Key → α → Nat) (kvs : List (Key × α)) : Nat → Nat
  | 0 => 0
  | n + 1 => wsum w kvs n + (match dget kvs (.inl (n : Int)) with | some v => w (.inl (n : Int)) v | none => 0)
theorem wsum_cons {w : Key → α → Nat} {j : Nat} {v : α} (hk : (.inl (j : Int)) ∉ kvs.map (·.1)) : ∀ n, wsum w ((.inl (j : Int), v) :: kvs) n = wsum w kvs n + (if j < n then w (.inl (j : Int)) v else 0)
  | 0 => by simp [wsum]
  | n + 1 => by
    have ih := wsum_cons (w := w) (v := v) hk n
    show wsum w _ n + (match (if (Sum.inl (j : Int) : Key) = .inl (n : Int) then some v else dget kvs (.inl (n : Int))) with | some v => w (.inl (n : Int)) v | none => 0) = wsum w kvs n + (match dget kvs (.inl (n : Int)) with | some v => w (.inl (n : Int)) v | none => 0) + _
    rw [ih]
    by_cases e : j = n
    · subst e
      rw [dget_none (kvs := kvs) fun kv h z => hk (List.mem_map.mpr ⟨kv, h, z⟩)]
      simp
    · have e' : ¬ (Sum.inl (j : Int) : Key) = .inl (n : Int) := fun z => e (by injection z with z; omega)
      rw [if_neg e']
      by_cases l : j < n
      · rw [if_pos l, if_pos (by omega)]; omega
      · rw [if_neg l, if_neg (show ¬ j < n + 1 by omega)]; simp only [Nat.add_zero]
theorem sum_keys {w : Key → α → Nat} : ∀ {kvs : List (Key × α)}, Kys n kvs → (kvs.map fun kv => w kv.1 kv.2).sum = wsum w kvs n
  | [], hz => by
    clear hz
    show 0 = _
    induction n with
    | zero => rfl
    | succ n ih => show 0 = wsum w [] n + 0; exact ih
  | (k, v) :: r, h => by
    have hn := List.nodup_cons.mp h.nd
    obtain ⟨j, hj, e⟩ := h.lt (k, v) List.mem_cons_self
    have e : k = .inl (j : Int) := e
    subst e
    rw [wsum_cons hn.1, List.map_cons, List.sum_cons, sum_keys (kvs := r) ⟨hn.2, fun kv hk => h.lt kv (List.mem_cons_of_mem _ hk)⟩, if_pos hj]
    exact Nat.add_comm _ _
theorem wsum_congr {β : Type} {w : Key → α → Nat} {w' : Key → β → Nat} {ls : List (Key × β)} : ∀ n, (∀ j : Nat, j < n → (match dget kvs (.inl (j : Int)) with | some v => w (.inl (j : Int)) v | none => 0) = (match dget ls (.inl (j : Int)) with | some v => w' (.inl (j : Int)) v | none => 0)) → wsum w kvs n = wsum w' ls n
  | 0, _ => rfl
  | n + 1, h => by
    show wsum w kvs n + _ = wsum w' ls n + _
    rw [wsum_congr n fun j hj => h j (by omega), h n (by omega)]
theorem Kys.len (h : Kys n kvs) : kvs.length ≤ n := by
  have h1 : kvs.length = (kvs.map fun kv => (fun (_ : Key) (_ : α) => 1) kv.1 kv.2).sum := by
    clear h
    induction kvs with
    | nil => rfl
    | cons a r ih => rw [List.length_cons, List.map_cons, List.sum_cons, ih]; exact Nat.add_comm _ _
  rw [h1, sum_keys (w := fun _ _ => 1) h]
  clear h1 h
  induction n with
  | zero => exact Nat.le_refl _
  | succ n ih =>
    show wsum _ kvs n + _ ≤ n + 1
    have : (match dget kvs (.inl (n : Int)) with | some v => (fun (_ : Key) (_ : α) => 1) (.inl (n : Int)) v | none => 0) ≤ 1 := by split <;> simp
    omega
end
end MI
set_option maxHeartbeats 4000000
/-! ### the text, as tables (written by gen.py) -/
namespace MI
open PySem PySem.Spec PyProof.Rows L2 MI
namespace T
def top (i : Nat) : Stmt := PySem.Challenge.pw_rowstold_k16_disk_lists.main.body.getD i (.Pass ⟨0, 0, 0, 0⟩)
abbrev s_Disk___init__ : Stmt := inClass (top 1) 0
/- slots: 0 self -/
def b_Disk___init__ : Sts :=
  (.cons (.asg (.at (.var 0) 0) (.dic .nil)) .nil)
def n_Disk___init__ : List Str := ["self"]
def i_Disk___init__ : FnI := ⟨1, 1, b_Disk___init__⟩
abbrev s_Disk_lay : Stmt := inClass (top 1) 1
/- slots: 0 self, 1 dealing, 2 things -/
def b_Disk_lay : Sts :=
  (.cons (.ifs (.cmp .gt (.blt .len (.cons (.var 2) .nil)) (.lit (.int 0))) (.cons (.asg (.sb (.fld (.var 0) 0) (.var 1)) (.bin .add (.meth (.var 0) 0 (.cons (.var 1) .nil)) (.blt .list1 (.cons (.var 2) .nil)))) .nil) .nil) .nil)
def n_Disk_lay : List Str := ["self", "dealing", "things"]
def i_Disk_lay : FnI := ⟨3, 3, b_Disk_lay⟩
abbrev s_Disk_read : Stmt := inClass (top 1) 2
/- slots: 0 self, 1 dealing -/
def b_Disk_read : Sts :=
  (.cons (.ret (.so (.blt .list1 (.cons (.bm .get2 (.fld (.var 0) 0) (.cons (.var 1) (.cons (.lst .nil) .nil))) .nil)))) .nil)
def n_Disk_read : List Str := ["self", "dealing"]
def i_Disk_read : FnI := ⟨2, 2, b_Disk_read⟩
abbrev s_Disk_drop : Stmt := inClass (top 1) 3
/- slots: 0 self, 1 dealing -/
def b_Disk_drop : Sts :=
  (.cons (.expr (.bm .pop2 (.fld (.var 0) 0) (.cons (.var 1) (.cons (.lit .non) .nil)))) .nil)
def n_Disk_drop : List Str := ["self", "dealing"]
def i_Disk_drop : FnI := ⟨2, 2, b_Disk_drop⟩
abbrev s_Disk_sizes : Stmt := inClass (top 1) 4
/- slots: 0 self, 1 dealing, 2 things -/
def b_Disk_sizes : Sts :=
  (.cons (.ret (.so (.dc [1, 2] (.tp (.cons (.nm 1) (.cons (.nm 2) .nil))) (.items (.fld (.var 0) 0)) .no (.var 1) (.blt .len (.cons (.var 2) .nil))))) .nil)
def n_Disk_sizes : List Str := ["self", "dealing", "things"]
def i_Disk_sizes : FnI := ⟨1, 3, b_Disk_sizes⟩
abbrev s_Disk___len__ : Stmt := inClass (top 1) 5
/- slots: 0 self, 1 things, 2 thing -/
def b_Disk___len__ : Sts :=
  (.cons (.ret (.so (.blt .len (.cons (.lc2 [1, 2] [2] (.nm 1) (.vals (.fld (.var 0) 0)) (.nm 2) (.var 1) (.var 2)) .nil)))) .nil)
def n_Disk___len__ : List Str := ["self", "things", "thing"]
def i_Disk___len__ : FnI := ⟨1, 3, b_Disk___len__⟩
abbrev s__law_cell_at : Stmt := top 3
/- slots: 0 _law_script, 1 _law_k -/
def b__law_cell_at : Sts :=
  (.cons (.ifs (.cmp .lt (.var 1) (.blt .len (.cons (.var 0) .nil))) (.cons (.ret (.so (.ix (.var 0) (.var 1)))) .nil) .nil) (.cons (.ret (.so (.lit (.int 0)))) .nil))
def n__law_cell_at : List Str := ["_law_script", "_law_k"]
def i__law_cell_at : FnI := ⟨2, 2, b__law_cell_at⟩
abbrev s__law_pool : Stmt := top 4
/- slots: 0 _law_script, 1 _law_k, 2 _law_cell, 3 _law_seed -/
def b__law_pool : Sts :=
  (.cons (.asg (.nm 2) (.call 6 (.cons (.var 0) (.cons (.var 1) .nil)))) (.cons (.asg (.nm 3) (.bin .mod (.bin .mul (.bin .add (.bin .add (.bin .mod (.var 2) (.lit (.int 2147483629))) (.bin .mul (.bin .mul (.lit (.int 7919)) (.var 1)) (.var 1))) (.lit (.int 1))) (.lit (.int 48271))) (.lit (.int 2147483647)))) (.cons (.ifs (.cmp .lt (.var 2) (.bin .pow (.lit (.int 10)) (.lit (.int 18)))) (.cons (.asg (.nm 2) (.lit (.int 0))) .nil) .nil) (.cons (.ret (.so (.lst (.cons (.var 2) (.cons (.bin .mod (.bin .mul (.var 3) (.var 3)) (.lit (.int 2147483629))) .nil))))) .nil))))
def n__law_pool : List Str := ["_law_script", "_law_k", "_law_cell", "_law_seed"]
def i__law_pool : FnI := ⟨2, 4, b__law_pool⟩
abbrev s__law_take : Stmt := top 5
/- slots: 0 _law_pool_here, 1 _law_many, 2 _law_found -/
def b__law_take : Sts :=
  (.cons (.ifs (.cmp .gt (.ix (.var 0) (.lit (.int 0))) (.lit (.int 0))) (.cons (.asg (.nm 2) (.bin .mod (.ix (.var 0) (.lit (.int 0))) (.var 1))) (.cons (.asg (.sb (.var 0) (.lit (.int 0))) (.bin .fdiv (.ix (.var 0) (.lit (.int 0))) (.var 1))) (.cons (.ret (.so (.var 2))) .nil))) .nil) (.cons (.asg (.sb (.var 0) (.lit (.int 1))) (.bin .mod (.bin .add (.bin .mul (.ix (.var 0) (.lit (.int 1))) (.lit (.int 48271))) (.lit (.int 11))) (.lit (.int 2147483647)))) (.cons (.ret (.so (.bin .mod (.bin .fdiv (.bin .mod (.bin .mul (.ix (.var 0) (.lit (.int 1))) (.ix (.var 0) (.lit (.int 1)))) (.lit (.int 2147483629))) (.lit (.int 64))) (.var 1)))) .nil)))
def n__law_take : List Str := ["_law_pool_here", "_law_many", "_law_found"]
def i__law_take : FnI := ⟨2, 3, b__law_take⟩
abbrev s__law_matter : Stmt := top 6
/- slots: 0 _law_pool_here -/
def b__law_matter : Sts :=
  (.cons (.ret (.so (.ix (.lst (.cons (.lit (.int 0)) (.cons (.lit (.str "x")) (.cons (.tup (.cons (.lit (.str "put")) (.cons (.lit (.int 1)) (.cons (.tup (.cons (.lit (.int 2)) (.cons (.lit (.int 3)) .nil))) .nil)))) (.cons (.lit .non) (.cons (.tup (.cons (.lit (.int 1)) .nil)) (.cons (.lst (.cons (.lit (.int 1)) (.cons (.lit (.str "y")) .nil))) (.cons (.neg (.lit (.int 7))) (.cons (.lit (.str "word")) .nil))))))))) (.call 8 (.cons (.var 0) (.cons (.lit (.int 8)) .nil)))))) .nil)
def n__law_matter : List Str := ["_law_pool_here"]
def i__law_matter : FnI := ⟨1, 1, b__law_matter⟩
abbrev s__law_right : Stmt := top 7
/- slots: 0 _law_flat, 1 _law_kept, 2 _law_one, 3 _law_who, 4 _law_turn, 5 _law_found -/
def b__law_right : Sts :=
  (.cons (.ifs (.cmp .ne (.meth (.var 0) 1 .nil) (.blt .dict1 (.cons (.lc [2] (.nm 2) (.vl (.var 1)) (.so (.cmp .ne (.ix (.var 1) (.var 2)) (.lst .nil))) (.tup (.cons (.var 2) (.cons (.blt .len (.cons (.ix (.var 1) (.var 2)) .nil)) .nil)))) .nil))) (.cons (.ret (.so (.lit (.bl false)))) .nil) .nil) (.cons (.expr (.bm .clear (.meth (.var 0) 1 .nil) .nil)) (.cons (.for_ (.nm 3) (.rng1 (.lit (.int 7))) (.cons (.for_ (.nm 4) (.rng1 (.lit (.int 2))) (.cons (.asg (.nm 5) (.meth (.var 0) 0 (.cons (.var 3) .nil))) (.cons (.ifs (.cmp .ne (.blt .repr (.cons (.var 5) .nil)) (.blt .repr (.cons (.bm .get2 (.var 1) (.cons (.var 3) (.cons (.lst .nil) .nil))) .nil))) (.cons (.ret (.so (.lit (.bl false)))) .nil) .nil) (.cons (.expr (.bm .append (.var 5) (.cons (.lit (.str "zz")) .nil))) .nil)))) .nil)) (.cons (.ret (.so (.cmp .eq (.lenD (.var 0) 2) (.blt .sum1 (.cons (.lc [2] (.nm 2) (.vl (.var 1)) .no (.blt .len (.cons (.ix (.var 1) (.var 2)) .nil))) .nil))))) .nil))))
def n__law_right : List Str := ["_law_flat", "_law_kept", "_law_one", "_law_who", "_law_turn", "_law_found"]
def i__law_right : FnI := ⟨2, 6, b__law_right⟩
abbrev s_law : Stmt := top 8
/- slots: 0 _law_script, 1 _law_k, 2 _law_pool_here, 3 _law_flat, 4 _law_other, 5 _law_kept, 6 _law_turn, 7 _law_who, 8 _law_some, 9 _law_turn_in -/
def b_law : Sts :=
  (.cons (.for_ (.nm 1) (.rng1 (.blt .max2 (.cons (.lit (.int 1)) (.cons (.blt .min2 (.cons (.lit (.int 12)) (.cons (.blt .len (.cons (.var 0) .nil)) .nil))) .nil)))) (.cons (.asg (.nm 2) (.call 7 (.cons (.var 0) (.cons (.var 1) .nil)))) (.cons (.asg (.tp (.cons (.nm 3) (.cons (.nm 4) .nil))) (.tup (.cons (.make 0 .nil) (.cons (.make 0 .nil) .nil)))) (.cons (.asg (.nm 5) (.dic .nil)) (.cons (.for_ (.nm 6) (.rng1 (.bin .add (.lit (.int 6)) (.call 8 (.cons (.var 2) (.cons (.lit (.int 25)) .nil))))) (.cons (.asg (.nm 7) (.call 8 (.cons (.var 2) (.cons (.lit (.int 6)) .nil)))) (.cons (.ifs (.cmp .eq (.call 8 (.cons (.var 2) (.cons (.lit (.int 5)) .nil))) (.lit (.int 0))) (.cons (.expr (.meth (.var 3) 3 (.cons (.var 7) .nil))) (.cons (.expr (.bm .pop2 (.var 5) (.cons (.var 7) (.cons (.lit .non) .nil)))) .nil)) (.cons (.asg (.nm 8) (.lc [9] (.nm 9) (.rng1 (.call 8 (.cons (.var 2) (.cons (.lit (.int 6)) .nil)))) .no (.tup (.cons (.call 8 (.cons (.var 2) (.cons (.lit (.int 99)) .nil))) (.cons (.call 9 (.cons (.var 2) .nil)) .nil))))) (.cons (.asg (.sb (.var 5) (.var 7)) (.bin .add (.bm .get2 (.var 5) (.cons (.var 7) (.cons (.lst .nil) .nil))) (.blt .list1 (.cons (.var 8) .nil)))) (.cons (.ifs (.cmp .eq (.bin .mod (.var 6) (.lit (.int 2))) (.lit (.int 0))) (.cons (.expr (.meth (.var 3) 4 (.cons (.var 7) (.cons (.var 8) .nil)))) .nil) (.cons (.expr (.methK (.var 3) 4 (.cons (.var 8) (.cons (.var 7) .nil)) [.inl 1, .inl 0])) .nil)) (.cons (.expr (.bm .append (.var 8) (.cons (.lit .non) .nil))) .nil))))) (.cons (.ifs (.or (.not (.call 10 (.cons (.var 3) (.cons (.var 5) .nil)))) (.or (.cmp .ne (.lenD (.var 4) 2) (.lit (.int 0))) (.cmp .ne (.methK (.var 4) 0 (.cons (.var 7) .nil) [.inl 0]) (.lst .nil)))) (.cons (.ret (.so (.lit (.bl false)))) .nil) .nil) .nil)))) (.cons (.expr (.methK (.var 3) 3 (.cons (.lit (.int 5)) .nil) [.inl 0])) .nil)))))) (.cons (.ret (.so (.lit (.bl true)))) .nil))
def n_law : List Str := ["_law_script", "_law_k", "_law_pool_here", "_law_flat", "_law_other", "_law_kept", "_law_turn", "_law_who", "_law_some", "_law_turn_in"]
def i_law : FnI := ⟨1, 10, b_law⟩
/- defs: 0 Disk.__init__, 1 Disk.lay, 2 Disk.read, 3 Disk.drop, 4 Disk.sizes, 5 Disk.__len__, 6 _law_cell_at, 7 _law_pool, 8 _law_take, 9 _law_matter, 10 _law_right, 11 law -/
/- attributes: 0 own_lists -/
/- methods: 0 read, 1 sizes, 2 __len__, 3 drop, 4 lay -/
def g : Glob := ⟨[i_Disk___init__, i_Disk_lay, i_Disk_read, i_Disk_drop, i_Disk_sizes, i_Disk___len__, i__law_cell_at, i__law_pool, i__law_take, i__law_matter, i__law_right, i_law], [⟨0, [(0, 2), (1, 4), (2, 5), (3, 3), (4, 1)]⟩], []⟩
def S : Nm where
  fnN := [none, none, none, none, none, none, some "_law_cell_at", some "_law_pool", some "_law_take", some "_law_matter", some "_law_right", some "law"]
  clsN := ["Disk"]
  constN := []
  attrs := ["own_lists"]
  mths := ["read", "sizes", "__len__", "drop", "lay"]
  blts := ["len", "list", "dict", "range", "repr", "sum", "max", "min"]
  shp := [(1, 1, ["things", "dealing"], [0, 2, 1]), (2, 1, ["dealing"], [0, 1]), (3, 1, ["dealing"], [0, 1])]
  mks := [(4, 0, ["things", "dealing"], [1, 0]), (0, 0, ["dealing"], [0]), (3, 0, ["dealing"], [0])]
theorem k_Disk___init__ : chkSs ⟨S, defScope s_Disk___init__, n_Disk___init__, true⟩ b_Disk___init__ (defBody s_Disk___init__) = true := by decide +kernel
theorem q_Disk___init__ : fnScopeB n_Disk___init__ 1 (defScope s_Disk___init__) = true := by decide +kernel
theorem k_Disk_lay : chkSs ⟨S, defScope s_Disk_lay, n_Disk_lay, true⟩ b_Disk_lay (defBody s_Disk_lay) = true := by decide +kernel
theorem q_Disk_lay : fnScopeB n_Disk_lay 3 (defScope s_Disk_lay) = true := by decide +kernel
theorem k_Disk_read : chkSs ⟨S, defScope s_Disk_read, n_Disk_read, true⟩ b_Disk_read (defBody s_Disk_read) = true := by decide +kernel
theorem q_Disk_read : fnScopeB n_Disk_read 2 (defScope s_Disk_read) = true := by decide +kernel
theorem k_Disk_drop : chkSs ⟨S, defScope s_Disk_drop, n_Disk_drop, true⟩ b_Disk_drop (defBody s_Disk_drop) = true := by decide +kernel
theorem q_Disk_drop : fnScopeB n_Disk_drop 2 (defScope s_Disk_drop) = true := by decide +kernel
theorem k_Disk_sizes : chkSs ⟨S, defScope s_Disk_sizes, n_Disk_sizes, true⟩ b_Disk_sizes (defBody s_Disk_sizes) = true := by decide +kernel
theorem q_Disk_sizes : fnScopeB n_Disk_sizes 1 (defScope s_Disk_sizes) = true := by decide +kernel
theorem k_Disk___len__ : chkSs ⟨S, defScope s_Disk___len__, n_Disk___len__, true⟩ b_Disk___len__ (defBody s_Disk___len__) = true := by decide +kernel
theorem q_Disk___len__ : fnScopeB n_Disk___len__ 1 (defScope s_Disk___len__) = true := by decide +kernel
theorem k__law_cell_at : chkSs ⟨S, defScope s__law_cell_at, n__law_cell_at, true⟩ b__law_cell_at (defBody s__law_cell_at) = true := by decide +kernel
theorem q__law_cell_at : fnScopeB n__law_cell_at 2 (defScope s__law_cell_at) = true := by decide +kernel
theorem k__law_pool : chkSs ⟨S, defScope s__law_pool, n__law_pool, true⟩ b__law_pool (defBody s__law_pool) = true := by decide +kernel
theorem q__law_pool : fnScopeB n__law_pool 2 (defScope s__law_pool) = true := by decide +kernel
theorem k__law_take : chkSs ⟨S, defScope s__law_take, n__law_take, true⟩ b__law_take (defBody s__law_take) = true := by decide +kernel
theorem q__law_take : fnScopeB n__law_take 2 (defScope s__law_take) = true := by decide +kernel
theorem k__law_matter : chkSs ⟨S, defScope s__law_matter, n__law_matter, true⟩ b__law_matter (defBody s__law_matter) = true := by decide +kernel
theorem q__law_matter : fnScopeB n__law_matter 1 (defScope s__law_matter) = true := by decide +kernel
theorem k__law_right : chkSs ⟨S, defScope s__law_right, n__law_right, true⟩ b__law_right (defBody s__law_right) = true := by decide +kernel
theorem q__law_right : fnScopeB n__law_right 2 (defScope s__law_right) = true := by decide +kernel
theorem k_law : chkSs ⟨S, defScope s_law, n_law, true⟩ b_law (defBody s_law) = true := by decide +kernel
theorem q_law : fnScopeB n_law 1 (defScope s_law) = true := by decide +kernel
section
variable {w : World} {K : PySem.W.Frag} {h : Heap} {mg : Str → Option Value}
theorem t_Disk___init__ {a : Addr} {od an : Option Addr} {sl : Array (Option Value)} {oc kV dc pm cd ct : Value} (l : K.lookup a = some ⟨oc, od, .func (PySem.W.fnOf "__init__" "Disk.__init__" (defArgs s_Disk___init__) (defBody s_Disk___init__) (defScope s_Disk___init__) .none kV dc pm an cd ct), sl⟩) (c : PySem.W.codeIn K cd "Disk.__init__" = true) : FnT S g K 0 a :=
  by
    refine fnt_mk (fi := i_Disk___init__) rfl l c q_Disk___init__ rfl k_Disk___init__ (Binds.all fun us hl => match us, hl with | [_], _ => rfl) (fun sh h e => ?_)
    rcases List.mem_cons.mp h with z | h
    · subst z
      cases e
    rcases List.mem_cons.mp h with z | h
    · subst z
      cases e
    rcases List.mem_cons.mp h with z | h
    · subst z
      cases e
    cases h
theorem t_Disk_lay {a : Addr} {od an : Option Addr} {sl : Array (Option Value)} {oc kV dc pm cd ct : Value} (l : K.lookup a = some ⟨oc, od, .func (PySem.W.fnOf "lay" "Disk.lay" (defArgs s_Disk_lay) (defBody s_Disk_lay) (defScope s_Disk_lay) .none kV dc pm an cd ct), sl⟩) (c : PySem.W.codeIn K cd "Disk.lay" = true) : FnT S g K 1 a :=
  by
    refine fnt_mk (fi := i_Disk_lay) rfl l c q_Disk_lay rfl k_Disk_lay (Binds.all fun us hl => match us, hl with | [_, _, _], _ => rfl) (fun sh h e => ?_)
    rcases List.mem_cons.mp h with z | h
    · subst z
      exact ⟨by decide, fun s us ws _ h1 h2 => match us, ws, h1, h2 with | [_], [_, _], _, _ => .of_eq rfl⟩
    rcases List.mem_cons.mp h with z | h
    · subst z
      cases e
    rcases List.mem_cons.mp h with z | h
    · subst z
      cases e
    cases h
theorem t_Disk_read {a : Addr} {od an : Option Addr} {sl : Array (Option Value)} {oc kV dc pm cd ct : Value} (l : K.lookup a = some ⟨oc, od, .func (PySem.W.fnOf "read" "Disk.read" (defArgs s_Disk_read) (defBody s_Disk_read) (defScope s_Disk_read) .none kV dc pm an cd ct), sl⟩) (c : PySem.W.codeIn K cd "Disk.read" = true) : FnT S g K 2 a :=
  by
    refine fnt_mk (fi := i_Disk_read) rfl l c q_Disk_read rfl k_Disk_read (Binds.all fun us hl => match us, hl with | [_, _], _ => rfl) (fun sh h e => ?_)
    rcases List.mem_cons.mp h with z | h
    · subst z
      cases e
    rcases List.mem_cons.mp h with z | h
    · subst z
      exact ⟨by decide, fun s us ws _ h1 h2 => match us, ws, h1, h2 with | [_], [_], _, _ => .of_eq rfl⟩
    rcases List.mem_cons.mp h with z | h
    · subst z
      cases e
    cases h
theorem t_Disk_drop {a : Addr} {od an : Option Addr} {sl : Array (Option Value)} {oc kV dc pm cd ct : Value} (l : K.lookup a = some ⟨oc, od, .func (PySem.W.fnOf "drop" "Disk.drop" (defArgs s_Disk_drop) (defBody s_Disk_drop) (defScope s_Disk_drop) .none kV dc pm an cd ct), sl⟩) (c : PySem.W.codeIn K cd "Disk.drop" = true) : FnT S g K 3 a :=
  by
    refine fnt_mk (fi := i_Disk_drop) rfl l c q_Disk_drop rfl k_Disk_drop (Binds.all fun us hl => match us, hl with | [_, _], _ => rfl) (fun sh h e => ?_)
    rcases List.mem_cons.mp h with z | h
    · subst z
      cases e
    rcases List.mem_cons.mp h with z | h
    · subst z
      cases e
    rcases List.mem_cons.mp h with z | h
    · subst z
      exact ⟨by decide, fun s us ws _ h1 h2 => match us, ws, h1, h2 with | [_], [_], _, _ => .of_eq rfl⟩
    cases h
theorem t_Disk_sizes {a : Addr} {od an : Option Addr} {sl : Array (Option Value)} {oc kV dc pm cd ct : Value} (l : K.lookup a = some ⟨oc, od, .func (PySem.W.fnOf "sizes" "Disk.sizes" (defArgs s_Disk_sizes) (defBody s_Disk_sizes) (defScope s_Disk_sizes) .none kV dc pm an cd ct), sl⟩) (c : PySem.W.codeIn K cd "Disk.sizes" = true) : FnT S g K 4 a :=
  by
    refine fnt_mk (fi := i_Disk_sizes) rfl l c q_Disk_sizes rfl k_Disk_sizes (Binds.all fun us hl => match us, hl with | [_], _ => rfl) (fun sh h e => ?_)
    rcases List.mem_cons.mp h with z | h
    · subst z
      cases e
    rcases List.mem_cons.mp h with z | h
    · subst z
      cases e
    rcases List.mem_cons.mp h with z | h
    · subst z
      cases e
    cases h
theorem t_Disk___len__ {a : Addr} {od an : Option Addr} {sl : Array (Option Value)} {oc kV dc pm cd ct : Value} (l : K.lookup a = some ⟨oc, od, .func (PySem.W.fnOf "__len__" "Disk.__len__" (defArgs s_Disk___len__) (defBody s_Disk___len__) (defScope s_Disk___len__) .none kV dc pm an cd ct), sl⟩) (c : PySem.W.codeIn K cd "Disk.__len__" = true) : FnT S g K 5 a :=
  by
    refine fnt_mk (fi := i_Disk___len__) rfl l c q_Disk___len__ rfl k_Disk___len__ (Binds.all fun us hl => match us, hl with | [_], _ => rfl) (fun sh h e => ?_)
    rcases List.mem_cons.mp h with z | h
    · subst z
      cases e
    rcases List.mem_cons.mp h with z | h
    · subst z
      cases e
    rcases List.mem_cons.mp h with z | h
    · subst z
      cases e
    cases h
theorem t__law_cell_at {a : Addr} {od an : Option Addr} {sl : Array (Option Value)} {oc kV dc pm cd ct : Value} (l : K.lookup a = some ⟨oc, od, .func (PySem.W.fnOf "_law_cell_at" "_law_cell_at" (defArgs s__law_cell_at) (defBody s__law_cell_at) (defScope s__law_cell_at) .none kV dc pm an cd ct), sl⟩) (c : PySem.W.codeIn K cd "_law_cell_at" = true) : FnT S g K 6 a :=
  by
    refine fnt_mk (fi := i__law_cell_at) rfl l c q__law_cell_at rfl k__law_cell_at (Binds.all fun us hl => match us, hl with | [_, _], _ => rfl) (fun sh h e => ?_)
    rcases List.mem_cons.mp h with z | h
    · subst z
      cases e
    rcases List.mem_cons.mp h with z | h
    · subst z
      cases e
    rcases List.mem_cons.mp h with z | h
    · subst z
      cases e
    cases h
theorem t__law_pool {a : Addr} {od an : Option Addr} {sl : Array (Option Value)} {oc kV dc pm cd ct : Value} (l : K.lookup a = some ⟨oc, od, .func (PySem.W.fnOf "_law_pool" "_law_pool" (defArgs s__law_pool) (defBody s__law_pool) (defScope s__law_pool) .none kV dc pm an cd ct), sl⟩) (c : PySem.W.codeIn K cd "_law_pool" = true) : FnT S g K 7 a :=
  by
    refine fnt_mk (fi := i__law_pool) rfl l c q__law_pool rfl k__law_pool (Binds.all fun us hl => match us, hl with | [_, _], _ => rfl) (fun sh h e => ?_)
    rcases List.mem_cons.mp h with z | h
    · subst z
      cases e
    rcases List.mem_cons.mp h with z | h
    · subst z
      cases e
    rcases List.mem_cons.mp h with z | h
    · subst z
      cases e
    cases h
theorem t__law_take {a : Addr} {od an : Option Addr} {sl : Array (Option Value)} {oc kV dc pm cd ct : Value} (l : K.lookup a = some ⟨oc, od, .func (PySem.W.fnOf "_law_take" "_law_take" (defArgs s__law_take) (defBody s__law_take) (defScope s__law_take) .none kV dc pm an cd ct), sl⟩) (c : PySem.W.codeIn K cd "_law_take" = true) : FnT S g K 8 a :=
  by
    refine fnt_mk (fi := i__law_take) rfl l c q__law_take rfl k__law_take (Binds.all fun us hl => match us, hl with | [_, _], _ => rfl) (fun sh h e => ?_)
    rcases List.mem_cons.mp h with z | h
    · subst z
      cases e
    rcases List.mem_cons.mp h with z | h
    · subst z
      cases e
    rcases List.mem_cons.mp h with z | h
    · subst z
      cases e
    cases h
theorem t__law_matter {a : Addr} {od an : Option Addr} {sl : Array (Option Value)} {oc kV dc pm cd ct : Value} (l : K.lookup a = some ⟨oc, od, .func (PySem.W.fnOf "_law_matter" "_law_matter" (defArgs s__law_matter) (defBody s__law_matter) (defScope s__law_matter) .none kV dc pm an cd ct), sl⟩) (c : PySem.W.codeIn K cd "_law_matter" = true) : FnT S g K 9 a :=
  by
    refine fnt_mk (fi := i__law_matter) rfl l c q__law_matter rfl k__law_matter (Binds.all fun us hl => match us, hl with | [_], _ => rfl) (fun sh h e => ?_)
    rcases List.mem_cons.mp h with z | h
    · subst z
      cases e
    rcases List.mem_cons.mp h with z | h
    · subst z
      cases e
    rcases List.mem_cons.mp h with z | h
    · subst z
      cases e
    cases h
theorem t__law_right {a : Addr} {od an : Option Addr} {sl : Array (Option Value)} {oc kV dc pm cd ct : Value} (l : K.lookup a = some ⟨oc, od, .func (PySem.W.fnOf "_law_right" "_law_right" (defArgs s__law_right) (defBody s__law_right) (defScope s__law_right) .none kV dc pm an cd ct), sl⟩) (c : PySem.W.codeIn K cd "_law_right" = true) : FnT S g K 10 a :=
  by
    refine fnt_mk (fi := i__law_right) rfl l c q__law_right rfl k__law_right (Binds.all fun us hl => match us, hl with | [_, _], _ => rfl) (fun sh h e => ?_)
    rcases List.mem_cons.mp h with z | h
    · subst z
      cases e
    rcases List.mem_cons.mp h with z | h
    · subst z
      cases e
    rcases List.mem_cons.mp h with z | h
    · subst z
      cases e
    cases h
theorem t_law {a : Addr} {od an : Option Addr} {sl : Array (Option Value)} {oc kV dc pm cd ct : Value} (l : K.lookup a = some ⟨oc, od, .func (PySem.W.fnOf "law" "law" (defArgs s_law) (defBody s_law) (defScope s_law) .none kV dc pm an cd ct), sl⟩) (c : PySem.W.codeIn K cd "law" = true) : FnT S g K 11 a :=
  by
    refine fnt_mk (fi := i_law) rfl l c q_law rfl k_law (Binds.all fun us hl => match us, hl with | [_], _ => rfl) (fun sh h e => ?_)
    rcases List.mem_cons.mp h with z | h
    · subst z
      cases e
    rcases List.mem_cons.mp h with z | h
    · subst z
      cases e
    rcases List.mem_cons.mp h with z | h
    · subst z
      cases e
    cases h
theorem tfs {fa : Addr} {f0 f1 f2 f3 f4 f5 f6 f7 f8 f9 f10 f11 C0 : Addr} (X : K.In h) (G : h.Ns mainGlobals mg) (hfa : mg "law" = some (.ref fa))
    {od0 an0 : Option Addr} {sl0 : Array (Option Value)} {oc0 kV0 dc0 pm0 cd0 ct0 : Value}
    {od1 an1 : Option Addr} {sl1 : Array (Option Value)} {oc1 kV1 dc1 pm1 cd1 ct1 : Value}
    {od2 an2 : Option Addr} {sl2 : Array (Option Value)} {oc2 kV2 dc2 pm2 cd2 ct2 : Value}
    {od3 an3 : Option Addr} {sl3 : Array (Option Value)} {oc3 kV3 dc3 pm3 cd3 ct3 : Value}
    {od4 an4 : Option Addr} {sl4 : Array (Option Value)} {oc4 kV4 dc4 pm4 cd4 ct4 : Value}
    {od5 an5 : Option Addr} {sl5 : Array (Option Value)} {oc5 kV5 dc5 pm5 cd5 ct5 : Value}
    {od6 an6 : Option Addr} {sl6 : Array (Option Value)} {oc6 kV6 dc6 pm6 cd6 ct6 : Value}
    {od7 an7 : Option Addr} {sl7 : Array (Option Value)} {oc7 kV7 dc7 pm7 cd7 ct7 : Value}
    {od8 an8 : Option Addr} {sl8 : Array (Option Value)} {oc8 kV8 dc8 pm8 cd8 ct8 : Value}
    {od9 an9 : Option Addr} {sl9 : Array (Option Value)} {oc9 kV9 dc9 pm9 cd9 ct9 : Value}
    {od10 an10 : Option Addr} {sl10 : Array (Option Value)} {oc10 kV10 dc10 pm10 cd10 ct10 : Value}
    {od11 an11 : Option Addr} {sl11 : Array (Option Value)} {oc11 kV11 dc11 pm11 cd11 ct11 : Value}
    (A0 : PySem.W.nsIn K mainGlobals "Disk" = some (some (.ref C0)))
    (a0 : PySem.W.findIn K (.ref C0) "__init__" = some (some (.ref f0)))
    (i0 : PySem.W.isFn K (.ref f0) = true)
    (l0 : K.lookup f0 = some ⟨oc0, od0, .func (PySem.W.fnOf "__init__" "Disk.__init__" (defArgs s_Disk___init__) (defBody s_Disk___init__) (defScope s_Disk___init__) .none kV0 dc0 pm0 an0 cd0 ct0), sl0⟩)
    (c0 : PySem.W.codeIn K cd0 "Disk.__init__" = true)
    (k0 : PySem.W.keepIn K (.ref f0) = true)
    (a1 : PySem.W.findIn K (.ref C0) "lay" = some (some (.ref f1)))
    (i1 : PySem.W.isFn K (.ref f1) = true)
    (l1 : K.lookup f1 = some ⟨oc1, od1, .func (PySem.W.fnOf "lay" "Disk.lay" (defArgs s_Disk_lay) (defBody s_Disk_lay) (defScope s_Disk_lay) .none kV1 dc1 pm1 an1 cd1 ct1), sl1⟩)
    (c1 : PySem.W.codeIn K cd1 "Disk.lay" = true)
    (k1 : PySem.W.keepIn K (.ref f1) = true)
    (a2 : PySem.W.findIn K (.ref C0) "read" = some (some (.ref f2)))
    (i2 : PySem.W.isFn K (.ref f2) = true)
    (l2 : K.lookup f2 = some ⟨oc2, od2, .func (PySem.W.fnOf "read" "Disk.read" (defArgs s_Disk_read) (defBody s_Disk_read) (defScope s_Disk_read) .none kV2 dc2 pm2 an2 cd2 ct2), sl2⟩)
    (c2 : PySem.W.codeIn K cd2 "Disk.read" = true)
    (k2 : PySem.W.keepIn K (.ref f2) = true)
    (a3 : PySem.W.findIn K (.ref C0) "drop" = some (some (.ref f3)))
    (i3 : PySem.W.isFn K (.ref f3) = true)
    (l3 : K.lookup f3 = some ⟨oc3, od3, .func (PySem.W.fnOf "drop" "Disk.drop" (defArgs s_Disk_drop) (defBody s_Disk_drop) (defScope s_Disk_drop) .none kV3 dc3 pm3 an3 cd3 ct3), sl3⟩)
    (c3 : PySem.W.codeIn K cd3 "Disk.drop" = true)
    (k3 : PySem.W.keepIn K (.ref f3) = true)
    (a4 : PySem.W.findIn K (.ref C0) "sizes" = some (some (.ref f4)))
    (i4 : PySem.W.isFn K (.ref f4) = true)
    (l4 : K.lookup f4 = some ⟨oc4, od4, .func (PySem.W.fnOf "sizes" "Disk.sizes" (defArgs s_Disk_sizes) (defBody s_Disk_sizes) (defScope s_Disk_sizes) .none kV4 dc4 pm4 an4 cd4 ct4), sl4⟩)
    (c4 : PySem.W.codeIn K cd4 "Disk.sizes" = true)
    (k4 : PySem.W.keepIn K (.ref f4) = true)
    (a5 : PySem.W.findIn K (.ref C0) "__len__" = some (some (.ref f5)))
    (i5 : PySem.W.isFn K (.ref f5) = true)
    (l5 : K.lookup f5 = some ⟨oc5, od5, .func (PySem.W.fnOf "__len__" "Disk.__len__" (defArgs s_Disk___len__) (defBody s_Disk___len__) (defScope s_Disk___len__) .none kV5 dc5 pm5 an5 cd5 ct5), sl5⟩)
    (c5 : PySem.W.codeIn K cd5 "Disk.__len__" = true)
    (k5 : PySem.W.keepIn K (.ref f5) = true)
    (a6 : PySem.W.nsIn K mainGlobals "_law_cell_at" = some (some (.ref f6)))
    (l6 : K.lookup f6 = some ⟨oc6, od6, .func (PySem.W.fnOf "_law_cell_at" "_law_cell_at" (defArgs s__law_cell_at) (defBody s__law_cell_at) (defScope s__law_cell_at) .none kV6 dc6 pm6 an6 cd6 ct6), sl6⟩)
    (c6 : PySem.W.codeIn K cd6 "_law_cell_at" = true)
    (k6 : PySem.W.keepIn K (.ref f6) = true)
    (a7 : PySem.W.nsIn K mainGlobals "_law_pool" = some (some (.ref f7)))
    (l7 : K.lookup f7 = some ⟨oc7, od7, .func (PySem.W.fnOf "_law_pool" "_law_pool" (defArgs s__law_pool) (defBody s__law_pool) (defScope s__law_pool) .none kV7 dc7 pm7 an7 cd7 ct7), sl7⟩)
    (c7 : PySem.W.codeIn K cd7 "_law_pool" = true)
    (k7 : PySem.W.keepIn K (.ref f7) = true)
    (a8 : PySem.W.nsIn K mainGlobals "_law_take" = some (some (.ref f8)))
    (l8 : K.lookup f8 = some ⟨oc8, od8, .func (PySem.W.fnOf "_law_take" "_law_take" (defArgs s__law_take) (defBody s__law_take) (defScope s__law_take) .none kV8 dc8 pm8 an8 cd8 ct8), sl8⟩)
    (c8 : PySem.W.codeIn K cd8 "_law_take" = true)
    (k8 : PySem.W.keepIn K (.ref f8) = true)
    (a9 : PySem.W.nsIn K mainGlobals "_law_matter" = some (some (.ref f9)))
    (l9 : K.lookup f9 = some ⟨oc9, od9, .func (PySem.W.fnOf "_law_matter" "_law_matter" (defArgs s__law_matter) (defBody s__law_matter) (defScope s__law_matter) .none kV9 dc9 pm9 an9 cd9 ct9), sl9⟩)
    (c9 : PySem.W.codeIn K cd9 "_law_matter" = true)
    (k9 : PySem.W.keepIn K (.ref f9) = true)
    (a10 : PySem.W.nsIn K mainGlobals "_law_right" = some (some (.ref f10)))
    (l10 : K.lookup f10 = some ⟨oc10, od10, .func (PySem.W.fnOf "_law_right" "_law_right" (defArgs s__law_right) (defBody s__law_right) (defScope s__law_right) .none kV10 dc10 pm10 an10 cd10 ct10), sl10⟩)
    (c10 : PySem.W.codeIn K cd10 "_law_right" = true)
    (k10 : PySem.W.keepIn K (.ref f10) = true)
    (a11 : PySem.W.nsIn K mainGlobals "law" = some (some (.ref f11)))
    (l11 : K.lookup f11 = some ⟨oc11, od11, .func (PySem.W.fnOf "law" "law" (defArgs s_law) (defBody s_law) (defScope s_law) .none kV11 dc11 pm11 an11 cd11 ct11), sl11⟩)
    (c11 : PySem.W.codeIn K cd11 "law" = true)
    (k11 : PySem.W.keepIn K (.ref f11) = true)
    (pg0 : PySem.W.plainGet K C0 Str.empty = true)
    (hd0 : PySem.W.hasDictIn K C0 = true)
    (po0 : PySem.W.plainOver K C0 = true)
    (sa0 : PySem.W.findIn K (.ref C0) "__setattr__" = some (some (.builtin "object.__setattr__")))
    (mk0 : PySem.W.makesIn K C0 = true)
    (kc0 : PySem.W.keepIn K (.ref C0) = true)
    (n0_0 : PySem.W.findIn K (.ref C0) "own_lists" = some none)
    (z0 : PySem.W.nsIn K mainGlobals "len" = some none)
    (z1 : PySem.W.nsIn K mainGlobals "list" = some none)
    (z2 : PySem.W.nsIn K mainGlobals "dict" = some none)
    (z3 : PySem.W.nsIn K mainGlobals "range" = some none)
    (z4 : PySem.W.nsIn K mainGlobals "repr" = some none)
    (z5 : PySem.W.nsIn K mainGlobals "sum" = some none)
    (z6 : PySem.W.nsIn K mainGlobals "max" = some none)
    (z7 : PySem.W.nsIn K mainGlobals "min" = some none)
    : ∃ L : Lay, TFS S g K mg L ∧ L.fns[11]? = some fa := by
  have e : f11 = fa := by
    have z := (PySem.W.mg_of X G a11).symm.trans hfa
    cases z
    rfl
  refine ⟨⟨[f0, f1, f2, f3, f4, f5, f6, f7, f8, f9, f10, f11], [C0], [], S.attrs⟩, ⟨?_, ⟨rfl, by decide +kernel⟩, ?_, ?_, ?_, ?_, ?_, ?_, ?_, ?_, ?_⟩, show some f11 = some fa by rw [e]⟩
  · exact all_mem (.cons (PySem.W.mg_none_of X G z0) (.cons (PySem.W.mg_none_of X G z1) (.cons (PySem.W.mg_none_of X G z2) (.cons (PySem.W.mg_none_of X G z3) (.cons (PySem.W.mg_none_of X G z4) (.cons (PySem.W.mg_none_of X G z5) (.cons (PySem.W.mg_none_of X G z6) (.cons (PySem.W.mg_none_of X G z7) (.nil)))))))))
  · exact all_fn (.none (.none (.none (.none (.none (.none (.some rfl (PySem.W.mg_of X G a6) k6 (.some rfl (PySem.W.mg_of X G a7) k7 (.some rfl (PySem.W.mg_of X G a8) k8 (.some rfl (PySem.W.mg_of X G a9) k9 (.some rfl (PySem.W.mg_of X G a10) k10 (.some rfl (PySem.W.mg_of X G a11) k11 (.nil)))))))))))))
  · exact all_ix (.cons (t_Disk___init__ l0 c0) (.cons (t_Disk_lay l1 c1) (.cons (t_Disk_read l2 c2) (.cons (t_Disk_drop l3 c3) (.cons (t_Disk_sizes l4 c4) (.cons (t_Disk___len__ l5 c5) (.cons (t__law_cell_at l6 c6) (.cons (t__law_pool l7 c7) (.cons (t__law_take l8 c8) (.cons (t__law_matter l9 c9) (.cons (t__law_right l10 c10) (.cons (t_law l11 c11) (.nil)))))))))))))
  · exact all_mak (.cons (⟨0, C0, f0, rfl, rfl, PySem.W.mg_of X G A0, rfl, ⟨mk0, a0, i0, kc0⟩⟩) (.nil))
  · exact all_ini (by decide +kernel)
  · exact all_ix (P := fun _ C => Cls K C ∧ ∀ x ∈ S.attrs, NoAttr K C x) (.cons (⟨⟨pg0, hd0, po0, sa0⟩, all_mem (.cons (n0_0) (.nil))⟩) (.nil))
  · exact all_mth (g := g) (.cons (⟨_, rfl, .cons (⟨_, f2, rfl, rfl, ⟨a2, i2, k2⟩⟩) (.cons (⟨_, f4, rfl, rfl, ⟨a4, i4, k4⟩⟩) (.cons (⟨_, f5, rfl, rfl, ⟨a5, i5, k5⟩⟩) (.cons (⟨_, f3, rfl, rfl, ⟨a3, i3, k3⟩⟩) (.cons (⟨_, f1, rfl, rfl, ⟨a1, i1, k1⟩⟩) (.nil)))))⟩) (.nil))
  · exact all_mna (by decide +kernel)
  · exact all_mks (by decide +kernel)
  · exact all_con (.nil)
end
theorem call_Disk___init__ (n : Nat) (ds : List D) (hp : Hq) (Q : QD) (E : QX) : wCall g (n + 1) 0 ds hp Q E = (ds.length = 1 ∧ wSs g (wCall g n) b_Disk___init__ (ds.map some ++ List.replicate 0 none) hp { nx := fun _ hp => Q .non hp, bk := fun _ _ => False, ct := fun _ _ => False, rt := Q, ex := fun c i _ hp => E c i hp }) := rfl
theorem call_Disk_lay (n : Nat) (ds : List D) (hp : Hq) (Q : QD) (E : QX) : wCall g (n + 1) 1 ds hp Q E = (ds.length = 3 ∧ wSs g (wCall g n) b_Disk_lay (ds.map some ++ List.replicate 0 none) hp { nx := fun _ hp => Q .non hp, bk := fun _ _ => False, ct := fun _ _ => False, rt := Q, ex := fun c i _ hp => E c i hp }) := rfl
theorem call_Disk_read (n : Nat) (ds : List D) (hp : Hq) (Q : QD) (E : QX) : wCall g (n + 1) 2 ds hp Q E = (ds.length = 2 ∧ wSs g (wCall g n) b_Disk_read (ds.map some ++ List.replicate 0 none) hp { nx := fun _ hp => Q .non hp, bk := fun _ _ => False, ct := fun _ _ => False, rt := Q, ex := fun c i _ hp => E c i hp }) := rfl
theorem call_Disk_drop (n : Nat) (ds : List D) (hp : Hq) (Q : QD) (E : QX) : wCall g (n + 1) 3 ds hp Q E = (ds.length = 2 ∧ wSs g (wCall g n) b_Disk_drop (ds.map some ++ List.replicate 0 none) hp { nx := fun _ hp => Q .non hp, bk := fun _ _ => False, ct := fun _ _ => False, rt := Q, ex := fun c i _ hp => E c i hp }) := rfl
theorem call_Disk_sizes (n : Nat) (ds : List D) (hp : Hq) (Q : QD) (E : QX) : wCall g (n + 1) 4 ds hp Q E = (ds.length = 1 ∧ wSs g (wCall g n) b_Disk_sizes (ds.map some ++ List.replicate 2 none) hp { nx := fun _ hp => Q .non hp, bk := fun _ _ => False, ct := fun _ _ => False, rt := Q, ex := fun c i _ hp => E c i hp }) := rfl
theorem call_Disk___len__ (n : Nat) (ds : List D) (hp : Hq) (Q : QD) (E : QX) : wCall g (n + 1) 5 ds hp Q E = (ds.length = 1 ∧ wSs g (wCall g n) b_Disk___len__ (ds.map some ++ List.replicate 2 none) hp { nx := fun _ hp => Q .non hp, bk := fun _ _ => False, ct := fun _ _ => False, rt := Q, ex := fun c i _ hp => E c i hp }) := rfl
theorem call__law_cell_at (n : Nat) (ds : List D) (hp : Hq) (Q : QD) (E : QX) : wCall g (n + 1) 6 ds hp Q E = (ds.length = 2 ∧ wSs g (wCall g n) b__law_cell_at (ds.map some ++ List.replicate 0 none) hp { nx := fun _ hp => Q .non hp, bk := fun _ _ => False, ct := fun _ _ => False, rt := Q, ex := fun c i _ hp => E c i hp }) := rfl
theorem call__law_pool (n : Nat) (ds : List D) (hp : Hq) (Q : QD) (E : QX) : wCall g (n + 1) 7 ds hp Q E = (ds.length = 2 ∧ wSs g (wCall g n) b__law_pool (ds.map some ++ List.replicate 2 none) hp { nx := fun _ hp => Q .non hp, bk := fun _ _ => False, ct := fun _ _ => False, rt := Q, ex := fun c i _ hp => E c i hp }) := rfl
theorem call__law_take (n : Nat) (ds : List D) (hp : Hq) (Q : QD) (E : QX) : wCall g (n + 1) 8 ds hp Q E = (ds.length = 2 ∧ wSs g (wCall g n) b__law_take (ds.map some ++ List.replicate 1 none) hp { nx := fun _ hp => Q .non hp, bk := fun _ _ => False, ct := fun _ _ => False, rt := Q, ex := fun c i _ hp => E c i hp }) := rfl
theorem call__law_matter (n : Nat) (ds : List D) (hp : Hq) (Q : QD) (E : QX) : wCall g (n + 1) 9 ds hp Q E = (ds.length = 1 ∧ wSs g (wCall g n) b__law_matter (ds.map some ++ List.replicate 0 none) hp { nx := fun _ hp => Q .non hp, bk := fun _ _ => False, ct := fun _ _ => False, rt := Q, ex := fun c i _ hp => E c i hp }) := rfl
theorem call__law_right (n : Nat) (ds : List D) (hp : Hq) (Q : QD) (E : QX) : wCall g (n + 1) 10 ds hp Q E = (ds.length = 2 ∧ wSs g (wCall g n) b__law_right (ds.map some ++ List.replicate 4 none) hp { nx := fun _ hp => Q .non hp, bk := fun _ _ => False, ct := fun _ _ => False, rt := Q, ex := fun c i _ hp => E c i hp }) := rfl
theorem call_law (n : Nat) (ds : List D) (hp : Hq) (Q : QD) (E : QX) : wCall g (n + 1) 11 ds hp Q E = (ds.length = 1 ∧ wSs g (wCall g n) b_law (ds.map some ++ List.replicate 9 none) hp { nx := fun _ hp => Q .non hp, bk := fun _ _ => False, ct := fun _ _ => False, rt := Q, ex := fun c i _ hp => E c i hp }) := rfl
end T
end MI
set_option maxHeartbeats 4000000
local macro_rules | `(tactic| walk_at "mi") => `(tactic| simp (config := { decide := false }) (disch := (first | assumption | omega | (simp only [List.length_append, List.length_cons, List.length_nil, List.length_set]; omega))) only [*, MI.wSs, MI.wS, MI.wE, MI.wEs, MI.wEo, MI.wTg, MI.wTgs, MI.a_ok, MI.a_cd, MI.a_no, MI.ab_okB, MI.ab_cd, MI.ah_ok, MI.ah_cd, MI.o_add, MI.o_addt, MI.o_adds, MI.o_addl, MI.o_mull, MI.o_sub, MI.o_mul, MI.o_fdiv, MI.o_mod, MI.o_pow, MI.t_non, MI.t_bl, MI.t_int, MI.t_tup, MI.c_eqi, MI.c_eqs, MI.c_eqb, MI.c_nei, MI.c_nes, MI.c_eqt, MI.c_net, MI.c_eqr, MI.c_ner, MI.c_lt, MI.c_le, MI.c_gt, MI.c_ge, MI.c_is, MI.c_nis, MI.c_in, MI.c_nin, MI.v_ok, MI.v_cd, MI.x_tup, MI.x_kl, MI.x_refi, MI.x_refs, MI.s_refi, MI.s_refs, MI.f_ref, MI.sf_ref, MI.at_0, MI.at_1, MI.at_2, MI.ixN_0, MI.ixN_1, List.getElem?_cons_zero, List.getElem?_cons_succ, List.set_cons_zero, List.set_cons_succ, List.map_cons, List.map_nil, List.cons_append, List.nil_append, List.replicate, Option.getD_some, Option.getD_none, Bool.false_eq_true, if_true, if_false, List.length_cons, List.length_nil, List.getElem?_set_self', Option.map_eq_map, Option.map_some, Function.const_apply, List.set_set, decide_eq_true_eq, true_and, and_true, MI.isi_tt, MI.isi_ss, MI.isi_ii, MI.isi_ib, MI.len_t0, MI.len_t1, MI.len_t2, MI.len_k, MI.max_2, MI.min_2, MI.int_b, Bool.not_true, Bool.not_false, decide_true, decide_false])
namespace MI
open PySem L2
theorem getD_get {α : Type} (l : List α) (n : Nat) (d : α) (h : n < l.length) : l[n]? = some (l.getD n d) := by
  rw [List.getD_eq_getElem?_getD, List.getElem?_eq_getElem h]; rfl
section
variable {hp : Hq} {p : Nat} {kvs : List (Key × D)} {j : Int} {y d : D} {xs : List D}
theorem g2_k (e : hp[p]? = some (.dic kvs)) : bmK .get2 (.ref p) hp = some .dic := by
  show (match hp[p]? with
    | some (.dic _) => some BK.dic
    | some (.fdic _) => some .dic
    | _ => none) = _
  rw [e]
theorem g2_o (e : hp[p]? = some (.dic kvs)) : oBM .get2 .dic (.ref p) [.int j, y] hp = .ok ((dget kvs (.inl j)).getD y) hp := by
  show (match rdD hp p, kOf (.int j) with
    | some kvs, some k => OutD.ok ((dget kvs k).getD y) hp
    | _, _ => .no) = _
  unfold rdD
  rw [e]
  rfl
theorem p2_k (e : hp[p]? = some (.dic kvs)) : bmK .pop2 (.ref p) hp = some .dic := by
  show (match hp[p]? with
    | some (.dic _) => some BK.dic
    | _ => none) = _
  rw [e]
theorem mapO_cons {α β : Type} {f : α → Option β} {x : α} {xs : List α} {y : β} {ys : List β} (h : f x = some y) (k : mapO f xs = some ys) : mapO f (x :: xs) = some (y :: ys) := by
  simp only [mapO, h, k]
theorem ddrop_none {k : Key} : ∀ {kvs : List (Key × D)}, dget kvs k = none → ddrop kvs k = kvs
  | [], _ => rfl
  | (k', v) :: r, h => by
    have h : (if k' = k then some v else dget r k) = none := h
    by_cases e : k' = k
    · rw [if_pos e] at h; cases h
    · rw [if_neg e] at h
      unfold ddrop
      rw [List.filter_cons_of_pos (by simpa using e)]
      exact congrArg _ (ddrop_none h)
theorem set_id {hp : Hq} {p : Nat} {o : O} (e : hp[p]? = some o) : hp.set p o = hp := by
  apply List.ext_getElem?
  intro i
  by_cases h : p = i
  · subst h; rw [List.getElem?_set_self (lt_of e), e]
  · rw [List.getElem?_set_ne h]
theorem p2_o (e : hp[p]? = some (.dic kvs)) : oBM .pop2 .dic (.ref p) [.int j, y] hp = .ok ((dget kvs (.inl j)).getD y) (hp.set p (.dic (ddrop kvs (.inl j)))) := by
  show (match gtD hp p, kOf (.int j) with
    | some kvs, some k => match dget kvs k with
      | some d => OutD.ok d (hp.set p (.dic (ddrop kvs k)))
      | none => .ok y hp
    | _, _ => .no) = _
  rw [gtD_of e]
  show (match dget kvs (.inl j) with
      | some d => OutD.ok d (hp.set p (.dic (ddrop kvs (.inl j))))
      | none => .ok y hp) = _
  cases h : dget kvs (.inl j) with
  | some d => rfl
  | none => rw [ddrop_none h, set_id e]; rfl
theorem sb_o (e : hp[p]? = some (.dic kvs)) : oSet (.ref p) (.int j) d hp = .cd (kvs.length < SZ) (hp.set p (.dic (dput kvs (.inl j) d))) := by
  show (match hp[p]? with
    | some (.dic kvs) => match kOf (.int j) with
      | some key => OutH.cd (kvs.length < SZ) (hp.set p (.dic (dput kvs key d)))
      | none => .no
    | some (.lst xs) => match (D.int j) with
      | .int i => match L2.ixN xs.length i with
        | some j => .ok (hp.set p (.lst (xs.set j d)))
        | none => .no
      | _ => .no
    | _ => .no) = _
  rw [e]
  rfl
theorem len_r (e : hp[p]? = some (.lst xs)) : oBF .len [.ref p] hp = .ok (.int xs.length) hp := by
  show (match hp[p]? with
    | some (.lst xs) => OutD.ok (.int xs.length) hp
    | some (.dic kvs) => .ok (.int kvs.length) hp
    | some (.fdic kvs) => .ok (.int kvs.length) hp
    | _ => .no) = _
  rw [e]
end
/-- lists stay as they are, but the pool's -/
structure Fz (pl : Nat) (hp hp' : Hq) : Prop where
  len : hp.length ≤ hp'.length
  at_ : ∀ i xs, i ≠ pl → hp[i]? = some (.lst xs) → hp'[i]? = some (.lst xs)
section
variable {pl : Nat} {a b c : Hq}
theorem Fz.refl : Fz pl a a := ⟨Nat.le_refl _, fun _ _ _ h => h⟩
theorem Fz.trans (h : Fz pl a b) (k : Fz pl b c) : Fz pl a c := ⟨Nat.le_trans h.len k.len, fun i xs n e => k.at_ i xs n (h.at_ i xs n e)⟩
theorem Fz.keep {P : Nat → Prop} (h : Keep P a b) (hp : ∀ i xs, P i → i ≠ pl → a[i]? = some (.lst xs) → False) : Fz pl a b :=
  ⟨h.len, fun i xs n e => h.get e fun z => hp i xs z n e⟩
theorem Fz.app {l : List O} : Fz pl a (a ++ l) := ⟨by simp, fun i xs _ e => app_old e⟩
theorem Fz.setD {p : Nat} {kvs : List (Key × D)} {o : O} (e : a[p]? = some (.dic kvs)) : Fz pl a (a.set p o) := ⟨by simp, fun i xs _ h => by
  have : p ≠ i := fun z => by subst z; rw [e] at h; cases h
  rw [set_other this]; exact h⟩
end
end MI
namespace MI.T
open PySem L2 MI
def Mat (hp : Hq) (pl : Nat) (d : D) : Prop := d = .int 0 ∨ d = .str "x" ∨ d = .tup [.str "put", .int 1, .tup [.int 2, .int 3]] ∨ d = .non ∨ d = .tup [.int 1] ∨ (∃ r, d = .ref r ∧ r ≠ pl ∧ hp[r]? = some (.lst [.int 1, .str "y"])) ∨ d = .int (-7) ∨ d = .str "word"
def Itm (hp : Hq) (pl : Nat) (d : D) : Prop := ∃ i m, d = .tup [.int i, m] ∧ 0 ≤ i ∧ i < 99 ∧ Mat hp pl m
section
variable {hp hp' : Hq} {pl : Nat} {d : D} {xs : List D}
theorem Mat.fz (h : Mat hp pl d) (f : Fz pl hp hp') : Mat hp' pl d := by
  rcases h with h | h | h | h | h | ⟨r, h1, h2, h3⟩ | h | h
  · exact .inl h
  · exact .inr (.inl h)
  · exact .inr (.inr (.inl h))
  · exact .inr (.inr (.inr (.inl h)))
  · exact .inr (.inr (.inr (.inr (.inl h))))
  · exact .inr (.inr (.inr (.inr (.inr (.inl ⟨r, h1, h2, f.at_ r _ h2 h3⟩)))))
  · exact .inr (.inr (.inr (.inr (.inr (.inr (.inl h))))))
  · exact .inr (.inr (.inr (.inr (.inr (.inr (.inr h))))))
theorem Itm.fz (h : Itm hp pl d) (f : Fz pl hp hp') : Itm hp' pl d := by
  obtain ⟨i, m, a, b, c, e⟩ := h
  exact ⟨i, m, a, b, c, e.fz f⟩
theorem mat_p (n : Nat) (h : Mat hp pl d) : ∃ a, (∀ hp', Fz pl hp hp' → toP (n + 3) hp' d = some a) ∧ smal a = true ∧ a.depth ≤ 3 ∧ a.bulk ≤ 20 := by
  rcases h with h | h | h | h | h | ⟨r, h1, h2, h3⟩ | h | h
  · subst h; exact ⟨_, fun _ _ => rfl, by decide +kernel, by decide +kernel, by decide +kernel⟩
  · subst h; exact ⟨_, fun _ _ => rfl, by decide +kernel, by decide +kernel, by decide +kernel⟩
  · subst h; exact ⟨.tuple [.str "put", .int 1, .tuple [.int 2, .int 3]], fun _ _ => rfl, by decide +kernel, by decide +kernel, by decide +kernel⟩
  · subst h; exact ⟨_, fun _ _ => rfl, by decide +kernel, by decide +kernel, by decide +kernel⟩
  · subst h; exact ⟨.tuple [.int 1], fun _ _ => rfl, by decide +kernel, by decide +kernel, by decide +kernel⟩
  · subst h1
    refine ⟨.list [.int 1, .str "y"], fun hp' f => ?_, by decide +kernel, by decide +kernel, by decide +kernel⟩
    show (match gtL hp' r with
      | some ds => (mapO (toP (n + 2) hp') ds).map PyData.list
      | none => none) = _
    rw [gtL_of (f.at_ r _ h2 h3)]
    rfl
  · subst h; exact ⟨_, fun _ _ => rfl, by decide +kernel, by decide +kernel, by decide +kernel⟩
  · subst h; exact ⟨_, fun _ _ => rfl, by decide +kernel, by decide +kernel, by decide +kernel⟩
theorem itm_p (n : Nat) (h : Itm hp pl d) : ∃ a, (∀ hp', Fz pl hp hp' → toP (n + 4) hp' d = some a) ∧ smal a = true ∧ a.depth ≤ 4 ∧ a.bulk ≤ 30 := by
  obtain ⟨i, m, rfl, h1, h2, hm⟩ := h
  obtain ⟨a, e, s, dp, b⟩ := mat_p n hm
  refine ⟨.tuple [.int i, a], fun hp' f => ?_, ?_, ?_, ?_⟩
  · show (mapO (toP (n + 3) hp') [.int i, m]).map PyData.tuple = _
    have : mapO (toP (n + 3) hp') [.int i, m] = some [.int i, a] := mapO_cons rfl (mapO_cons (e hp' f) rfl)
    rw [this]; rfl
  · simp only [smal, smalAll, s, Bool.and_true, Bool.and_eq_true, decide_eq_true_eq]
    omega
  · simp only [PyData.depth, PyData.depthAll]; omega
  · simp only [PyData.bulk, PyData.bulkAll]; omega
theorem itms_p (n : Nat) : ∀ xs : List D, (∀ x ∈ xs, Itm hp pl x) → ∃ as, (∀ hp', Fz pl hp hp' → mapO (toP (n + 4) hp') xs = some as) ∧ smalAll as = true ∧ PyData.depthAll as ≤ 4 ∧ PyData.bulkAll as ≤ 31 * xs.length ∧ as.length = xs.length
  | [], _ => ⟨[], fun _ _ => rfl, rfl, Nat.zero_le _, Nat.zero_le _, rfl⟩
  | x :: xs, h => by
    obtain ⟨a, e, s, dp, b⟩ := itm_p n (h x List.mem_cons_self)
    obtain ⟨as, es, ss, ds, bs, ls⟩ := itms_p n xs fun y hy => h y (List.mem_cons_of_mem _ hy)
    refine ⟨a :: as, fun hp' f => mapO_cons (e hp' f) (es hp' f), ?_, ?_, ?_, ?_⟩
    · simp only [smalAll, s, ss, Bool.and_true]
    · simp only [PyData.depthAll]; omega
    · simp only [PyData.bulkAll, List.length_cons]; omega
    · simp only [List.length_cons, ls]
/-- a list of items, as plain data -/
theorem lst_p {q : Nat} (e : hp[q]? = some (.lst xs)) {as : List PyData} (h : mapO (toP 39 hp) xs = some as) : toP 40 hp (.ref q) = some (.list as) := by
  show (match gtL hp q with
      | some ds => (mapO (toP 39 hp) ds).map PyData.list
      | none => none) = _
  rw [gtL_of e]
  show (mapO (toP 39 hp) xs).map PyData.list = _
  rw [h]; rfl
theorem ls_ok {as : List PyData} (s : smalAll as = true) (dp : PyData.depthAll as ≤ 4) (b : PyData.bulkAll as ≤ 100000) : RpOk (.list as) :=
  rp_of (by simpa [smal] using s) (by simp only [PyData.depth]; omega) (by simpa [PyData.bulk] using b)
def LstAt (hp : Hq) (pl q : Nat) (xs : List D) : Prop := q ≠ pl ∧ hp[q]? = some (.lst xs)
theorem LstAt.fz {q : Nat} (h : LstAt hp pl q xs) (f : Fz pl hp hp') : LstAt hp' pl q xs := ⟨h.1, f.at_ q xs h.1 h.2⟩
/-- what a dict of lists holds at a key -/
def Cont (hp : Hq) (pl : Nat) (kvs : List (Key × D)) (j : Nat) (xs : List D) : Prop := (dget kvs (.inl (j : Int)) = none ∧ xs = []) ∨ ∃ q, dget kvs (.inl (j : Int)) = some (.ref q) ∧ LstAt hp pl q xs
theorem Cont.fz {kvs : List (Key × D)} {j : Nat} (h : Cont hp pl kvs j xs) (f : Fz pl hp hp') : Cont hp' pl kvs j xs := by
  rcases h with h | ⟨q, h1, h2⟩
  · exact .inl h
  · exact .inr ⟨q, h1, h2.fz f⟩
variable {n : Nat} {Q : QD} {E : QX} {i od : Nat} {oo : List (Key × D)} {j : Nat}
theorem read_run (hi : hp[i]? = some (.ins 0 [(0, .ref od)])) (ho : hp[od]? = some (.dic oo)) (hc : Cont hp pl oo j xs)
    (k : Q (.ref (hp.length + 1)) (hp ++ [O.lst []] ++ [O.lst xs])) : wCall g (n + 1) 2 [.ref i, .int (j : Int)] hp Q E := by
  rw [call_Disk_read]
  refine ⟨rfl, ?_⟩
  unfold b_Disk_read
  have e1 : gtI hp i = some (0, [(0, .ref od)]) := gtI_of hi
  have e2 : fget [(0, D.ref od)] 0 = some (.ref od) := rfl
  have e3 := g2_k ho
  have e4 := g2_o (j := (j : Int)) (y := .ref hp.length) (app_old (l := [O.lst []]) ho)
  walk_at "mi"
  rcases hc with ⟨h1, rfl⟩ | ⟨q, h1, h2⟩
  · rw [h1]
    show (oBF .list1 [.ref hp.length] (hp ++ [O.lst []])).app Q
    rw [list_l (xs := []) (by simp), a_ok]
    simpa using k
  · rw [h1]
    show (oBF .list1 [.ref q] (hp ++ [O.lst []])).app Q
    rw [list_l (xs := xs) (app_old h2.2), a_ok]
    simpa using k
theorem drop_run (hi : hp[i]? = some (.ins 0 [(0, .ref od)])) (ho : hp[od]? = some (.dic oo))
    (k : Q .non (hp.set od (.dic (ddrop oo (.inl (j : Int)))))) : wCall g (n + 1) 3 [.ref i, .int (j : Int)] hp Q E := by
  rw [call_Disk_drop]
  refine ⟨rfl, ?_⟩
  unfold b_Disk_drop
  have e1 : gtI hp i = some (0, [(0, .ref od)]) := gtI_of hi
  have e2 : fget [(0, D.ref od)] 0 = some (.ref od) := rfl
  have e3 := p2_k ho
  have e4 := p2_o (j := (j : Int)) (y := .non) ho
  walk_at "mi"
theorem lay_run0 {p : Nat} (hp0 : hp[p]? = some (.lst [])) (k : Q .non hp) : wCall g (n + 2) 1 [.ref i, .int (j : Int), .ref p] hp Q E := by
  rw [call_Disk_lay]
  refine ⟨rfl, ?_⟩
  unfold b_Disk_lay
  have e1 := len_r hp0
  walk_at "mi"
  simpa using k
theorem lay_run {p : Nat} {x : D} {ts : List D} (hi : hp[i]? = some (.ins 0 [(0, .ref od)])) (ho : hp[od]? = some (.dic oo)) (hc : Cont hp pl oo j xs) (hl : oo.length < 1000) (hx : xs.length + (x :: ts).length < 10000)
    (hq : hp[p]? = some (.lst (x :: ts))) (k : Q .non ((hp ++ [O.lst []] ++ [O.lst xs] ++ [O.lst (x :: ts)] ++ [O.lst (xs ++ (x :: ts))]).set od (.dic (dput oo (.inl (j : Int)) (.ref (hp.length + 3)))))) :
    wCall g (n + 2) 1 [.ref i, .int (j : Int), .ref p] hp Q E := by
  rw [call_Disk_lay]
  refine ⟨rfl, ?_⟩
  unfold b_Disk_lay
  have e1 := len_r hq
  have e2 : gtI hp i = some (0, [(0, .ref od)]) := gtI_of hi
  have e3 : fget [(0, D.ref od)] 0 = some (.ref od) := rfl
  have e4 : g.meth 0 0 = some 2 := rfl
  simp only [wSs, wS, wE, wEs, wEo, e1, a_ok, ab_okB, c_gt, t_bl, List.map_cons, List.map_nil, List.cons_append, List.nil_append, List.replicate, List.getElem?_cons_zero, List.getElem?_cons_succ]
  rw [if_pos (by simp only [decide_eq_true_eq, List.length_cons]; omega)]
  simp only [wSs, wS, wE, wEs, wEo, e2, e4, List.getElem?_cons_zero, List.getElem?_cons_succ]
  refine read_run hi ho hc ?_
  have f1 : oBF .list1 [.ref p] (hp ++ [O.lst []] ++ [O.lst xs]) = _ := list_l (xs := x :: ts) (app_old (app_old hq))
  have f2 : gtL (hp ++ [O.lst []] ++ [O.lst xs] ++ [O.lst (x :: ts)]) (hp.length + 1) = some xs := gtL_of (by
    apply app_old
    rw [List.getElem?_append_right (by simp)]
    simp)
  have f3 : gtL (hp ++ [O.lst []] ++ [O.lst xs] ++ [O.lst (x :: ts)]) (hp ++ [O.lst []] ++ [O.lst xs]).length = some (x :: ts) := gtL_of (by simp)
  rw [f1, a_ok, o_addl, f2, f3]
  show _ ∧ _
  refine ⟨by show xs.length + (x :: ts).length ≤ 16777216; omega, ?_⟩
  have f4 : gtI (hp ++ [O.lst []] ++ [O.lst xs] ++ [O.lst (x :: ts)] ++ [O.lst (xs ++ (x :: ts))]) i = some (0, [(0, .ref od)]) := gtI_of (app_old (app_old (app_old (app_old hi))))
  have f5 := sb_o (j := (j : Int)) (d := .ref (hp ++ [O.lst []] ++ [O.lst xs] ++ [O.lst (x :: ts)]).length) (app_old (l := [O.lst (xs ++ (x :: ts))]) (app_old (l := [O.lst (x :: ts)]) (app_old (l := [O.lst xs]) (app_old (l := [O.lst []]) ho))))
  simp only [wTg, wE, wEs, f_ref, f4, e3, a_ok, List.getElem?_cons_zero, List.getElem?_cons_succ]
  rw [f5, ah_cd]
  refine ⟨by show oo.length < 16777216; omega, ?_⟩
  have f6 : (hp ++ [O.lst []] ++ [O.lst xs] ++ [O.lst (x :: ts)]).length = hp.length + 3 := by simp
  rw [f6]
  exact k
end
end MI.T
set_option maxHeartbeats 4000000
local macro_rules | `(tactic| walk_at "mi") => `(tactic| simp (config := { decide := false }) (disch := (first | assumption | omega | (simp only [List.length_append, List.length_cons, List.length_nil, List.length_set]; omega))) only [*, MI.wSs, MI.wS, MI.wE, MI.wEs, MI.wEo, MI.wTg, MI.wTgs, MI.a_ok, MI.a_cd, MI.a_no, MI.ab_okB, MI.ab_cd, MI.ah_ok, MI.ah_cd, MI.o_add, MI.o_addt, MI.o_adds, MI.o_addl, MI.o_mull, MI.o_sub, MI.o_mul, MI.o_fdiv, MI.o_mod, MI.o_pow, MI.t_non, MI.t_bl, MI.t_int, MI.t_tup, MI.c_eqi, MI.c_eqs, MI.c_eqb, MI.c_nei, MI.c_nes, MI.c_eqt, MI.c_net, MI.c_eqr, MI.c_ner, MI.c_lt, MI.c_le, MI.c_gt, MI.c_ge, MI.c_is, MI.c_nis, MI.c_in, MI.c_nin, MI.v_ok, MI.v_cd, MI.x_tup, MI.x_kl, MI.x_refi, MI.x_refs, MI.s_refi, MI.s_refs, MI.f_ref, MI.sf_ref, MI.at_0, MI.at_1, MI.at_2, MI.ixN_0, MI.ixN_1, List.getElem?_cons_zero, List.getElem?_cons_succ, List.set_cons_zero, List.set_cons_succ, List.map_cons, List.map_nil, List.cons_append, List.nil_append, List.replicate, Option.getD_some, Option.getD_none, Bool.false_eq_true, if_true, if_false, List.length_cons, List.length_nil, List.getElem?_set_self', Option.map_eq_map, Option.map_some, Function.const_apply, List.set_set, decide_eq_true_eq, true_and, and_true, MI.isi_tt, MI.isi_ss, MI.isi_ii, MI.isi_ib, MI.len_t0, MI.len_t1, MI.len_t2, MI.len_k, MI.max_2, MI.min_2, MI.int_b, Bool.not_true, Bool.not_false, decide_true, decide_false])
namespace MI
open PySem L2
theorem dc_run {nx : Nat → Hq → Option (Option D)} {body : D → Hq → (Option (D × D) → Hq → Prop) → Prop} {k : List (Key × D) → Hq → Prop} (M : Nat) (Inv : Nat → List (Key × D) → Hq → Prop)
    (step : ∀ j acc hp kn, j < M → Inv j acc hp → (∀ hp', Inv (j + 1) acc hp' → kn none hp') → (∀ y z key hp', kOf y = some key → Inv (j + 1) (dput acc key z) hp' → kn (some (y, z)) hp') → ∃ d, nx j hp = some (some d) ∧ body d hp kn)
    (small : ∀ j acc hp, Inv j acc hp → acc.length < SZ)
    (fin : ∀ acc hp, Inv M acc hp → nx M hp = some none ∧ k acc hp) {hp : Hq} (h0 : Inv 0 [] hp) : ∃ N, dcLoop nx body N 0 [] hp k := by
  have go : ∀ m j acc hp, m + j = M → Inv j acc hp → dcLoop nx body (m + 1) j acc hp k := by
    intro m
    induction m with
    | zero =>
      intro j acc hp e h
      have e : j = M := by omega
      subst e
      obtain ⟨h1, h2⟩ := fin acc hp h
      unfold dcLoop
      rw [h1]
      exact h2
    | succ m ih =>
      intro j acc hp e h
      unfold dcLoop
      obtain ⟨d, h1, h2⟩ := step j acc hp (fun r hp' => match r with
        | none => dcLoop nx body (m + 1) (j + 1) acc hp' k
        | some (y, z) => match kOf y with
          | some key => acc.length < SZ ∧ dcLoop nx body (m + 1) (j + 1) (dput acc key z) hp' k
          | none => False) (by omega) h (fun hp' h' => ih (j + 1) acc hp' (by omega) h') fun y z key hp' hk h' => by
            show (match kOf y with | some key => _ | none => False)
            rw [hk]
            exact ⟨small j acc hp h, ih (j + 1) _ hp' (by omega) h'⟩
      rw [h1]
      exact h2
  exact ⟨M + 1, go M 0 [] hp (by omega) h0⟩
theorem ac_run {nx : Nat → Hq → Option (Option D)} {body : D → List D → Hq → (List D → Hq → Prop) → Prop} {k : List D → Hq → Prop} (M : Nat) (Inv : Nat → List D → Hq → Prop)
    (step : ∀ j acc hp kn, j < M → Inv j acc hp → (∀ acc' hp', Inv (j + 1) acc' hp' → kn acc' hp') → ∃ d, nx j hp = some (some d) ∧ body d acc hp kn)
    (fin : ∀ acc hp, Inv M acc hp → nx M hp = some none ∧ k acc hp) {hp : Hq} (h0 : Inv 0 [] hp) : ∃ N, acLoop nx body N 0 [] hp k := by
  have go : ∀ m j acc hp, m + j = M → Inv j acc hp → acLoop nx body (m + 1) j acc hp k := by
    intro m
    induction m with
    | zero =>
      intro j acc hp e h
      have e : j = M := by omega
      subst e
      obtain ⟨h1, h2⟩ := fin acc hp h
      unfold acLoop
      rw [h1]
      exact h2
    | succ m ih =>
      intro j acc hp e h
      unfold acLoop
      obtain ⟨d, h1, h2⟩ := step j acc hp (fun acc' hp' => acLoop nx body (m + 1) (j + 1) acc' hp' k) (by omega) h fun acc' hp' h' => ih (j + 1) acc' hp' (by omega) h'
      rw [h1]
      exact h2
  exact ⟨M + 1, go M 0 [] hp (by omega) h0⟩
/-- a walk over a list that hangs each item on -/
theorem lc_all {nx : Nat → Hq → Option (Option D)} {body : D → Hq → (Option D → Hq → Prop) → Prop} {k : List D → Hq → Prop} {xs : List D} {hp : Hq} (hn : ∀ j, nx j hp = some xs[j]?)
    (hb : ∀ x kn, x ∈ xs → kn (some x) hp → body x hp kn) {acc : List D} (hs : acc.length + xs.length < SZ) (h : k (acc ++ xs) hp) : ∃ N, lcLoop nx body N 0 acc hp k := by
  have go : ∀ m j, m + j = xs.length → lcLoop nx body (m + 1) j (acc ++ xs.take j) hp k := by
    intro m
    induction m with
    | zero =>
      intro j e
      unfold lcLoop
      rw [hn, List.getElem?_eq_none (by omega)]
      show k _ _
      rw [List.take_of_length_le (by omega)]
      exact h
    | succ m ih =>
      intro j e
      unfold lcLoop
      have hj : j < xs.length := by omega
      rw [hn, List.getElem?_eq_getElem hj]
      refine hb _ _ (List.getElem_mem hj) ?_
      refine ⟨by rw [List.length_append, List.length_take]; omega, ?_⟩
      have := ih (j + 1) (by omega)
      rw [List.take_succ_eq_append_getElem hj, ← List.append_assoc] at this
      exact this
  have := go xs.length 0 (by omega)
  simp only [List.take_zero, List.append_nil] at this
  exact ⟨_, this⟩
theorem take_one {α : Type} {l : List α} {j : Nat} (h : j < l.length) : l.take (j + 1) = l.take j ++ [l[j]] := List.take_succ_eq_append_getElem h
end MI
namespace MI.T
open PySem L2 MI
def lenOf (hp : Hq) : D → Nat
  | .ref q => ((gtL hp q).getD []).length
  | _ => 0
theorem lenOf_at {hp : Hq} {q : Nat} {xs : List D} (h : hp[q]? = some (.lst xs)) : lenOf hp (.ref q) = xs.length := by
  show ((gtL hp q).getD []).length = _
  rw [gtL_of h]; rfl
/-- a dict of short lists -/
def LD (hp : Hq) (m : Nat) (oo : List (Key × D)) : Prop := ∀ kv ∈ oo, ∃ q xs, kv.2 = .ref q ∧ hp[q]? = some (.lst xs) ∧ xs.length ≤ m
section
variable {hp : Hq} {n m : Nat} {Q : QD} {E : QX} {i od : Nat} {oo : List (Key × D)}
theorem sizes_run (hi : hp[i]? = some (.ins 0 [(0, .ref od)])) (ho : hp[od]? = some (.dic oo)) (hk : Kys 6 oo) (hl : LD hp m oo)
    (k : Q (.ref hp.length) (hp ++ [O.dic (oo.map fun kv => (kv.1, D.int (lenOf hp kv.2)))])) : wCall g (n + 1) 4 [.ref i] hp Q E := by
  rw [call_Disk_sizes]
  refine ⟨rfl, ?_⟩
  unfold b_Disk_sizes
  have e1 : gtI hp i = some (0, [(0, .ref od)]) := gtI_of hi
  have e2 : fget [(0, D.ref od)] 0 = some (.ref od) := rfl
  have e3 : itDic (fun kv => .tup [keyD kv.1, kv.2]) hp (.ref od) = some (⟨fun j _ => some ((oo.map fun kv => D.tup [keyD kv.1, kv.2])[j]?), fun h => h.set od (.dic oo)⟩, hp.set od (.fdic oo)) := by
    show (match hp[od]? with
    | some (.dic kvs) => some ((⟨fun j _ => some ((kvs.map fun (kv : Key × D) => D.tup [keyD kv.1, kv.2])[j]?), fun h => h.set od (.dic kvs)⟩ : Itr), hp.set od (.fdic kvs))
    | some (.fdic kvs) => some (itFix (kvs.map fun (kv : Key × D) => D.tup [keyD kv.1, kv.2]), hp)
    | _ => none) = _
    rw [ho]
  simp only [wSs, wS, wE, wEs, wEo, wIt, f_ref, e1, e2, a_ok, List.map_cons, List.map_nil, List.cons_append, List.nil_append, List.replicate, List.getElem?_cons_zero, List.getElem?_cons_succ]
  rw [e3]
  show ∃ N, dcLoop _ _ N 0 [] (hp.set od (.fdic oo)) _
  refine dc_run oo.length (fun j acc hp' => hp' = hp.set od (.fdic oo) ∧ j ≤ oo.length ∧ acc = (oo.take j).map fun kv => (kv.1, D.int (lenOf hp kv.2))) (fun j acc hp' kn hj hI _ hk2 => ?_) (fun j acc hp' hI => ?_) (fun acc hp' hI => ?_) ⟨rfl, Nat.zero_le _, rfl⟩
  · obtain ⟨rfl, _, rfl⟩ := hI
    refine ⟨.tup [keyD oo[j].1, oo[j].2], by simp [hj], ?_⟩
    obtain ⟨q, xs, q1, q2, q3⟩ := hl oo[j] (List.getElem_mem hj)
    obtain ⟨jj, j1, j2⟩ := hk.lt oo[j] (List.getElem_mem hj)
    have hne : od ≠ q := fun z => by subst z; rw [ho] at q2; cases q2
    have q4 : (hp.set od (.fdic oo))[q]? = some (.lst xs) := by rw [set_other hne]; exact q2
    have q5 := len_r q4
    simp only [wTg, wTgs, wipeE, wEs, wE, wEo, q1, j2, keyD, q5, a_ok, List.set_cons_zero, List.set_cons_succ, List.getElem?_cons_zero, List.getElem?_cons_succ]
    refine ⟨rfl, ?_⟩
    refine hk2 _ _ (.inl (jj : Int)) _ rfl ⟨rfl, hj, ?_⟩
    rw [dput_new, take_one hj, List.map_append, List.map_cons, List.map_nil, q1, j2, lenOf_at q2]
    intro z
    have z : Sum.inl (jj : Int) ∈ (oo.take j).map (·.1) := by
      rw [List.map_map] at z
      exact z
    have nd := hk.nd
    rw [← List.take_append_drop j oo, List.map_append, List.nodup_append] at nd
    refine nd.2.2 _ z (.inl (jj : Int)) ?_ rfl
    rw [← j2]
    refine List.mem_map.mpr ⟨oo[j], ?_, rfl⟩
    rw [List.drop_eq_getElem_cons hj]
    exact List.mem_cons_self
  · obtain ⟨rfl, h, rfl⟩ := hI
    rw [List.length_map, List.length_take]
    have := hk.len
    show _ < 16777216
    omega
  · obtain ⟨rfl, _, rfl⟩ := hI
    refine ⟨by simp, ?_⟩
    show Q (.ref ((hp.set od (.fdic oo)).set od (.dic oo)).length) ((hp.set od (.fdic oo)).set od (.dic oo) ++ _)
    rw [List.set_set, set_id ho, List.take_length]
    exact k
theorem sum_bd {α : Type} (f : α → Nat) (m : Nat) : ∀ l : List α, (∀ x ∈ l, f x ≤ m) → (l.map f).sum ≤ l.length * m
  | [], _ => by simp
  | a :: r, h => by
    have h1 := h a List.mem_cons_self
    have h2 := sum_bd f m r fun x hx => h x (List.mem_cons_of_mem _ hx)
    rw [List.map_cons, List.sum_cons, List.length_cons, Nat.add_mul]
    omega
theorem dlen_run (hi : hp[i]? = some (.ins 0 [(0, .ref od)])) (ho : hp[od]? = some (.dic oo)) (hk : Kys 6 oo) (hl : LD hp m oo) (hm : m ≤ 1000)
    (k : ∀ hp', Keep (fun _ => False) hp hp' → Q (.int ((oo.map fun kv => lenOf hp kv.2).sum : Nat)) hp') : wCall g (n + 1) 5 [.ref i] hp Q E := by
  rw [call_Disk___len__]
  refine ⟨rfl, ?_⟩
  unfold b_Disk___len__
  have e1 : gtI hp i = some (0, [(0, .ref od)]) := gtI_of hi
  have e2 : fget [(0, D.ref od)] 0 = some (.ref od) := rfl
  have e3 : itDic (fun kv => kv.2) hp (.ref od) = some (⟨fun j _ => some ((oo.map fun kv => kv.2)[j]?), fun h => h.set od (.dic oo)⟩, hp.set od (.fdic oo)) := by
    show (match hp[od]? with
    | some (.dic kvs) => some ((⟨fun j _ => some ((kvs.map fun (kv : Key × D) => kv.2)[j]?), fun h => h.set od (.dic kvs)⟩ : Itr), hp.set od (.fdic kvs))
    | some (.fdic kvs) => some (itFix (kvs.map fun (kv : Key × D) => kv.2), hp)
    | _ => none) = _
    rw [ho]
  simp only [wSs, wS, wE, wEs, wEo, wIt, f_ref, e1, e2, a_ok, List.map_cons, List.map_nil, List.cons_append, List.nil_append, List.replicate, List.getElem?_cons_zero, List.getElem?_cons_succ]
  rw [e3]
  show ∃ N, acLoop _ _ N 0 [] (hp.set od (.fdic oo)) _
  have bd : ∀ j, j ≤ oo.length → ((oo.take j).map fun kv => lenOf hp kv.2).sum ≤ 6 * 1000 := fun j hj => by
    have h1 := sum_bd (fun kv : Key × D => lenOf hp kv.2) 1000 (oo.take j) (fun kv hkv => by
      obtain ⟨q, xs, q1, q2, q3⟩ := hl kv (List.mem_of_mem_take hkv)
      show lenOf hp kv.2 ≤ 1000
      rw [q1, lenOf_at q2]; omega)
    have h2 := hk.len
    rw [List.length_take] at h1
    have : min j oo.length * 1000 ≤ 6 * 1000 := Nat.mul_le_mul_right _ (by omega)
    omega
  refine ac_run oo.length (fun j acc hp' => hp' = hp.set od (.fdic oo) ∧ j ≤ oo.length ∧ acc.length = ((oo.take j).map fun kv => lenOf hp kv.2).sum) (fun j acc hp' kn hj hI hk2 => ?_) (fun acc hp' hI => ?_) ⟨rfl, Nat.zero_le _, rfl⟩
  · obtain ⟨rfl, _, hacc⟩ := hI
    refine ⟨oo[j].2, by simp [hj], ?_⟩
    obtain ⟨q, xs, q1, q2, q3⟩ := hl oo[j] (List.getElem_mem hj)
    have hne : od ≠ q := fun z => by subst z; rw [ho] at q2; cases q2
    have q4 : (hp.set od (.fdic oo))[q]? = some (.lst xs) := by rw [set_other hne]; exact q2
    have q6 : itSq (hp.set od (.fdic oo)) (.ref q) = some (itLst q) := by
      show (match (hp.set od (.fdic oo))[q]? with
        | some (.lst _) => some (itLst q)
        | _ => none) = _
      rw [q4]
    simp only [wTg, wTgs, wipeE, wEs, wE, wEo, q1, q6, a_ok, List.set_cons_zero, List.set_cons_succ, List.getElem?_cons_zero, List.getElem?_cons_succ]
    refine lc_all (xs := xs) (fun t => ?_) (fun x kn hx hkn => ?_) ?_ (hk2 _ _ ⟨rfl, hj, ?_⟩)
    · show (gtL (hp.set od (.fdic oo)) q).map (fun xs => xs[t]?) = _
      rw [gtL_of q4]; rfl
    · exact hkn
    · have := bd j (by omega)
      show _ < 16777216
      omega
    · rw [take_one hj, List.map_append, List.sum_append, List.length_append, hacc]
      simp only [List.map_cons, List.map_nil, List.sum_cons, List.sum_nil, q1, lenOf_at q2]
      omega
  · obtain ⟨rfl, _, hacc⟩ := hI
    refine ⟨by simp, ?_⟩
    show (oBF .len [.ref ((hp.set od (.fdic oo)).set od (.dic oo)).length] ((hp.set od (.fdic oo)).set od (.dic oo) ++ [O.lst acc])).app Q
    rw [List.set_set, set_id ho, len_r (xs := acc) (by simp), a_ok, hacc, List.take_length]
    exact k _ Keep.app
end
end MI.T
set_option maxHeartbeats 4000000
local macro_rules | `(tactic| walk_at "mi") => `(tactic| simp (config := { decide := false }) (disch := (first | assumption | omega | (simp only [List.length_append, List.length_cons, List.length_nil, List.length_set]; omega))) only [*, MI.wSs, MI.wS, MI.wE, MI.wEs, MI.wEo, MI.wTg, MI.wTgs, MI.a_ok, MI.a_cd, MI.a_no, MI.ab_okB, MI.ab_cd, MI.ah_ok, MI.ah_cd, MI.o_add, MI.o_addt, MI.o_adds, MI.o_addl, MI.o_mull, MI.o_sub, MI.o_mul, MI.o_fdiv, MI.o_mod, MI.o_pow, MI.t_non, MI.t_bl, MI.t_int, MI.t_tup, MI.c_eqi, MI.c_eqs, MI.c_eqb, MI.c_nei, MI.c_nes, MI.c_eqt, MI.c_net, MI.c_eqr, MI.c_ner, MI.c_lt, MI.c_le, MI.c_gt, MI.c_ge, MI.c_is, MI.c_nis, MI.c_in, MI.c_nin, MI.v_ok, MI.v_cd, MI.x_tup, MI.x_kl, MI.x_refi, MI.x_refs, MI.s_refi, MI.s_refs, MI.f_ref, MI.sf_ref, MI.at_0, MI.at_1, MI.at_2, MI.ixN_0, MI.ixN_1, List.getElem?_cons_zero, List.getElem?_cons_succ, List.set_cons_zero, List.set_cons_succ, List.map_cons, List.map_nil, List.cons_append, List.nil_append, List.replicate, Option.getD_some, Option.getD_none, Bool.false_eq_true, if_true, if_false, List.length_cons, List.length_nil, List.getElem?_set_self', Option.map_eq_map, Option.map_some, Function.const_apply, List.set_set, decide_eq_true_eq, true_and, and_true, MI.isi_tt, MI.isi_ss, MI.isi_ii, MI.isi_ib, MI.len_t0, MI.len_t1, MI.len_t2, MI.len_k, MI.max_2, MI.min_2, MI.int_b, Bool.not_true, Bool.not_false, decide_true, decide_false])
namespace MI.T
open PySem L2 MI
structure St (hp : Hq) (pl fl od kd : Nat) (oo kk : List (Key × D)) (m : Nat) : Prop where
  fi : hp[fl]? = some (.ins 0 [(0, .ref od)])
  o : hp[od]? = some (.dic oo)
  k : hp[kd]? = some (.dic kk)
  ko : Kys 6 oo
  kq : Kys 6 kk
  rel : ∀ j : Nat, ∃ xs, Cont hp pl kk j xs ∧ Cont hp pl oo j xs ∧ (xs = [] → dget oo (.inl (j : Int)) = none) ∧ xs.length ≤ m ∧ ∀ x ∈ xs, Itm hp pl x
section
variable {hp hp' : Hq} {pl fl od kd n m : Nat} {oo kk : List (Key × D)} {Q : QD} {E : QX}
theorem fz0 (h : Keep (fun _ => False) hp hp') : Fz pl hp hp' := Fz.keep h fun _ _ z => z.elim
theorem St.keep (S : St hp pl fl od kd oo kk m) (h : Keep (fun _ => False) hp hp') : St hp' pl fl od kd oo kk m :=
  ⟨h.get S.fi (fun z => z), h.get S.o (fun z => z), h.get S.k (fun z => z), S.ko, S.kq, fun j => by
    obtain ⟨xs, h1, h2, h3, h4, h5⟩ := S.rel j
    exact ⟨xs, h1.fz (fz0 h), h2.fz (fz0 h), h3, h4, fun x hx => (h5 x hx).fz (fz0 h)⟩⟩
theorem ld_of {kvs : List (Key × D)} (hk : Kys 6 kvs) (h : ∀ j : Nat, ∃ xs, Cont hp pl kvs j xs ∧ xs.length ≤ m) : LD hp m kvs := fun kv hkv => by
  obtain ⟨j, _, e⟩ := hk.lt kv hkv
  have e2 : dget kvs (.inl (j : Int)) = some kv.2 := dget_of_mem hk.nd (by rw [← e]; exact hkv)
  obtain ⟨xs, h1, h2⟩ := h j
  rcases h1 with ⟨z, _⟩ | ⟨q, z, hl⟩
  · rw [e2] at z; cases z
  · rw [e2] at z
    injection z with z
    exact ⟨q, xs, z, hl.2, h2⟩
theorem St.lo (S : St hp pl fl od kd oo kk m) : LD hp m oo := ld_of S.ko fun j => by
  obtain ⟨xs, h1, h2, h3, h4, h5⟩ := S.rel j
  exact ⟨xs, h2, h4⟩
theorem St.lk (S : St hp pl fl od kd oo kk m) : LD hp m kk := ld_of S.kq fun j => by
  obtain ⟨xs, h1, h2, h3, h4, h5⟩ := S.rel j
  exact ⟨xs, h1, h4⟩
/-- the items' lengths, by the keys -/
theorem St.sums (S : St hp pl fl od kd oo kk m) : (oo.map fun kv => lenOf hp kv.2).sum = (kk.map fun kv => lenOf hp kv.2).sum := by
  rw [sum_keys (w := fun _ d => lenOf hp d) S.ko, sum_keys (w := fun _ d => lenOf hp d) S.kq]
  refine wsum_congr 6 fun j _ => ?_
  obtain ⟨xs, h1, h2, h3, h4, h5⟩ := S.rel j
  rcases h2 with ⟨a, rfl⟩ | ⟨q, a, b⟩
  · rw [a]
    rcases h1 with ⟨c, _⟩ | ⟨q, c, d⟩
    · rw [c]
    · rw [c]; show 0 = lenOf hp (.ref q); rw [lenOf_at d.2]; rfl
  · rw [a]
    rcases h1 with ⟨c, rfl⟩ | ⟨q', c, d⟩
    · rw [h3 rfl] at a; cases a
    · rw [c]; show lenOf hp (.ref q) = lenOf hp (.ref q'); rw [lenOf_at d.2, lenOf_at b.2]
def neOf (hp : Hq) (kk : List (Key × D)) : List (Key × D) := (kk.filter fun kv => decide (lenOf hp kv.2 ≠ 0)).map fun kv => (kv.1, .int (lenOf hp kv.2))
theorem dget_filter {f : Key × D → Bool} {k : Key} : ∀ {kvs : List (Key × D)}, (kvs.map (·.1)).Nodup → dget (kvs.filter f) k = (dget kvs k).bind fun v => if f (k, v) then some v else none
  | [], _ => rfl
  | (k', v') :: r, h => by
    have hn := List.nodup_cons.mp h
    have ih := dget_filter (f := f) (k := k) (kvs := r) hn.2
    show _ = (if k' = k then some v' else dget r k).bind _
    by_cases e : k' = k
    · subst e
      rw [if_pos rfl]
      by_cases z : f (k', v') = true
      · rw [List.filter_cons_of_pos z]
        show (if k' = k' then some v' else _) = if f (k', v') = true then some v' else none
        rw [if_pos rfl, if_pos z]
      · rw [List.filter_cons_of_neg z, ih, dget_none fun kv hk q => hn.1 (List.mem_map.mpr ⟨kv, hk, q⟩)]
        show none = if f (k', v') = true then some v' else none
        rw [if_neg z]
    · rw [if_neg e]
      by_cases z : f (k', v') = true
      · rw [List.filter_cons_of_pos z]
        show (if k' = k then some v' else _) = _
        rw [if_neg e, ih]
      · rw [List.filter_cons_of_neg z, ih]
theorem St.sizes (S : St hp pl fl od kd oo kk m) : ((oo.map fun kv => (kv.1, D.int (lenOf hp kv.2))).length = (neOf hp kk).length) ∧ ∀ p ∈ (oo.map fun kv => (kv.1, D.int (lenOf hp kv.2))), dget (neOf hp kk) p.1 = some p.2 ∧ flD p.2 = true := by
  have kf : Kys 6 (kk.filter fun kv => decide (lenOf hp kv.2 ≠ 0)) := ⟨(List.filter_sublist.map _).nodup S.kq.nd, fun kv hk => S.kq.lt kv ((List.mem_filter.mp hk).1)⟩
  have at_ : ∀ j : Nat, dget (kk.filter fun kv => decide (lenOf hp kv.2 ≠ 0)) (.inl (j : Int)) = none ∧ dget oo (.inl (j : Int)) = none ∨ ∃ d d', dget (kk.filter fun kv => decide (lenOf hp kv.2 ≠ 0)) (.inl (j : Int)) = some d ∧ dget oo (.inl (j : Int)) = some d' ∧ lenOf hp d = lenOf hp d' := fun j => by
    obtain ⟨xs, h1, h2, h3, h4, h5⟩ := S.rel j
    rw [dget_filter S.kq.nd]
    rcases h2 with ⟨a, rfl⟩ | ⟨q, a, b⟩
    · rw [a]
      rcases h1 with ⟨c, _⟩ | ⟨q, c, d⟩
      · rw [c]; exact .inl ⟨rfl, rfl⟩
      · rw [c]
        refine .inl ⟨?_, rfl⟩
        show (if decide (lenOf hp (.ref q) ≠ 0) = true then some (D.ref q) else none) = none
        rw [lenOf_at d.2]
        rfl
    · rw [a]
      rcases h1 with ⟨c, rfl⟩ | ⟨q', c, d⟩
      · rw [h3 rfl] at a; cases a
      · rw [c]
        refine .inr ⟨.ref q', .ref q, ?_, rfl, ?_⟩
        · show (if decide (lenOf hp (.ref q') ≠ 0) = true then some (D.ref q') else none) = _
          have hx : xs ≠ [] := fun z => by rw [h3 z] at a; cases a
          have : xs.length ≠ 0 := fun z => hx (List.length_eq_zero_iff.mp z)
          rw [lenOf_at d.2, if_pos (by simpa using this)]
        · rw [lenOf_at d.2, lenOf_at b.2]
  constructor
  · unfold neOf
    rw [List.length_map, List.length_map]
    have c1 : ∀ l : List (Key × D), l.length = (l.map fun kv => (fun (_ : Key) (_ : D) => 1) kv.1 kv.2).sum := fun l => by
      induction l with
      | nil => rfl
      | cons a r ih => rw [List.length_cons, List.map_cons, List.sum_cons, ih]; exact Nat.add_comm _ _
    rw [c1 oo, c1 (kk.filter _), sum_keys (w := fun _ _ => 1) S.ko, sum_keys (w := fun _ _ => 1) kf]
    refine wsum_congr 6 fun j _ => ?_
    rcases at_ j with ⟨a, b⟩ | ⟨d, d', a, b, _⟩
    · rw [a, b]
    · rw [a, b]
  · intro p hp'
    obtain ⟨kv, hkv, rfl⟩ := List.mem_map.mp hp'
    refine ⟨?_, rfl⟩
    obtain ⟨j, _, e⟩ := S.ko.lt kv hkv
    have e2 : dget oo (.inl (j : Int)) = some kv.2 := dget_of_mem S.ko.nd (by rw [← e]; exact hkv)
    unfold neOf
    show dget _ kv.1 = _
    rw [e, dget_map _ (fun kv => D.int (lenOf hp kv.2))]
    rcases at_ j with ⟨a, b⟩ | ⟨d, d', a, b, c⟩
    · rw [e2] at b; cases b
    · rw [a]
      rw [e2] at b
      injection b with b
      show some (D.int (lenOf hp d : Nat)) = some (D.int (lenOf hp kv.2 : Nat))
      rw [c, b]
end
end MI.T
set_option maxHeartbeats 4000000
local macro_rules | `(tactic| walk_at "mi") => `(tactic| simp (config := { decide := false }) (disch := (first | assumption | omega | (simp only [List.length_append, List.length_cons, List.length_nil, List.length_set]; omega))) only [*, MI.wSs, MI.wS, MI.wE, MI.wEs, MI.wEo, MI.wTg, MI.wTgs, MI.a_ok, MI.a_cd, MI.a_no, MI.ab_okB, MI.ab_cd, MI.ah_ok, MI.ah_cd, MI.o_add, MI.o_addt, MI.o_adds, MI.o_addl, MI.o_mull, MI.o_sub, MI.o_mul, MI.o_fdiv, MI.o_mod, MI.o_pow, MI.t_non, MI.t_bl, MI.t_int, MI.t_tup, MI.c_eqi, MI.c_eqs, MI.c_eqb, MI.c_nei, MI.c_nes, MI.c_eqt, MI.c_net, MI.c_eqr, MI.c_ner, MI.c_lt, MI.c_le, MI.c_gt, MI.c_ge, MI.c_is, MI.c_nis, MI.c_in, MI.c_nin, MI.v_ok, MI.v_cd, MI.x_tup, MI.x_kl, MI.x_refi, MI.x_refs, MI.s_refi, MI.s_refs, MI.f_ref, MI.sf_ref, MI.at_0, MI.at_1, MI.at_2, MI.ixN_0, MI.ixN_1, List.getElem?_cons_zero, List.getElem?_cons_succ, List.set_cons_zero, List.set_cons_succ, List.map_cons, List.map_nil, List.cons_append, List.nil_append, List.replicate, Option.getD_some, Option.getD_none, Bool.false_eq_true, if_true, if_false, List.length_cons, List.length_nil, List.getElem?_set_self', Option.map_eq_map, Option.map_some, Function.const_apply, List.set_set, decide_eq_true_eq, true_and, and_true, MI.isi_tt, MI.isi_ss, MI.isi_ii, MI.isi_ib, MI.len_t0, MI.len_t1, MI.len_t2, MI.len_k, MI.max_2, MI.min_2, MI.int_b, Bool.not_true, Bool.not_false, decide_true, decide_false])
namespace MI
open PySem L2
section
variable {hp h : Hq} {p q r : Nat} {o o' : O} {kvs : List (Key × D)} {j : Int} {d : D} {xs : List D}
theorem unfz (e : hp[p]? = some o) (k : Keep (fun _ => False) (hp.set p o') h) : Keep (fun _ => False) hp (h.set p o) := by
  have hl := k.len
  rw [List.length_set] at hl
  refine ⟨by rw [List.length_set]; exact hl, fun i hi _ => ?_⟩
  by_cases z : p = i
  · subst z
    rw [List.getElem?_set_self (by omega), e]
  · rw [set_other z, k.at_ i (by rw [List.length_set]; exact hi) (fun z => z), set_other z]
theorem ix_f (e : hp[p]? = some (.fdic kvs)) (hd : dget kvs (.inl j) = some d) : oIx (.ref p) (.int j) hp = .ok d hp := by
  have e2 : oAtK kvs (.int j) hp = .ok d hp := by
    show (match dget kvs (.inl j) with | some d => OutD.ok d hp | none => .no) = _
    rw [hd]
  rw [x_refi, e]
  exact e2
theorem ix_d (e : hp[p]? = some (.dic kvs)) (hd : dget kvs (.inl j) = some d) : oIx (.ref p) (.int j) hp = .ok d hp := by
  have e2 : oAtK kvs (.int j) hp = .ok d hp := by
    show (match dget kvs (.inl j) with | some d => OutD.ok d hp | none => .no) = _
    rw [hd]
  rw [x_refi, e]
  exact e2
theorem gtD_l (e : hp[p]? = some (.lst xs)) : gtD hp p = none := by unfold gtD; rw [e]
theorem eqG_l (e : hp[q]? = some (.lst xs)) : oEqG (.ref q) (.ref r) hp = oEqP (.ref q) (.ref r) hp := by
  show (match gtD hp q, gtD hp r with
    | some ks, some ls => oEqK ks ls
    | _, _ => oEqP (.ref q) (.ref r) hp) = _
  rw [gtD_l e]
theorem itd_seq (e : hp[p]? = some (.dic kvs)) : itSeq hp (.ref p) = some (⟨fun j _ => some ((kvs.map fun kv => keyD kv.1)[j]?), fun h => h.set p (.dic kvs)⟩, hp.set p (.fdic kvs)) := by
  show (match hp[p]? with
    | some (.lst _) => some (itLst p, hp)
    | some (.dic kvs) => some ((⟨fun j _ => some ((kvs.map fun (kv : Key × D) => keyD kv.1)[j]?), fun h => h.set p (.dic kvs)⟩ : Itr), hp.set p (.fdic kvs))
    | some (.fdic kvs) => some (itFix (kvs.map fun (kv : Key × D) => keyD kv.1), hp)
    | _ => none) = _
  rw [e]
end
end MI
namespace MI.T
open PySem L2 MI
section
variable {hp hp' : Hq} {pl fl od kd n m : Nat} {oo kk : List (Key × D)} {Q : QD} {E : QX} {xs : List D}
theorem eq_nil {q r : Nat} (e : hp[q]? = some (.lst xs)) (h : ∀ x ∈ xs, Itm hp pl x) (hx : xs.length ≤ 1000) (e2 : hp[r]? = some (.lst [])) (C : Bool → Prop) (k : C xs.isEmpty) : (oEqG (.ref q) (.ref r) hp).app C := by
  obtain ⟨as, a1, a2, a3, a4, a5⟩ := itms_p 35 xs h
  have t1 := lst_p e (a1 hp Fz.refl)
  have t2 : toP 40 hp (.ref r) = some (.list []) := lst_p e2 rfl
  have s1 := (ls_ok a2 a3 (by omega)).1
  have s2 : SeqAt.shaped (.list []) = true := by decide +kernel
  rw [eqG_l e]
  unfold oEqP
  rw [t1, t2]
  refine ⟨⟨s1, s2⟩, ?_⟩
  cases xs with
  | nil =>
    have : as = [] := List.length_eq_zero_iff.mp a5
    subst this
    simpa [PyData.eqv, PyData.eqvAll] using k
  | cons x r =>
    cases as with
    | nil => cases a5
    | cons a r' => simpa [PyData.eqv, PyData.eqvAll] using k
theorem St.at (S : St hp pl fl od kd oo kk m) {j : Nat} (hj : j < kk.length) : ∃ (i q : Nat) (xs : List D), kk[j] = (.inl (i : Int), .ref q) ∧ dget kk (.inl (i : Int)) = some (.ref q) ∧ LstAt hp pl q xs ∧ xs.length ≤ m ∧ ∀ x ∈ xs, Itm hp pl x := by
  obtain ⟨i, _, e⟩ := S.kq.lt kk[j] (List.getElem_mem hj)
  have e2 : dget kk (.inl (i : Int)) = some kk[j].2 := dget_of_mem S.kq.nd (by rw [← e]; exact List.getElem_mem hj)
  obtain ⟨xs, h1, h2, h3, h4, h5⟩ := S.rel i
  rcases h1 with ⟨z, _⟩ | ⟨q, z, hl⟩
  · rw [e2] at z; cases z
  · have e3 := e2
    rw [z] at e3
    injection e3 with e3
    exact ⟨i, q, xs, by rw [← e, e3], z, hl, h4, h5⟩
theorem comp1 {cl : Cl} {a b c d : Option D} (S : St hp pl fl od kd oo kk m) (hm : m ≤ 1000)
    (k : ∀ p hp', Keep (fun _ => False) hp hp' → hp'[p]? = some (.lst ((neOf hp kk).map fun kv => .tup [keyD kv.1, kv.2])) → Q (.ref p) hp') :
    wE g cl (.lc [2] (.nm 2) (.vl (.var 1)) (.so (.cmp .ne (.ix (.var 1) (.var 2)) (.lst .nil))) (.tup (.cons (.var 2) (.cons (.blt .len (.cons (.ix (.var 1) (.var 2)) .nil)) .nil)))) [some (.ref fl), some (.ref kd), a, b, c, d] hp Q E := by
  simp only [wE, wIt, List.getElem?_cons_zero, List.getElem?_cons_succ]
  rw [itd_seq S.k]
  show ∃ N, lcLoop _ _ N 0 [] (hp.set kd (.fdic kk)) _
  refine lc_run kk.length (fun j acc hp' => j ≤ kk.length ∧ Keep (fun _ => False) (hp.set kd (.fdic kk)) hp' ∧ acc = (neOf hp (kk.take j)).map fun kv => D.tup [keyD kv.1, kv.2]) (fun j acc hp' kn hj hI hk1 hk2 => ?_) (fun j acc hp' hI => ?_) (fun acc hp' hI => ?_) ⟨Nat.zero_le _, Keep.refl _ _, rfl⟩
  · obtain ⟨_, K, rfl⟩ := hI
    obtain ⟨i, q, xs, q1, q2, q3, q4, q5⟩ := S.at hj
    refine ⟨.int (i : Int), by simp [hj, q1, keyD], ?_⟩
    have kf : hp'[kd]? = some (.fdic kk) := K.get (set_same S.k) (fun z => z)
    have hne : kd ≠ q := fun z => by have := q3.2; rw [← z, S.k] at this; cases this
    have F : Fz pl hp (hp' ++ [O.lst []]) := ((Fz.setD S.k).trans (fz0 K)).trans Fz.app
    have q6 := q3.fz F
    have q7 : hp'[q]? = some (.lst xs) := K.get (by rw [set_other hne]; exact q3.2) (fun z => z)
    have x1 := ix_f (hp := hp') kf q2
    have x2 := ix_f (hp := hp' ++ [O.lst []]) (app_old kf) q2
    have x3 := len_r q6.2
    simp only [wTg, wipeE, wEs, wE, wEo, x1, a_ok, List.set_cons_zero, List.set_cons_succ, List.getElem?_cons_zero, List.getElem?_cons_succ, c_ner]
    have go := eq_nil (C := fun b => ((OutB.ok b).val true (hp' ++ [O.lst []])).app fun x hp => (oTru x hp).app fun b => if b = true then kn (some (.tup [.int (i : Int), .int (xs.length : Nat)])) (hp' ++ [O.lst []]) else kn none (hp' ++ [O.lst []])) q6.2 (fun x hx => (q5 x hx).fz F) (by omega) (r := hp'.length) (by simp) ?_
    · revert go
      generalize oEqG (.ref q) (.ref hp'.length) (hp' ++ [O.lst []]) = B
      intro go
      cases B with
      | no => exact go
      | ok b =>
        simp only [x2, x3, a_ok, a_cd, v_ok, v_cd, t_bl, ab_okB, ab_cd, if_true] at go ⊢
        exact go
      | cd C b =>
        simp only [x2, x3, a_ok, a_cd, v_ok, v_cd, t_bl, ab_okB, ab_cd, if_true] at go ⊢
        exact go
    · show (if (!xs.isEmpty) = true then _ else _)
      have hl : lenOf hp kk[j].2 = xs.length := by rw [q1]; exact lenOf_at q3.2
      cases xs with
      | nil =>
        refine hk1 _ ⟨hj, K.trans Keep.app, ?_⟩
        unfold neOf
        rw [take_one hj, List.filter_append, List.filter_cons_of_neg (by rw [hl]; decide)]
        simp
      | cons x r =>
        refine hk2 _ _ ⟨hj, K.trans Keep.app, ?_⟩
        unfold neOf
        rw [take_one hj, List.filter_append, List.filter_cons_of_pos (by rw [hl]; rfl)]
        simp [hl, q1, keyD]
        rw [lenOf_at q3.2]; rfl
  · obtain ⟨_, _, rfl⟩ := hI
    unfold neOf
    rw [List.length_map, List.length_map]
    have h1 := S.kq.len
    have h2 := List.length_filter_le (fun kv => decide (lenOf hp kv.2 ≠ 0)) (kk.take j)
    rw [List.length_take] at h2
    show _ < 16777216
    omega
  · obtain ⟨_, K, rfl⟩ := hI
    refine ⟨by simp, ?_⟩
    show Q (.ref (hp'.set kd (.dic kk)).length) (hp'.set kd (.dic kk) ++ [O.lst _])
    refine k _ _ ((unfz S.k K).trans Keep.app) ?_
    rw [List.take_length]
    simp
theorem comp2 {cl : Cl} {a b c d : Option D} (S : St hp pl fl od kd oo kk m)
    (k : ∀ p hp', Keep (fun _ => False) hp hp' → hp'[p]? = some (.lst (kk.map fun kv => .int (lenOf hp kv.2))) → Q (.ref p) hp') :
    wE g cl (.lc [2] (.nm 2) (.vl (.var 1)) .no (.blt .len (.cons (.ix (.var 1) (.var 2)) .nil))) [some (.ref fl), some (.ref kd), a, b, c, d] hp Q E := by
  simp only [wE, wIt, List.getElem?_cons_zero, List.getElem?_cons_succ]
  rw [itd_seq S.k]
  show ∃ N, lcLoop _ _ N 0 [] (hp.set kd (.fdic kk)) _
  refine lc_run kk.length (fun j acc hp' => j ≤ kk.length ∧ hp' = (hp.set kd (.fdic kk)) ∧ acc = (kk.take j).map fun kv => D.int (lenOf hp kv.2)) (fun j acc hp' kn hj hI hk1 hk2 => ?_) (fun j acc hp' hI => ?_) (fun acc hp' hI => ?_) ⟨Nat.zero_le _, rfl, rfl⟩
  · obtain ⟨_, rfl, rfl⟩ := hI
    obtain ⟨i, q, xs, q1, q2, q3, q4, q5⟩ := S.at hj
    refine ⟨.int (i : Int), by simp [hj, q1, keyD], ?_⟩
    have hne : kd ≠ q := fun z => by have := q3.2; rw [← z, S.k] at this; cases this
    have q7 : (hp.set kd (.fdic kk))[q]? = some (.lst xs) := by rw [set_other hne]; exact q3.2
    have x1 := ix_f (set_same (o' := .fdic kk) S.k) q2
    have x3 := len_r q7
    simp only [wTg, wipeE, wEs, wE, wEo, x1, x3, a_ok, List.set_cons_zero, List.set_cons_succ, List.getElem?_cons_zero, List.getElem?_cons_succ]
    refine hk2 _ _ ⟨hj, rfl, ?_⟩
    rw [take_one hj]
    simp [q1, lenOf_at q3.2]
  · obtain ⟨_, _, rfl⟩ := hI
    rw [List.length_map, List.length_take]
    have h1 := S.kq.len
    show _ < 16777216
    omega
  · obtain ⟨_, rfl, rfl⟩ := hI
    refine ⟨by simp, ?_⟩
    show Q (.ref ((hp.set kd (.fdic kk)).set kd (.dic kk)).length) ((hp.set kd (.fdic kk)).set kd (.dic kk) ++ [O.lst _])
    rw [List.set_set, set_id S.k, List.take_length]
    exact k _ _ Keep.app (by simp)
end
end MI.T
set_option maxHeartbeats 4000000
local macro_rules | `(tactic| walk_at "mi") => `(tactic| simp (config := { decide := false }) (disch := (first | assumption | omega | (simp only [List.length_append, List.length_cons, List.length_nil, List.length_set]; omega))) only [*, MI.wSs, MI.wS, MI.wE, MI.wEs, MI.wEo, MI.wTg, MI.wTgs, MI.a_ok, MI.a_cd, MI.a_no, MI.ab_okB, MI.ab_cd, MI.ah_ok, MI.ah_cd, MI.o_add, MI.o_addt, MI.o_adds, MI.o_addl, MI.o_mull, MI.o_sub, MI.o_mul, MI.o_fdiv, MI.o_mod, MI.o_pow, MI.t_non, MI.t_bl, MI.t_int, MI.t_tup, MI.c_eqi, MI.c_eqs, MI.c_eqb, MI.c_nei, MI.c_nes, MI.c_eqt, MI.c_net, MI.c_eqr, MI.c_ner, MI.c_lt, MI.c_le, MI.c_gt, MI.c_ge, MI.c_is, MI.c_nis, MI.c_in, MI.c_nin, MI.v_ok, MI.v_cd, MI.x_tup, MI.x_kl, MI.x_refi, MI.x_refs, MI.s_refi, MI.s_refs, MI.f_ref, MI.sf_ref, MI.at_0, MI.at_1, MI.at_2, MI.ixN_0, MI.ixN_1, List.getElem?_cons_zero, List.getElem?_cons_succ, List.set_cons_zero, List.set_cons_succ, List.map_cons, List.map_nil, List.cons_append, List.nil_append, List.replicate, Option.getD_some, Option.getD_none, Bool.false_eq_true, if_true, if_false, List.length_cons, List.length_nil, List.getElem?_set_self', Option.map_eq_map, Option.map_some, Function.const_apply, List.set_set, decide_eq_true_eq, true_and, and_true, MI.isi_tt, MI.isi_ss, MI.isi_ii, MI.isi_ib, MI.len_t0, MI.len_t1, MI.len_t2, MI.len_k, MI.max_2, MI.min_2, MI.int_b, Bool.not_true, Bool.not_false, decide_true, decide_false])
namespace MI
open PySem L2
theorem itRng_nx {n : Int} {m : Nat} {j : Nat} {hp : Hq} (e : n = (m : Int)) (hj : j < m) : (itRng 0 n).nx j hp = some (some (.int j)) := by
  show some (if (j : Int) < n - 0 then some (D.int (0 + j)) else none) = _
  rw [if_pos (by omega), Int.zero_add]
theorem itRng_end {n : Int} {m : Nat} {hp : Hq} (e : n = (m : Int)) : (itRng 0 n).nx m hp = some none := by
  show some (if (m : Int) < n - 0 then some (D.int (0 + m)) else none) = _
  rw [if_neg (by omega)]
theorem kOf_keyD (k : Key) : kOf (keyD k) = some k := by cases k <;> rfl
theorem prs_map : ∀ kvs : List (Key × D), prsOf (kvs.map fun kv => D.tup [keyD kv.1, kv.2]) = some kvs
  | [] => rfl
  | (k, v) :: r => by
    show (match kOf (keyD k), prsOf (r.map fun (kv : Key × D) => D.tup [keyD kv.1, kv.2]) with
      | some k, some kvs => some ((k, v) :: kvs)
      | _, _ => none) = _
    rw [kOf_keyD, prs_map r]
section
variable {hp : Hq} {p q : Nat} {xs : List D} {kvs ls : List (Key × D)}
theorem dict1_l (e : hp[p]? = some (.lst xs)) (h : prsOf xs = some kvs) (hn : (kvs.map (·.1)).Nodup) : oBF .dict1 [.ref p] hp = .ok (.ref hp.length) (hp ++ [O.dic kvs]) := by
  show (match gtL hp p with
    | some xs => match prsOf xs with
      | some kvs => oNew hp (.dic (kvs.foldl (fun (acc : List (Key × D)) (kv : Key × D) => dput acc kv.1 kv.2) []))
      | none => .no
    | none => match rdD hp p with
        | some kvs => oNew hp (.dic kvs)
        | none => .no) = _
  rw [gtL_of e]
  show (match prsOf xs with
      | some kvs => oNew hp (.dic (kvs.foldl (fun (acc : List (Key × D)) (kv : Key × D) => dput acc kv.1 kv.2) []))
      | none => .no) = _
  rw [h]
  show oNew hp (.dic (kvs.foldl (fun (acc : List (Key × D)) (kv : Key × D) => dput acc kv.1 kv.2) [])) = _
  rw [fold_put kvs [] (by simpa using hn)]
  rfl
theorem eqG_dd (e1 : hp[p]? = some (.dic kvs)) (e2 : hp[q]? = some (.dic ls)) : oEqG (.ref p) (.ref q) hp = oEqK kvs ls := by
  show (match gtD hp p, gtD hp q with
    | some ks, some ls => oEqK ks ls
    | _, _ => oEqP (.ref p) (.ref q) hp) = _
  rw [gtD_of e1, gtD_of e2]
theorem clr_k (e : hp[p]? = some (.dic kvs)) : bmK .clear (.ref p) hp = some .dic := by
  show (match hp[p]? with
    | some (.lst _) => some BK.lst
    | some (.dic _) => some .dic
    | _ => none) = _
  rw [e]
theorem clr_o (e : hp[p]? = some (.dic kvs)) : oBM .clear .dic (.ref p) [] hp = .ok .non (hp.set p (.dic [])) := by
  show (match gtD hp p with
    | some _ => OutD.ok .non (hp.set p (.dic []))
    | none => .no) = _
  rw [gtD_of e]
theorem ints_map {α : Type} (f : α → Nat) : ∀ l : List α, intsOf (l.map fun a => D.int (f a : Nat)) = some (l.map fun a => ((f a : Nat) : Int))
  | [] => rfl
  | a :: r => by
    show (match intsOf (r.map fun a => D.int (f a : Nat)) with | some ns => some ((f a : Int) :: ns) | none => none) = _
    rw [ints_map f r]; rfl
theorem sum_cast {α : Type} (f : α → Nat) : ∀ l : List α, (l.map fun a => ((f a : Nat) : Int)).sum = ((l.map f).sum : Nat)
  | [] => rfl
  | a :: r => by
    rw [List.map_cons, List.sum_cons, List.map_cons, List.sum_cons, sum_cast f r]; omega
theorem sum1_l {ns : List Int} (e : hp[p]? = some (.lst xs)) (h : intsOf xs = some ns) : oBF .sum1 [.ref p] hp = .ok (.int ns.sum) hp := by
  show (match (gtL hp p).bind intsOf with
    | some ns => OutD.ok (.int ns.sum) hp
    | none => .no) = _
  rw [gtL_of e]
  show (match intsOf xs with
    | some ns => OutD.ok (.int ns.sum) hp
    | none => .no) = _
  rw [h]
end
end MI
namespace MI.T
open PySem L2 MI
section
variable {hp hp' : Hq} {pl fl od kd n m : Nat} {oo kk : List (Key × D)} {Q : QD} {E : QX} {xs : List D}
theorem lenOf_keep (S : St hp pl fl od kd oo kk m) (h : Keep (fun _ => False) hp hp') : ∀ kv ∈ kk, lenOf hp' kv.2 = lenOf hp kv.2 := fun kv hk => by
  obtain ⟨q, xs, q1, q2, _⟩ := S.lk kv hk
  rw [q1, lenOf_at q2, lenOf_at (h.get q2 fun z => z)]
theorem neOf_keep (S : St hp pl fl od kd oo kk m) (h : Keep (fun _ => False) hp hp') : neOf hp' kk = neOf hp kk := by
  have e := lenOf_keep S h
  unfold neOf
  rw [List.filter_congr (q := fun kv => decide (lenOf hp kv.2 ≠ 0)) fun kv hk => by rw [e kv hk]]
  exact List.map_congr_left fun kv hk => by rw [e kv (List.mem_filter.mp hk).1]
theorem ne_nd (S : St hp pl fl od kd oo kk m) (h : Hq) : ((neOf h kk).map (·.1)).Nodup := by
  unfold neOf
  rw [List.map_map]
  exact (List.filter_sublist.map _).nodup S.kq.nd
abbrev bR1 : Sts := (.cons (.asg (.nm 5) (.meth (.var 0) 0 (.cons (.var 3) .nil))) (.cons (.ifs (.cmp .ne (.blt .repr (.cons (.var 5) .nil)) (.blt .repr (.cons (.bm .get2 (.var 1) (.cons (.var 3) (.cons (.lst .nil) .nil))) .nil))) (.cons (.ret (.so (.lit (.bl false)))) .nil) .nil) (.cons (.expr (.bm .append (.var 5) (.cons (.lit (.str "zz")) .nil))) .nil)))
theorem turn_run {a c d : Option D} {j : Nat} {K : KS} (S : St hp pl fl od kd oo kk m) (hm : m ≤ 1000)
    (k : ∀ hp' x, Keep (fun _ => False) hp hp' → K.nx [some (.ref fl), some (.ref kd), a, some (.int (j : Int)), c, x] hp') :
    wSs g (wCall g (n + 1)) bR1 [some (.ref fl), some (.ref kd), a, some (.int (j : Int)), c, d] hp K := by
  obtain ⟨xs, h1, h2, h3, h4, h5⟩ := S.rel j
  have e1 : gtI hp fl = some (0, [(0, .ref od)]) := gtI_of S.fi
  have e2 : g.meth 0 0 = some 2 := rfl
  simp only [bR1, wSs, wS, wE, wEs, e1, e2, List.getElem?_cons_zero, List.getElem?_cons_succ]
  refine read_run S.fi S.o h2 ?_
  obtain ⟨as, a1, a2, a3, a4, a5⟩ := itms_p 35 xs h5
  have rk := ls_ok a2 a3 (by omega)
  have k1 : Keep (fun _ => False) hp (hp ++ [O.lst []] ++ [O.lst xs]) := Keep.app.trans Keep.app
  have f1 : (hp ++ [O.lst []] ++ [O.lst xs])[hp.length + 1]? = some (.lst xs) := by
    rw [List.getElem?_append_right (by simp)]; simp
  generalize hH : hp ++ [O.lst []] ++ [O.lst xs] = h1' at k1 f1 ⊢
  have hL : h1'.length = hp.length + 2 := by rw [← hH]; simp
  clear hH
  have r1 := repr_at (lst_p f1 (a1 _ (fz0 k1)))
  have kd1 := k1.get S.k (fun z => z)
  have e3 := g2_k kd1
  have e4 := g2_o (j := (j : Int)) (y := .ref h1'.length) (app_old (l := [O.lst []]) kd1)
  simp only [wTg, wE, wEs, r1, e3, e4, a_ok, a_cd, List.set_cons_zero, List.set_cons_succ, List.getElem?_cons_zero, List.getElem?_cons_succ]
  refine ⟨rk, ?_⟩
  have k2 : Keep (fun _ => False) hp (h1' ++ [O.lst []]) := k1.trans Keep.app
  have c2 : ∃ q, (dget kk (.inl (j : Int))).getD (.ref h1'.length) = .ref q ∧ (h1' ++ [O.lst []])[q]? = some (.lst xs) := by
    rcases h1 with ⟨z, rfl⟩ | ⟨q, z, hl⟩
    · exact ⟨h1'.length, by rw [z]; rfl, by simp⟩
    · exact ⟨q, by rw [z]; rfl, k2.get hl.2 (fun z => z)⟩
  obtain ⟨q, c3, c4⟩ := c2
  have r2 := repr_at (lst_p c4 (a1 _ (fz0 k2)))
  have f2 : (h1' ++ [O.lst []])[hp.length + 1]? = some (.lst xs) := app_old f1
  have e5 := app_k f2
  have e6 := app_l (d := .str "zz") f2
  rw [c3, r2, a_cd]
  refine ⟨rk, ?_⟩
  simp only [c_nes, a_ok, t_bl, ab_okB, decide_true, Bool.not_true, Bool.false_eq_true, if_false, wSs, wS, wE, wEs, e5, e6, a_cd, List.getElem?_cons_zero, List.getElem?_cons_succ]
  refine ⟨by show xs.length < 16777216; omega, k _ _ ?_⟩
  refine ⟨by rw [List.length_set]; exact k2.len, fun i hi _ => ?_⟩
  rw [set_other (by omega), k2.at_ i hi (fun z => z)]
abbrev R1 : MI.St := .ifs (.cmp .ne (.meth (.var 0) 1 .nil) (.blt .dict1 (.cons (.lc [2] (.nm 2) (.vl (.var 1)) (.so (.cmp .ne (.ix (.var 1) (.var 2)) (.lst .nil))) (.tup (.cons (.var 2) (.cons (.blt .len (.cons (.ix (.var 1) (.var 2)) .nil)) .nil)))) .nil))) (.cons (.ret (.so (.lit (.bl false)))) .nil) .nil
abbrev R2 : MI.St := .expr (.bm .clear (.meth (.var 0) 1 .nil) .nil)
abbrev R3 : MI.St := .for_ (.nm 3) (.rng1 (.lit (.int 7))) (.cons (.for_ (.nm 4) (.rng1 (.lit (.int 2))) bR1) .nil)
abbrev R4 : MI.St := .ret (.so (.cmp .eq (.lenD (.var 0) 2) (.blt .sum1 (.cons (.lc [2] (.nm 2) (.vl (.var 1)) .no (.blt .len (.cons (.ix (.var 1) (.var 2)) .nil))) .nil))))
theorem bR_eq : b__law_right = .cons R1 (.cons R2 (.cons R3 (.cons R4 .nil))) := rfl
variable {a b c d : Option D} {K : KS}
theorem r1_run (S : St hp pl fl od kd oo kk m) (hm : m ≤ 1000) (k : ∀ hp', Keep (fun _ => False) hp hp' → K.nx [some (.ref fl), some (.ref kd), a, b, c, d] hp') :
    wS g (wCall g (n + 1)) R1 [some (.ref fl), some (.ref kd), a, b, c, d] hp K := by
  have e1 : gtI hp fl = some (0, [(0, .ref od)]) := gtI_of S.fi
  have e2 : g.meth 0 1 = some 4 := rfl
  unfold R1
  unfold wS
  unfold wE
  unfold wE
  simp only [wE.eq_1, wEs.eq_1, e1, e2, List.getElem?_cons_zero, List.getElem?_cons_succ]
  refine sizes_run S.fi S.o S.ko S.lo ?_
  generalize hZ : (oo.map fun kv => (kv.1, D.int (lenOf hp kv.2))) = sz
  have k1 : Keep (fun _ => False) hp (hp ++ [O.dic sz]) := Keep.app
  have z1 : (hp ++ [O.dic sz])[hp.length]? = some (.dic sz) := by simp
  generalize hp ++ [O.dic sz] = hp1 at k1 z1 ⊢
  have S1 := S.keep k1
  unfold wE wEs
  refine comp1 S1 hm fun p hp2 k2 hp2e => ?_
  simp only [wEs]
  rw [neOf_keep S k1] at hp2e
  rw [dict1_l hp2e (prs_map _) (ne_nd S _), a_ok, c_ner, eqG_dd (ls := neOf hp kk) (app_old (k2.get z1 fun z => z)) (by simp)]
  have := S.sizes
  rw [hZ] at this
  refine ⟨this, ?_⟩
  simp only [t_bl, ab_okB, if_true, Bool.not_true, Bool.false_eq_true, if_false, wSs]
  exact k _ ((k1.trans k2).trans Keep.app)
theorem r2_run (S : St hp pl fl od kd oo kk m) (hm : m ≤ 1000) (k : ∀ hp', Keep (fun _ => False) hp hp' → K.nx [some (.ref fl), some (.ref kd), a, b, c, d] hp') :
    wS g (wCall g (n + 1)) R2 [some (.ref fl), some (.ref kd), a, b, c, d] hp K := by
  have e1 : gtI hp fl = some (0, [(0, .ref od)]) := gtI_of S.fi
  have e2 : g.meth 0 1 = some 4 := rfl
  simp only [R2, wS, wE, wEs, e1, e2, List.getElem?_cons_zero, List.getElem?_cons_succ]
  refine sizes_run S.fi S.o S.ko S.lo ?_
  generalize (oo.map fun kv => (kv.1, D.int (lenOf hp kv.2))) = sz
  have z1 : (hp ++ [O.dic sz])[hp.length]? = some (.dic sz) := by simp
  rw [clr_k z1]
  show (oBM .clear .dic (.ref hp.length) [] (hp ++ [O.dic sz])).app _
  rw [clr_o z1, a_ok]
  refine k _ ⟨by simp, fun i hi _ => ?_⟩
  rw [set_other (by omega), List.getElem?_append_left hi]
theorem r3_run (S : St hp pl fl od kd oo kk m) (hm : m ≤ 1000) (k : ∀ hp' a b c d, Keep (fun _ => False) hp hp' → K.nx [some (.ref fl), some (.ref kd), a, b, c, d] hp') :
    wS g (wCall g (n + 1)) R3 [some (.ref fl), some (.ref kd), a, b, c, d] hp K := by
  unfold R3
  generalize hB : bR1 = B
  simp only [wS, wIt, wE]
  refine ⟨⟨by decide, by decide⟩, ?_⟩
  refine for_run 7 (fun j env hp' => Keep (fun _ => False) hp hp' ∧ ∃ a b c d, env = [some (.ref fl), some (.ref kd), a, b, c, d]) (fun j env hp' kn hj hI hk => ?_) (fun env hp' hI => ?_) ⟨Keep.refl _ _, _, _, _, _, rfl⟩
  · obtain ⟨K1, a, b, c, d, rfl⟩ := hI
    refine ⟨_, itRng_nx rfl hj, ?_⟩
    simp only [wTg, wSs, wS, wIt, wE, List.set_cons_zero, List.set_cons_succ]
    refine ⟨⟨by decide, by decide⟩, ?_⟩
    refine for_run 2 (fun j2 env hp' => Keep (fun _ => False) hp hp' ∧ ∃ a c d, env = [some (.ref fl), some (.ref kd), a, some (.int (j : Int)), c, d]) (fun j2 env hp' kn2 hj2 hI hk2 => ?_) (fun env hp' hI => ?_) ⟨K1, _, _, _, rfl⟩
    · obtain ⟨K1, a, c, d, rfl⟩ := hI
      refine ⟨_, itRng_nx rfl hj2, ?_⟩
      simp only [wTg, List.set_cons_zero, List.set_cons_succ]
      rw [← hB]
      exact turn_run (S.keep K1) hm fun hp3 x k3 => hk2 _ _ ⟨K1.trans k3, _, _, _, rfl⟩
    · obtain ⟨K1, a, c, d, rfl⟩ := hI
      refine ⟨itRng_end rfl, ?_⟩
      exact hk _ _ ⟨K1, _, _, _, _, rfl⟩
  · obtain ⟨K1, a, b, c, d, rfl⟩ := hI
    exact ⟨itRng_end rfl, k _ _ _ _ _ K1⟩
theorem lenD_run {cl : Cl} {env : Env} {i : Nat} {fs : List (Nat × D)} {v : Nat} (h : env[v]? = some (some (.ref i))) (e : gtI hp i = some (0, fs)) (k : cl 5 [.ref i] hp (fun v hp => match v with
          | .int n => (0 ≤ n ∧ n < 2 ^ 62) ∧ Q (.int n) hp
          | _ => False) fun _ _ _ => False) : wE g cl (.lenD (.var v) 2) env hp Q E := by
  unfold wE
  unfold wE
  simp only [h, e]
  exact k
theorem ld_sum {kvs : List (Key × D)} (hk : Kys 6 kvs) (hl : LD hp m kvs) (hm : m ≤ 1000) : (kvs.map fun kv => lenOf hp kv.2).sum ≤ 6000 := by
  have h1 := sum_bd (fun kv : Key × D => lenOf hp kv.2) 1000 kvs (fun kv hkv => by
      obtain ⟨q, xs, q1, q2, q3⟩ := hl kv hkv
      show lenOf hp kv.2 ≤ 1000
      rw [q1, lenOf_at q2]; omega)
  have h2 := hk.len
  have : kvs.length * 1000 ≤ 6 * 1000 := Nat.mul_le_mul_right _ h2
  omega
theorem r4_run (S : St hp pl fl od kd oo kk m) (hm : m ≤ 1000) (k : ∀ hp', Keep (fun _ => False) hp hp' → K.rt (.bl true) hp') :
    wS g (wCall g (n + 1)) R4 [some (.ref fl), some (.ref kd), a, b, c, d] hp K := by
  unfold R4
  unfold wS wEo
  unfold wE
  refine lenD_run rfl (gtI_of S.fi) ?_
  refine dlen_run S.fi S.o S.ko S.lo hm fun hp1 k1 => ?_
  have bd := ld_sum S.ko S.lo hm
  refine ⟨⟨by omega, by omega⟩, ?_⟩
  unfold wE wEs
  have S1 := S.keep k1
  refine comp2 S1 fun p hp2 k2 e2 => ?_
  simp only [wEs]
  rw [sum1_l e2 (ints_map (fun kv : Key × D => lenOf hp1 kv.2) kk), a_ok, sum_cast, c_eqi, a_ok]
  have e3 : (kk.map fun kv => lenOf hp1 kv.2).sum = (oo.map fun kv => lenOf hp kv.2).sum := by
    rw [S.sums]
    exact congrArg _ (List.map_congr_left fun kv hk => lenOf_keep S k1 kv hk)
  rw [e3, decide_eq_true rfl]
  exact k _ (k1.trans k2)
theorem right_run (S : St hp pl fl od kd oo kk m) (hm : m ≤ 1000) (k : ∀ hp', Keep (fun _ => False) hp hp' → Q (.bl true) hp') : wCall g (n + 2) 10 [.ref fl, .ref kd] hp Q E := by
  rw [call__law_right]
  refine ⟨rfl, ?_⟩
  rw [bR_eq]
  generalize h1 : R1 = q1
  generalize h2 : R2 = q2
  generalize h3 : R3 = q3
  generalize h4 : R4 = q4
  simp only [wSs, List.map_cons, List.map_nil, List.cons_append, List.nil_append, List.replicate]
  rw [← h1]
  refine r1_run S hm fun hp1 k1 => ?_
  show wS _ _ _ _ _ _
  rw [← h2]
  refine r2_run (S.keep k1) hm fun hp2 k2 => ?_
  show wS _ _ _ _ _ _
  rw [← h3]
  refine r3_run (S.keep (k1.trans k2)) hm fun hp3 _ _ _ _ k3 => ?_
  show wS _ _ _ _ _ _
  rw [← h4]
  exact r4_run (S.keep ((k1.trans k2).trans k3)) hm fun hp4 k4 => k _ (((k1.trans k2).trans k3).trans k4)
end
end MI.T
set_option maxHeartbeats 4000000
local macro_rules | `(tactic| walk_at "mi") => `(tactic| simp (config := { decide := false }) (disch := (first | assumption | omega | (simp only [List.length_append, List.length_cons, List.length_nil, List.length_set]; omega))) only [*, MI.wSs, MI.wS, MI.wE, MI.wEs, MI.wEo, MI.wTg, MI.wTgs, MI.a_ok, MI.a_cd, MI.a_no, MI.ab_okB, MI.ab_cd, MI.ah_ok, MI.ah_cd, MI.o_add, MI.o_addt, MI.o_adds, MI.o_addl, MI.o_mull, MI.o_sub, MI.o_mul, MI.o_fdiv, MI.o_mod, MI.o_pow, MI.t_non, MI.t_bl, MI.t_int, MI.t_tup, MI.c_eqi, MI.c_eqs, MI.c_eqb, MI.c_nei, MI.c_nes, MI.c_eqt, MI.c_net, MI.c_eqr, MI.c_ner, MI.c_lt, MI.c_le, MI.c_gt, MI.c_ge, MI.c_is, MI.c_nis, MI.c_in, MI.c_nin, MI.v_ok, MI.v_cd, MI.x_tup, MI.x_kl, MI.x_refi, MI.x_refs, MI.s_refi, MI.s_refs, MI.f_ref, MI.sf_ref, MI.at_0, MI.at_1, MI.at_2, MI.ixN_0, MI.ixN_1, List.getElem?_cons_zero, List.getElem?_cons_succ, List.set_cons_zero, List.set_cons_succ, List.map_cons, List.map_nil, List.cons_append, List.nil_append, List.replicate, Option.getD_some, Option.getD_none, Bool.false_eq_true, if_true, if_false, List.length_cons, List.length_nil, List.getElem?_set_self', Option.map_eq_map, Option.map_some, Function.const_apply, List.set_set, decide_eq_true_eq, true_and, and_true, MI.isi_tt, MI.isi_ss, MI.isi_ii, MI.isi_ib, MI.len_t0, MI.len_t1, MI.len_t2, MI.len_k, MI.max_2, MI.min_2, MI.int_b, Bool.not_true, Bool.not_false, decide_true, decide_false])
namespace MI.T
open PySem L2 MI
structure TI (hp : Hq) (pl fl ol kd od ed : Nat) (oo kk : List (Key × D)) (m : Nat) : Prop where
  p : PoolAt hp pl
  s : St hp pl fl od kd oo kk m
  fo : hp[ol]? = some (.ins 0 [(0, .ref ed)])
  eo : hp[ed]? = some (.dic [])
  d1 : kd ≠ od
  d2 : ed ≠ kd
  d3 : ed ≠ od
theorem hf_take : g.fns[8]? = some ⟨2, 3, bTake⟩ := rfl
theorem hf_pool : g.fns[7]? = some ⟨2, 4, bPool 6⟩ := rfl
theorem hf_cell : g.fns[6]? = some ⟨2, 2, bCell⟩ := rfl
section
variable {hp hp' : Hq} {pl fl ol kd od ed n m : Nat} {oo kk : List (Key × D)} {Q : QD} {E : QX} {xs : List D}
theorem kpool {P : Nat → Prop} {a b : Hq} (h : Keep P a b) {i : Nat} (hn : ¬ P i) (p : PoolAt a i) : PoolAt b i := by
  obtain ⟨c, s, e, z⟩ := p
  exact ⟨c, s, h.get e hn, z⟩
theorem pool_lt (p : PoolAt hp pl) : pl < hp.length := by
  obtain ⟨c, s, e, _⟩ := p
  exact lt_of e
theorem npl {o : O} {i : Nat} (p : PoolAt hp pl) (h : hp[i]? = some o) (ho : ∀ xs, o ≠ .lst xs) : ¬ i = pl := fun z => by
  obtain ⟨c, s, e, _⟩ := p
  rw [z, e] at h
  injection h with h
  exact ho _ h.symm
theorem TI.keep (T : TI hp pl fl ol kd od ed oo kk m) (h : Keep (fun _ => False) hp hp') : TI hp' pl fl ol kd od ed oo kk m :=
  ⟨kpool h (fun z => z) T.p, T.s.keep h, h.get T.fo (fun z => z), h.get T.eo (fun z => z), T.d1, T.d2, T.d3⟩
theorem fzp (h : Keep (· = pl) hp hp') : Fz pl hp hp' := Fz.keep h fun _ _ a b _ => b a
theorem TI.pool (T : TI hp pl fl ol kd od ed oo kk m) (h : Keep (· = pl) hp hp') (p : PoolAt hp' pl) : TI hp' pl fl ol kd od ed oo kk m :=
  ⟨p, ⟨h.get T.s.fi (npl T.p T.s.fi fun _ => nofun), h.get T.s.o (npl T.p T.s.o fun _ => nofun), h.get T.s.k (npl T.p T.s.k fun _ => nofun), T.s.ko, T.s.kq, fun j => by
    obtain ⟨xs, h1, h2, h3, h4, h5⟩ := T.s.rel j
    exact ⟨xs, h1.fz (fzp h), h2.fz (fzp h), h3, h4, fun x hx => (h5 x hx).fz (fzp h)⟩⟩,
    h.get T.fo (npl T.p T.fo fun _ => nofun), h.get T.eo (npl T.p T.eo fun _ => nofun), T.d1, T.d2, T.d3⟩
theorem matter_run (p : PoolAt hp pl) (k : ∀ d hp', Keep (· = pl) hp hp' → PoolAt hp' pl → Mat hp' pl d → Q d hp') : wCall g (n + 2) 9 [.ref pl] hp Q E := by
  rw [call__law_matter]
  refine ⟨rfl, ?_⟩
  unfold b__law_matter
  simp only [wSs, wS, wE, wEs, wEo, List.map_cons, List.map_nil, List.cons_append, List.nil_append, List.replicate, List.getElem?_cons_zero, List.getElem?_cons_succ]
  have k0 : Keep (fun _ => False) hp (hp ++ [O.lst [.int 1, .str "y"]]) := Keep.app
  have q0 : (hp ++ [O.lst [.int 1, .str "y"]])[hp.length]? = some (.lst [.int 1, .str "y"]) := by simp
  have k1 : Keep (fun _ => False) hp (hp ++ [O.lst [.int 1, .str "y"]] ++ [O.lst [.int 0, .str "x", .tup [.str "put", .int 1, .tup [.int 2, .int 3]], .non, .tup [.int 1], .ref hp.length, .int (-7), .str "word"]]) := Keep.app.trans Keep.app
  have l1 := pool_lt p
  refine take_run hf_take (i := pl) (m := 8) (kpool k1 (fun z => z) p) (by decide) (by decide) fun r hp1 r0 r8 kp lp p1 => ?_
  have q1 : hp1[(hp ++ [O.lst [.int 1, .str "y"]]).length]? = some (.lst [.int 0, .str "x", .tup [.str "put", .int 1, .tup [.int 2, .int 3]], .non, .tup [.int 1], .ref hp.length, .int (-7), .str "word"]) := kp.get (by simp) (by
    show ¬ _ = _
    rw [List.length_append]; omega)
  have q2 : hp1[hp.length]? = some (.lst [.int 1, .str "y"]) := kp.get (app_old q0) (by show ¬ _ = _; omega)
  have kk1 : Keep (· = pl) hp hp1 := (k1.mono fun _ _ z => z.elim).trans kp
  have fin : ∀ d, Mat hp1 pl d → Q d hp1 := fun d hd => k d hp1 kk1 p1 hd
  clear k
  rw [x_refi, q1]
  have : r = ((0 : Nat) : Int) ∨ r = ((1 : Nat) : Int) ∨ r = ((2 : Nat) : Int) ∨ r = ((3 : Nat) : Int) ∨ r = ((4 : Nat) : Int) ∨ r = ((5 : Nat) : Int) ∨ r = ((6 : Nat) : Int) ∨ r = ((7 : Nat) : Int) := by omega
  rcases this with rfl | rfl | rfl | rfl | rfl | rfl | rfl | rfl
  · exact fin _ (.inl rfl)
  · exact fin _ (.inr (.inl rfl))
  · exact fin _ (.inr (.inr (.inl rfl)))
  · exact fin _ (.inr (.inr (.inr (.inl rfl))))
  · exact fin _ (.inr (.inr (.inr (.inr (.inl rfl)))))
  · exact fin _ (.inr (.inr (.inr (.inr (.inr (.inl ⟨_, rfl, by omega, q2⟩))))))
  · exact fin _ (.inr (.inr (.inr (.inr (.inr (.inr (.inl rfl)))))))
  · exact fin _ (.inr (.inr (.inr (.inr (.inr (.inr (.inr rfl)))))))
variable {e0 e1 e6 e8 e9 : Option D} {j : Nat} {K : KS}
abbrev bA : Sts := (.cons (.expr (.meth (.var 3) 3 (.cons (.var 7) .nil))) (.cons (.expr (.bm .pop2 (.var 5) (.cons (.var 7) (.cons (.lit .non) .nil)))) .nil))
theorem inl_ne {i j : Nat} (h : j ≠ i) : ¬ (Sum.inl (j : Int) : Key) = .inl (i : Int) := fun z => h (by injection z with z; omega)
theorem drop_St (T : TI hp pl fl ol kd od ed oo kk m) : TI ((hp.set od (.dic (ddrop oo (.inl (j : Int))))).set kd (.dic (ddrop kk (.inl (j : Int))))) pl fl ol kd od ed (ddrop oo (.inl (j : Int))) (ddrop kk (.inl (j : Int))) m := by
  have S := T.s
  have h1 : (hp.set od (.dic (ddrop oo (.inl (j : Int)))))[kd]? = some (.dic kk) := by rw [set_other T.d1.symm]; exact S.k
  have K2 : Keep (fun i => i = od ∨ i = kd) hp ((hp.set od (.dic (ddrop oo (.inl (j : Int))))).set kd (.dic (ddrop kk (.inl (j : Int))))) := (Keep.set (.inl rfl)).trans (Keep.set (.inr rfl))
  have F : Fz pl hp ((hp.set od (.dic (ddrop oo (.inl (j : Int))))).set kd (.dic (ddrop kk (.inl (j : Int))))) := (Fz.setD S.o).trans (Fz.setD h1)
  have nod : ∀ {i : Nat} {o : O}, hp[i]? = some o → (∀ kvs, o ≠ .dic kvs) → ¬ (i = od ∨ i = kd) := fun h ho z => by
    rcases z with z | z
    · rw [z, S.o] at h; injection h with h; exact ho _ h.symm
    · rw [z, S.k] at h; injection h with h; exact ho _ h.symm
  refine ⟨?_, ⟨K2.get S.fi (nod S.fi fun _ => nofun), ?_, set_same h1, S.ko.drop _, S.kq.drop _, fun i => ?_⟩, K2.get T.fo (nod T.fo fun _ => nofun), K2.get T.eo (fun z => z.elim T.d3 T.d2), T.d1, T.d2, T.d3⟩
  · obtain ⟨c, s, e, z⟩ := T.p
    exact ⟨c, s, K2.get e (nod e fun _ => nofun), z⟩
  · rw [set_other T.d1]; exact set_same S.o
  · obtain ⟨xs, h1, h2, h3, h4, h5⟩ := S.rel i
    by_cases e : j = i
    · subst e
      refine ⟨[], .inl ⟨?_, rfl⟩, .inl ⟨?_, rfl⟩, fun _ => ?_, Nat.zero_le _, nofun⟩ <;> rw [dget_ddrop, if_pos rfl]
    · have ek : dget (ddrop kk (.inl (j : Int))) (.inl (i : Int)) = dget kk (.inl (i : Int)) := by rw [dget_ddrop, if_neg (inl_ne e)]
      have eo : dget (ddrop oo (.inl (j : Int))) (.inl (i : Int)) = dget oo (.inl (i : Int)) := by rw [dget_ddrop, if_neg (inl_ne e)]
      have h1 := h1.fz F
      have h2 := h2.fz F
      unfold Cont at h1 h2 ⊢
      rw [← ek] at h1
      rw [← eo] at h2 h3
      exact ⟨xs, h1, h2, h3, h4, fun x hx => (h5 x hx).fz F⟩
theorem a_run (T : TI hp pl fl ol kd od ed oo kk m) (k : ∀ hp' oo' kk', TI hp' pl fl ol kd od ed oo' kk' m → K.nx [e0, e1, some (.ref pl), some (.ref fl), some (.ref ol), some (.ref kd), e6, some (.int (j : Int)), e8, e9] hp') :
    wSs g (wCall g (n + 2)) bA [e0, e1, some (.ref pl), some (.ref fl), some (.ref ol), some (.ref kd), e6, some (.int (j : Int)), e8, e9] hp K := by
  have e1 : gtI hp fl = some (0, [(0, .ref od)]) := gtI_of T.s.fi
  have e2 : g.meth 0 3 = some 3 := rfl
  simp only [bA, wSs, wS, wE, wEs, e1, e2, List.getElem?_cons_zero, List.getElem?_cons_succ]
  refine drop_run T.s.fi T.s.o ?_
  have h1 : (hp.set od (.dic (ddrop oo (.inl (j : Int)))))[kd]? = some (.dic kk) := by rw [set_other T.d1.symm]; exact T.s.k
  simp only [p2_k h1, wE, wEs, List.getElem?_cons_zero, List.getElem?_cons_succ]
  rw [p2_o h1, a_ok]
  exact k _ _ _ (drop_St T)
end
end MI.T
set_option maxHeartbeats 4000000
local macro_rules | `(tactic| walk_at "mi") => `(tactic| simp (config := { decide := false }) (disch := (first | assumption | omega | (simp only [List.length_append, List.length_cons, List.length_nil, List.length_set]; omega))) only [*, MI.wSs, MI.wS, MI.wE, MI.wEs, MI.wEo, MI.wTg, MI.wTgs, MI.a_ok, MI.a_cd, MI.a_no, MI.ab_okB, MI.ab_cd, MI.ah_ok, MI.ah_cd, MI.o_add, MI.o_addt, MI.o_adds, MI.o_addl, MI.o_mull, MI.o_sub, MI.o_mul, MI.o_fdiv, MI.o_mod, MI.o_pow, MI.t_non, MI.t_bl, MI.t_int, MI.t_tup, MI.c_eqi, MI.c_eqs, MI.c_eqb, MI.c_nei, MI.c_nes, MI.c_eqt, MI.c_net, MI.c_eqr, MI.c_ner, MI.c_lt, MI.c_le, MI.c_gt, MI.c_ge, MI.c_is, MI.c_nis, MI.c_in, MI.c_nin, MI.v_ok, MI.v_cd, MI.x_tup, MI.x_kl, MI.x_refi, MI.x_refs, MI.s_refi, MI.s_refs, MI.f_ref, MI.sf_ref, MI.at_0, MI.at_1, MI.at_2, MI.ixN_0, MI.ixN_1, List.getElem?_cons_zero, List.getElem?_cons_succ, List.set_cons_zero, List.set_cons_succ, List.map_cons, List.map_nil, List.cons_append, List.nil_append, List.replicate, Option.getD_some, Option.getD_none, Bool.false_eq_true, if_true, if_false, List.length_cons, List.length_nil, List.getElem?_set_self', Option.map_eq_map, Option.map_some, Function.const_apply, List.set_set, decide_eq_true_eq, true_and, and_true, MI.isi_tt, MI.isi_ss, MI.isi_ii, MI.isi_ib, MI.len_t0, MI.len_t1, MI.len_t2, MI.len_k, MI.max_2, MI.min_2, MI.int_b, Bool.not_true, Bool.not_false, decide_true, decide_false])
namespace MI.T
open PySem L2 MI
section
variable {hp hp' : Hq} {pl fl ol kd od ed n m : Nat} {oo kk : List (Key × D)} {Q : QD} {E : QX} {xs ts : List D}
variable {e0 e1 e6 e8 e9 : Option D} {j p : Nat} {K : KS}
abbrev B1 : MI.St := .asg (.nm 8) (.lc [9] (.nm 9) (.rng1 (.call 8 (.cons (.var 2) (.cons (.lit (.int 6)) .nil)))) .no (.tup (.cons (.call 8 (.cons (.var 2) (.cons (.lit (.int 99)) .nil))) (.cons (.call 9 (.cons (.var 2) .nil)) .nil))))
abbrev B2 : MI.St := .asg (.sb (.var 5) (.var 7)) (.bin .add (.bm .get2 (.var 5) (.cons (.var 7) (.cons (.lst .nil) .nil))) (.blt .list1 (.cons (.var 8) .nil)))
abbrev B3 : MI.St := .ifs (.cmp .eq (.bin .mod (.var 6) (.lit (.int 2))) (.lit (.int 0))) (.cons (.expr (.meth (.var 3) 4 (.cons (.var 7) (.cons (.var 8) .nil)))) .nil) (.cons (.expr (.methK (.var 3) 4 (.cons (.var 8) (.cons (.var 7) .nil)) [.inl 1, .inl 0])) .nil)
abbrev B4 : MI.St := .expr (.bm .append (.var 8) (.cons (.lit .non) .nil))
abbrev bB : Sts := .cons B1 (.cons B2 (.cons B3 (.cons B4 .nil)))
theorem b1_run (T : TI hp pl fl ol kd od ed oo kk m) (k : ∀ hp' ts, TI hp' pl fl ol kd od ed oo kk m → ts.length ≤ 5 → (∀ x ∈ ts, Itm hp' pl x) → K.nx [e0, e1, some (.ref pl), some (.ref fl), some (.ref ol), some (.ref kd), e6, some (.int (j : Int)), some (.ref hp'.length), e9] (hp' ++ [O.lst ts])) :
    wS g (wCall g (n + 2)) B1 [e0, e1, some (.ref pl), some (.ref fl), some (.ref ol), some (.ref kd), e6, some (.int (j : Int)), e8, e9] hp K := by
  unfold B1
  simp only [wS, wE, wEs, wEo, wIt, List.getElem?_cons_zero, List.getElem?_cons_succ]
  refine take_run hf_take T.p (by decide) (by decide) fun r hp1 r0 r6 kp lp p1 => ?_
  obtain ⟨R, rfl⟩ : ∃ R : Nat, r = (R : Int) := ⟨r.toNat, by omega⟩
  refine ⟨⟨by omega, by omega⟩, ?_⟩
  refine lc_run R (fun i acc hp' => TI hp' pl fl ol kd od ed oo kk m ∧ acc.length = i ∧ i ≤ R ∧ ∀ x ∈ acc, Itm hp' pl x) (fun i acc hp' kn hi hI _ hk2 => ?_) (fun i acc hp' hI => ?_) (fun acc hp' hI => ?_) ⟨T.pool kp p1, rfl, Nat.zero_le _, nofun⟩
  · obtain ⟨T1, la, _, it⟩ := hI
    refine ⟨_, itRng_nx rfl hi, ?_⟩
    simp only [wTg, wipeE, List.set_cons_zero, List.set_cons_succ, List.getElem?_cons_zero, List.getElem?_cons_succ]
    refine take_run hf_take T1.p (by decide) (by decide) fun r2 hp2 r20 r26 kp2 lp2 p2 => ?_
    have T2 := T1.pool kp2 p2
    refine matter_run T2.p fun d hp3 kp3 p3 hd => ?_
    have T3 := T2.pool kp3 p3
    refine hk2 _ _ ⟨T3, by simp [la], hi, fun x hx => ?_⟩
    rcases List.mem_append.mp hx with z | z
    · exact ((it x z).fz (fzp kp2)).fz (fzp kp3)
    · have : x = .tup [.int r2, d] := by simpa using z
      exact ⟨r2, d, this, r20, r26, hd⟩
  · obtain ⟨_, la, h, _⟩ := hI
    show _ < 16777216
    omega
  · obtain ⟨T1, la, _, it⟩ := hI
    refine ⟨itRng_end rfl, ?_⟩
    simp only [wTg, List.set_cons_zero, List.set_cons_succ]
    exact k hp' acc T1 (by omega) it
theorem b2_run (hk : hp[kd]? = some (.dic kk)) (hc : Cont hp pl kk j xs) (hq : hp[p]? = some (.lst ts)) (hl : xs.length + ts.length < 10000) (hkl : kk.length < 1000)
    (k : K.nx [e0, e1, some (.ref pl), some (.ref fl), some (.ref ol), some (.ref kd), e6, some (.int (j : Int)), some (.ref p), e9] ((hp ++ [O.lst []] ++ [O.lst ts] ++ [O.lst (xs ++ ts)]).set kd (.dic (dput kk (.inl (j : Int)) (.ref (hp.length + 2)))))) :
    wS g (wCall g (n + 2)) B2 [e0, e1, some (.ref pl), some (.ref fl), some (.ref ol), some (.ref kd), e6, some (.int (j : Int)), some (.ref p), e9] hp K := by
  unfold B2
  have x1 := g2_k hk
  have x2 := g2_o (j := (j : Int)) (y := .ref hp.length) (app_old (l := [O.lst []]) hk)
  have x3 : oBF .list1 [.ref p] (hp ++ [O.lst []]) = _ := list_l (xs := ts) (app_old hq)
  simp only [wS, wE, wEs, x1, x2, x3, a_ok, List.getElem?_cons_zero, List.getElem?_cons_succ]
  have c2 : ∃ q, (dget kk (.inl (j : Int))).getD (.ref hp.length) = .ref q ∧ (hp ++ [O.lst []])[q]? = some (.lst xs) := by
    rcases hc with ⟨z, rfl⟩ | ⟨q, z, hl⟩
    · exact ⟨hp.length, by rw [z]; rfl, by simp⟩
    · exact ⟨q, by rw [z]; rfl, app_old hl.2⟩
  obtain ⟨q, c3, c4⟩ := c2
  have g1 : gtL (hp ++ [O.lst []] ++ [O.lst ts]) q = some xs := gtL_of (app_old c4)
  have g2 : gtL (hp ++ [O.lst []] ++ [O.lst ts]) (hp ++ [O.lst []]).length = some ts := gtL_of (by simp)
  rw [c3, o_addl, g1, g2]
  refine ⟨by show _ ≤ 16777216; omega, ?_⟩
  have x4 := sb_o (j := (j : Int)) (d := .ref (hp ++ [O.lst []] ++ [O.lst ts]).length) (app_old (l := [O.lst (xs ++ ts)]) (app_old (l := [O.lst ts]) (app_old (l := [O.lst []]) hk)))
  simp only [wTg, wE, wEs, x4, ah_cd, List.getElem?_cons_zero, List.getElem?_cons_succ]
  refine ⟨by show _ < 16777216; omega, ?_⟩
  have x5 : (hp ++ [O.lst []] ++ [O.lst ts]).length = hp.length + 2 := by simp
  rw [x5]
  exact k
theorem b3_run {t : Nat} {fs : List (Nat × D)} (hf : gtI hp fl = some (0, fs)) (hc : ∀ (Q : QD) (E : QX), Q .non hp' → wCall g (n + 2) 1 [.ref fl, .int (j : Int), .ref p] hp Q E)
    (k : K.nx [e0, e1, some (.ref pl), some (.ref fl), some (.ref ol), some (.ref kd), some (.int (t : Int)), some (.int (j : Int)), some (.ref p), e9] hp') :
    wS g (wCall g (n + 2)) B3 [e0, e1, some (.ref pl), some (.ref fl), some (.ref ol), some (.ref kd), some (.int (t : Int)), some (.int (j : Int)), some (.ref p), e9] hp K := by
  unfold B3
  have e2 : g.meth 0 4 = some 1 := rfl
  have e3 : perm [.inl 1, .inl 0] [D.ref p, .int (j : Int)] = some [.int (j : Int), .ref p] := rfl
  simp only [wS, wSs, wE, wEs, o_mod, a_cd, c_eqi, a_ok, t_bl, ab_okB, hf, e2, e3, List.getElem?_cons_zero, List.getElem?_cons_succ]
  refine ⟨by decide, ?_⟩
  split
  · exact hc _ _ k
  · exact hc _ _ k
theorem b4_run (hq : hp[p]? = some (.lst ts)) (hl : ts.length < 1000)
    (k : K.nx [e0, e1, some (.ref pl), some (.ref fl), some (.ref ol), some (.ref kd), e6, some (.int (j : Int)), some (.ref p), e9] (hp.set p (.lst (ts ++ [.non])))) :
    wS g (wCall g (n + 2)) B4 [e0, e1, some (.ref pl), some (.ref fl), some (.ref ol), some (.ref kd), e6, some (.int (j : Int)), some (.ref p), e9] hp K := by
  unfold B4
  have e5 := app_k hq
  have e6 := app_l (d := .non) hq
  simp only [wS, wE, wEs, e5, e6, a_cd, List.getElem?_cons_zero, List.getElem?_cons_succ]
  exact ⟨by show _ < 16777216; omega, k⟩
theorem put_St {hp7 : Hq} {q4 : Nat} {oo' : List (Key × D)} (T : TI hp pl fl ol kd od ed oo kk m) (hj : j < 6) (hts : ∀ x ∈ ts, Itm hp pl x) (hlen : ts.length ≤ 5) (h1 : xs = [] → dget oo (.inl (j : Int)) = none) (h2 : xs.length ≤ m) (h3 : ∀ x ∈ xs, Itm hp pl x) (hc : Cont hp pl oo j xs)
    (F : Fz pl hp hp7) (pp : PoolAt hp7 pl) (fi : hp7[fl]? = some (.ins 0 [(0, .ref od)])) (fo : hp7[ol]? = some (.ins 0 [(0, .ref ed)])) (eo : hp7[ed]? = some (.dic [])) (o' : hp7[od]? = some (.dic oo')) (k' : hp7[kd]? = some (.dic (dput kk (.inl (j : Int)) (.ref q4)))) (l4 : LstAt hp7 pl q4 (xs ++ ts))
    (ho : (ts = [] ∧ oo' = oo) ∨ (ts ≠ [] ∧ ∃ q6, oo' = dput oo (.inl (j : Int)) (.ref q6) ∧ LstAt hp7 pl q6 (xs ++ ts))) : TI hp7 pl fl ol kd od ed oo' (dput kk (.inl (j : Int)) (.ref q4)) (m + 5) := by
  refine ⟨pp, ⟨fi, o', k', ?_, T.s.kq.put hj _, fun i => ?_⟩, fo, eo, T.d1, T.d2, T.d3⟩
  · rcases ho with ⟨_, rfl⟩ | ⟨_, q6, rfl, _⟩
    · exact T.s.ko
    · exact T.s.ko.put hj _
  · by_cases e : j = i
    · subst e
      refine ⟨xs ++ ts, .inr ⟨q4, by rw [dget_dput, if_pos rfl], l4⟩, ?_, ?_, by rw [List.length_append]; omega, fun x hx => ?_⟩
      · rcases ho with ⟨rfl, rfl⟩ | ⟨_, q6, rfl, l6⟩
        · rw [List.append_nil]; exact hc.fz F
        · exact .inr ⟨q6, by rw [dget_dput, if_pos rfl], l6⟩
      · intro z
        have z := List.append_eq_nil_iff.mp z
        rcases ho with ⟨rfl, rfl⟩ | ⟨hne, _⟩
        · exact h1 z.1
        · exact absurd z.2 hne
      · rcases List.mem_append.mp hx with z | z
        · exact (h3 x z).fz F
        · exact (hts x z).fz F
    · obtain ⟨ys, g1, g2, g3, g4, g5⟩ := T.s.rel i
      have ek : dget (dput kk (.inl (j : Int)) (.ref q4)) (.inl (i : Int)) = dget kk (.inl (i : Int)) := by rw [dget_dput, if_neg (inl_ne e)]
      have eo : dget oo' (.inl (i : Int)) = dget oo (.inl (i : Int)) := by
        rcases ho with ⟨_, rfl⟩ | ⟨_, q6, rfl, _⟩
        · rfl
        · rw [dget_dput, if_neg (inl_ne e)]
      have g1 := g1.fz F
      have g2 := g2.fz F
      unfold Cont at g1 g2 ⊢
      rw [← ek] at g1
      rw [← eo] at g2 g3
      exact ⟨ys, g1, g2, g3, by omega, fun x hx => (g5 x hx).fz F⟩
end
end MI.T
set_option maxHeartbeats 4000000
local macro_rules | `(tactic| walk_at "mi") => `(tactic| simp (config := { decide := false }) (disch := (first | assumption | omega | (simp only [List.length_append, List.length_cons, List.length_nil, List.length_set]; omega))) only [*, MI.wSs, MI.wS, MI.wE, MI.wEs, MI.wEo, MI.wTg, MI.wTgs, MI.a_ok, MI.a_cd, MI.a_no, MI.ab_okB, MI.ab_cd, MI.ah_ok, MI.ah_cd, MI.o_add, MI.o_addt, MI.o_adds, MI.o_addl, MI.o_mull, MI.o_sub, MI.o_mul, MI.o_fdiv, MI.o_mod, MI.o_pow, MI.t_non, MI.t_bl, MI.t_int, MI.t_tup, MI.c_eqi, MI.c_eqs, MI.c_eqb, MI.c_nei, MI.c_nes, MI.c_eqt, MI.c_net, MI.c_eqr, MI.c_ner, MI.c_lt, MI.c_le, MI.c_gt, MI.c_ge, MI.c_is, MI.c_nis, MI.c_in, MI.c_nin, MI.v_ok, MI.v_cd, MI.x_tup, MI.x_kl, MI.x_refi, MI.x_refs, MI.s_refi, MI.s_refs, MI.f_ref, MI.sf_ref, MI.at_0, MI.at_1, MI.at_2, MI.ixN_0, MI.ixN_1, List.getElem?_cons_zero, List.getElem?_cons_succ, List.set_cons_zero, List.set_cons_succ, List.map_cons, List.map_nil, List.cons_append, List.nil_append, List.replicate, Option.getD_some, Option.getD_none, Bool.false_eq_true, if_true, if_false, List.length_cons, List.length_nil, List.getElem?_set_self', Option.map_eq_map, Option.map_some, Function.const_apply, List.set_set, decide_eq_true_eq, true_and, and_true, MI.isi_tt, MI.isi_ss, MI.isi_ii, MI.isi_ib, MI.len_t0, MI.len_t1, MI.len_t2, MI.len_k, MI.max_2, MI.min_2, MI.int_b, Bool.not_true, Bool.not_false, decide_true, decide_false])
namespace MI.T
open PySem L2 MI
section
variable {hp hp' : Hq} {pl fl ol kd od ed n m : Nat} {oo kk : List (Key × D)} {Q : QD} {E : QX} {xs ts : List D}
variable {e0 e1 e6 e7 e8 e9 : Option D} {j p : Nat} {K : KS}
theorem fz_new {a b : Hq} {o : O} (F : Fz pl a b) (h : a.length ≤ p) : Fz pl a (b.set p o) := ⟨by rw [List.length_set]; exact F.len, fun i xs hi e => by
  have := lt_of e
  rw [set_other (by omega)]
  exact F.at_ i xs hi e⟩
theorem b_run {t : Nat} (T : TI hp pl fl ol kd od ed oo kk m) (hj : j < 6) (hm : m ≤ 900) (k : ∀ hp' oo' kk' x8, TI hp' pl fl ol kd od ed oo' kk' (m + 5) → K.nx [e0, e1, some (.ref pl), some (.ref fl), some (.ref ol), some (.ref kd), some (.int (t : Int)), some (.int (j : Int)), x8, e9] hp') :
    wSs g (wCall g (n + 2)) bB [e0, e1, some (.ref pl), some (.ref fl), some (.ref ol), some (.ref kd), some (.int (t : Int)), some (.int (j : Int)), e8, e9] hp K := by
  unfold bB
  generalize q1 : B1 = s1
  generalize q2 : B2 = s2
  generalize q3 : B3 = s3
  generalize q4 : B4 = s4
  simp only [wSs]
  rw [← q1]
  refine b1_run T fun hp1 ts T1 hlen hit => ?_
  show wS _ _ _ _ _ _
  rw [← q2]
  clear q1 q2 T
  obtain ⟨xs, x1, x2, x3, x4, x5⟩ := T1.s.rel j
  have K2 : Keep (fun _ => False) hp1 (hp1 ++ [O.lst ts]) := Keep.app
  have P2 : (hp1 ++ [O.lst ts])[hp1.length]? = some (.lst ts) := by simp
  have L2 : (hp1 ++ [O.lst ts]).length = hp1.length + 1 := by simp
  generalize hp1 ++ [O.lst ts] = hp2 at K2 P2 L2 ⊢
  have T2 := T1.keep K2
  have hkl := T2.s.kq.len
  have hol := T2.s.ko.len
  refine b2_run T2.s.k (x1.fz (fz0 K2)) P2 (by omega) (by omega) ?_
  show wS _ _ _ _ _ _
  rw [← q3]
  clear q3
  have lkd := lt_of T1.s.k
  have lod := lt_of T1.s.o
  have lfl := lt_of T1.s.fi
  have lpl := pool_lt T1.p
  have K4 : Keep (fun _ => False) hp2 (hp2 ++ [O.lst []] ++ [O.lst ts] ++ [O.lst (xs ++ ts)]) := (Keep.app.trans Keep.app).trans Keep.app
  have P4 : (hp2 ++ [O.lst []] ++ [O.lst ts] ++ [O.lst (xs ++ ts)])[hp2.length + 2]? = some (.lst (xs ++ ts)) := by
    rw [List.getElem?_append_right (by simp)]; simp
  have L4 : (hp2 ++ [O.lst []] ++ [O.lst ts] ++ [O.lst (xs ++ ts)]).length = hp2.length + 3 := by simp
  generalize hp2 ++ [O.lst []] ++ [O.lst ts] ++ [O.lst (xs ++ ts)] = hp4 at K4 P4 L4 ⊢
  have T4 := T2.keep K4
  have F5 : Fz pl hp1 (hp4.set kd (.dic (dput kk (.inl (j : Int)) (.ref (hp2.length + 2))))) := (fz0 (K2.trans K4)).trans (Fz.setD T4.s.k)
  have KD5 : (hp4.set kd (.dic (dput kk (.inl (j : Int)) (.ref (hp2.length + 2)))))[kd]? = some (.dic (dput kk (.inl (j : Int)) (.ref (hp2.length + 2)))) := set_same T4.s.k
  have K5 : Keep (· = kd) hp4 (hp4.set kd (.dic (dput kk (.inl (j : Int)) (.ref (hp2.length + 2))))) := Keep.set rfl
  have L5 : (hp4.set kd (.dic (dput kk (.inl (j : Int)) (.ref (hp2.length + 2))))).length = hp4.length := List.length_set
  generalize hp4.set kd (.dic (dput kk (.inl (j : Int)) (.ref (hp2.length + 2)))) = hp5 at F5 KD5 K5 L5 ⊢
  have nkd : ∀ {i : Nat} {o : O}, hp4[i]? = some o → (∀ kvs, o ≠ .dic kvs) → ¬ i = kd := fun h ho z => by
    rw [z, T4.s.k] at h; injection h with h; exact ho _ h.symm
  have FL5 := K5.get T4.s.fi (nkd T4.s.fi fun _ => nofun)
  have OL5 := K5.get T4.fo (nkd T4.fo fun _ => nofun)
  have ED5 := K5.get T4.eo T4.d2
  have OD5 := K5.get T4.s.o T4.d1.symm
  have P5 := K5.get (K4.get P2 fun z => z) (show ¬ _ = _ by omega)
  have Q5 := K5.get P4 (show ¬ _ = _ by omega)
  have PP5 : PoolAt hp5 pl := by
    obtain ⟨c, s, e, z⟩ := T4.p
    exact ⟨c, s, K5.get e (nkd e fun _ => nofun), z⟩
  cases ts with
  | nil =>
    refine b3_run (hp' := hp5) (gtI_of FL5) (fun Q E h => lay_run0 P5 h) ?_
    show wS _ _ _ _ _ _
    rw [← q4]
    refine b4_run P5 (by simp) ?_
    refine k _ _ _ _ (put_St (q4 := hp2.length + 2) T1 hj hit hlen x3 x4 x5 x2 (fz_new F5 (Nat.le_refl _)) ?_ ?_ ?_ ?_ ?_ ?_ ?_ (.inl ⟨rfl, rfl⟩))
    · obtain ⟨c, s, e, z⟩ := PP5
      exact ⟨c, s, by rw [set_other (by omega)]; exact e, z⟩
    · rw [set_other (by omega)]; exact FL5
    · have := lt_of T1.fo
      rw [set_other (by omega)]; exact OL5
    · have := lt_of T1.eo
      rw [set_other (by omega)]; exact ED5
    · rw [set_other (by omega)]; exact OD5
    · rw [set_other (by omega)]; exact KD5
    · refine ⟨by omega, ?_⟩
      rw [set_other (by omega)]; exact Q5
  | cons x r =>
    have K6 : Keep (fun _ => False) hp5 (hp5 ++ [O.lst []] ++ [O.lst xs] ++ [O.lst (x :: r)] ++ [O.lst (xs ++ (x :: r))]) := ((Keep.app.trans Keep.app).trans Keep.app).trans Keep.app
    have P6 : (hp5 ++ [O.lst []] ++ [O.lst xs] ++ [O.lst (x :: r)] ++ [O.lst (xs ++ (x :: r))])[hp5.length + 3]? = some (.lst (xs ++ (x :: r))) := by
      rw [List.getElem?_append_right (by simp)]; simp
    have LR : ∀ (Q : QD) (E : QX), Q .non ((hp5 ++ [O.lst []] ++ [O.lst xs] ++ [O.lst (x :: r)] ++ [O.lst (xs ++ (x :: r))]).set od (.dic (dput oo (.inl (j : Int)) (.ref (hp5.length + 3))))) → wCall g (n + 2) 1 [.ref fl, .int (j : Int), .ref hp1.length] hp5 Q E :=
      fun Q E h => lay_run (xs := xs) FL5 OD5 (x2.fz F5) (by omega) (by simp only [List.length_cons] at hlen ⊢; omega) P5 h
    refine b3_run (gtI_of FL5) LR ?_
    show wS _ _ _ _ _ _
    rw [← q4]
    clear LR
    generalize hp5 ++ [O.lst []] ++ [O.lst xs] ++ [O.lst (x :: r)] ++ [O.lst (xs ++ (x :: r))] = hp6 at K6 P6 ⊢
    have K7 : Keep (· = od) hp6 (hp6.set od (.dic (dput oo (.inl (j : Int)) (.ref (hp5.length + 3))))) := Keep.set rfl
    have OD6 := K6.get OD5 (fun z => z)
    have OD7 : (hp6.set od (.dic (dput oo (.inl (j : Int)) (.ref (hp5.length + 3)))))[od]? = some (.dic (dput oo (.inl (j : Int)) (.ref (hp5.length + 3)))) := set_same OD6
    have F7 := (F5.trans (fz0 K6)).trans (Fz.setD (o := .dic (dput oo (.inl (j : Int)) (.ref (hp5.length + 3)))) OD6)
    generalize hp6.set od (.dic (dput oo (.inl (j : Int)) (.ref (hp5.length + 3)))) = hp7 at K7 OD7 F7 ⊢
    have nod : ∀ {i : Nat} {o : O}, hp6[i]? = some o → (∀ kvs, o ≠ .dic kvs) → ¬ i = od := fun h ho z => by
      rw [z, OD6] at h; injection h with h; exact ho _ h.symm
    have up : ∀ {i : Nat} {o : O}, hp5[i]? = some o → (∀ kvs, o ≠ .dic kvs) → hp7[i]? = some o := fun h ho => by
      have h := K6.get h (fun z => z)
      exact K7.get h (nod h ho)
    have KD7 := K7.get (K6.get KD5 (fun z => z)) T4.d1
    have ED7 := K7.get (K6.get ED5 (fun z => z)) T4.d3
    have P7 := up P5 fun _ => nofun
    refine b4_run P7 (by simp only [List.length_cons] at hlen ⊢; omega) ?_
    refine k _ _ _ _ (put_St (q4 := hp2.length + 2) T1 hj hit hlen x3 x4 x5 x2 (fz_new F7 (Nat.le_refl _)) ?_ ?_ ?_ ?_ ?_ ?_ ?_ (.inr ⟨nofun, hp5.length + 3, rfl, by omega, ?_⟩))
    · obtain ⟨c, s, e, z⟩ := PP5
      exact ⟨c, s, by rw [set_other (by omega)]; exact up e fun _ => nofun, z⟩
    · rw [set_other (by omega)]; exact up FL5 fun _ => nofun
    · have := lt_of T1.fo
      rw [set_other (by omega)]; exact up OL5 fun _ => nofun
    · have := lt_of T1.eo
      rw [set_other (by omega)]; exact ED7
    · rw [set_other (by omega)]; exact OD7
    · rw [set_other (by omega)]; exact KD7
    · refine ⟨by omega, ?_⟩
      rw [set_other (by omega)]; exact up Q5 fun _ => nofun
    · rw [set_other (by omega)]; exact K7.get P6 (nod P6 fun _ => nofun)
abbrev C1 : MI.St := .ifs (.or (.not (.call 10 (.cons (.var 3) (.cons (.var 5) .nil)))) (.or (.cmp .ne (.lenD (.var 4) 2) (.lit (.int 0))) (.cmp .ne (.methK (.var 4) 0 (.cons (.var 7) .nil) [.inl 0]) (.lst .nil)))) (.cons (.ret (.so (.lit (.bl false)))) .nil) .nil
theorem c_run (T : TI hp pl fl ol kd od ed oo kk m) (hm : m ≤ 1000) (k : ∀ hp', Keep (fun _ => False) hp hp' → K.nx [e0, e1, some (.ref pl), some (.ref fl), some (.ref ol), some (.ref kd), e6, some (.int (j : Int)), e8, e9] hp') :
    wS g (wCall g (n + 2)) C1 [e0, e1, some (.ref pl), some (.ref fl), some (.ref ol), some (.ref kd), e6, some (.int (j : Int)), e8, e9] hp K := by
  unfold C1
  have m1 : g.meth 0 2 = some 5 := rfl
  have m2 : g.meth 0 0 = some 2 := rfl
  have m3 : perm [.inl 0] [D.int (j : Int)] = some [.int (j : Int)] := rfl
  simp only [wS, wE, wEs, List.getElem?_cons_zero, List.getElem?_cons_succ]
  refine right_run T.s hm fun hp1 k1 => ?_
  have T1 := T.keep k1
  simp only [t_bl, ab_okB, Bool.not_true, Bool.false_eq_true, if_false, gtI_of T1.fo, m1]
  refine dlen_run (oo := []) (m := 0) T1.fo T1.eo Kys.nil nofun (by decide) fun hp2 k2 => ?_
  have T2 := T1.keep k2
  refine ⟨⟨Int.le_refl _, show (0 : Int) < 2 ^ 62 by decide⟩, ?_⟩
  simp only [c_nei, a_ok, t_bl, ab_okB, List.map_nil, List.sum_nil, gtI_of T2.fo, m2, m3]
  have z0 : decide (((0 : Nat) : Int) = 0) = true := rfl
  simp only [z0, Bool.not_true, Bool.false_eq_true, if_false]
  refine read_run (pl := pl) (xs := []) T2.fo T2.eo (.inl ⟨rfl, rfl⟩) ?_
  have k3 : Keep (fun _ => False) hp2 (hp2 ++ [O.lst []] ++ [O.lst []]) := Keep.app.trans Keep.app
  have f3 : (hp2 ++ [O.lst []] ++ [O.lst []])[hp2.length + 1]? = some (.lst []) := by
    rw [List.getElem?_append_right (by simp)]; simp
  generalize hp2 ++ [O.lst []] ++ [O.lst []] = hp3 at k3 f3 ⊢
  have hk := k _ (((k1.trans k2).trans k3).trans (Keep.app (l := [O.lst []])))
  rw [c_ner]
  have go := eq_nil (pl := pl) (xs := []) (hp := hp3 ++ [O.lst []]) (C := fun b => b = true) (app_old f3) nofun (by decide) (r := hp3.length) (by simp) rfl
  revert go
  generalize oEqG (.ref (hp2.length + 1)) (.ref hp3.length) (hp3 ++ [O.lst []]) = B
  intro go
  cases B with
  | no => exact go.elim
  | ok b =>
    have : b = true := go
    subst this
    exact hk
  | cd C b =>
    have : b = true := go.2
    subst this
    exact ⟨go.1, hk⟩
end
end MI.T
set_option maxHeartbeats 4000000
local macro_rules | `(tactic| walk_at "mi") => `(tactic| simp (config := { decide := false }) (disch := (first | assumption | omega | (simp only [List.length_append, List.length_cons, List.length_nil, List.length_set]; omega))) only [*, MI.wSs, MI.wS, MI.wE, MI.wEs, MI.wEo, MI.wTg, MI.wTgs, MI.a_ok, MI.a_cd, MI.a_no, MI.ab_okB, MI.ab_cd, MI.ah_ok, MI.ah_cd, MI.o_add, MI.o_addt, MI.o_adds, MI.o_addl, MI.o_mull, MI.o_sub, MI.o_mul, MI.o_fdiv, MI.o_mod, MI.o_pow, MI.t_non, MI.t_bl, MI.t_int, MI.t_tup, MI.c_eqi, MI.c_eqs, MI.c_eqb, MI.c_nei, MI.c_nes, MI.c_eqt, MI.c_net, MI.c_eqr, MI.c_ner, MI.c_lt, MI.c_le, MI.c_gt, MI.c_ge, MI.c_is, MI.c_nis, MI.c_in, MI.c_nin, MI.v_ok, MI.v_cd, MI.x_tup, MI.x_kl, MI.x_refi, MI.x_refs, MI.s_refi, MI.s_refs, MI.f_ref, MI.sf_ref, MI.at_0, MI.at_1, MI.at_2, MI.ixN_0, MI.ixN_1, List.getElem?_cons_zero, List.getElem?_cons_succ, List.set_cons_zero, List.set_cons_succ, List.map_cons, List.map_nil, List.cons_append, List.nil_append, List.replicate, Option.getD_some, Option.getD_none, Bool.false_eq_true, if_true, if_false, List.length_cons, List.length_nil, List.getElem?_set_self', Option.map_eq_map, Option.map_some, Function.const_apply, List.set_set, decide_eq_true_eq, true_and, and_true, MI.isi_tt, MI.isi_ss, MI.isi_ii, MI.isi_ib, MI.len_t0, MI.len_t1, MI.len_t2, MI.len_k, MI.max_2, MI.min_2, MI.int_b, Bool.not_true, Bool.not_false, decide_true, decide_false])
namespace MI.T
open PySem L2 MI
section
variable {hp hp' : Hq} {pl fl ol kd od ed n m : Nat} {oo kk : List (Key × D)} {Q : QD} {E : QX} {xs ts : List D}
variable {e0 e1 e2 e3 e4 e5 e6 e7 e8 e9 : Option D} {j p : Nat} {K : KS}
theorem mk_call (k : Q .non (hp ++ [O.ins 0 [(0, .ref (hp.length + 1))], O.dic []])) : wCall g (n + 1) 0 [.ref hp.length] (hp ++ [O.ins 0 []]) Q E := by
  rw [call_Disk___init__]
  refine ⟨rfl, ?_⟩
  unfold b_Disk___init__
  have p0 : pairsOf [] = some [] := rfl
  have g0 : gtI (hp ++ [O.ins 0 []] ++ [O.dic []]) hp.length = some (0, []) := gtI_of (app_old (by simp))
  simp only [wSs, wS, wE, wEs, wTg, p0, sf_ref, g0, ah_cd, List.map_cons, List.map_nil, List.cons_append, List.nil_append, List.replicate, List.getElem?_cons_zero, List.foldl_nil]
  refine ⟨by decide, ?_⟩
  have e : ((hp ++ [O.ins 0 []] ++ [O.dic []]).set hp.length (.ins 0 (fput [] 0 (.ref (hp ++ [O.ins 0 []]).length)))) = hp ++ [O.ins 0 [(0, .ref (hp.length + 1))], O.dic []] := by
    rw [List.append_assoc, List.set_append_right _ _ (Nat.le_refl _)]
    simp [fput]
  show Q _ _
  rw [e]
  exact k
theorem start_TI (p : PoolAt hp pl) : TI (hp ++ [O.ins 0 [(0, .ref (hp.length + 1))], O.dic []] ++ [O.ins 0 [(0, .ref (hp.length + 2 + 1))], O.dic []] ++ [O.dic []]) pl hp.length (hp.length + 2) (hp.length + 4) (hp.length + 1) (hp.length + 3) [] [] 0 := by
  have hl := pool_lt p
  have at_ : ∀ i, (hp ++ [O.ins 0 [(0, .ref (hp.length + 1))], O.dic []] ++ [O.ins 0 [(0, .ref (hp.length + 2 + 1))], O.dic []] ++ [O.dic []])[hp.length + i]? = [O.ins 0 [(0, .ref (hp.length + 1))], O.dic [], O.ins 0 [(0, .ref (hp.length + 2 + 1))], O.dic [], O.dic []][i]? := fun i => by
    rw [List.append_assoc, List.append_assoc, List.getElem?_append_right (by omega)]
    simp
  refine ⟨?_, ⟨at_ 0, at_ 1, at_ 4, Kys.nil, Kys.nil, fun j => ⟨[], .inl ⟨rfl, rfl⟩, .inl ⟨rfl, rfl⟩, fun _ => rfl, Nat.le_refl _, nofun⟩⟩, at_ 2, at_ 3, by omega, by omega, by omega⟩
  obtain ⟨c, s, e, z⟩ := p
  exact ⟨c, s, app_old (app_old (app_old e)), z⟩
abbrev U1 : MI.St := .asg (.nm 7) (.call 8 (.cons (.var 2) (.cons (.lit (.int 6)) .nil)))
abbrev U2 : MI.St := .ifs (.cmp .eq (.call 8 (.cons (.var 2) (.cons (.lit (.int 5)) .nil))) (.lit (.int 0))) bA bB
abbrev bT : Sts := .cons U1 (.cons U2 (.cons C1 .nil))
theorem t_run {t : Nat} (T : TI hp pl fl ol kd od ed oo kk m) (hm : m ≤ 900) (k : ∀ hp' oo' kk' e7 e8, TI hp' pl fl ol kd od ed oo' kk' (m + 5) → K.nx [e0, e1, some (.ref pl), some (.ref fl), some (.ref ol), some (.ref kd), some (.int (t : Int)), e7, e8, e9] hp') :
    wSs g (wCall g (n + 2)) bT [e0, e1, some (.ref pl), some (.ref fl), some (.ref ol), some (.ref kd), some (.int (t : Int)), e7, e8, e9] hp K := by
  unfold bT U1 U2
  generalize q3 : C1 = s3
  generalize qA : bA = sA
  generalize qB : bB = sB
  simp only [wSs, wS, wE, wEs, wTg, List.getElem?_cons_zero, List.getElem?_cons_succ]
  refine take_run hf_take T.p (by decide) (by decide) fun r hp1 r0 r6 kp lp p1 => ?_
  obtain ⟨j, rfl⟩ : ∃ j : Nat, r = (j : Int) := ⟨r.toNat, by omega⟩
  have T1 := T.pool kp p1
  simp only [List.set_cons_zero, List.set_cons_succ, List.getElem?_cons_zero, List.getElem?_cons_succ]
  refine take_run hf_take T1.p (by decide) (by decide) fun r2 hp2 _ _ kp2 lp2 p2 => ?_
  have T2 := T1.pool kp2 p2
  simp only [c_eqi, a_ok, t_bl, ab_okB]
  split
  · rw [← qA]
    refine a_run T2 fun hp3 oo' kk' T3 => ?_
    show wS _ _ _ _ _ _
    rw [← q3]
    refine c_run T3 (by omega) fun hp4 k4 => ?_
    have T4 := T3.keep k4
    refine k hp4 oo' kk' _ _ ⟨T4.p, ⟨T4.s.fi, T4.s.o, T4.s.k, T4.s.ko, T4.s.kq, fun i => ?_⟩, T4.fo, T4.eo, T4.d1, T4.d2, T4.d3⟩
    obtain ⟨xs, x1, x2, x3, x4, x5⟩ := T4.s.rel i
    exact ⟨xs, x1, x2, x3, by omega, x5⟩
  · rw [← qB]
    refine b_run T2 (by omega) hm fun hp3 oo' kk' x8 T3 => ?_
    show wS _ _ _ _ _ _
    rw [← q3]
    exact c_run T3 (by omega) fun hp4 k4 => k hp4 oo' kk' _ _ (T3.keep k4)
end
theorem law_run : ∀ ns : List Int, ns.length ≤ 63 → wCall g 5 11 [.kl (ns.map D.int)] [] (fun d _ => d = .bl true) fun _ _ _ => False := by
  intro ns hns
  rw [call_law]
  refine ⟨rfl, ?_⟩
  unfold b_law
  generalize hB : bT = B
  unfold bT U1 U2 bA bB B1 B2 B3 B4 C1 at hB
  rw [hB]
  simp only [wSs, wS, wE, wEo, wEs, wTg, wTgs, wIt, List.map_cons, List.map_nil, List.cons_append, List.nil_append, List.replicate, List.getElem?_cons_zero, List.getElem?_cons_succ, len_k, min_2, max_2, a_ok, List.length_map]
  obtain ⟨M, hM, hM2⟩ : ∃ M : Nat, (if (if (ns.length : Int) < (12 : Int) then (ns.length : Int) else 12) > 1 then (if (ns.length : Int) < (12 : Int) then (ns.length : Int) else 12) else 1) = (M : Int) ∧ M ≤ 12 := by
    by_cases h1 : (ns.length : Int) < (12 : Int)
    · by_cases h2 : (ns.length : Int) > 1
      · exact ⟨ns.length, by rw [if_pos h1, if_pos h2], by omega⟩
      · exact ⟨1, by rw [if_pos h1, if_neg h2]; rfl, by decide⟩
    · exact ⟨12, by rw [if_neg h1, if_pos (by decide)]; rfl, Nat.le_refl _⟩
  rw [hM]
  refine ⟨⟨by omega, by omega⟩, ?_⟩
  refine for_run M (fun j env hp => ∃ a b c d e f p q r, env = [some (.kl (ns.map D.int)), a, b, c, d, e, f, p, q, r]) (fun j env hp kn hj hI hk => ?_) (fun env hp hI => ?_) ⟨_, _, _, _, _, _, _, _, _, rfl⟩
  · obtain ⟨a, b, c, d, e, f, p, q, r, rfl⟩ := hI
    refine ⟨_, itRng_nx rfl hj, ?_⟩
    simp only [wTg, List.set_cons_zero, List.set_cons_succ, List.getElem?_cons_zero, List.getElem?_cons_succ]
    refine pool_run hf_pool hf_cell (by omega) fun hp1 eh pp => ?_
    have pl1 := pool_lt pp
    generalize hp.length = pl at pp pl1 ⊢
    clear eh
    have i0 : g.init 0 = some 0 := rfl
    have p0 : pairsOf [] = some [] := rfl
    simp only [i0, p0, List.foldl_nil]
    refine mk_call ?_
    dsimp only
    refine mk_call ?_
    refine ⟨rfl, ?_⟩
    have l2 : (hp1 ++ [O.ins 0 [(0, .ref (hp1.length + 1))], O.dic []]).length = hp1.length + 2 := by simp
    have l4 : (hp1 ++ [O.ins 0 [(0, .ref (hp1.length + 1))], O.dic []] ++ [O.ins 0 [(0, .ref (hp1.length + 2 + 1))], O.dic []]).length = hp1.length + 4 := by simp
    rw [l2, l4]
    have T0 := start_TI pp
    generalize hp1 ++ [O.ins 0 [(0, .ref (hp1.length + 1))], O.dic []] ++ [O.ins 0 [(0, .ref (hp1.length + 2 + 1))], O.dic []] ++ [O.dic []] = hp2 at T0 ⊢
    generalize hp1.length = fl at T0 ⊢
    generalize fl + 1 = od at T0 ⊢
    generalize fl + 2 = ol at T0 ⊢
    generalize fl + 3 = ed at T0 ⊢
    generalize fl + 4 = kd at T0 ⊢
    refine take_run hf_take T0.p (by decide) (by decide) fun r hp3 r0 r25 kp lp p3 => ?_
    have T3 := T0.pool kp p3
    obtain ⟨R, hR, hR2⟩ : ∃ R : Nat, 6 + r = (R : Int) ∧ R ≤ 30 := ⟨(6 + r).toNat, by omega, by omega⟩
    rw [o_add, a_ok, hR]
    refine ⟨⟨by omega, by omega⟩, ?_⟩
    refine for_run R (fun t env hp => ∃ oo kk e6 e7 e8 e9, TI hp pl fl ol kd od ed oo kk (5 * t) ∧ env = [some (.kl (ns.map D.int)), some (.int (j : Int)), some (.ref pl), some (.ref fl), some (.ref ol), some (.ref kd), e6, e7, e8, e9]) (fun t env hp kn2 ht hI hk2 => ?_) (fun env hp hI => ?_) ⟨_, _, _, _, _, _, T3, rfl⟩
    · obtain ⟨oo, kk, e6, e7, e8, e9, T, rfl⟩ := hI
      refine ⟨_, itRng_nx rfl ht, ?_⟩
      simp only [wTg, List.set_cons_zero, List.set_cons_succ]
      rw [← hB]
      exact t_run T (by omega) fun hp5 oo' kk' e7 e8 T5 => hk2 _ _ ⟨oo', kk', _, _, _, _, (show 5 * (t + 1) = 5 * t + 5 by omega) ▸ T5, rfl⟩
    · obtain ⟨oo, kk, e6, e7, e8, e9, T, rfl⟩ := hI
      refine ⟨itRng_end rfl, ?_⟩
      have m3 : g.meth 0 3 = some 3 := rfl
      have m4 : perm [.inl 0] [D.int 5] = some [.int 5] := rfl
      have hu : (itRng 0 (R : Int)).un hp = hp := rfl
      simp only [hu, gtI_of T.s.fi, m3, m4, List.getElem?_cons_zero, List.getElem?_cons_succ]
      exact drop_run (j := 5) T.s.fi T.s.o (hk _ _ ⟨_, _, _, _, _, _, _, _, _, rfl⟩)
  · obtain ⟨a, b, c, d, e, f, p, q, r, rfl⟩ := hI
    exact ⟨itRng_end rfl, rfl⟩
end MI.T
open PySem PySem.W PyProof.Rows
set_option maxRecDepth 100000 in
set_option maxHeartbeats 0 in
theorem PySem.Challenge.cw_rowstold_k16_disk_lists_holds : PySem.Challenge.rw_rowstold_k16_disk_lists.Holds := by
  w_on; o_law; k_head; (case hw => w_witness2)
  k_fill
  refine MI.walk_mi (l := PySem.Challenge.rw_rowstold_k16_disk_lists) (n := 63) (N := 5) (S := MI.T.S) (g := MI.T.g) (lf := 11) rfl (by decide) rfl ⟨rfl, by decide, by decide⟩ (fun w h Y => PySem.W.kIn_of Y) ?F MI.T.law_run
  case F =>
    intro w mg fa h KX G hmg
    refine' MI.T.tfs KX G hmg ?yA0 ?ya0 ?yi0 ?yl0 ?yc0 ?yk0 ?ya1 ?yi1 ?yl1 ?yc1 ?yk1 ?ya2 ?yi2 ?yl2 ?yc2 ?yk2 ?ya3 ?yi3 ?yl3 ?yc3 ?yk3 ?ya4 ?yi4 ?yl4 ?yc4 ?yk4 ?ya5 ?yi5 ?yl5 ?yc5 ?yk5 ?ya6 ?yl6 ?yc6 ?yk6 ?ya7 ?yl7 ?yc7 ?yk7 ?ya8 ?yl8 ?yc8 ?yk8 ?ya9 ?yl9 ?yc9 ?yk9 ?ya10 ?yl10 ?yc10 ?yk10 ?ya11 ?yl11 ?yc11 ?yk11 ?ypg0 ?yhd0 ?ypo0 ?ysa0 ?ymk0 ?ykc0 ?yn0_0 ?yz0 ?yz1 ?yz2 ?yz3 ?yz4 ?yz5 ?yz6 ?yz7
    (case yA0 => k_is); (case ya0 => k_is); (case yi0 => k_is); (case yl0 => k_is); (case yc0 => k_is); (case yk0 => k_is); (case ya1 => k_is); (case yi1 => k_is); (case yl1 => k_is); (case yc1 => k_is); (case yk1 => k_is); (case ya2 => k_is)
    (case yi2 => k_is); (case yl2 => k_is); (case yc2 => k_is); (case yk2 => k_is); (case ya3 => k_is); (case yi3 => k_is); (case yl3 => k_is); (case yc3 => k_is); (case yk3 => k_is); (case ya4 => k_is); (case yi4 => k_is); (case yl4 => k_is)
    (case yc4 => k_is); (case yk4 => k_is); (case ya5 => k_is); (case yi5 => k_is); (case yl5 => k_is); (case yc5 => k_is); (case yk5 => k_is); (case ya6 => k_is); (case yl6 => k_is); (case yc6 => k_is); (case yk6 => k_is); (case ya7 => k_is)
    (case yl7 => k_is); (case yc7 => k_is); (case yk7 => k_is); (case ya8 => k_is); (case yl8 => k_is); (case yc8 => k_is); (case yk8 => k_is); (case ya9 => k_is); (case yl9 => k_is); (case yc9 => k_is); (case yk9 => k_is); (case ya10 => k_is)
    (case yl10 => k_is); (case yc10 => k_is); (case yk10 => k_is); (case ya11 => k_is); (case yl11 => k_is); (case yc11 => k_is); (case yk11 => k_is); (case ypg0 => k_is); (case yhd0 => k_is); (case ypo0 => k_is); (case ysa0 => k_is); (case ymk0 => k_is)
    (case ykc0 => k_is); (case yn0_0 => k_is); (case yz0 => k_is); (case yz1 => k_is); (case yz2 => k_is); (case yz3 => k_is); (case yz4 => k_is); (case yz5 => k_is); (case yz6 => k_is); (case yz7 => k_is)
