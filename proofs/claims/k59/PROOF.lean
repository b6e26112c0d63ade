import PyProof.Rows.All
import Wide.All
import OpenK.AllK
import Wide.FinOn
import HandS.ForMost
import HandS.Exc
import HandS.TupAny
import HandS.Deep
import HandS.TupMul
import HandS.Flow
import HandS.ForExc
import HandS.DictComp
import HandS.IsInst
import HandS.SortKw
import KE.DataMinMax
import HandS.ExcInit
import HandS.ExcIs
import HandS.ExcField
import HandS.ClsMeth
import HandS.WordsExc
import HandS.EndBits
import PyProof.ReprBulk
import PyProof.Rows.ReprShort
import PySem.Challenge.RW_rowstold_k59_what_are_no_steps
set_option Elab.async false
set_option linter.all false
set_option maxRecDepth 100000
/-! MI, part 1: values, heap objects, the small language, and what a run of it comes to (predicate transformers). -/
namespace MI
open PySem

abbrev SZ : Nat := 16777216

/-- a value: tuples and the script stand inline, what may change is a place in the heap -/
inductive D where
  | non
  | bl (b : Bool)
  | int (i : Int)
  | str (x : Str)
  | tup (xs : List D)
  | kl (xs : List D)
  | ref (i : Nat)
  | fn (k : Nat)
  | cls (k : Nat)
  | ty (n : String)
  | kd (k : Nat)
  | exv (c i : Nat)

/-- what stands at a place (fdic: a dict while it is walked) -/
inductive O where
  | lst (xs : List D)
  | dic (kvs : List (L2.Key × D))
  | fdic (kvs : List (L2.Key × D))
  | ins (c : Nat) (fs : List (Nat × D))
  | xd (c : Nat) (fs : List (Nat × D))
  | xob (c me j : Nat)

abbrev Hq := List O
abbrev Env := List (Option D)

/-- outcomes: a value and a heap, a truth, a heap; under a condition -/
inductive OutD | no | ok (d : D) (hp : Hq) | cd (C : Prop) (d : D) (hp : Hq)
inductive OutB | no | ok (b : Bool) | cd (C : Prop) (b : Bool)
inductive OutH | no | ok (hp : Hq) | cd (C : Prop) (hp : Hq)
abbrev QD := D → Hq → Prop
abbrev QX := Nat → Nat → Hq → Prop
def OutD.app : OutD → QD → Prop
  | .no, _ => False
  | .ok d hp, Q => Q d hp
  | .cd C d hp, Q => C ∧ Q d hp
def OutB.app : OutB → (Bool → Prop) → Prop
  | .no, _ => False
  | .ok b, k => k b
  | .cd C b, k => C ∧ k b
def OutH.app : OutH → (Hq → Prop) → Prop
  | .no, _ => False
  | .ok hp, k => k hp
  | .cd C hp, k => C ∧ k hp
def OutB.val (neg : Bool) (hp : Hq) : OutB → OutD
  | .no => .no
  | .ok b => .ok (.bl (if neg then !b else b)) hp
  | .cd C b => .cd C (.bl (if neg then !b else b)) hp

/-! ### dicts, attributes -/
def dget {α : Type} : List (L2.Key × α) → L2.Key → Option α
  | [], _ => none
  | (k', v) :: r, k => if k' = k then some v else dget r k
def dput {α : Type} (kvs : List (L2.Key × α)) (k : L2.Key) (v : α) : List (L2.Key × α) :=
  if (kvs.any fun kv => decide (kv.1 = k)) = true then kvs.map (fun kv => if kv.1 = k then (kv.1, v) else kv) else kvs ++ [(k, v)]
def ddrop {α : Type} (kvs : List (L2.Key × α)) (k : L2.Key) : List (L2.Key × α) := kvs.filter fun kv => decide (kv.1 ≠ k)
def fget : List (Nat × D) → Nat → Option D
  | [], _ => none
  | (g, x) :: r, f => if g = f then some x else fget r f
def fput : List (Nat × D) → Nat → D → List (Nat × D)
  | [], f, v => [(f, v)]
  | (g, x) :: r, f, v => if g = f then (g, v) :: r else (g, x) :: fput r f v
def kOf : D → Option L2.Key
  | .int i => some (.inl i)
  | .str x => some (.inr x)
  | _ => none
def keyD : L2.Key → D
  | .inl i => .int i
  | .inr x => .str x

/-! ### reading the heap -/
def gtL (hp : Hq) (i : Nat) : Option (List D) := match hp[i]? with
  | some (.lst xs) => some xs
  | _ => none
def gtD (hp : Hq) (i : Nat) : Option (List (L2.Key × D)) := match hp[i]? with
  | some (.dic kvs) => some kvs
  | _ => none
def rdD (hp : Hq) (i : Nat) : Option (List (L2.Key × D)) := match hp[i]? with
  | some (.dic kvs) => some kvs
  | some (.fdic kvs) => some kvs
  | _ => none
def gtI (hp : Hq) (i : Nat) : Option (Nat × List (Nat × D)) := match hp[i]? with
  | some (.ins c fs) => some (c, fs)
  | _ => none
/-- a list's items -/
def lsOf (hp : Hq) : D → Option (List D)
  | .kl xs => some xs
  | .ref i => gtL hp i
  | _ => none
/-- a list's or tuple's -/
def sqOf (hp : Hq) : D → Option (List D)
  | .tup xs => some xs
  | .kl xs => some xs
  | .ref i => gtL hp i
  | _ => none

def mapO {α β : Type} (f : α → Option β) : List α → Option (List β)
  | [] => some []
  | x :: xs => match f x with
    | none => none
    | some y => match mapO f xs with
      | none => none
      | some ys => some (y :: ys)

/-- a value as plain data, lists read from the heap -/
def toP : Nat → Hq → D → Option PyData
  | 0, _, _ => none
  | n + 1, hp, d => match d with
    | .non => some .none
    | .bl b => some (.bool b)
    | .int i => some (.int i)
    | .str x => some (.str x)
    | .tup ds => (mapO (toP n hp) ds).map .tuple
    | .kl ds => (mapO (toP n hp) ds).map .list
    | .ref i => match gtL hp i with
      | some ds => (mapO (toP n hp) ds).map .list
      | none => none
    | _ => none

/-! ### the language -/
inductive BOp | add | sub | mul | fdiv | mod | pow
  deriving DecidableEq
inductive COp | eq | ne | lt | le | gt | ge | is | nis | isin | nin
  deriving DecidableEq
/-- built-in functions of evaluated arguments -/
inductive BF | len | list1 | tuple1 | dict1 | dict0 | int1 | str1 | repr | sum1 | max1 | min1 | max2 | min2 | sorted1 | all1 | any1 | isi
  deriving DecidableEq
/-- methods of built-in types -/
inductive BM | append | extend | pop0 | pop1 | pop2 | get1 | get2 | setdef | clear
  deriving DecidableEq

mutual
inductive Ex where
  | var (i : Nat)
  | lit (d : D)
  | glob (g : Nat)
  | bin (o : BOp) (a b : Ex)
  | neg (a : Ex)
  | cmp (o : COp) (a b : Ex)
  | cmp2 (o p : COp) (a b c : Ex)
  | and (a b : Ex)
  | or (a b : Ex)
  | not (a : Ex)
  | ite (c a b : Ex)
  | tup (es : Exs)
  | lst (es : Exs)
  | dic (es : Exs)
  | bty (n : String)
  | mmd (mx : Bool) (a d : Ex)
  | ix (a i : Ex)
  | sl (a : Ex) (lo hi : Exo)
  | fld (a : Ex) (f : Nat)
  | call (f : Nat) (es : Exs)
  | callK (f : Nat) (es : Exs) (pm : List (Sum Nat D))
  | make (c : Nat) (es : Exs)
  | makeK (c : Nat) (es : Exs) (pm : List (Sum Nat D))
  | meth (a : Ex) (m : Nat) (es : Exs)
  | methK (a : Ex) (m : Nat) (es : Exs) (pm : List (Sum Nat D))
  | blt (b : BF) (es : Exs)
  | bm (m : BM) (a : Ex) (es : Exs)
  | lc (own : List Nat) (t : Tg) (it : Ix) (c : Exo) (e : Ex)
  | dc (own : List Nat) (t : Tg) (it : Ix) (c : Exo) (k e : Ex)
  | lc2 (own own1 : List Nat) (t : Tg) (it : Ix) (t1 : Tg) (a e : Ex)
  | lenD (a : Ex) (m : Nat)
  | isx (a : Ex) (bs : List Bool)
  | xfd (a : Ex) (f : Nat)
inductive Exs where
  | nil
  | cons (e : Ex) (r : Exs)
inductive Exo where
  | no
  | so (e : Ex)
/-- targets -/
inductive Tg where
  | nm (i : Nat)
  | tp (ts : Tgs)
  | at (o : Ex) (f : Nat)
  | sb (o i : Ex)
inductive Tgs where
  | nil
  | cons (t : Tg) (r : Tgs)
/-- what is walked -/
inductive Ix where
  | vl (e : Ex)
  | rng1 (e : Ex)
  | rng2 (a b : Ex)
  | enum (e : Ex)
  | zip2 (a b : Ex)
  | items (e : Ex)
  | vals (e : Ex)
end

mutual
inductive St where
  | pass
  | brk
  | cont
  | expr (e : Ex)
  | ret (e : Exo)
  | asg (t : Tg) (e : Ex)
  | augn (i : Nat) (o : BOp) (e : Ex)
  | augf (o : Ex) (f : Nat) (p : BOp) (e : Ex)
  | ifs (c : Ex) (a b : Sts)
  | whl (c : Ex) (b : Sts)
  | for_ (t : Tg) (it : Ix) (b : Sts)
  | raise (c f : Nat) (e : Ex)
  | tryK (b : Sts) (bs : List Bool) (n k : Nat)
  | never
inductive Sts where
  | nil
  | cons (s : St) (r : Sts)
end

def Exs.len : Exs → Nat
  | .nil => 0
  | .cons _ r => r.len + 1
def Tgs.len : Tgs → Nat
  | .nil => 0
  | .cons _ r => r.len + 1

structure FnI where
  np : Nat
  ns : Nat
  body : Sts
structure ClsI where
  init : Nat
  meths : List (Nat × Nat)
structure Glob where
  fns : List FnI
  clss : List ClsI
  consts : List D

abbrev Cl := Nat → List D → Hq → QD → QX → Prop

def nfind : List (Nat × Nat) → Nat → Option Nat
  | [], _ => none
  | (k, v) :: r, m => if k = m then some v else nfind r m
def Glob.meth (g : Glob) (c m : Nat) : Option Nat := match g.clss[c]? with
  | some ci => nfind ci.meths m
  | none => none
def Glob.init (g : Glob) (c : Nat) : Option Nat := match g.clss[c]? with
  | some ci => some ci.init
  | none => none

/-! ### operations by values -/
def oNew (hp : Hq) (o : O) : OutD := .ok (.ref hp.length) (hp ++ [o])

def oBin : BOp → D → D → Hq → OutD
  | .add, .int i, .int j, hp => .ok (.int (i + j)) hp
  | .add, .str x, .str y, hp => .cd (x.length + y.length ≤ SZ) (.str (x ++ y)) hp
  | .add, .tup xs, .tup ys, hp => .cd (xs.length + ys.length ≤ SZ) (.tup (xs ++ ys)) hp
  | .add, .ref a, .ref b, hp => match gtL hp a, gtL hp b with
    | some xs, some ys => .cd (xs.length + ys.length ≤ SZ) (.ref hp.length) (hp ++ [.lst (xs ++ ys)])
    | _, _ => .no
  | .sub, .int i, .int j, hp => .ok (.int (i - j)) hp
  | .mul, .int i, .int j, hp => .cd ((-(2 ^ 64) < i ∧ i < 2 ^ 64) ∨ (-(2 ^ 64) < j ∧ j < 2 ^ 64)) (.int (i * j)) hp
  | .mul, .ref a, .int k, hp => match gtL hp a with
    | some xs => .cd (-(2 ^ 63) ≤ k ∧ k < 2 ^ 63 ∧ xs.length * k.toNat ≤ SZ) (.ref hp.length) (hp ++ [.lst (List.replicate k.toNat xs).flatten])
    | none => .no
  | .fdiv, .int i, .int j, hp => .cd (0 < j ∧ j < 1073741824) (.int (i / j)) hp
  | .mod, .int i, .int j, hp => .cd (0 < j) (.int (i % j)) hp
  | .pow, .int i, .int j, hp => .cd (0 ≤ j ∧ j ≤ 1000000 ∧ i.natAbs < 2 ^ 64) (.int (i ^ j.toNat)) hp
  | _, _, _, _ => .no

def oTru : D → Hq → OutB
  | .non, _ => .ok false
  | .bl b, _ => .ok b
  | .int i, _ => .ok (i != 0)
  | .str y, _ => .cd (y.length ≤ SZ) ((y.length : Int) != 0)
  | .tup xs, _ => .ok (!xs.isEmpty)
  | .kl xs, _ => .ok (!xs.isEmpty)
  | .ref i, hp => match hp[i]? with
    | some (.lst xs) => .ok (!xs.isEmpty)
    | some (.dic kvs) => .ok (!kvs.isEmpty)
    | _ => .no
  | _, _ => .no

/-- what is alike just by its own look -/
def flD : D → Bool
  | .non => true | .bl _ => true | .int _ => true | .str _ => true
  | _ => false
/-- two dicts that are alike -/
def oEqK (ks ls : List (L2.Key × D)) : OutB := .cd (ks.length = ls.length ∧ ∀ p ∈ ks, dget ls p.1 = some p.2 ∧ flD p.2 = true) true
def oEqP (x y : D) (hp : Hq) : OutB := match toP 40 hp x, toP 40 hp y with
  | some a, some b => .cd (SeqAt.shaped a = true ∧ SeqAt.shaped b = true) (PyData.eqv a b)
  | _, _ => .no
def oEqG (x y : D) (hp : Hq) : OutB := match x, y with
  | .ref i, .ref j => match gtD hp i, gtD hp j with
    | some ks, some ls => oEqK ks ls
    | _, _ => oEqP x y hp
  | _, _ => oEqP x y hp
def oEq : D → D → Hq → OutB
  | .int i, .int j, _ => .ok (decide (i = j))
  | .str x, .str y, _ => .ok (decide (x = y))
  | .bl a, .bl b, _ => .ok (decide (a = b))
  | .non, .non, _ => .ok true
  | x, y, hp => oEqG x y hp

def isNon : D → Bool
  | .non => true
  | _ => false

def oInS (x : D) (ys : List D) (hp : Hq) : OutB := match toP 40 hp x, mapO (toP 40 hp) ys with
  | some a, some bs => .cd (SeqAt.shaped a = true ∧ SeqAt.shaped (.list bs) = true) (bs.any fun b => PyData.eqv b a)
  | _, _ => .no
def oInD (x : D) (kvs : List (L2.Key × D)) : OutB := match kOf x with
  | some key => .ok (dget kvs key).isSome
  | none => .no
def oIn : D → D → Hq → OutB
  | x, .ref i, hp => match hp[i]? with
    | some (.dic kvs) => oInD x kvs
    | some (.fdic kvs) => oInD x kvs
    | some (.lst ys) => oInS x ys hp
    | _ => .no
  | x, .tup ys, hp => oInS x ys hp
  | x, .kl ys, hp => oInS x ys hp
  | _, _, _ => .no

def oCmp : COp → D → D → Hq → OutD
  | .eq, x, y, hp => (oEq x y hp).val false hp
  | .ne, x, y, hp => (oEq x y hp).val true hp
  | .lt, .int i, .int j, hp => .ok (.bl (decide (i < j))) hp
  | .le, .int i, .int j, hp => .ok (.bl (decide (i ≤ j))) hp
  | .gt, .int i, .int j, hp => .ok (.bl (decide (j < i))) hp
  | .ge, .int i, .int j, hp => .ok (.bl (decide (j ≤ i))) hp
  | .is, x, .non, hp => .ok (.bl (isNon x)) hp
  | .nis, x, .non, hp => .ok (.bl (!isNon x)) hp
  | .isin, x, y, hp => (oIn x y hp).val false hp
  | .nin, x, y, hp => (oIn x y hp).val true hp
  | _, _, _, _ => .no

def oAtI (xs : List D) (i : Int) (hp : Hq) : OutD := match L2.atI xs i with
  | some d => .ok d hp
  | none => .no
def oAtK (kvs : List (L2.Key × D)) (x : D) (hp : Hq) : OutD := match kOf x with
  | some key => match dget kvs key with
    | some d => .ok d hp
    | none => .no
  | none => .no
def oIx : D → D → Hq → OutD
  | .tup xs, .int i, hp => oAtI xs i hp
  | .kl xs, .int i, hp => oAtI xs i hp
  | .ref a, x, hp => match hp[a]? with
    | some (.dic kvs) => oAtK kvs x hp
    | some (.fdic kvs) => oAtK kvs x hp
    | some (.lst xs) => match x with
      | .int i => oAtI xs i hp
      | _ => .no
    | _ => .no
  | _, _, _ => .no

def cutD {α : Type} (xs : List α) (lo hi : Option Int) : List α := (xs.drop (HT.sIx xs.length 0 lo)).take (HT.sIx xs.length xs.length hi - HT.sIx xs.length 0 lo)
def bnd : Option D → Option (Option Int)
  | none => some none
  | some (.int i) => some (some i)
  | _ => none
def oSl (x : D) (l h : Option Int) (hp : Hq) : OutD := match x with
  | .tup xs => .ok (.tup (cutD xs l h)) hp
  | .ref a => match gtL hp a with
    | some xs => oNew hp (.lst (cutD xs l h))
    | none => .no
  | _ => .no

def intsOf : List D → Option (List Int)
  | [] => some []
  | .int i :: r => match intsOf r with
    | some ns => some (i :: ns)
    | none => none
  | _ => none
def boolsOf : List D → Option (List Bool)
  | [] => some []
  | .bl b :: r => match boolsOf r with
    | some bs => some (b :: bs)
    | none => none
  | _ => none
def imax : Int → List Int → Int
  | m, [] => m
  | m, n :: r => imax (if n > m then n else m) r
def imin : Int → List Int → Int
  | m, [] => m
  | m, n :: r => imin (if n < m then n else m) r

/-- the built-in type of a value -/
def tyOf (hp : Hq) : D → Option String
  | .non => some "NoneType"
  | .bl _ => some "bool"
  | .int _ => some "int"
  | .str _ => some "str"
  | .tup _ => some "tuple"
  | .kl _ => some "list"
  | .ref i => match hp[i]? with
    | some (.lst _) => some "list"
    | some (.dic _) => some "dict"
    | some (.fdic _) => some "dict"
    | _ => none
  | _ => none
def tyAll : List String := ["int", "str", "bool", "tuple", "list", "dict"]
def isiB (a b : String) : Bool := a == b || (a == "bool" && b == "int")
def oMmd (mx : Bool) (x y : D) (hp : Hq) : OutD := match (lsOf hp x).bind intsOf with
  | some [] => .ok y hp
  | some (n :: ns) => .ok (.int (if mx then imax n ns else imin n ns)) hp
  | none => .no
def pairsOf : List D → Option (List (L2.Key × D))
  | [] => some []
  | k :: v :: r => match kOf k, pairsOf r with
    | some k, some kvs => some ((k, v) :: kvs)
    | _, _ => none
  | _ => none

/-- a list of pairs, the keys ints or texts -/
def prsOf : List D → Option (List (L2.Key × D))
  | [] => some []
  | .tup [k, v] :: r => match kOf k, prsOf r with
    | some k, some kvs => some ((k, v) :: kvs)
    | _, _ => none
  | _ => none
def oBF : BF → List D → Hq → OutD
  | .len, [.str x], hp => .cd (x.length ≤ SZ) (.int x.length) hp
  | .len, [.tup xs], hp => .ok (.int xs.length) hp
  | .len, [.kl xs], hp => .ok (.int xs.length) hp
  | .len, [.ref i], hp => match hp[i]? with
    | some (.lst xs) => .ok (.int xs.length) hp
    | some (.dic kvs) => .ok (.int kvs.length) hp
    | some (.fdic kvs) => .ok (.int kvs.length) hp
    | _ => .no
  | .list1, [x], hp => match sqOf hp x with
    | some xs => oNew hp (.lst xs)
    | none => .no
  | .tuple1, [x], hp => match sqOf hp x with
    | some xs => .ok (.tup xs) hp
    | none => .no
  | .dict1, [x], hp => match lsOf hp x with
    | some xs => match prsOf xs with
      | some kvs => oNew hp (.dic (kvs.foldl (fun acc kv => dput acc kv.1 kv.2) []))
      | none => .no
    | none => match x with
      | .ref i => match rdD hp i with
        | some kvs => oNew hp (.dic kvs)
        | none => .no
      | _ => .no
  | .int1, [.int i], hp => .ok (.int i) hp
  | .int1, [.bl b], hp => .ok (.int (if b then 1 else 0)) hp
  | .repr, [x], hp => match toP 40 hp x with
    | some a => .cd (SeqAt.shaped a = true ∧ a.showable = true ∧ a.shown.length ≤ SZ) (.str a.shown) hp
    | none => .no
  | .sum1, [x], hp => match (lsOf hp x).bind intsOf with
    | some ns => .ok (.int ns.sum) hp
    | none => .no
  | .max2, [.int i, .int j], hp => .ok (.int (if j > i then j else i)) hp
  | .min2, [.int i, .int j], hp => .ok (.int (if j < i then j else i)) hp
  | .max1, [x], hp => match (lsOf hp x).bind intsOf with
    | some (n :: ns) => .ok (.int (imax n ns)) hp
    | _ => .no
  | .min1, [x], hp => match (lsOf hp x).bind intsOf with
    | some (n :: ns) => .ok (.int (imin n ns)) hp
    | _ => .no
  | .all1, [x], hp => match (lsOf hp x).bind boolsOf with
    | some bs => .ok (.bl (bs.all id)) hp
    | none => .no
  | .any1, [x], hp => match (lsOf hp x).bind boolsOf with
    | some bs => .ok (.bl (bs.any id)) hp
    | none => .no
  | .isi, [x, .ty b], hp => match tyOf hp x with
    | some a => if tyAll.contains b then .ok (.bl (isiB a b)) hp else .no
    | none => .no
  | _, _, _ => .no

/-- the kind of a receiver that has such a method -/
inductive BK | lst | dic | str
  deriving DecidableEq
def bmK : BM → D → Hq → Option BK
  | .append, .ref i, hp => match hp[i]? with
    | some (.lst _) => some .lst
    | _ => none
  | .get1, .ref i, hp => match hp[i]? with
    | some (.dic _) => some .dic
    | some (.fdic _) => some .dic
    | _ => none
  | .get2, .ref i, hp => match hp[i]? with
    | some (.dic _) => some .dic
    | some (.fdic _) => some .dic
    | _ => none
  | .pop1, .ref i, hp => match hp[i]? with
    | some (.dic _) => some .dic
    | some (.lst _) => some .lst
    | _ => none
  | .pop2, .ref i, hp => match hp[i]? with
    | some (.dic _) => some .dic
    | _ => none
  | .clear, .ref i, hp => match hp[i]? with
    | some (.lst _) => some .lst
    | some (.dic _) => some .dic
    | _ => none
  | _, _, _ => none
def oBM : BM → BK → D → List D → Hq → OutD
  | .append, .lst, .ref i, [d], hp => match gtL hp i with
    | some xs => .cd (xs.length < SZ) .non (hp.set i (.lst (xs ++ [d])))
    | none => .no
  | .get1, .dic, .ref i, [x], hp => match rdD hp i, kOf x with
    | some kvs, some k => .ok ((dget kvs k).getD .non) hp
    | _, _ => .no
  | .get2, .dic, .ref i, [x, y], hp => match rdD hp i, kOf x with
    | some kvs, some k => .ok ((dget kvs k).getD y) hp
    | _, _ => .no
  | .pop2, .dic, .ref i, [x, y], hp => match gtD hp i, kOf x with
    | some kvs, some k => match dget kvs k with
      | some d => .ok d (hp.set i (.dic (ddrop kvs k)))
      | none => .ok y hp
    | _, _ => .no
  | .pop1, .dic, .ref i, [x], hp => match gtD hp i, kOf x with
    | some kvs, some k => match dget kvs k with
      | some d => .ok d (hp.set i (.dic (ddrop kvs k)))
      | none => .no
    | _, _ => .no
  | .pop1, .lst, .ref i, [.int z], hp => match gtL hp i with
    | some xs => match L2.ixN xs.length z with
      | some j => match xs[j]? with
        | some d => .cd (-(2 ^ 63) ≤ z ∧ z < 2 ^ 63) d (hp.set i (.lst (xs.eraseIdx j)))
        | none => .no
      | none => .no
    | none => .no
  | .clear, .lst, .ref i, [], hp => match gtL hp i with
    | some _ => .ok .non (hp.set i (.lst []))
    | none => .no
  | .clear, .dic, .ref i, [], hp => match gtD hp i with
    | some _ => .ok .non (hp.set i (.dic []))
    | none => .no
  | _, _, _, _, _ => .no

def oSet : D → D → D → Hq → OutH
  | .ref a, x, v, hp => match hp[a]? with
    | some (.dic kvs) => match kOf x with
      | some key => .cd (kvs.length < SZ) (hp.set a (.dic (dput kvs key v)))
      | none => .no
    | some (.lst xs) => match x with
      | .int i => match L2.ixN xs.length i with
        | some j => .ok (hp.set a (.lst (xs.set j v)))
        | none => .no
      | _ => .no
    | _ => .no
  | _, _, _, _ => .no

def oGetF : D → Nat → Hq → OutD
  | .ref i, f, hp => match gtI hp i with
    | some (_, fs) => match fget fs f with
      | some d => .ok d hp
      | none => .no
    | none => .no
  | _, _, _ => .no
/-- a kept exception: is it of the classes that bs tells; its field -/
def gtX (hp : Hq) (i : Nat) : Option (Nat × Nat) := match hp[i]? with
  | some (.xob c me j) => if me = i then some (c, j) else none
  | _ => none
def oIsX (bs : List Bool) : D → Hq → OutD
  | .ref i, hp => match gtX hp i with
    | some (c, j) => match hp[j]?, bs[c]? with
      | some (.xd _ _), some b => .ok (.bl b) hp
      | _, _ => .no
    | none => .no
  | _, _ => .no
def oXF : D → Nat → Hq → OutD
  | .ref i, f, hp => match gtX hp i with
    | some (_, j) => match hp[j]? with
      | some (.xd _ [(g, d)]) => if g = f then .ok d hp else .no
      | _ => .no
    | none => .no
  | _, _, _ => .no
def oSetF : D → Nat → D → Hq → OutH
  | .ref i, f, v, hp => match gtI hp i with
    | some (c, fs) => .cd (fs.length < 900) (hp.set i (.ins c (fput fs f v)))
    | none => .no
  | _, _, _, _ => .no
def oAug : BOp → D → D → Hq → OutD
  | .add, .int i, .int j, hp => .ok (.int (i + j)) hp
  | .sub, .int i, .int j, hp => .ok (.int (i - j)) hp
  | _, _, _, _ => .no

/-! ### loops -/
structure Itr where
  nx : Nat → Hq → Option (Option D)
  un : Hq → Hq

/-- a comprehension: body hands on an item, or none where the test fails -/
def lcLoop (nx : Nat → Hq → Option (Option D)) (body : D → Hq → (Option D → Hq → Prop) → Prop) : Nat → Nat → List D → Hq → (List D → Hq → Prop) → Prop
  | 0, _, _, _, _ => False
  | N + 1, j, acc, hp, k => match nx j hp with
    | none => False
    | some none => k acc hp
    | some (some d) => body d hp fun r hp' => match r with
      | none => lcLoop nx body N (j + 1) acc hp' k
      | some y => acc.length < SZ ∧ lcLoop nx body N (j + 1) (acc ++ [y]) hp' k

/-- a dict comprehension: body hands on a key and a value -/
def dcLoop (nx : Nat → Hq → Option (Option D)) (body : D → Hq → (Option (D × D) → Hq → Prop) → Prop) : Nat → Nat → List (L2.Key × D) → Hq → (List (L2.Key × D) → Hq → Prop) → Prop
  | 0, _, _, _, _ => False
  | N + 1, j, acc, hp, k => match nx j hp with
    | none => False
    | some none => k acc hp
    | some (some d) => body d hp fun r hp' => match r with
      | none => dcLoop nx body N (j + 1) acc hp' k
      | some (y, z) => match kOf y with
        | some key => acc.length < SZ ∧ dcLoop nx body N (j + 1) (dput acc key z) hp' k
        | none => False
/-- a comprehension whose turns hand on what stands so far -/
def acLoop (nx : Nat → Hq → Option (Option D)) (body : D → List D → Hq → (List D → Hq → Prop) → Prop) : Nat → Nat → List D → Hq → (List D → Hq → Prop) → Prop
  | 0, _, _, _, _ => False
  | N + 1, j, acc, hp, k => match nx j hp with
    | none => False
    | some none => k acc hp
    | some (some d) => body d acc hp fun acc' hp' => acLoop nx body N (j + 1) acc' hp' k

def forLoop (nx : Nat → Hq → Option (Option D)) (body : D → Env → Hq → (Env → Hq → Prop) → Prop) : Nat → Nat → Env → Hq → (Env → Hq → Prop) → Prop
  | 0, _, _, _, _ => False
  | N + 1, j, env, hp, k => match nx j hp with
    | none => False
    | some none => k env hp
    | some (some d) => body d env hp fun env' hp' => forLoop nx body N (j + 1) env' hp' k

def whLoop (body : Env → Hq → (Env → Hq → Prop) → (Env → Hq → Prop) → Prop) : Nat → Env → Hq → (Env → Hq → Prop) → Prop
  | 0, _, _, _ => False
  | N + 1, env, hp, k => body env hp (fun env' hp' => whLoop body N env' hp' k) k

def wipeE (env : Env) : List Nat → Env
  | [] => env
  | i :: r => (wipeE env r).set i none

def perm (pm : List (Sum Nat D)) (ds : List D) : Option (List D) := mapO (fun p => match p with
  | .inl j => ds[j]?
  | .inr d => some d) pm

def itFix (xs : List D) : Itr := ⟨fun j _ => some xs[j]?, id⟩
def itLst (i : Nat) : Itr := ⟨fun j h => (gtL h i).map fun xs => xs[j]?, id⟩
def itSeq (hp : Hq) : D → Option (Itr × Hq)
  | .tup ds => some (itFix ds, hp)
  | .kl ds => some (itFix ds, hp)
  | .ref i => match hp[i]? with
    | some (.lst _) => some (itLst i, hp)
    | some (.dic kvs) => some (⟨fun j _ => some ((kvs.map fun kv => keyD kv.1)[j]?), fun h => h.set i (.dic kvs)⟩, hp.set i (.fdic kvs))
    | some (.fdic kvs) => some (itFix (kvs.map fun kv => keyD kv.1), hp)
    | _ => none
  | .str x => some (⟨fun j _ => some ((x.cps[j]?).map fun c => .str ⟨#[c]⟩), id⟩, hp)
  | _ => none
/-- .. of lists and tuples alone -/
def itSq (hp : Hq) : D → Option Itr
  | .tup ds => some (itFix ds)
  | .kl ds => some (itFix ds)
  | .ref i => match hp[i]? with
    | some (.lst _) => some (itLst i)
    | _ => none
  | _ => none
def itDic (f : L2.Key × D → D) (hp : Hq) : D → Option (Itr × Hq)
  | .ref i => match hp[i]? with
    | some (.dic kvs) => some (⟨fun j _ => some ((kvs.map f)[j]?), fun h => h.set i (.dic kvs)⟩, hp.set i (.fdic kvs))
    | some (.fdic kvs) => some (itFix (kvs.map f), hp)
    | _ => none
  | _ => none
def itRng (lo hi : Int) : Itr := ⟨fun j _ => some (if (j : Int) < hi - lo then some (.int (lo + j)) else none), id⟩
def rngOk (lo hi : Int) : Prop := (-(2 ^ 62) ≤ lo ∧ lo < 2 ^ 62) ∧ -(2 ^ 62) ≤ hi ∧ hi < 2 ^ 62
def itEnum (i : Nat) : Itr := ⟨fun j h => (gtL h i).map fun xs => (xs[j]?).map fun d => .tup [.int j, d], id⟩
def itZip (a b : Nat) : Itr := ⟨fun j h => match gtL h a, gtL h b with
  | some xs, some ys => match xs[j]?, ys[j]? with
    | some x, some y => some (some (.tup [x, y]))
    | none, _ => some none
    | _, none => some none
  | _, _ => none, id⟩

/-! ### runs -/
structure KS where
  nx : Env → Hq → Prop
  bk : Env → Hq → Prop
  ct : Env → Hq → Prop
  rt : QD
  ex : Nat → Nat → Env → Hq → Prop

section
variable (g : Glob) (cl : Cl)
mutual
def wE : Ex → Env → Hq → QD → QX → Prop
  | .var i, env, hp, Q, _ => match env[i]? with
    | some (some d) => Q d hp
    | _ => False
  | .lit d, _, hp, Q, _ => Q d hp
  | .glob k, _, hp, Q, _ => match g.consts[k]? with
    | some d => Q d hp
    | none => False
  | .bin o a b, env, hp, Q, E => wE a env hp (fun x hp => wE b env hp (fun y hp => (oBin o x y hp).app Q) E) E
  | .neg a, env, hp, Q, E => wE a env hp (fun x hp => match x with
    | .int i => Q (.int (-i)) hp
    | _ => False) E
  | .cmp o a b, env, hp, Q, E => wE a env hp (fun x hp => wE b env hp (fun y hp => (oCmp o x y hp).app Q) E) E
  | .cmp2 o p a b c, env, hp, Q, E => wE a env hp (fun x hp => wE b env hp (fun y hp => (oCmp o x y hp).app fun r hp => match r with
    | .bl true => wE c env hp (fun z hp => (oCmp p y z hp).app Q) E
    | .bl false => Q (.bl false) hp
    | _ => False) E) E
  | .and a b, env, hp, Q, E => wE a env hp (fun x hp => (oTru x hp).app fun t => if t = true then wE b env hp Q E else Q x hp) E
  | .or a b, env, hp, Q, E => wE a env hp (fun x hp => (oTru x hp).app fun t => if t = true then Q x hp else wE b env hp Q E) E
  | .not a, env, hp, Q, E => wE a env hp (fun x hp => (oTru x hp).app fun t => Q (.bl (!t)) hp) E
  | .ite c a b, env, hp, Q, E => wE c env hp (fun x hp => (oTru x hp).app fun t => if t = true then wE a env hp Q E else wE b env hp Q E) E
  | .tup es, env, hp, Q, E => wEs es env hp (fun ds hp => Q (.tup ds) hp) E
  | .lst es, env, hp, Q, E => wEs es env hp (fun ds hp => Q (.ref hp.length) (hp ++ [.lst ds])) E
  | .dic es, env, hp, Q, E => wEs es env hp (fun ds hp => match pairsOf ds with
    | some kvs => Q (.ref hp.length) (hp ++ [.dic (kvs.foldl (fun acc kv => dput acc kv.1 kv.2) [])])
    | none => False) E
  | .bty n, _, hp, Q, _ => Q (.ty n) hp
  | .mmd mx a d, env, hp, Q, E => wE a env hp (fun x hp => wE d env hp (fun y hp => (oMmd mx x y hp).app Q) E) E
  | .ix a i, env, hp, Q, E => wE a env hp (fun x hp => wE i env hp (fun y hp => (oIx x y hp).app Q) E) E
  | .sl a lo hi, env, hp, Q, E => wE a env hp (fun x hp => wEo lo env hp (fun l hp => match bnd l with
    | some l => wEo hi env hp (fun h hp => match bnd h with
      | some h => (oSl x l h hp).app Q
      | none => False) E
    | none => False) E) E
  | .fld a f, env, hp, Q, E => wE a env hp (fun x hp => (oGetF x f hp).app Q) E
  | .call f es, env, hp, Q, E => wEs es env hp (fun ds hp => cl f ds hp Q E) E
  | .callK f es pm, env, hp, Q, E => wEs es env hp (fun ds hp => match perm pm ds with
    | some vs => cl f vs hp Q E
    | none => False) E
  | .make c es, env, hp, Q, E => wEs es env hp (fun ds hp => match g.init c with
    | some f => cl f (.ref hp.length :: ds) (hp ++ [.ins c []]) (fun v hp' => match v with
      | .non => Q (.ref hp.length) hp'
      | _ => False) E
    | none => False) E
  | .makeK c es pm, env, hp, Q, E => wEs es env hp (fun ds hp => match g.init c, perm pm ds with
    | some f, some vs => cl f (.ref hp.length :: vs) (hp ++ [.ins c []]) (fun v hp' => match v with
      | .non => Q (.ref hp.length) hp'
      | _ => False) E
    | _, _ => False) E
  | .meth a m es, env, hp, Q, E => wE a env hp (fun x hp => match x with
    | .ref i => match gtI hp i with
      | some (c, _) => match g.meth c m with
        | some f => wEs es env hp (fun ds hp => cl f (.ref i :: ds) hp Q E) E
        | none => False
      | none => False
    | _ => False) E
  | .methK a m es pm, env, hp, Q, E => wE a env hp (fun x hp => match x with
    | .ref i => match gtI hp i with
      | some (c, _) => match g.meth c m with
        | some f => wEs es env hp (fun ds hp => match perm pm ds with
          | some vs => cl f (.ref i :: vs) hp Q E
          | none => False) E
        | none => False
      | none => False
    | _ => False) E
  | .blt b es, env, hp, Q, E => wEs es env hp (fun ds hp => (oBF b ds hp).app Q) E
  | .bm m a es, env, hp, Q, E => wE a env hp (fun x hp => match bmK m x hp with
    | some k => wEs es env hp (fun ds hp => (oBM m k x ds hp).app Q) E
    | none => False) E
  | .lc own t it c e, env, hp, Q, E => wIt it env hp (fun itr hp => ∃ N, lcLoop itr.nx (fun d hp k => wTg t d (wipeE env own) hp fun env2 hp =>
      wEo c env2 hp (fun r hp => match r with
        | none => wE e env2 hp (fun y hp => k (some y) hp) fun _ _ _ => False
        | some x => (oTru x hp).app fun b => if b = true then wE e env2 hp (fun y hp => k (some y) hp) fun _ _ _ => False else k none hp) fun _ _ _ => False)
      N 0 [] hp fun ds hp => Q (.ref (itr.un hp).length) (itr.un hp ++ [.lst ds])) E
  | .dc own t it c k e, env, hp, Q, E => wIt it env hp (fun itr hp => ∃ N, dcLoop itr.nx (fun d hp kk => wTg t d (wipeE env own) hp fun env2 hp =>
      wEo c env2 hp (fun r hp => match r with
        | none => wE k env2 hp (fun y hp => wE e env2 hp (fun z hp => kk (some (y, z)) hp) fun _ _ _ => False) fun _ _ _ => False
        | some x => (oTru x hp).app fun b => if b = true then wE k env2 hp (fun y hp => wE e env2 hp (fun z hp => kk (some (y, z)) hp) fun _ _ _ => False) fun _ _ _ => False else kk none hp) fun _ _ _ => False)
      N 0 [] hp fun ds hp => Q (.ref (itr.un hp).length) (itr.un hp ++ [.dic ds])) E
  | .lc2 own own1 t it t1 a e, env, hp, Q, E => wIt it env hp (fun itr hp => ∃ N, acLoop itr.nx (fun d acc hp k => wTg t d (wipeE env own) hp fun env2 hp =>
      wE a env2 hp (fun x hp => match itSq hp x with
        | some it1 => ∃ M, lcLoop it1.nx (fun d hp k1 => wTg t1 d (wipeE env2 own1) hp fun env3 hp => wE e env3 hp (fun y hp => k1 (some y) hp) fun _ _ _ => False) M 0 acc hp k
        | none => False) fun _ _ _ => False)
      N 0 [] hp fun ds hp => Q (.ref (itr.un hp).length) (itr.un hp ++ [.lst ds])) E
  | .lenD a m, env, hp, Q, E => wE a env hp (fun x hp => match x with
    | .ref i => match gtI hp i with
      | some (c, _) => match g.meth c m with
        | some f => cl f [.ref i] hp (fun v hp => match v with
          | .int n => (0 ≤ n ∧ n < 2 ^ 62) ∧ Q (.int n) hp
          | _ => False) fun _ _ _ => False
        | none => False
      | none => (oBF .len [x] hp).app Q
    | _ => (oBF .len [x] hp).app Q) E
  | .isx a bs, env, hp, Q, E => wE a env hp (fun x hp => (oIsX bs x hp).app Q) E
  | .xfd a f, env, hp, Q, E => wE a env hp (fun x hp => (oXF x f hp).app Q) E
def wEs : Exs → Env → Hq → (List D → Hq → Prop) → QX → Prop
  | .nil, _, hp, Q, _ => Q [] hp
  | .cons e r, env, hp, Q, E => wE e env hp (fun d hp => wEs r env hp (fun ds hp => Q (d :: ds) hp) E) E
def wEo : Exo → Env → Hq → (Option D → Hq → Prop) → QX → Prop
  | .no, _, hp, Q, _ => Q none hp
  | .so e, env, hp, Q, E => wE e env hp (fun d hp => Q (some d) hp) E
def wTg : Tg → D → Env → Hq → (Env → Hq → Prop) → Prop
  | .nm i, d, env, hp, k => k (env.set i (some d)) hp
  | .tp ts, d, env, hp, k => match d with
    | .tup ds => ds.length = ts.len ∧ wTgs ts ds env hp k
    | _ => False
  | .at o f, d, env, hp, k => wE o env hp (fun x hp => (oSetF x f d hp).app (k env)) fun _ _ _ => False
  | .sb o i, d, env, hp, k => wE o env hp (fun x hp => wE i env hp (fun y hp => (oSet x y d hp).app (k env)) fun _ _ _ => False) fun _ _ _ => False
def wTgs : Tgs → List D → Env → Hq → (Env → Hq → Prop) → Prop
  | .nil, ds, env, hp, k => match ds with
    | [] => k env hp
    | _ => False
  | .cons t r, ds, env, hp, k => match ds with
    | d :: ds => wTg t d env hp fun env hp => wTgs r ds env hp k
    | [] => False
def wIt : Ix → Env → Hq → (Itr → Hq → Prop) → QX → Prop
  | .vl e, env, hp, k, E => wE e env hp (fun x hp => match itSeq hp x with
    | some (itr, hp) => k itr hp
    | none => False) E
  | .rng1 e, env, hp, k, E => wE e env hp (fun x hp => match x with
    | .int j => (-(2 ^ 62) ≤ j ∧ j < 2 ^ 62) ∧ k (itRng 0 j) hp
    | _ => False) E
  | .rng2 a b, env, hp, k, E => wE a env hp (fun x hp => wE b env hp (fun y hp => match x, y with
    | .int i, .int j => rngOk i j ∧ k (itRng i j) hp
    | _, _ => False) E) E
  | .enum e, env, hp, k, E => wE e env hp (fun x hp => match x with
    | .ref i => match gtL hp i with
      | some _ => k (itEnum i) hp
      | none => False
    | _ => False) E
  | .zip2 a b, env, hp, k, E => wE a env hp (fun x hp => wE b env hp (fun y hp => match x, y with
    | .ref i, .ref j => match gtL hp i, gtL hp j with
      | some _, some _ => k (itZip i j) hp
      | _, _ => False
    | _, _ => False) E) E
  | .items e, env, hp, k, E => wE e env hp (fun x hp => match itDic (fun kv => .tup [keyD kv.1, kv.2]) hp x with
    | some (itr, hp) => k itr hp
    | none => False) E
  | .vals e, env, hp, k, E => wE e env hp (fun x hp => match itDic (fun kv => kv.2) hp x with
    | some (itr, hp) => k itr hp
    | none => False) E
end

mutual
def wS : St → Env → Hq → KS → Prop
  | .pass, env, hp, K => K.nx env hp
  | .brk, env, hp, K => K.bk env hp
  | .cont, env, hp, K => K.ct env hp
  | .expr e, env, hp, K => wE g cl e env hp (fun _ hp => K.nx env hp) fun c i hp => K.ex c i env hp
  | .ret e, env, hp, K => wEo g cl e env hp (fun d hp => K.rt (d.getD .non) hp) fun c i hp => K.ex c i env hp
  | .asg t e, env, hp, K => wE g cl e env hp (fun d hp => wTg g cl t d env hp K.nx) fun c i hp => K.ex c i env hp
  | .augn i o e, env, hp, K => match env[i]? with
    | some (some x) => wE g cl e env hp (fun y hp => (oAug o x y hp).app fun z hp => K.nx (env.set i (some z)) hp) fun c i hp => K.ex c i env hp
    | _ => False
  | .augf a f o e, env, hp, K => wE g cl a env hp (fun r hp => (oGetF r f hp).app fun x hp => wE g cl e env hp (fun y hp => (oAug o x y hp).app fun z hp => (oSetF r f z hp).app (K.nx env)) fun c i hp => K.ex c i env hp) fun c i hp => K.ex c i env hp
  | .ifs c a b, env, hp, K => wE g cl c env hp (fun x hp => (oTru x hp).app fun t => if t = true then wSs a env hp K else wSs b env hp K) fun c i hp => K.ex c i env hp
  | .whl c b, env, hp, K => ∃ N, whLoop (fun env hp kn ke => wE g cl c env hp (fun x hp => (oTru x hp).app fun t => if t = true then wSs b env hp { K with nx := kn, ct := kn, bk := K.nx } else ke env hp) fun c i hp => K.ex c i env hp) N env hp K.nx
  | .for_ t it b, env, hp, K => wIt g cl it env hp (fun itr hp => ∃ N, forLoop itr.nx (fun d env hp kn => wTg g cl t d env hp fun env hp =>
      wSs b env hp { nx := kn, ct := kn, bk := fun env hp => K.nx env (itr.un hp), rt := fun d hp => K.rt d (itr.un hp), ex := K.ex }) N 0 env hp fun env hp => K.nx env (itr.un hp)) fun c i hp => K.ex c i env hp
  | .raise c f e, env, hp, K => wE g cl e env hp (fun d hp => K.ex c hp.length env (hp ++ [.xd c [(f, d)]])) fun c i hp => K.ex c i env hp
  | .tryK b bs n k, env, hp, K => wSs b env hp { K with ex := fun c i env hp => match bs[c]? with
    | some true => K.nx ((env.set k (some (.ref hp.length))).set n none) (hp ++ [.xob c hp.length i])
    | some false => K.ex c i env hp
    | none => False }
  | .never, _, _, _ => False
def wSs : Sts → Env → Hq → KS → Prop
  | .nil, env, hp, K => K.nx env hp
  | .cons s r, env, hp, K => wS s env hp { K with nx := fun env hp => wSs r env hp K }
end
end

def wCall (g : Glob) : Nat → Cl
  | 0, _, _, _, _, _ => False
  | n + 1, f, ds, hp, Q, E => match g.fns[f]? with
    | none => False
    | some fi => ds.length = fi.np ∧ wSs g (wCall g n) fi.body (ds.map some ++ List.replicate (fi.ns - fi.np) none) hp
        { nx := fun _ hp => Q .non hp, bk := fun _ _ => False, ct := fun _ _ => False, rt := Q, ex := fun c i _ hp => E c i hp }
end MI
/-! MI, part 2: what holds of less holds of more. -/
namespace MI
open PySem

theorem OutD.mono {o : OutD} {Q Q' : QD} (h : ∀ d hp, Q d hp → Q' d hp) (q : o.app Q) : o.app Q' := by
  cases o with
  | no => exact q
  | ok d hp => exact h _ _ q
  | cd C d hp => exact ⟨q.1, h _ _ q.2⟩
theorem OutB.mono {o : OutB} {k k' : Bool → Prop} (h : ∀ b, k b → k' b) (q : o.app k) : o.app k' := by
  cases o with
  | no => exact q
  | ok b => exact h _ q
  | cd C b => exact ⟨q.1, h _ q.2⟩
theorem OutH.mono {o : OutH} {k k' : Hq → Prop} (h : ∀ hp, k hp → k' hp) (q : o.app k) : o.app k' := by
  cases o with
  | no => exact q
  | ok b => exact h _ q
  | cd C b => exact ⟨q.1, h _ q.2⟩

def ClMono (cl : Cl) : Prop := ∀ f ds hp (Q Q' : QD) (E E' : QX), (∀ d h, Q d h → Q' d h) → (∀ c i h, E c i h → E' c i h) → cl f ds hp Q E → cl f ds hp Q' E'

theorem lcLoop_mono {nx : Nat → Hq → Option (Option D)} {body body' : D → Hq → (Option D → Hq → Prop) → Prop}
    (hb : ∀ d hp (k k' : Option D → Hq → Prop), (∀ r h, k r h → k' r h) → body d hp k → body' d hp k') :
    ∀ N j acc hp (k k' : List D → Hq → Prop), (∀ r h, k r h → k' r h) → lcLoop nx body N j acc hp k → lcLoop nx body' N j acc hp k' := by
  intro N
  induction N with
  | zero => intro j acc hp k k' _ h; exact h
  | succ N ih =>
    intro j acc hp k k' hk h
    unfold lcLoop at h ⊢
    cases e : nx j hp with
    | none => rw [e] at h; exact h
    | some o =>
      rw [e] at h
      cases o with
      | none => exact hk _ _ h
      | some d =>
        refine hb d hp _ _ (fun r h1 q => ?_) h
        cases r with
        | none => exact ih _ _ _ _ _ hk q
        | some y => exact ⟨q.1, ih _ _ _ _ _ hk q.2⟩
theorem dcLoop_mono {nx : Nat → Hq → Option (Option D)} {body body' : D → Hq → (Option (D × D) → Hq → Prop) → Prop}
    (hb : ∀ d hp (k k' : Option (D × D) → Hq → Prop), (∀ r h, k r h → k' r h) → body d hp k → body' d hp k') :
    ∀ N j acc hp (k k' : List (L2.Key × D) → Hq → Prop), (∀ r h, k r h → k' r h) → dcLoop nx body N j acc hp k → dcLoop nx body' N j acc hp k' := by
  intro N
  induction N with
  | zero => intro j acc hp k k' _ h; exact h
  | succ N ih =>
    intro j acc hp k k' hk h
    unfold dcLoop at h ⊢
    cases e : nx j hp with
    | none => rw [e] at h; exact h
    | some o =>
      rw [e] at h
      cases o with
      | none => exact hk _ _ h
      | some d =>
        refine hb d hp _ _ (fun r h1 q => ?_) h
        cases r with
        | none => exact ih _ _ _ _ _ hk q
        | some p =>
          obtain ⟨y, z⟩ := p
          simp only at q ⊢
          cases e2 : kOf y with
          | none => simp only [e2] at q
          | some key =>
            simp only [e2] at q
            exact ⟨q.1, ih _ _ _ _ _ hk q.2⟩
theorem acLoop_mono {nx : Nat → Hq → Option (Option D)} {body body' : D → List D → Hq → (List D → Hq → Prop) → Prop}
    (hb : ∀ d acc hp (k k' : List D → Hq → Prop), (∀ r h, k r h → k' r h) → body d acc hp k → body' d acc hp k') :
    ∀ N j acc hp (k k' : List D → Hq → Prop), (∀ r h, k r h → k' r h) → acLoop nx body N j acc hp k → acLoop nx body' N j acc hp k' := by
  intro N
  induction N with
  | zero => intro j acc hp k k' _ h; exact h
  | succ N ih =>
    intro j acc hp k k' hk h
    unfold acLoop at h ⊢
    cases e : nx j hp with
    | none => rw [e] at h; exact h
    | some o =>
      rw [e] at h
      cases o with
      | none => exact hk _ _ h
      | some d => exact hb d acc hp _ _ (fun r h1 q => ih _ _ _ _ _ hk q) h
theorem forLoop_mono {nx : Nat → Hq → Option (Option D)} {body body' : D → Env → Hq → (Env → Hq → Prop) → Prop}
    (hb : ∀ d env hp (k k' : Env → Hq → Prop), (∀ r h, k r h → k' r h) → body d env hp k → body' d env hp k') :
    ∀ N j env hp (k k' : Env → Hq → Prop), (∀ r h, k r h → k' r h) → forLoop nx body N j env hp k → forLoop nx body' N j env hp k' := by
  intro N
  induction N with
  | zero => intro j env hp k k' _ h; exact h
  | succ N ih =>
    intro j env hp k k' hk h
    unfold forLoop at h ⊢
    cases e : nx j hp with
    | none => rw [e] at h; exact h
    | some o =>
      rw [e] at h
      cases o with
      | none => exact hk _ _ h
      | some d => exact hb d env hp _ _ (fun r h1 q => ih _ _ _ _ _ hk q) h
theorem whLoop_mono {body body' : Env → Hq → (Env → Hq → Prop) → (Env → Hq → Prop) → Prop}
    (hb : ∀ env hp (k k' l l' : Env → Hq → Prop), (∀ r h, k r h → k' r h) → (∀ r h, l r h → l' r h) → body env hp k l → body' env hp k' l') :
    ∀ N env hp (k k' : Env → Hq → Prop), (∀ r h, k r h → k' r h) → whLoop body N env hp k → whLoop body' N env hp k' := by
  intro N
  induction N with
  | zero => intro env hp k k' _ h; exact h
  | succ N ih =>
    intro env hp k k' hk h
    exact hb env hp _ _ _ _ (fun r h1 q => ih _ _ _ _ hk q) hk h

section
variable {g : Glob} {cl : Cl}
mutual
theorem wE_mono (hc : ClMono cl) : ∀ (e : Ex) (env : Env) (hp : Hq) (Q Q' : QD) (E E' : QX), (∀ d h, Q d h → Q' d h) → (∀ c i h, E c i h → E' c i h) → wE g cl e env hp Q E → wE g cl e env hp Q' E'
  | .var i, env, hp, Q, Q', E, E', hq, he, h => by
    unfold wE at h ⊢
    split at h
    · exact hq _ _ h
    · exact h
  | .lit d, env, hp, Q, Q', E, E', hq, he, h => hq _ _ h
  | .glob k, env, hp, Q, Q', E, E', hq, he, h => by
    unfold wE at h ⊢
    split at h
    · exact hq _ _ h
    · exact h
  | .bin o a b, env, hp, Q, Q', E, E', hq, he, h => by
    unfold wE at h ⊢
    exact wE_mono hc a env hp _ _ E E' (fun x h1 q1 => wE_mono hc b env h1 _ _ E E' (fun y h2 q2 => OutD.mono hq q2) he q1) he h
  | .neg a, env, hp, Q, Q', E, E', hq, he, h => by
    unfold wE at h ⊢
    refine wE_mono hc a env hp _ _ E E' (fun x h1 q1 => ?_) he h
    split at q1
    · exact hq _ _ q1
    · exact q1
  | .cmp o a b, env, hp, Q, Q', E, E', hq, he, h => by
    unfold wE at h ⊢
    exact wE_mono hc a env hp _ _ E E' (fun x h1 q1 => wE_mono hc b env h1 _ _ E E' (fun y h2 q2 => OutD.mono hq q2) he q1) he h
  | .cmp2 o p a b c, env, hp, Q, Q', E, E', hq, he, h => by
    unfold wE at h ⊢
    refine wE_mono hc a env hp _ _ E E' (fun x h1 q1 => wE_mono hc b env h1 _ _ E E' (fun y h2 q2 => OutD.mono (fun r h3 q3 => ?_) q2) he q1) he h
    split at q3
    · exact wE_mono hc c env h3 _ _ E E' (fun z h4 q4 => OutD.mono hq q4) he q3
    · exact hq _ _ q3
    · exact q3
  | .and a b, env, hp, Q, Q', E, E', hq, he, h => by
    unfold wE at h ⊢
    refine wE_mono hc a env hp _ _ E E' (fun x h1 q1 => OutB.mono (fun t q2 => ?_) q1) he h
    cases t with
    | true => exact wE_mono hc b env h1 _ _ E E' hq he q2
    | false => exact hq _ _ q2
  | .or a b, env, hp, Q, Q', E, E', hq, he, h => by
    unfold wE at h ⊢
    refine wE_mono hc a env hp _ _ E E' (fun x h1 q1 => OutB.mono (fun t q2 => ?_) q1) he h
    cases t with
    | true => exact hq _ _ q2
    | false => exact wE_mono hc b env h1 _ _ E E' hq he q2
  | .not a, env, hp, Q, Q', E, E', hq, he, h => by
    unfold wE at h ⊢
    exact wE_mono hc a env hp _ _ E E' (fun x h1 q1 => OutB.mono (fun t q2 => hq _ _ q2) q1) he h
  | .ite c a b, env, hp, Q, Q', E, E', hq, he, h => by
    unfold wE at h ⊢
    refine wE_mono hc c env hp _ _ E E' (fun x h1 q1 => OutB.mono (fun t q2 => ?_) q1) he h
    cases t with
    | true => exact wE_mono hc a env h1 _ _ E E' hq he q2
    | false => exact wE_mono hc b env h1 _ _ E E' hq he q2
  | .tup es, env, hp, Q, Q', E, E', hq, he, h => by
    unfold wE at h ⊢
    exact wEs_mono hc es env hp _ _ E E' (fun ds h1 q1 => hq _ _ q1) he h
  | .lst es, env, hp, Q, Q', E, E', hq, he, h => by
    unfold wE at h ⊢
    exact wEs_mono hc es env hp _ _ E E' (fun ds h1 q1 => hq _ _ q1) he h
  | .dic es, env, hp, Q, Q', E, E', hq, he, h => by
    unfold wE at h ⊢
    refine wEs_mono hc es env hp _ _ E E' (fun xs h1 q1 => ?_) he h
    split at q1
    · exact hq _ _ q1
    · exact q1
  | .bty n, env, hp, Q, Q', E, E', hq, he, h => hq _ _ h
  | .mmd mx a d, env, hp, Q, Q', E, E', hq, he, h => by
    unfold wE at h ⊢
    exact wE_mono hc a env hp _ _ E E' (fun x h1 q1 => wE_mono hc d env h1 _ _ E E' (fun y h2 q2 => OutD.mono hq q2) he q1) he h
  | .ix a i, env, hp, Q, Q', E, E', hq, he, h => by
    unfold wE at h ⊢
    exact wE_mono hc a env hp _ _ E E' (fun x h1 q1 => wE_mono hc i env h1 _ _ E E' (fun y h2 q2 => OutD.mono hq q2) he q1) he h
  | .sl a lo hi, env, hp, Q, Q', E, E', hq, he, h => by
    unfold wE at h ⊢
    refine wE_mono hc a env hp _ _ E E' (fun x h1 q1 => wEo_mono hc lo env h1 _ _ E E' (fun l h2 q2 => ?_) he q1) he h
    split at q2
    · refine wEo_mono hc hi env h2 _ _ E E' (fun u h3 q3 => ?_) he q2
      split at q3
      · exact OutD.mono hq q3
      · exact q3
    · exact q2
  | .fld a f, env, hp, Q, Q', E, E', hq, he, h => by
    unfold wE at h ⊢
    exact wE_mono hc a env hp _ _ E E' (fun x h1 q1 => OutD.mono hq q1) he h
  | .call f es, env, hp, Q, Q', E, E', hq, he, h => by
    unfold wE at h ⊢
    exact wEs_mono hc es env hp _ _ E E' (fun ds h1 q1 => hc _ _ _ _ _ _ _ hq he q1) he h
  | .callK f es pm, env, hp, Q, Q', E, E', hq, he, h => by
    unfold wE at h ⊢
    refine wEs_mono hc es env hp _ _ E E' (fun ds h1 q1 => ?_) he h
    split at q1
    · exact hc _ _ _ _ _ _ _ hq he q1
    · exact q1
  | .make c es, env, hp, Q, Q', E, E', hq, he, h => by
    unfold wE at h ⊢
    refine wEs_mono hc es env hp _ _ E E' (fun ds h1 q1 => ?_) he h
    split at q1
    · refine hc _ _ _ _ _ _ _ (fun d h2 q2 => ?_) he q1
      split at q2
      · exact hq _ _ q2
      · exact q2
    · exact q1
  | .makeK c es pm, env, hp, Q, Q', E, E', hq, he, h => by
    unfold wE at h ⊢
    refine wEs_mono hc es env hp _ _ E E' (fun ds h1 q1 => ?_) he h
    split at q1
    · refine hc _ _ _ _ _ _ _ (fun d h2 q2 => ?_) he q1
      split at q2
      · exact hq _ _ q2
      · exact q2
    · exact q1
  | .meth a m es, env, hp, Q, Q', E, E', hq, he, h => by
    unfold wE at h ⊢
    refine wE_mono hc a env hp _ _ E E' (fun x h1 q1 => ?_) he h
    split at q1
    · split at q1
      · split at q1
        · exact wEs_mono hc es env h1 _ _ E E' (fun ds h2 q2 => hc _ _ _ _ _ _ _ hq he q2) he q1
        · exact q1
      · exact q1
    · exact q1
  | .methK a m es pm, env, hp, Q, Q', E, E', hq, he, h => by
    unfold wE at h ⊢
    refine wE_mono hc a env hp _ _ E E' (fun x h1 q1 => ?_) he h
    split at q1
    · split at q1
      · split at q1
        · refine wEs_mono hc es env h1 _ _ E E' (fun ds h2 q2 => ?_) he q1
          split at q2
          · exact hc _ _ _ _ _ _ _ hq he q2
          · exact q2
        · exact q1
      · exact q1
    · exact q1
  | .blt b es, env, hp, Q, Q', E, E', hq, he, h => by
    unfold wE at h ⊢
    exact wEs_mono hc es env hp _ _ E E' (fun ds h1 q1 => OutD.mono hq q1) he h
  | .bm m a es, env, hp, Q, Q', E, E', hq, he, h => by
    unfold wE at h ⊢
    refine wE_mono hc a env hp _ _ E E' (fun x h1 q1 => ?_) he h
    split at q1
    · exact wEs_mono hc es env h1 _ _ E E' (fun ds h2 q2 => OutD.mono hq q2) he q1
    · exact q1
  | .lc own t it c e, env, hp, Q, Q', E, E', hq, he, h => by
    unfold wE at h ⊢
    refine wIt_mono hc it env hp _ _ E E' (fun itr h1 q1 => ?_) he h
    obtain ⟨N, q1⟩ := q1
    refine ⟨N, lcLoop_mono (fun d h2 k k' hk q2 => ?_) N 0 [] h1 _ _ (fun r h3 q3 => hq _ _ q3) q1⟩
    refine wTg_mono hc t d _ _ _ _ (fun env2 h3 q3 => ?_) q2
    refine wEo_mono hc c env2 h3 _ _ _ _ (fun r h4 q4 => ?_) (fun _ _ _ z => z) q3
    cases r with
    | none => exact wE_mono hc e env2 h4 _ _ _ _ (fun y h5 q5 => hk _ _ q5) (fun _ _ _ z => z) q4
    | some x =>
      refine OutB.mono (fun t q5 => ?_) q4
      cases t with
      | true => exact wE_mono hc e env2 h4 _ _ _ _ (fun y h5 q5 => hk _ _ q5) (fun _ _ _ z => z) q5
      | false => exact hk _ _ q5
  | .dc own t it c kx e, env, hp, Q, Q', E, E', hq, he, h => by
    unfold wE at h ⊢
    refine wIt_mono hc it env hp _ _ E E' (fun itr h1 q1 => ?_) he h
    obtain ⟨N, q1⟩ := q1
    refine ⟨N, dcLoop_mono (fun d h2 k k' hk q2 => ?_) N 0 [] h1 _ _ (fun r h3 q3 => hq _ _ q3) q1⟩
    refine wTg_mono hc t d _ _ _ _ (fun env2 h3 q3 => ?_) q2
    refine wEo_mono hc c env2 h3 _ _ _ _ (fun r h4 q4 => ?_) (fun _ _ _ z => z) q3
    cases r with
    | none => exact wE_mono hc kx env2 h4 _ _ _ _ (fun y h5 q5 => wE_mono hc e env2 h5 _ _ _ _ (fun z h6 q6 => hk _ _ q6) (fun _ _ _ z => z) q5) (fun _ _ _ z => z) q4
    | some x =>
      refine OutB.mono (fun t q5 => ?_) q4
      cases t with
      | true => exact wE_mono hc kx env2 h4 _ _ _ _ (fun y h5 q5 => wE_mono hc e env2 h5 _ _ _ _ (fun z h6 q6 => hk _ _ q6) (fun _ _ _ z => z) q5) (fun _ _ _ z => z) q5
      | false => exact hk _ _ q5
  | .lc2 own own1 t it t1 a e, env, hp, Q, Q', E, E', hq, he, h => by
    unfold wE at h ⊢
    refine wIt_mono hc it env hp _ _ E E' (fun itr h1 q1 => ?_) he h
    obtain ⟨N, q1⟩ := q1
    refine ⟨N, acLoop_mono (fun d acc h2 k k' hk q2 => ?_) N 0 [] h1 _ _ (fun r h3 q3 => hq _ _ q3) q1⟩
    refine wTg_mono hc t d _ _ _ _ (fun env2 h3 q3 => ?_) q2
    refine wE_mono hc a env2 h3 _ _ _ _ (fun x h4 q4 => ?_) (fun _ _ _ z => z) q3
    split at q4
    · obtain ⟨M, q4⟩ := q4
      refine ⟨M, lcLoop_mono (fun d h5 k1 k1' hk1 q5 => ?_) M 0 acc h4 _ _ hk q4⟩
      exact wTg_mono hc t1 d _ _ _ _ (fun env3 h6 q6 => wE_mono hc e env3 h6 _ _ _ _ (fun y h7 q7 => hk1 _ _ q7) (fun _ _ _ z => z) q6) q5
    · exact q4
  | .lenD a m, env, hp, Q, Q', E, E', hq, he, h => by
    unfold wE at h ⊢
    refine wE_mono hc a env hp _ _ E E' (fun x h1 q1 => ?_) he h
    split at q1
    · split at q1
      · split at q1
        · refine hc _ _ _ _ _ _ _ (fun v h2 q2 => ?_) (fun _ _ _ z => z) q1
          split at q2
          · exact ⟨q2.1, hq _ _ q2.2⟩
          · exact q2
        · exact q1
      · exact OutD.mono hq q1
    · exact OutD.mono hq q1
  | .isx a bs, env, hp, Q, Q', E, E', hq, he, h => by
    unfold wE at h ⊢
    exact wE_mono hc a env hp _ _ E E' (fun x h1 q1 => OutD.mono hq q1) he h
  | .xfd a f, env, hp, Q, Q', E, E', hq, he, h => by
    unfold wE at h ⊢
    exact wE_mono hc a env hp _ _ E E' (fun x h1 q1 => OutD.mono hq q1) he h
theorem wEs_mono (hc : ClMono cl) : ∀ (es : Exs) (env : Env) (hp : Hq) (Q Q' : List D → Hq → Prop) (E E' : QX), (∀ d h, Q d h → Q' d h) → (∀ c i h, E c i h → E' c i h) → wEs g cl es env hp Q E → wEs g cl es env hp Q' E'
  | .nil, env, hp, Q, Q', E, E', hq, he, h => hq _ _ h
  | .cons e r, env, hp, Q, Q', E, E', hq, he, h => by
    unfold wEs at h ⊢
    exact wE_mono hc e env hp _ _ E E' (fun d h1 q1 => wEs_mono hc r env h1 _ _ E E' (fun ds h2 q2 => hq _ _ q2) he q1) he h
theorem wEo_mono (hc : ClMono cl) : ∀ (eo : Exo) (env : Env) (hp : Hq) (Q Q' : Option D → Hq → Prop) (E E' : QX), (∀ d h, Q d h → Q' d h) → (∀ c i h, E c i h → E' c i h) → wEo g cl eo env hp Q E → wEo g cl eo env hp Q' E'
  | .no, env, hp, Q, Q', E, E', hq, he, h => hq _ _ h
  | .so e, env, hp, Q, Q', E, E', hq, he, h => by
    unfold wEo at h ⊢
    exact wE_mono hc e env hp _ _ E E' (fun d h1 q1 => hq _ _ q1) he h
theorem wTg_mono (hc : ClMono cl) : ∀ (t : Tg) (d : D) (env : Env) (hp : Hq) (k k' : Env → Hq → Prop), (∀ r h, k r h → k' r h) → wTg g cl t d env hp k → wTg g cl t d env hp k'
  | .nm i, d, env, hp, k, k', hk, h => hk _ _ h
  | .tp ts, d, env, hp, k, k', hk, h => by
    unfold wTg at h ⊢
    cases d <;> first | exact False.elim h | skip
    exact ⟨h.1, wTgs_mono hc ts _ env hp k k' hk h.2⟩
  | .at o f, d, env, hp, k, k', hk, h => by
    unfold wTg at h ⊢
    exact wE_mono hc o env hp _ _ _ _ (fun x h1 q1 => OutH.mono (fun h2 q2 => hk _ _ q2) q1) (fun _ _ _ z => z) h
  | .sb o i, d, env, hp, k, k', hk, h => by
    unfold wTg at h ⊢
    exact wE_mono hc o env hp _ _ _ _ (fun x h1 q1 => wE_mono hc i env h1 _ _ _ _ (fun y h2 q2 => OutH.mono (fun h3 q3 => hk _ _ q3) q2) (fun _ _ _ z => z) q1) (fun _ _ _ z => z) h
theorem wTgs_mono (hc : ClMono cl) : ∀ (ts : Tgs) (ds : List D) (env : Env) (hp : Hq) (k k' : Env → Hq → Prop), (∀ r h, k r h → k' r h) → wTgs g cl ts ds env hp k → wTgs g cl ts ds env hp k'
  | .nil, ds, env, hp, k, k', hk, h => by
    cases ds with
    | nil => exact hk _ _ h
    | cons _ _ => exact h
  | .cons t r, ds, env, hp, k, k', hk, h => by
    cases ds with
    | nil => exact h
    | cons d ds =>
      unfold wTgs at h ⊢
      exact wTg_mono hc t d env hp _ _ (fun env1 h1 q1 => wTgs_mono hc r ds env1 h1 k k' hk q1) h
theorem wIt_mono (hc : ClMono cl) : ∀ (it : Ix) (env : Env) (hp : Hq) (k k' : Itr → Hq → Prop) (E E' : QX), (∀ d h, k d h → k' d h) → (∀ c i h, E c i h → E' c i h) → wIt g cl it env hp k E → wIt g cl it env hp k' E'
  | .vl e, env, hp, k, k', E, E', hk, he, h => by
    unfold wIt at h ⊢
    refine wE_mono hc e env hp _ _ E E' (fun x h1 q1 => ?_) he h
    split at q1
    · exact hk _ _ q1
    · exact q1
  | .rng1 e, env, hp, k, k', E, E', hk, he, h => by
    unfold wIt at h ⊢
    refine wE_mono hc e env hp _ _ E E' (fun x h1 q1 => ?_) he h
    split at q1
    · exact ⟨q1.1, hk _ _ q1.2⟩
    · exact q1
  | .rng2 a b, env, hp, k, k', E, E', hk, he, h => by
    unfold wIt at h ⊢
    refine wE_mono hc a env hp _ _ E E' (fun x h1 q1 => wE_mono hc b env h1 _ _ E E' (fun y h2 q2 => ?_) he q1) he h
    split at q2
    · exact ⟨q2.1, hk _ _ q2.2⟩
    · exact q2
  | .enum e, env, hp, k, k', E, E', hk, he, h => by
    unfold wIt at h ⊢
    refine wE_mono hc e env hp _ _ E E' (fun x h1 q1 => ?_) he h
    split at q1
    · split at q1
      · exact hk _ _ q1
      · exact q1
    · exact q1
  | .zip2 a b, env, hp, k, k', E, E', hk, he, h => by
    unfold wIt at h ⊢
    refine wE_mono hc a env hp _ _ E E' (fun x h1 q1 => wE_mono hc b env h1 _ _ E E' (fun y h2 q2 => ?_) he q1) he h
    split at q2
    · split at q2
      · exact hk _ _ q2
      · exact q2
    · exact q2
  | .items e, env, hp, k, k', E, E', hk, he, h => by
    unfold wIt at h ⊢
    refine wE_mono hc e env hp _ _ E E' (fun x h1 q1 => ?_) he h
    split at q1
    · exact hk _ _ q1
    · exact q1
  | .vals e, env, hp, k, k', E, E', hk, he, h => by
    unfold wIt at h ⊢
    refine wE_mono hc e env hp _ _ E E' (fun x h1 q1 => ?_) he h
    split at q1
    · exact hk _ _ q1
    · exact q1
end

structure KS.le (K K' : KS) : Prop where
  nx : ∀ e h, K.nx e h → K'.nx e h
  bk : ∀ e h, K.bk e h → K'.bk e h
  ct : ∀ e h, K.ct e h → K'.ct e h
  rt : ∀ d h, K.rt d h → K'.rt d h
  ex : ∀ c i e h, K.ex c i e h → K'.ex c i e h
mutual
theorem wS_mono (hc : ClMono cl) : ∀ (s : St) (env : Env) (hp : Hq) (K K' : KS), K.le K' → wS g cl s env hp K → wS g cl s env hp K'
  | .pass, env, hp, K, K', l, h => l.nx _ _ h
  | .brk, env, hp, K, K', l, h => l.bk _ _ h
  | .cont, env, hp, K, K', l, h => l.ct _ _ h
  | .expr e, env, hp, K, K', l, h => by
    unfold wS at h ⊢
    exact wE_mono hc e env hp _ _ _ _ (fun d h1 q1 => l.nx _ _ q1) (fun c i h1 q1 => l.ex _ _ _ _ q1) h
  | .ret e, env, hp, K, K', l, h => by
    unfold wS at h ⊢
    exact wEo_mono hc e env hp _ _ _ _ (fun d h1 q1 => l.rt _ _ q1) (fun c i h1 q1 => l.ex _ _ _ _ q1) h
  | .asg t e, env, hp, K, K', l, h => by
    unfold wS at h ⊢
    exact wE_mono hc e env hp _ _ _ _ (fun d h1 q1 => wTg_mono hc t d env h1 _ _ l.nx q1) (fun c i h1 q1 => l.ex _ _ _ _ q1) h
  | .augn i o e, env, hp, K, K', l, h => by
    unfold wS at h ⊢
    split at h
    · exact wE_mono hc e env hp _ _ _ _ (fun d h1 q1 => OutD.mono (fun z h2 q2 => l.nx _ _ q2) q1) (fun c i h1 q1 => l.ex _ _ _ _ q1) h
    · exact h
  | .augf a f o e, env, hp, K, K', l, h => by
    unfold wS at h ⊢
    refine wE_mono hc a env hp _ _ _ _ (fun r h1 q1 => OutD.mono (fun x h2 q2 => ?_) q1) (fun c i h1 q1 => l.ex _ _ _ _ q1) h
    exact wE_mono hc e env h2 _ _ _ _ (fun y h3 q3 => OutD.mono (fun z h4 q4 => OutH.mono (fun h5 q5 => l.nx _ _ q5) q4) q3) (fun c i h1 q1 => l.ex _ _ _ _ q1) q2
  | .ifs c a b, env, hp, K, K', l, h => by
    unfold wS at h ⊢
    refine wE_mono hc c env hp _ _ _ _ (fun x h1 q1 => OutB.mono (fun t q2 => ?_) q1) (fun c i h1 q1 => l.ex _ _ _ _ q1) h
    cases t with
    | true => exact wSs_mono hc a env h1 _ _ l q2
    | false => exact wSs_mono hc b env h1 _ _ l q2
  | .whl c b, env, hp, K, K', l, h => by
    unfold wS at h ⊢
    obtain ⟨N, h⟩ := h
    refine ⟨N, whLoop_mono (fun env h1 k k' m m' hk hm q => ?_) N env hp _ _ l.nx h⟩
    refine wE_mono hc c env h1 _ _ _ _ (fun x h1 q1 => OutB.mono (fun t q2 => ?_) q1) (fun c i h1 q1 => l.ex _ _ _ _ q1) q
    cases t with
    | true =>
      refine wSs_mono hc b env h1 _ _ ?_ q2
      exact ⟨hk, l.nx, hk, l.rt, l.ex⟩
    | false => exact hm _ _ q2
  | .for_ t it b, env, hp, K, K', l, h => by
    unfold wS at h ⊢
    refine wIt_mono hc it env hp _ _ _ _ (fun itr h1 q1 => ?_) (fun c i h1 q1 => l.ex _ _ _ _ q1) h
    obtain ⟨N, q1⟩ := q1
    refine ⟨N, forLoop_mono (fun d env h2 k k' hk q2 => ?_) N 0 env h1 _ _ (fun e h q => l.nx _ _ q) q1⟩
    refine wTg_mono hc t d env h2 _ _ (fun env3 h3 q3 => wSs_mono hc b env3 h3 _ _ ?_ q3) q2
    exact ⟨hk, fun e h q => l.nx _ _ q, hk, fun d h q => l.rt _ _ q, l.ex⟩
  | .raise c f e, env, hp, K, K', l, h => by
    unfold wS at h ⊢
    exact wE_mono hc e env hp _ _ _ _ (fun d h1 q1 => l.ex _ _ _ _ q1) (fun c i h1 q1 => l.ex _ _ _ _ q1) h
  | .tryK b bs n k, env, hp, K, K', l, h => by
    unfold wS at h ⊢
    refine wSs_mono hc b env hp _ _ ?_ h
    refine ⟨l.nx, l.bk, l.ct, l.rt, fun c i e h1 q => ?_⟩
    show (match bs[c]? with
      | some true => K'.nx ((e.set k (some (.ref h1.length))).set n none) (h1 ++ [.xob c h1.length i])
      | some false => K'.ex c i e h1
      | none => False)
    have q : (match bs[c]? with
      | some true => K.nx ((e.set k (some (.ref h1.length))).set n none) (h1 ++ [.xob c h1.length i])
      | some false => K.ex c i e h1
      | none => False) := q
    cases z : bs[c]? with
    | none => rw [z] at q; exact q
    | some b =>
      rw [z] at q
      cases b with
      | true => exact l.nx _ _ q
      | false => exact l.ex _ _ _ _ q
  | .never, env, hp, K, K', l, h => h
theorem wSs_mono (hc : ClMono cl) : ∀ (s : Sts) (env : Env) (hp : Hq) (K K' : KS), K.le K' → wSs g cl s env hp K → wSs g cl s env hp K'
  | .nil, env, hp, K, K', l, h => l.nx _ _ h
  | .cons s r, env, hp, K, K', l, h => by
    unfold wSs at h ⊢
    refine wS_mono hc s env hp _ _ ?_ h
    exact ⟨fun e h1 q => wSs_mono hc r e h1 _ _ l q, l.bk, l.ct, l.rt, l.ex⟩
end
end
theorem wCall_mono (g : Glob) : ∀ n, ClMono (wCall g n) := by
  intro n
  induction n with
  | zero => intro f ds hp Q Q' E E' _ _ h; exact h
  | succ n ih =>
    intro f ds hp Q Q' E E' hq he h
    unfold wCall at h ⊢
    split at h
    · exact h
    · refine ⟨h.1, wSs_mono ih _ _ _ _ _ ?_ h.2⟩
      exact ⟨fun e h q => hq _ _ q, fun _ _ z => z, fun _ _ z => z, hq, fun c i e h q => he _ _ _ q⟩
end MI
/-! MI, part 3: how the small heap stands in the layer's heap. -/
namespace MI
open PySem PySem.Spec L2

/-- a kept exception: of the class at C, its dict at d -/
def kx (a C d : Addr) : HO := .ext fun h => ∃ (ob : Obj) (ws : Array Value), h.get? a = some ob ∧ Zc (.ref C) (some d) ob ∧ ob.data = .fields ws
section
variable {P : Program} {w : World} {H : Hp} {h : Heap} {a C d : Addr}
theorem kx_ok {ob : Obj} {ws : Array Value} (e : h.get? a = some ob) (z : Zc (.ref C) (some d) ob) (q : ob.data = .fields ws) : ObjOk P w H h a (kx a C d) :=
  ⟨⟨ob, ws, e, z, q⟩, ⟨ob, e⟩, fun h1 h2 x k => by
    obtain ⟨o', w', e1, z1, q1⟩ := x
    exact ⟨o', w', k _ e1, z1, q1⟩⟩
theorem kx_at (ok : HOk P w H h) (e : H a = some (kx a C d)) : ∃ (ob : Obj) (ws : Array Value), h.get? a = some ob ∧ Zc (.ref C) (some d) ob ∧ ob.data = .fields ws := by
  have x : ObjOk P w H h a (.ext fun h => ∃ (ob : Obj) (ws : Array Value), h.get? a = some ob ∧ Zc (.ref C) (some d) ob ∧ ob.data = .fields ws) := ok a _ e
  exact x.1
end

theorem nodup_at {α : Type} {l : List α} (hN : l.Nodup) {i j : Nat} {x : α} (a : l[i]? = some x) (b : l[j]? = some x) : i = j := by
  obtain ⟨h1, e1⟩ := List.getElem?_eq_some_iff.mp a
  obtain ⟨h2, e2⟩ := List.getElem?_eq_some_iff.mp b
  exact (List.getElem_inj hN).mp (e1.trans e2.symm)

/-- where the text's own things stand; the attributes' names -/
structure Lay where
  fns : List Addr
  clss : List Addr
  exs : List Addr
  kds : List Addr
  attrs : List Str

/-- a list that stands still: locked, or of the written part -/
def KlL (K : PySem.W.Frag) (H : Hp) (a : Addr) (xs : List V) : Prop :=
  (∃ o, H a = some (.frz o (.lst xs))) ∨
    ∃ (o : Obj) (its : Array Value) (n : Nat), K.lookup a = some o ∧ o.cls = .type "list" ∧ o.dict = none ∧ o.data = .seq its n ∧ its.size ≤ sizeLine ∧ Vals xs its.toList
theorem KlL.sq {K : PySem.W.Frag} {H : Hp} {a : Addr} {xs : List V} (h : KlL K H a xs) : SqL K H a xs := by
  rcases h with h | h
  · exact .inl (.inr h)
  · exact .inr h

mutual
inductive RD (K : PySem.W.Frag) (L : Lay) (ρ : List Addr) (H : Hp) : D → V → Prop
  | non : RD K L ρ H .non .non
  | bl (b : Bool) : RD K L ρ H (.bl b) (.bl b)
  | int (i : Int) : RD K L ρ H (.int i) (.int i)
  | str (x : Str) : RD K L ρ H (.str x) (.str x)
  | tup {a : Addr} {xs : List V} {ds : List D} : SqT K H a xs → RDs K L ρ H ds xs → RD K L ρ H (.tup ds) (.ref a)
  | kl {a : Addr} {xs : List V} {ds : List D} : KlL K H a xs → RDs K L ρ H ds xs → RD K L ρ H (.kl ds) (.ref a)
  | ref {i : Nat} {a : Addr} : ρ[i]? = some a → RD K L ρ H (.ref i) (.ref a)
  | fn {k : Nat} {a : Addr} : L.fns[k]? = some a → RD K L ρ H (.fn k) (.ref a)
  | cls {k : Nat} {a : Addr} : L.clss[k]? = some a → RD K L ρ H (.cls k) (.ref a)
  | kd {k : Nat} {a : Addr} : L.kds[k]? = some a → RD K L ρ H (.kd k) (.ref a)
  | ty (n : String) : RD K L ρ H (.ty n) (.ty n)
inductive RDs (K : PySem.W.Frag) (L : Lay) (ρ : List Addr) (H : Hp) : List D → List V → Prop
  | nil : RDs K L ρ H [] []
  | cons {d : D} {v : V} {ds : List D} {vs : List V} : RD K L ρ H d v → RDs K L ρ H ds vs → RDs K L ρ H (d :: ds) (v :: vs)
end

def RFs (K : PySem.W.Frag) (L : Lay) (ρ : List Addr) (H : Hp) : List (Nat × D) → List (Str × V) → Prop := Paired fun p q => L.attrs[p.1]? = some q.1 ∧ RD K L ρ H p.2 q.2
def RKs (K : PySem.W.Frag) (L : Lay) (ρ : List Addr) (H : Hp) : List (Key × D) → List (Key × V) → Prop := Paired fun p q => p.1 = q.1 ∧ RD K L ρ H p.2 q.2

inductive RHO (K : PySem.W.Frag) (L : Lay) (ρ : List Addr) (H : Hp) : O → HO → Prop
  | lst {xs : List D} {vs : List V} : RDs K L ρ H xs vs → RHO K L ρ H (.lst xs) (.lst vs)
  | dic {kvs : List (Key × D)} {vs : List (Key × V)} : RKs K L ρ H kvs vs → RHO K L ρ H (.dic kvs) (.dK vs)
  | fdic {kvs : List (Key × D)} {vs : List (Key × V)} {ob : Obj} : RKs K L ρ H kvs vs → RHO K L ρ H (.fdic kvs) (.frz ob (.dK vs))
  | ins {c : Nat} {C dx : Addr} {fs : List (Nat × D)} {vs : List (Str × V)} : L.clss[c]? = some C → RFs K L ρ H fs vs → RHO K L ρ H (.ins c fs) (.ins C dx vs)
  | xd {c : Nat} {fs : List (Nat × D)} {vs : List (Str × V)} : RFs K L ρ H fs vs → RHO K L ρ H (.xd c fs) (.xd vs)
  | xob {c me j : Nat} {a C d : Addr} : ρ[me]? = some a → L.exs[c]? = some C → ρ[j]? = some d → RHO K L ρ H (.xob c me j) (kx a C d)

/-- tuples, locked lists -/
inductive Stb : HO → Prop
  | tup (xs : List V) : Stb (.tup xs)
  | flst (o : Obj) (xs : List V) : Stb (.frz o (.lst xs))
  | ftup (o : Obj) (xs : List V) : Stb (.frz o (.tup xs))
theorem RHO.nst {K : PySem.W.Frag} {L : Lay} {ρ : List Addr} {H : Hp} {o : O} {u : HO} (r : RHO K L ρ H o u) : ¬ Stb u := by
  intro s
  cases r <;> cases s

structure RelH (K : PySem.W.Frag) (L : Lay) (ρ : List Addr) (hp : Hq) (H : Hp) : Prop where
  nd : ρ.Nodup
  len : ρ.length = hp.length
  at_ : ∀ (i : Nat) (o : O), hp[i]? = some o → ∃ a u, ρ[i]? = some a ∧ H a = some u ∧ RHO K L ρ H o u

structure Ext (ρ : List Addr) (H : Hp) (ρ' : List Addr) (H' : Hp) : Prop where
  pre : ∃ more, ρ' = ρ ++ more
  new : ∀ a, a ∈ ρ' → a ∈ ρ ∨ H a = none
  out : ∀ a o, H a = some o → a ∉ ρ → H' a = some o
  st : ∀ a o, H a = some o → Stb o → H' a = some o
  fz : ∀ a o kvs, H a = some (.frz o (.dK kvs)) → H' a = some (.frz o (.dK kvs))
theorem Ext.refl (ρ : List Addr) (H : Hp) : Ext ρ H ρ H := ⟨⟨[], by simp⟩, fun _ h => .inl h, fun _ _ h _ => h, fun _ _ h _ => h, fun _ _ _ h => h⟩
/-- what a value's reading needs -/
structure ExtW (ρ : List Addr) (H : Hp) (ρ' : List Addr) (H' : Hp) : Prop where
  pre : ∃ more, ρ' = ρ ++ more
  st : ∀ a o, H a = some o → Stb o → H' a = some o
theorem Ext.w {ρ ρ' : List Addr} {H H' : Hp} (e : Ext ρ H ρ' H') : ExtW ρ H ρ' H' := ⟨e.pre, e.st⟩
theorem Ext.trans {ρ ρ1 ρ2 : List Addr} {H H1 H2 : Hp} (a : Ext ρ H ρ1 H1) (b : Ext ρ1 H1 ρ2 H2) : Ext ρ H ρ2 H2 := by
  obtain ⟨m1, e1⟩ := a.pre
  obtain ⟨m2, e2⟩ := b.pre
  refine ⟨⟨m1 ++ m2, by rw [e2, e1, List.append_assoc]⟩, fun x hx => ?_, fun x o h n => ?_, fun x o h s => b.st x o (a.st x o h s) s, fun x o k h => b.fz x o k (a.fz x o k h)⟩
  · rcases b.new x hx with h | h
    · exact a.new x h
    · by_cases hm : x ∈ ρ
      · exact .inl hm
      · right
        cases q : H x with
        | none => rfl
        | some o => rw [a.out x o q hm] at h; cases h
  · refine b.out x o (a.out x o h n) fun hm => ?_
    rcases a.new x hm with q | q
    · exact n q
    · rw [q] at h; cases h
theorem ExtW.ix {ρ ρ' : List Addr} {H H' : Hp} (e : ExtW ρ H ρ' H') {i : Nat} {a : Addr} (h : ρ[i]? = some a) : ρ'[i]? = some a := by
  obtain ⟨m, rfl⟩ := e.pre
  have hl := (List.getElem?_eq_some_iff.mp h).1
  rw [List.getElem?_append_left hl]
  exact h

theorem Ext.ix {ρ ρ' : List Addr} {H H' : Hp} (e : Ext ρ H ρ' H') {i : Nat} {a : Addr} (h : ρ[i]? = some a) : ρ'[i]? = some a := e.w.ix h
section
variable {K : PySem.W.Frag} {L : Lay} {ρ ρ' : List Addr} {H H' : Hp}
theorem SqT.monoW {a : Addr} {xs : List V} (e : ExtW ρ H ρ' H') (h : SqT K H a xs) : SqT K H' a xs := by
  rcases h with (h | ⟨o, h⟩) | h
  · exact .inl (.inl (e.st _ _ h (.tup xs)))
  · exact .inl (.inr ⟨o, e.st _ _ h (.ftup o xs)⟩)
  · exact .inr h
theorem KlL.monoW {a : Addr} {xs : List V} (e : ExtW ρ H ρ' H') (h : KlL K H a xs) : KlL K H' a xs := by
  rcases h with ⟨o, h⟩ | h
  · exact .inl ⟨o, e.st _ _ h (.flst o xs)⟩
  · exact .inr h
mutual
theorem RD.monoW (e : ExtW ρ H ρ' H') : ∀ {d : D} {v : V}, RD K L ρ H d v → RD K L ρ' H' d v
  | _, _, .non => .non
  | _, _, .bl b => .bl b
  | _, _, .int i => .int i
  | _, _, .str x => .str x
  | _, _, .tup h r => .tup (SqT.monoW e h) (RDs.monoW e r)
  | _, _, .kl h r => .kl (KlL.monoW e h) (RDs.monoW e r)
  | _, _, .ref h => .ref (e.ix h)
  | _, _, .fn h => .fn h
  | _, _, .cls h => .cls h
  | _, _, .kd h => .kd h
  | _, _, .ty n => .ty n
theorem RDs.monoW (e : ExtW ρ H ρ' H') : ∀ {d : List D} {v : List V}, RDs K L ρ H d v → RDs K L ρ' H' d v
  | _, _, .nil => .nil
  | _, _, .cons r t => .cons (RD.monoW e r) (RDs.monoW e t)
end
theorem Paired.imp' {α β : Type} {F G : α → β → Prop} (f : ∀ a b, F a b → G a b) : ∀ {l₁ : List α} {l₂ : List β}, Paired F l₁ l₂ → Paired G l₁ l₂
  | _, _, .nil => .nil
  | _, _, .cons r t => .cons (f _ _ r) (Paired.imp' f t)
theorem RFs.monoW (e : ExtW ρ H ρ' H') {fs : List (Nat × D)} {vs : List (Str × V)} (h : RFs K L ρ H fs vs) : RFs K L ρ' H' fs vs := Paired.imp' (fun _ _ q => ⟨q.1, q.2.monoW e⟩) h
theorem RKs.monoW (e : ExtW ρ H ρ' H') {fs : List (Key × D)} {vs : List (Key × V)} (h : RKs K L ρ H fs vs) : RKs K L ρ' H' fs vs := Paired.imp' (fun _ _ q => ⟨q.1, q.2.monoW e⟩) h
theorem RHO.monoW (e : ExtW ρ H ρ' H') {o : O} {u : HO} (h : RHO K L ρ H o u) : RHO K L ρ' H' o u := by
  cases h with
  | lst r => exact .lst (r.monoW e)
  | dic r => exact .dic (r.monoW e)
  | fdic r => exact .fdic (r.monoW e)
  | ins c r => exact .ins c (r.monoW e)
  | xd r => exact .xd (r.monoW e)
  | xob h1 h2 h3 => exact .xob (e.ix h1) h2 (e.ix h3)

theorem SqT.mono {a : Addr} {xs : List V} (e : Ext ρ H ρ' H') (h : SqT K H a xs) : SqT K H' a xs := SqT.monoW e.w h
theorem KlL.mono {a : Addr} {xs : List V} (e : Ext ρ H ρ' H') (h : KlL K H a xs) : KlL K H' a xs := KlL.monoW e.w h
theorem RD.mono (e : Ext ρ H ρ' H') {d : D} {v : V} (h : RD K L ρ H d v) : RD K L ρ' H' d v := RD.monoW e.w h
theorem RDs.mono (e : Ext ρ H ρ' H') {d : List D} {v : List V} (h : RDs K L ρ H d v) : RDs K L ρ' H' d v := RDs.monoW e.w h
theorem RFs.mono (e : Ext ρ H ρ' H') {fs : List (Nat × D)} {vs : List (Str × V)} (h : RFs K L ρ H fs vs) : RFs K L ρ' H' fs vs := RFs.monoW e.w h
theorem RKs.mono (e : Ext ρ H ρ' H') {fs : List (Key × D)} {vs : List (Key × V)} (h : RKs K L ρ H fs vs) : RKs K L ρ' H' fs vs := RKs.monoW e.w h
theorem RHO.mono (e : Ext ρ H ρ' H') {o : O} {u : HO} (h : RHO K L ρ H o u) : RHO K L ρ' H' o u := RHO.monoW e.w h

theorem RelH.at2 {hp : Hq} (r : RelH K L ρ hp H) {i : Nat} {a : Addr} (h : ρ[i]? = some a) : ∃ o u, hp[i]? = some o ∧ H a = some u ∧ RHO K L ρ H o u := by
  have hl := (List.getElem?_eq_some_iff.mp h).1
  have hl2 : i < hp.length := by rw [← r.len]; exact hl
  obtain ⟨a', u, h1, h2, h3⟩ := r.at_ i hp[i] (List.getElem?_eq_getElem hl2)
  rw [h] at h1
  cases h1
  exact ⟨_, u, List.getElem?_eq_getElem hl2, h2, h3⟩
theorem RelH.mem {hp : Hq} (r : RelH K L ρ hp H) {a : Addr} (h : a ∈ ρ) : ∃ (i : Nat) (o : O) (u : HO), ρ[i]? = some a ∧ hp[i]? = some o ∧ H a = some u ∧ RHO K L ρ H o u := by
  obtain ⟨i, hi, e⟩ := List.mem_iff_getElem.mp h
  have e' : ρ[i]? = some a := by rw [List.getElem?_eq_getElem hi, e]
  obtain ⟨o, u, h1, h2, h3⟩ := r.at2 e'
  exact ⟨i, o, u, e', h1, h2, h3⟩
theorem RelH.notin {hp : Hq} (r : RelH K L ρ hp H) {p : Addr} (h : H p = none) : p ∉ ρ := fun hm => by
  obtain ⟨_, _, u, _, _, e, _⟩ := r.mem hm
  rw [h] at e; cases e
theorem RelH.stnot {hp : Hq} (r : RelH K L ρ hp H) {p : Addr} {u : HO} (h : H p = some u) (s : Stb u) : p ∉ ρ := fun hm => by
  obtain ⟨_, _, u', _, _, e, q⟩ := r.mem hm
  rw [h] at e; cases e
  exact q.nst s

/-- a new thing, told in the small heap too -/
theorem RelH.push {hp : Hq} {p : Addr} {o : O} {u : HO} (r : RelH K L ρ hp H) (hn : H p = none) (q : RHO K L ρ H o u) :
    RelH K L (ρ ++ [p]) (hp ++ [o]) (upd H p u) ∧ Ext ρ H (ρ ++ [p]) (upd H p u) := by
  have e : Ext ρ H (ρ ++ [p]) (upd H p u) := by
    refine ⟨⟨[p], rfl⟩, fun a ha => ?_, fun a o' h _ => ?_, fun a o' h _ => ?_, fun a o' k h => ?_⟩
    · rcases List.mem_append.mp ha with h | h
      · exact .inl h
      · have : a = p := by simpa using h
        subst this
        exact .inr hn
    · rw [upd_ne (ne_of_none h hn)]; exact h
    · rw [upd_ne (ne_of_none h hn)]; exact h
    · rw [upd_ne (ne_of_none h hn)]; exact h
  refine ⟨⟨?_, by simp [r.len], fun i o' h => ?_⟩, e⟩
  · rw [List.nodup_append]
    refine ⟨r.nd, by simp, fun a ha b hb => ?_⟩
    have : b = p := by simpa using hb
    subst this
    exact fun z => r.notin hn (z ▸ ha)
  · by_cases hi : i < hp.length
    · rw [List.getElem?_append_left hi] at h
      obtain ⟨a, u', h1, h2, h3⟩ := r.at_ i o' h
      exact ⟨a, u', e.ix h1, by rw [upd_ne (ne_of_none h2 hn)]; exact h2, h3.mono e⟩
    · have hl : i < (hp ++ [o]).length := (List.getElem?_eq_some_iff.mp h).1
      have hi2 : i = hp.length := by
        rw [List.length_append, List.length_singleton] at hl
        omega
      subst hi2
      rw [List.getElem?_append_right (Nat.le_refl _)] at h
      have : o = o' := by simpa using h
      subst this
      refine ⟨p, u, ?_, upd_same, q.mono e⟩
      rw [← r.len, List.getElem?_append_right (Nat.le_refl _)]
      simp
/-- a new thing, not told -/
theorem RelH.tmp {hp : Hq} {p : Addr} {u : HO} (r : RelH K L ρ hp H) (hn : H p = none) : RelH K L ρ hp (upd H p u) ∧ Ext ρ H ρ (upd H p u) := by
  have e : Ext ρ H ρ (upd H p u) := ⟨⟨[], by simp⟩, fun _ h => .inl h, fun a o' h _ => by rw [upd_ne (ne_of_none h hn)]; exact h, fun a o' h _ => by rw [upd_ne (ne_of_none h hn)]; exact h, fun a o' k h => by rw [upd_ne (ne_of_none h hn)]; exact h⟩
  refine ⟨⟨r.nd, r.len, fun i o' h => ?_⟩, e⟩
  obtain ⟨a, u', h1, h2, h3⟩ := r.at_ i o' h
  exact ⟨a, u', h1, by rw [upd_ne (ne_of_none h2 hn)]; exact h2, h3.mono e⟩
/-- a change -/
theorem RelH.put {hp : Hq} {i : Nat} {a : Addr} {o : O} {u : HO} (r : RelH K L ρ hp H) (ha : ρ[i]? = some a) (q : RHO K L ρ H o u) (hu : ∀ o' k, H a ≠ some (.frz o' (.dK k))) :
    RelH K L ρ (hp.set i o) (upd H a u) ∧ Ext ρ H ρ (upd H a u) := by
  obtain ⟨o0, u0, g1, g2, g3⟩ := r.at2 ha
  have e : Ext ρ H ρ (upd H a u) := by
    refine ⟨⟨[], by simp⟩, fun _ h => .inl h, fun b o' h n => ?_, fun b o' h s => ?_, fun b o' k h => ?_⟩
    · rw [upd_ne fun z => n (by rw [z]; exact List.mem_of_getElem? ha)]; exact h
    · rw [upd_ne fun z => ?_]
      · exact h
      · subst z
        rw [g2] at h; cases h
        exact g3.nst s
    · rw [upd_ne fun z => hu o' k (by rw [← z]; exact h)]; exact h
  refine ⟨⟨r.nd, by simp [r.len], fun j o' h => ?_⟩, e⟩
  by_cases hj : i = j
  · subst hj
    have hl : i < hp.length := (List.getElem?_eq_some_iff.mp g1).1
    rw [List.getElem?_set_self hl] at h
    cases h
    exact ⟨a, u, ha, upd_same, q.mono e⟩
  · rw [List.getElem?_set_ne hj] at h
    obtain ⟨b, u', h1, h2, h3⟩ := r.at_ j o' h
    refine ⟨b, u', h1, ?_, h3.mono e⟩
    rw [upd_ne fun z => ?_]
    · exact h2
    · subst z
      exact hj (nodup_at r.nd ha h1)

/-! ### lists of related values -/
theorem RDs.len : ∀ {ds : List D} {vs : List V}, RDs K L ρ H ds vs → ds.length = vs.length
  | _, _, .nil => rfl
  | _, _, .cons _ t => by rw [List.length_cons, List.length_cons, RDs.len t]
theorem RDs.get : ∀ {ds : List D} {vs : List V} {i : Nat} {d : D}, RDs K L ρ H ds vs → ds[i]? = some d → ∃ v, vs[i]? = some v ∧ RD K L ρ H d v
  | _, _, _, _, .nil, h => by simp at h
  | _, _, 0, _, .cons r _, h => by
    simp at h
    subst h
    exact ⟨_, rfl, r⟩
  | _, _, i + 1, _, .cons _ t, h => by
    obtain ⟨v, h1, h2⟩ := RDs.get (i := i) t (by simpa using h)
    exact ⟨v, by simpa using h1, h2⟩
theorem RDs.getV : ∀ {ds : List D} {vs : List V} {i : Nat} {v : V}, RDs K L ρ H ds vs → vs[i]? = some v → ∃ d, ds[i]? = some d ∧ RD K L ρ H d v
  | _, _, _, _, .nil, h => by simp at h
  | _, _, 0, _, .cons r _, h => by
    simp at h
    subst h
    exact ⟨_, rfl, r⟩
  | _, _, i + 1, _, .cons _ t, h => by
    obtain ⟨v, h1, h2⟩ := RDs.getV (i := i) t (by simpa using h)
    exact ⟨v, by simpa using h1, h2⟩
theorem RDs.app : ∀ {ds es : List D} {vs us : List V}, RDs K L ρ H ds vs → RDs K L ρ H es us → RDs K L ρ H (ds ++ es) (vs ++ us)
  | _, _, _, _, .nil, s => s
  | _, _, _, _, .cons r t, s => .cons r (RDs.app t s)
theorem RDs.take : ∀ {ds : List D} {vs : List V} (n : Nat), RDs K L ρ H ds vs → RDs K L ρ H (ds.take n) (vs.take n)
  | _, _, 0, _ => .nil
  | _, _, _ + 1, .nil => .nil
  | _, _, n + 1, .cons r t => .cons r (RDs.take n t)
theorem RDs.drop : ∀ {ds : List D} {vs : List V} (n : Nat), RDs K L ρ H ds vs → RDs K L ρ H (ds.drop n) (vs.drop n)
  | _, _, 0, r => r
  | _, _, _ + 1, .nil => .nil
  | _, _, n + 1, .cons _ t => RDs.drop n t
theorem RDs.set : ∀ {ds : List D} {vs : List V} {d : D} {v : V} (i : Nat), RD K L ρ H d v → RDs K L ρ H ds vs → RDs K L ρ H (ds.set i d) (vs.set i v)
  | _, _, _, _, _, _, .nil => .nil
  | _, _, _, _, 0, q, .cons _ t => .cons q t
  | _, _, _, _, i + 1, q, .cons r t => .cons r (RDs.set i q t)
theorem RDs.rep {ds : List D} {vs : List V} (h : RDs K L ρ H ds vs) : ∀ n, RDs K L ρ H (List.replicate n ds).flatten (List.replicate n vs).flatten
  | 0 => .nil
  | n + 1 => by
    rw [List.replicate_succ, List.replicate_succ, List.flatten_cons, List.flatten_cons]
    exact h.app (RDs.rep h n)
theorem RDs.one {d : D} {v : V} (h : RD K L ρ H d v) : RDs K L ρ H [d] [v] := .cons h .nil

/-! ### data -/
mutual
theorem toP_dp {hp : Hq} (r : RelH K L ρ hp H) : ∀ (n : Nat) (d : D) (v : V) (a : PyData), RD K L ρ H d v → toP n hp d = some a → Dp K H v a
  | 0, _, _, _, _, h => by cases h
  | n + 1, d, v, a, q, h => by
    cases q with
    | non => cases h; exact .non
    | bl b => cases h; exact .bl b
    | int i => cases h; exact .int i
    | str x => cases h; exact .str x
    | @tup p xs ds hs t =>
      have h' : (mapO (toP n hp) ds).map .tuple = some a := h
      cases e : mapO (toP n hp) ds with
      | none => rw [e] at h'; cases h'
      | some as =>
        rw [e] at h'
        cases h'
        exact .tup hs (toPs_dp r n ds xs as t e)
    | @kl p xs ds hs t =>
      have h' : (mapO (toP n hp) ds).map .list = some a := h
      cases e : mapO (toP n hp) ds with
      | none => rw [e] at h'; cases h'
      | some as =>
        rw [e] at h'
        cases h'
        exact .lst hs.sq (toPs_dp r n ds xs as t e)
    | @ref i p hs =>
      have h' : (match gtL hp i with | some ds => (mapO (toP n hp) ds).map .list | none => none) = some a := h
      obtain ⟨o, u, h1, h2, h3⟩ := r.at2 hs
      unfold gtL at h'
      rw [h1] at h'
      cases h3 with
      | @lst xs vs t =>
        have h' : (mapO (toP n hp) xs).map .list = some a := h'
        cases e : mapO (toP n hp) xs with
        | none => rw [e] at h'; cases h'
        | some as =>
          rw [e] at h'
          cases h'
          exact .lst (.of h2) (toPs_dp r n xs vs as t e)
      | _ => cases h'
    | _ => cases h
theorem toPs_dp {hp : Hq} (r : RelH K L ρ hp H) : ∀ (n : Nat) (ds : List D) (vs : List V) (as : List PyData), RDs K L ρ H ds vs → mapO (toP n hp) ds = some as → DpAll K H vs as
  | n, [], _, as, .nil, h => by cases h; exact .nil
  | n, d :: ds, _, as, .cons q t, h => by
    unfold mapO at h
    cases e : toP n hp d with
    | none => rw [e] at h; cases h
    | some y =>
      rw [e] at h
      cases e2 : mapO (toP n hp) ds with
      | none => simp only [e2] at h; cases h
      | some ys =>
        simp only [e2] at h
        cases h
        exact .cons (toP_dp r n d _ y q e) (toPs_dp r n ds _ ys t e2)
end

/-! ### names in slots -/
structure RE (K : PySem.W.Frag) (L : Lay) (ρ : List Addr) (H : Hp) (env : Env) (σ : L2.St) : Prop where
  len : env.length = σ.length
  at_ : ∀ (i : Nat) (d : D), env[i]? = some (some d) → ∃ v, σ[i]? = some (some v) ∧ RD K L ρ H d v
theorem RE.monoW {env : Env} {σ : L2.St} (e : ExtW ρ H ρ' H') (h : RE K L ρ H env σ) : RE K L ρ' H' env σ := ⟨h.len, fun i d q => let ⟨v, h1, h2⟩ := h.at_ i d q; ⟨v, h1, h2.monoW e⟩⟩
theorem RE.mono {env : Env} {σ : L2.St} (e : Ext ρ H ρ' H') (h : RE K L ρ H env σ) : RE K L ρ' H' env σ := ⟨h.len, fun i d q => let ⟨v, h1, h2⟩ := h.at_ i d q; ⟨v, h1, h2.mono e⟩⟩
theorem RE.set {env : Env} {σ : L2.St} {d : D} {v : V} (h : RE K L ρ H env σ) (i : Nat) (r : RD K L ρ H d v) : RE K L ρ H (env.set i (some d)) (σ.set i (some v)) := by
  refine ⟨by simp [h.len], fun j e q => ?_⟩
  by_cases hj : i = j
  · subst hj
    have hl : i < env.length := by
      have := (List.getElem?_eq_some_iff.mp q).1
      simpa using this
    rw [List.getElem?_set_self hl] at q
    cases q
    exact ⟨v, by rw [List.getElem?_set_self (by rw [← h.len]; exact hl)], r⟩
  · rw [List.getElem?_set_ne hj] at q
    obtain ⟨w, h1, h2⟩ := h.at_ j e q
    exact ⟨w, by rw [List.getElem?_set_ne hj]; exact h1, h2⟩
theorem RE.wipe {env : Env} {σ : L2.St} (h : RE K L ρ H env σ) : ∀ own : List Nat, RE K L ρ H (wipeE env own) (L2.wipe σ own) := by
  intro own
  induction own with
  | nil => exact h
  | cons i r ih =>
    show RE K L ρ H ((wipeE env r).set i none) ((L2.wipe σ r).set i none)
    refine ⟨by simp [ih.len], fun j e q => ?_⟩
    by_cases hj : i = j
    · subst hj
      by_cases hl : i < (wipeE env r).length
      · rw [List.getElem?_set_self hl] at q; cases q
      · have := (List.getElem?_eq_some_iff.mp q).1
        exact absurd (by simpa using this) hl
    · rw [List.getElem?_set_ne hj] at q
      obtain ⟨w, h1, h2⟩ := ih.at_ j e q
      exact ⟨w, by rw [List.getElem?_set_ne hj]; exact h1, h2⟩
end
end MI
/-! MI, part 4: that a tree of the text is the tree of the small language. -/
namespace MI
open PySem L2

/-- the names by which the text calls its things -/
structure Nm where
  fnN : List (Option Str)
  clsN : List Str
  constN : List Str
  attrs : List Str
  mths : List Str
  blts : List Str
  shp : List (Nat × Nat × List Str × List Nat) := []
  mks : List (Nat × Nat × List Str × List Nat) := []
  excN : List (Str × Nat) := []
  exm : List (Str × List Bool) := []

structure Ck where
  nm : Nm
  sc : Scope
  N : List Str
  top : Bool

def bopOf : BOp → Operator
  | .add => .Add | .sub => .Sub | .mul => .Mult | .fdiv => .FloorDiv | .mod => .Mod | .pow => .Pow
def copOf : COp → CmpOp
  | .eq => .Eq | .ne => .NotEq | .lt => .Lt | .le => .LtE | .gt => .Gt | .ge => .GtE | .is => .Is | .nis => .IsNot | .isin => .In | .nin => .NotIn
def bfName : BF → Str
  | .len => "len" | .list1 => "list" | .tuple1 => "tuple" | .dict1 => "dict" | .dict0 => "dict" | .int1 => "int" | .str1 => "str" | .repr => "repr" | .sum1 => "sum"
  | .max1 => "max" | .min1 => "min" | .max2 => "max" | .min2 => "min" | .sorted1 => "sorted" | .all1 => "all" | .any1 => "any" | .isi => "isinstance"
def bfAr : BF → Nat
  | .max2 => 2 | .min2 => 2 | .isi => 2 | _ => 1
def bmName : BM → Str
  | .append => "append" | .extend => "extend" | .pop0 => "pop" | .pop1 => "pop" | .pop2 => "pop" | .get1 => "get" | .get2 => "get" | .setdef => "setdefault" | .clear => "clear"

def Ck.glob (c : Ck) (x : Str) : Bool := decide (c.sc.names.lookup x = some .globalImplicit) && !(x == ("__debug__" : Str)) && decide (x ≠ ("__name__" : Str)) && (x != ("super" : Str))
def Ck.vis (c : Ck) (x : Str) : Bool := (match c.sc.names.lookup x with | some .local => true | some .cell => true | some .free => true | _ => false) && !(x == ("__debug__" : Str)) && !(x == ("__classdict__" : Str))
def Ck.loc (c : Ck) (x : Str) : Bool := match c.sc.names.lookup x with | some .local => true | some .cell => c.top | _ => false
def Ck.inner (c : Ck) (scope : Scope) : Ck := { c with sc := relS scope c.sc, top := false }
def ownOf (N : List Str) (own : List Nat) : List (Str × Nat) := own.map fun i => (N.getD i "", i)

def isSub (e : Expr) : Bool := match e with | .Starred _ _ => true | .Set _ _ _ => true | .Slice _ _ _ _ => true | _ => false
def noComp (e : Expr) : Bool := match e with | .ListComp _ _ _ _ => false | .SetComp _ _ _ _ => false | .DictComp _ _ _ _ _ => false | _ => true
def isTupX (e : Expr) : Bool := match e with | .Tuple _ _ _ => true | _ => false
def isBoolX (e : Expr) : Bool := match e with | .BoolOp _ _ _ => true | _ => false
/-- what a test takes apart -/
def tstX (e : Expr) : Bool := match e with | .UnaryOp .Not _ _ => true | .BoolOp _ _ _ => true | .IfExp _ _ _ _ => true | .Compare _ _ _ _ => true | _ => false
def tstK : Ex → Bool
  | .cmp _ _ _ => true | .cmp2 _ _ _ _ _ => true | .and _ _ => true | .or _ _ => true | .not _ => true | .ite _ _ _ => true | _ => false
/-- pairs come: the target is a tuple -/
def itTg (it : Ix) (e : Expr) : Bool := match it with
  | .enum _ => isTupX e
  | .zip2 _ _ => isTupX e
  | .items _ => isTupX e
  | _ => true
/-- no name but a set's, a slice's, a star's: what stands as an item -/
def tgSlots : Tg → List Nat
  | .nm i => [i]
  | _ => []

def takeX : Nat → Exs → Exs
  | 0, _ => .nil
  | _ + 1, .nil => .nil
  | n + 1, .cons e r => .cons e (takeX n r)
def dropX : Nat → Exs → Exs
  | 0, es => es
  | _ + 1, .nil => .nil
  | n + 1, .cons _ r => dropX n r
def kwNames (ks : List Keyword) : List Str := ks.map fun k => k.arg.getD ""
mutual
def chkE (c : Ck) : Ex → Expr → Bool
  | .var i, e => match e with
    | .Name x _ => decide (c.N[i]? = some x) && c.vis x
    | _ => false
  | .lit d, e => match d, e with
    | .non, .Constant .none _ _ => true
    | .bl b, .Constant (.bool b') _ _ => b == b'
    | .int i, .Constant (.int j) _ _ => decide (i = j)
    | .str x, .Constant (.str y) _ _ => decide (x = y)
    | _, _ => false
  | .glob g, e => match e with
    | .Name x _ => decide (c.nm.constN[g]? = some x) && c.glob x
    | _ => false
  | .bin o a b, e => match e with
    | .BinOp x p y _ => decide (p = bopOf o) && chkE c a x && chkE c b y
    | _ => false
  | .neg a, e => match e with
    | .UnaryOp .USub x _ => chkE c a x
    | _ => false
  | .cmp o a b, e => match e with
    | .Compare x [p] [y] _ => decide (p = copOf o) && chkE c a x && chkE c b y
    | _ => false
  | .cmp2 o p a b d, e => match e with
    | .Compare x [q, r] [y, z] _ => decide (q = copOf o) && decide (r = copOf p) && chkE c a x && chkE c b y && chkE c d z
    | _ => false
  | .and a b, e => match e with
    | .BoolOp .And (x :: y :: rest) p => chkE c a x && (match rest with | [] => chkE c b y | _ => chkE c b (.BoolOp .And (y :: rest) p))
    | _ => false
  | .or a b, e => match e with
    | .BoolOp .Or (x :: y :: rest) p => chkE c a x && (match rest with | [] => chkE c b y | _ => chkE c b (.BoolOp .Or (y :: rest) p))
    | _ => false
  | .not a, e => match e with
    | .UnaryOp .Not x _ => chkE c a x
    | _ => false
  | .ite t a b, e => match e with
    | .IfExp x y z _ => chkE c t x && chkE c a y && chkE c b z
    | _ => false
  | .tup es, e => match e with
    | .Tuple xs _ _ => chkEs c es xs && decide (xs.length ≤ 1000)
    | _ => false
  | .lst es, e => match e with
    | .List xs _ => chkEs c es xs && decide (xs.length ≤ 1000)
    | _ => false
  | .dic es, e => match e with
    | .Dict ks vs _ => chkDi c es ks vs && decide (ks.length ≤ 15)
    | _ => false
  | .bty n, e => match e with
    | .Name x _ => decide (x = PySem.Str.ofString n) && tyAll.contains n && c.glob x && c.nm.blts.contains x
    | _ => false
  | .mmd mx a d, e => match e with
    | .Call (.Name x _) [y] [⟨some k, z, _⟩] _ => decide (x = (if mx then "max" else "min" : Str)) && decide (k = "default") && c.glob x && c.nm.blts.contains x && chkE c a y && chkE c d z
    | _ => false
  | .ix a i, e => match e with
    | .Subscript x y _ => chkE c a x && chkE c i y
    | _ => false
  | .sl a lo hi, e => match e with
    | .Subscript x (.Slice l h none _) _ => chkE c a x && chkEo c lo l && chkEo c hi h
    | _ => false
  | .fld a f, e => match e with
    | .Attribute x n _ => decide (c.nm.attrs[f]? = some n) && chkE c a x
    | _ => false
  | .call f es, e => match e with
    | .Call (.Name x _) (y :: ys) [] _ => decide (c.nm.fnN[f]? = some (some x)) && c.glob x && chkEs c es (y :: ys)
    | .Call (.Name x _) [] [] _ => decide (c.nm.fnN[f]? = some (some x)) && c.glob x && (match es with | .nil => true | _ => false)
    | _ => false
  | .make k es, e => match e with
    | .Call (.Name x _) (y :: ys) [] _ => decide (c.nm.clsN[k]? = some x) && c.glob x && chkEs c es (y :: ys)
    | .Call (.Name x _) [] [] _ => decide (c.nm.clsN[k]? = some x) && c.glob x && (match es with | .nil => true | _ => false)
    | _ => false
  | .meth a m es, e => match e with
    | .Call (.Attribute o n p) (y :: ys) [] q => decide (c.nm.mths[m]? = some n) && chkE c a o && chkEs c es (y :: ys) && decide ((y :: ys).length ≤ 20) && (p.endLine == q.line)
    | .Call (.Attribute o n p) [] [] q => decide (c.nm.mths[m]? = some n) && chkE c a o && (match es with | .nil => true | _ => false) && (p.endLine == q.line)
    | _ => false
  | .blt b es, e => match e with
    | .Call (.Name x _) (y :: ys) [] _ => decide (x = bfName b) && c.glob x && c.nm.blts.contains x && chkEs c es (y :: ys) && decide ((y :: ys).length = bfAr b)
    | _ => false
  | .bm m a es, e => match e with
    | .Call (.Attribute o n p) (y :: ys) [] q => decide (n = bmName m) && chkE c a o && chkEs c es (y :: ys) && decide ((y :: ys).length ≤ 2) && (p.endLine == q.line)
    | .Call (.Attribute o n p) [] [] q => decide (n = bmName m) && chkE c a o && (match es with | .nil => true | _ => false) && (p.endLine == q.line)
    | _ => false
  | .lc own t it d e', e => match e with
    | .ListComp elt [⟨tg, iter, ifs, 0⟩] scope _ => blkC c.N c.sc scope (ownOf c.N own) && chkTg (c.inner scope) t tg && (tgIn own t) && itTg it tg && chkIt c it iter && chkIf (c.inner scope) d ifs && chkE (c.inner scope) e' elt
    | _ => false
  | .dc own t it d k e', e => match e with
    | .DictComp kx vx [⟨tg, iter, ifs, 0⟩] scope _ => blkC c.N c.sc scope (ownOf c.N own) && chkTg (c.inner scope) t tg && (tgIn own t) && itTg it tg && chkIt c it iter && chkIf (c.inner scope) d ifs && chkE (c.inner scope) k kx && chkE (c.inner scope) e' vx
    | _ => false
  | .lc2 own own1 t it t1 a e', e => match e with
    | .ListComp elt [⟨tg, iter, [], 0⟩, ⟨tg1, iter1, [], 0⟩] scope _ => blkC c.N c.sc scope (ownOf c.N own) && chkTg (c.inner scope) t tg && (tgIn own t) && itTg it tg && chkIt c it iter && chkTg (c.inner scope) t1 tg1 && (tgIn own1 t1) && (own1.all fun i => own.contains i) && chkE (c.inner scope) a iter1 && chkE (c.inner scope) e' elt
    | _ => false
  | .lenD a m, e => match e with
    | .Call (.Name x _) [y] [] _ => decide (x = "len") && c.glob x && c.nm.blts.contains x && decide (c.nm.mths[m]? = some "__len__") && chkE c a y
    | _ => false
  | .isx a bs, e => match e with
    | .Call (.Name x _) [y, .Name z _] [] _ => decide (x = "isinstance") && c.glob x && c.nm.blts.contains x && chkE c a y && c.glob z && c.nm.exm.contains (z, bs)
    | .Call (.Name x _) [y, .Tuple [.Name z _, .Name z2 _] _ _] [] _ => decide (x = "isinstance") && c.glob x && c.nm.blts.contains x && chkE c a y && c.glob z && c.glob z2 && (c.nm.exm.any fun p => p.1 == z && c.nm.exm.any fun q => q.1 == z2 && decide (bs = List.zipWith (· || ·) p.2 q.2))
    | _ => false
  | .xfd a f, e => match e with
    | .Attribute y m _ => decide (c.nm.attrs[f]? = some m) && (c.nm.excN.any fun p => decide (p.2 = f)) && chkE c a y
    | _ => false
  | .callK _ _ _, _ => false
  | .makeK _ _ _, _ => false
  | .methK a m es pm, e => match e with
    | .Call (.Attribute o n p) xs (k :: ks) q => decide (c.nm.mths[m]? = some n) && chkE c a o && chkEk c es xs (k :: ks) &&
      (k :: ks).all (fun z => z.arg.isSome) && (c.nm.mks.any fun z => decide (z.1 = m) && decide (z.2.1 = xs.length) && decide (z.2.2.1 = kwNames (k :: ks)) && decide (pm.map (fun s => match s with | .inl j => some j | .inr _ => none) = z.2.2.2.map some)) && decide (xs.length + (k :: ks).length ≤ 20) && (p.endLine == q.line)
    | _ => false
def chkEs (c : Ck) : Exs → List Expr → Bool
  | .nil, xs => match xs with
    | [] => true
    | _ => false
  | .cons e r, xs => match xs with
    | y :: ys => chkE c e y && chkEs c r ys
    | [] => false
def chkEk (c : Ck) : Exs → List Expr → List Keyword → Bool
  | .nil, xs, ks => match xs, ks with
    | [], [] => true
    | _, _ => false
  | .cons e r, xs, ks => match xs with
    | y :: ys => chkE c e y && chkEk c r ys ks
    | [] => match ks with
      | k :: ks => chkE c e k.value && chkEk c r [] ks
      | [] => false
def chkDi (c : Ck) : Exs → List (Option Expr) → List Expr → Bool
  | .nil, ks, vs => match ks, vs with
    | [], [] => true
    | _, _ => false
  | .cons e r, ks, vs => match r with
    | .nil => false
    | .cons e' r' => match ks, vs with
      | some x :: xs, y :: ys => chkE c e x && chkE c e' y && chkDi c r' xs ys
      | _, _ => false
def chkEo (c : Ck) : Exo → Option Expr → Bool
  | .no, x => match x with
    | none => true
    | _ => false
  | .so e, x => match x with
    | some y => chkE c e y
    | none => false
def chkIf (c : Ck) : Exo → List Expr → Bool
  | .no, x => match x with
    | [] => true
    | _ => false
  | .so e, x => match x with
    | [y] => chkE c e y
    | _ => false
def chkTg (c : Ck) : Tg → Expr → Bool
  | .nm i, e => match e with
    | .Name x _ => decide (c.N[i]? = some x) && c.loc x
    | _ => false
  | .tp ts, e => match e with
    | .Tuple xs _ _ => chkTgs c ts xs
    | _ => false
  | .at o f, e => match e with
    | .Attribute x n _ => decide (c.nm.attrs[f]? = some n) && chkE c o x
    | _ => false
  | .sb o i, e => match e with
    | .Subscript x y _ => chkE c o x && chkE c i y
    | _ => false
def chkTgs (c : Ck) : Tgs → List Expr → Bool
  | .nil, xs => match xs with
    | [] => true
    | _ => false
  | .cons t r, xs => match xs with
    | y :: ys => chkTg c t y && chkTgs c r ys
    | [] => false
/-- a target that stores only names of some slots -/
def tgIn (own : List Nat) : Tg → Bool
  | .nm i => own.contains i
  | .tp ts => tgsIn own ts
  | _ => false
def tgsIn (own : List Nat) : Tgs → Bool
  | .nil => true
  | .cons t r => tgIn own t && tgsIn own r
def chkIt (c : Ck) : Ix → Expr → Bool
  | .vl e, x => chkE c e x
  | .rng1 e, x => match x with
    | .Call (.Name n _) [y] [] _ => decide (n = "range") && c.glob n && c.nm.blts.contains n && chkE c e y
    | _ => false
  | .rng2 a b, x => match x with
    | .Call (.Name n _) [y, z] [] _ => decide (n = "range") && c.glob n && c.nm.blts.contains n && chkE c a y && chkE c b z
    | _ => false
  | .enum e, x => match x with
    | .Call (.Name n _) [y] [] _ => decide (n = "enumerate") && c.glob n && c.nm.blts.contains n && chkE c e y
    | _ => false
  | .zip2 a b, x => match x with
    | .Call (.Name n _) [y, z] [] _ => decide (n = "zip") && c.glob n && c.nm.blts.contains n && chkE c a y && chkE c b z
    | _ => false
  | .items e, x => match x with
    | .Call (.Attribute y n p) [] [] q => decide (n = "items") && chkE c e y && (p.endLine == q.line)
    | _ => false
  | .vals e, x => match x with
    | .Call (.Attribute y n p) [] [] q => decide (n = "values") && chkE c e y && (p.endLine == q.line)
    | _ => false
end

def aopOf : BOp → Bool
  | .add => true | .sub => true | _ => false
def isLc : Ex → Bool
  | .lc _ _ _ _ _ => true | _ => false

mutual
def chkS (c : Ck) : St → Stmt → Bool
  | .pass, s => match s with
    | .Pass _ => true
    | .Expr (.Constant (.str _) _ _) _ => true
    | _ => false
  | .brk, s => match s with
    | .Break _ => true
    | _ => false
  | .cont, s => match s with
    | .Continue _ => true
    | _ => false
  | .expr e, s => match s with
    | .Expr x _ => chkE c e x && noComp x
    | _ => false
  | .ret e, s => match s with
    | .Return x _ => chkEo c e x
    | _ => false
  | .asg t e, s => match s with
    | .Assign [x] y _ => match t with
      | .tp ts => match e with
        | .tup es => chkPar c ts es x y
        | _ => chkTg c t x && chkE c e y && !isTupX y
      | .nm _ => chkTg c t x && chkE c e y && (noComp y || isLc e)
      | _ => chkTg c t x && chkE c e y
    | _ => false
  | .augn i o e, s => match s with
    | .AugAssign (.Name x _) p y _ => decide (c.N[i]? = some x) && c.loc x && decide (p = bopOf o) && aopOf o && chkE c e y
    | _ => false
  | .augf a f o e, s => match s with
    | .AugAssign (.Attribute x n _) p y _ => decide (c.nm.attrs[f]? = some n) && decide (p = bopOf o) && aopOf o && chkE c a x && chkE c e y
    | _ => false
  | .ifs t a b, s => match s with
    | .If x y z _ => chkE c t x && chkSs c a y && chkSs c b z
    | _ => false
  | .whl t b, s => match s with
    | .While x y [] _ => chkE c t x && chkSs c b y
    | _ => false
  | .for_ t it b, s => match s with
    | .For x y z [] _ => chkTg c t x && itTg it x && chkIt c it y && chkSs c b z
    | _ => false
  | .raise k f e, s => match s with
    | .Raise (some (.Call (.Name x _) [y] [] _)) none _ => decide (c.nm.excN[k]? = some (x, f)) && c.glob x && chkE c e y
    | _ => false
  | .tryK b bs n k, s => match s with
    | .Try body [.ExceptHandler (some (.Name x _)) (some m) [.Assign [.Name kn _] (.Name m2 _) _] _] [] [] _ => c.top && c.glob x && c.nm.exm.contains (x, bs) && decide (m2 = m) && decide (c.N[n]? = some m) && decide (c.N[k]? = some kn) && decide (n ≠ k) && decide (c.sc.names.lookup m = some .local) && decide (c.sc.names.lookup kn = some .local) && c.vis m && chkSs c b body
    | _ => false
  | .never, _ => true
def chkSs (c : Ck) : Sts → List Stmt → Bool
  | .nil, s => match s with
    | [] => true
    | _ => false
  | .cons s r, ss => match ss with
    | x :: xs => chkS c s x && chkSs c r xs
    | [] => false
/-- a, b = x, y: two local names of one line -/
def chkPar (c : Ck) : Tgs → Exs → Expr → Expr → Bool
  | .cons (.nm i) (.cons (.nm j) .nil), .cons a (.cons b .nil), e, e' => match e, e' with
    | .Tuple [.Name x p, .Name y q] _ _, .Tuple [va, vb] _ _ => decide (i ≠ j) && decide (x ≠ y) && decide (c.N[i]? = some x) && decide (c.N[j]? = some y) && decide (c.sc.names.lookup x = some .local) && decide (c.sc.names.lookup y = some .local) && (q.line == p.line) &&
      chkE c a va && chkE c b vb && !([va, vb].all (foldedForSure 8)) && !([va, vb].all (constantsAlone 8))
    | _, _ => false
  | _, _, _, _ => false
end

def fnScopeB (N : List Str) (np : Nat) (sc : Scope) : Bool :=
  (match sc.kind with | .function => true | _ => false) && !sc.isCoroutine && !sc.isGenerator && decide N.Nodup && decide (np ≤ N.length) &&
    ((N.take np).all fun x => match sc.names.lookup x with | some .local => true | some .cell => true | _ => false) && (sc.names.all fun y => match y.2 with | .free => false | _ => true)
theorem fnScope_by {N : List Str} {np : Nat} {sc : Scope} (h : fnScopeB N np sc = true) : FnScope N (N.take np) sc := by
  unfold fnScopeB at h
  simp only [Bool.and_eq_true, List.all_eq_true, decide_eq_true_eq, Bool.not_eq_true'] at h
  obtain ⟨⟨⟨⟨⟨⟨h1, h2⟩, h3⟩, h4⟩, h5⟩, h6⟩, h7⟩ := h
  refine ⟨?_, h2, h3, h4, ?_, fun x hx => ?_, fun y hy e => ?_⟩
  · split at h1
    · assumption
    · cases h1
  · rw [List.length_take, Nat.min_eq_left h5]
  · have q := h6 x hx
    split at q <;> first | exact .inl (by assumption) | exact .inr (by assumption) | cases q
  · have q := h7 y hy
    rw [e] at q
    cases q
end MI
/-! MI, part 5: readings that say «the small language's run says so»; operations by values. -/
namespace MI
open PySem L2

def KQ (K : PySem.W.Frag) (L : Lay) (ρ : List Addr) (H : Hp) (Q : VK) : QD := fun d hp' => ∀ ρ' H' v, Ext ρ H ρ' H' → RelH K L ρ' hp' H' → RD K L ρ' H' d v → Q v H'
def KQs (K : PySem.W.Frag) (L : Lay) (ρ : List Addr) (H : Hp) (Q : List V → Hp → Prop) : List D → Hq → Prop := fun ds hp' => ∀ ρ' H' vs, Ext ρ H ρ' H' → RelH K L ρ' hp' H' → RDs K L ρ' H' ds vs → Q vs H'
/-- an exception of class c, its dict at place i -/
def KX (K : PySem.W.Frag) (L : Lay) (ρ : List Addr) (H : Hp) (σ : L2.St) (W : WX) : QX := fun c i hp' => ∀ ρ' H' a C, Ext ρ H ρ' H' → RelH K L ρ' hp' H' → ρ'[i]? = some a → L.exs[c]? = some C → W (.ref C) (some a) σ H'
section
variable {K : PySem.W.Frag} {L : Lay} {ρ ρ' : List Addr} {H H' : Hp} {hp hp' : Hq}
theorem KQ.here {Q : VK} {d : D} {v : V} (k : KQ K L ρ H Q d hp) (r : RelH K L ρ hp H) (q : RD K L ρ H d v) : Q v H := k ρ H v (Ext.refl _ _) r q
theorem KQ.ext {Q : VK} {d : D} (k : KQ K L ρ H Q d hp) (e : Ext ρ H ρ' H') : KQ K L ρ' H' Q d hp := fun ρ2 H2 v e2 r q => k ρ2 H2 v (e.trans e2) r q
theorem KX.ext {σ : L2.St} {W : WX} {c i : Nat} (k : KX K L ρ H σ W c i hp) (e : Ext ρ H ρ' H') : KX K L ρ' H' σ W c i hp := fun ρ2 H2 a C e2 r q z => k ρ2 H2 a C (e.trans e2) r q z
/-- a new thing handed on -/
theorem KQ.new {Q : VK} {o : O} {u : HO} (k : KQ K L ρ H Q (.ref hp.length) (hp ++ [o])) (r : RelH K L ρ hp H) (q : RHO K L ρ H o u) : ∀ p, H p = none → Q (.ref p) (upd H p u) := fun p hn => by
  obtain ⟨r2, e2⟩ := r.push hn q
  refine k _ _ _ e2 r2 (.ref ?_)
  rw [← r.len, List.getElem?_append_right (Nat.le_refl _)]
  simp
/-- a new tuple handed on -/
theorem KQ.tup {Q : VK} {ds : List D} {vs : List V} (k : KQ K L ρ H Q (.tup ds) hp) (r : RelH K L ρ hp H) (q : RDs K L ρ H ds vs) : ∀ p, H p = none → Q (.ref p) (upd H p (.tup vs)) := fun p hn => by
  obtain ⟨r2, e2⟩ := r.tmp (u := .tup vs) hn
  exact k _ _ _ e2 r2 (.tup (.of upd_same) (q.mono e2))
theorem RelH.lst {i : Nat} {a : Addr} {xs : List D} (r : RelH K L ρ hp H) (ha : ρ[i]? = some a) (h : gtL hp i = some xs) : ∃ vs, H a = some (.lst vs) ∧ RDs K L ρ H xs vs := by
  obtain ⟨o, u, h1, h2, h3⟩ := r.at2 ha
  unfold gtL at h
  rw [h1] at h
  cases h3 with
  | lst t => cases h; exact ⟨_, h2, t⟩
  | _ => cases h
theorem RelH.dic {i : Nat} {a : Addr} {xs : List (Key × D)} (r : RelH K L ρ hp H) (ha : ρ[i]? = some a) (h : gtD hp i = some xs) : ∃ vs, H a = some (.dK vs) ∧ RKs K L ρ H xs vs := by
  obtain ⟨o, u, h1, h2, h3⟩ := r.at2 ha
  unfold gtD at h
  rw [h1] at h
  cases h3 with
  | dic t => cases h; exact ⟨_, h2, t⟩
  | _ => cases h
theorem RelH.rdic {i : Nat} {a : Addr} {xs : List (Key × D)} (r : RelH K L ρ hp H) (ha : ρ[i]? = some a) (h : rdD hp i = some xs) : ∃ vs, Rd H a (.dK vs) ∧ RKs K L ρ H xs vs := by
  obtain ⟨o, u, h1, h2, h3⟩ := r.at2 ha
  unfold rdD at h
  rw [h1] at h
  cases h3 with
  | dic t => cases h; exact ⟨_, .inl h2, t⟩
  | fdic t => cases h; exact ⟨_, .inr ⟨_, h2⟩, t⟩
  | _ => cases h
theorem RelH.ins {i : Nat} {a : Addr} {c : Nat} {fs : List (Nat × D)} (r : RelH K L ρ hp H) (ha : ρ[i]? = some a) (h : gtI hp i = some (c, fs)) : ∃ C dx vs, L.clss[c]? = some C ∧ H a = some (.ins C dx vs) ∧ RFs K L ρ H fs vs := by
  obtain ⟨o, u, h1, h2, h3⟩ := r.at2 ha
  unfold gtI at h
  rw [h1] at h
  cases h3 with
  | ins hc t => cases h; exact ⟨_, _, _, hc, h2, t⟩
  | _ => cases h
theorem RKs.get {kvs : List (Key × D)} {vs : List (Key × V)} (h : RKs K L ρ H kvs vs) (k : Key) : (dget kvs k = none ∧ valV vs k = none) ∨ ∃ d v, dget kvs k = some d ∧ valV vs k = some v ∧ RD K L ρ H d v := by
  unfold RKs at h
  induction h with
  | nil => exact .inl ⟨rfl, rfl⟩
  | @cons p q l m r t ih =>
    obtain ⟨k', d⟩ := p
    obtain ⟨k2, v⟩ := q
    obtain ⟨e, r⟩ := r
    have e : k' = k2 := e
    subst e
    by_cases hk : k' = k
    · refine .inr ⟨d, v, ?_, valV_pos hk, r⟩
      show (if k' = k then some d else dget l k) = some d
      rw [if_pos hk]
    · have e1 : dget ((k', d) :: l) k = dget l k := by
        show (if k' = k then some d else dget l k) = _
        rw [if_neg hk]
      have e2 : valV ((k', v) :: m) k = valV m k := valV_neg hk
      rw [e1, e2]
      exact ih
theorem RKs.any {kvs : List (Key × D)} {vs : List (Key × V)} (h : RKs K L ρ H kvs vs) (k : Key) : (kvs.any fun kv => decide (kv.1 = k)) = (vs.any fun kv => decide (kv.1 = k)) := by
  unfold RKs at h
  induction h with
  | nil => rfl
  | cons r t ih => rw [List.any_cons, List.any_cons, r.1, ih]
theorem RKs.len {kvs : List (Key × D)} {vs : List (Key × V)} (h : RKs K L ρ H kvs vs) : kvs.length = vs.length := Paired.length h
theorem Paired.app' {α β : Type} {F : α → β → Prop} : ∀ {l₁ m₁ : List α} {l₂ m₂ : List β}, Paired F l₁ l₂ → Paired F m₁ m₂ → Paired F (l₁ ++ m₁) (l₂ ++ m₂)
  | _, _, _, _, .nil, s => s
  | _, _, _, _, .cons r t, s => .cons r (Paired.app' t s)
theorem RKs.map {kvs : List (Key × D)} {vs : List (Key × V)} {d : D} {v : V} (h : RKs K L ρ H kvs vs) (k : Key) (r : RD K L ρ H d v) : RKs K L ρ H (kvs.map fun kv => if kv.1 = k then (kv.1, d) else kv) (vs.map fun kv => if kv.1 = k then (kv.1, v) else kv) := by
  unfold RKs at h ⊢
  induction h with
  | nil => exact .nil
  | @cons p q l m r' t ih =>
    rw [List.map_cons, List.map_cons]
    refine .cons ?_ ih
    rw [r'.1]
    by_cases e : q.1 = k
    · rw [if_pos e, if_pos e]; exact ⟨rfl, r⟩
    · rw [if_neg e, if_neg e]; exact r'
theorem RKs.put {kvs : List (Key × D)} {vs : List (Key × V)} {d : D} {v : V} (h : RKs K L ρ H kvs vs) (k : Key) (r : RD K L ρ H d v) : RKs K L ρ H (dput kvs k d) (putK vs k v) := by
  unfold dput putK
  rw [h.any k]
  split
  · exact RKs.map h k r
  · exact Paired.app' h (.cons ⟨rfl, r⟩ .nil)
theorem RKs.drop {kvs : List (Key × D)} {vs : List (Key × V)} (h : RKs K L ρ H kvs vs) (k : Key) : RKs K L ρ H (ddrop kvs k) (dropK vs k) := by
  unfold ddrop dropK
  unfold RKs at h ⊢
  induction h with
  | nil => exact .nil
  | @cons p q l m r t ih =>
    rw [List.filter_cons, List.filter_cons, r.1]
    split
    · exact .cons r ih
    · exact ih
theorem RFs.get {fs : List (Nat × D)} {vs : List (Str × V)} (nd : L.attrs.Nodup) (h : RFs K L ρ H fs vs) {f : Nat} {n : Str} (hn : L.attrs[f]? = some n) :
    (fget fs f = none ∧ vs.lookup n = none) ∨ ∃ d v, fget fs f = some d ∧ vs.lookup n = some v ∧ RD K L ρ H d v := by
  unfold RFs at h
  induction h with
  | nil => exact .inl ⟨rfl, rfl⟩
  | @cons p q l m r t ih =>
    obtain ⟨g, d⟩ := p
    obtain ⟨x, v⟩ := q
    obtain ⟨e, r⟩ := r
    have e : L.attrs[g]? = some x := e
    by_cases hk : g = f
    · subst hk
      rw [e] at hn
      cases hn
      refine .inr ⟨d, v, ?_, ?_, r⟩
      · show (if g = g then some d else fget l g) = some d
        rw [if_pos rfl]
      · simp [List.lookup]
    · have hx : ¬ n = x := fun z => hk (nodup_at nd e (by rw [hn, z]))
      have e1 : fget ((g, d) :: l) f = fget l f := by
        show (if g = f then some d else fget l f) = _
        rw [if_neg hk]
      have e2 : ((x, v) :: m).lookup n = m.lookup n := by
        show (match n == x with | true => some v | false => m.lookup n) = _
        rw [show (n == x) = false from beq_eq_false_iff_ne.mpr hx]
      rw [e1, e2]
      exact ih
theorem RFs.put {fs : List (Nat × D)} {vs : List (Str × V)} {d : D} {v : V} (nd : L.attrs.Nodup) (h : RFs K L ρ H fs vs) {f : Nat} {n : Str} (hn : L.attrs[f]? = some n) (r : RD K L ρ H d v) :
    RFs K L ρ H (fput fs f d) (putF n v vs) := by
  unfold RFs at h ⊢
  induction h with
  | nil => exact .cons ⟨hn, r⟩ .nil
  | @cons p q l m r' t ih =>
    obtain ⟨g, e⟩ := p
    obtain ⟨x, w⟩ := q
    obtain ⟨hx, r2⟩ := r'
    have hx : L.attrs[g]? = some x := hx
    show Paired _ (if g = f then (g, d) :: l else (g, e) :: fput l f d) (if x = n then (x, v) :: m else (x, w) :: putF n v m)
    by_cases hk : g = f
    · subst hk
      rw [hx] at hn
      cases hn
      rw [if_pos rfl, if_pos rfl]
      exact .cons ⟨hx, r⟩ t
    · have hne : ¬ x = n := fun z => hk (nodup_at nd hx (by rw [hn, z]))
      rw [if_neg hk, if_neg hne]
      exact .cons ⟨hx, r2⟩ ih
theorem RFs.len {fs : List (Nat × D)} {vs : List (Str × V)} (h : RFs K L ρ H fs vs) : fs.length = vs.length := Paired.length h
/-- a value that is a list to be read -/
theorem RD.lsq {d : D} {v : V} {xs : List D} (r : RelH K L ρ hp H) (q : RD K L ρ H d v) (h : lsOf hp d = some xs) : ∃ a vs, v = .ref a ∧ SqL K H a vs ∧ RDs K L ρ H xs vs := by
  cases q with
  | @kl a ys ds hs t => cases h; exact ⟨a, ys, rfl, hs.sq, t⟩
  | @ref i a hs =>
    obtain ⟨vs, h1, h2⟩ := r.lst hs h
    exact ⟨a, vs, rfl, .of h1, h2⟩
  | _ => cases h
theorem RD.sq {d : D} {v : V} {xs : List D} (r : RelH K L ρ hp H) (q : RD K L ρ H d v) (h : sqOf hp d = some xs) : ∃ a vs, v = .ref a ∧ (SqL K H a vs ∨ SqT K H a vs) ∧ RDs K L ρ H xs vs := by
  cases q with
  | @tup a ys ds hs t => cases h; exact ⟨a, ys, rfl, .inr hs, t⟩
  | @kl a ys ds hs t => cases h; exact ⟨a, ys, rfl, .inl hs.sq, t⟩
  | @ref i a hs =>
    obtain ⟨vs, h1, h2⟩ := r.lst hs h
    exact ⟨a, vs, rfl, .inl (.of h1), h2⟩
  | _ => cases h
theorem intsOf_map : ∀ {xs : List D} {vs : List V} {ns : List Int}, RDs K L ρ H xs vs → intsOf xs = some ns → vs = ns.map V.int
  | [], _, ns, .nil, h => by cases h; rfl
  | d :: ds, _, ns, .cons r t, h => by
    cases d with
    | int i =>
      cases r
      unfold intsOf at h
      cases e : intsOf ds with
      | none => rw [e] at h; cases h
      | some ms =>
        rw [e] at h
        cases h
        rw [intsOf_map t e, List.map_cons]
    | _ => cases h
theorem boolsOf_map : ∀ {xs : List D} {vs : List V} {ns : List Bool}, RDs K L ρ H xs vs → boolsOf xs = some ns → vs = ns.map V.bl
  | [], _, ns, .nil, h => by cases h; rfl
  | d :: ds, _, ns, .cons r t, h => by
    cases d with
    | bl i =>
      cases r
      unfold boolsOf at h
      cases e : boolsOf ds with
      | none => rw [e] at h; cases h
      | some ms =>
        rw [e] at h
        cases h
        rw [boolsOf_map t e, List.map_cons]
    | _ => cases h
theorem kOf_kV {d : D} {v : V} {k : Key} (q : RD K L ρ H d v) (h : kOf d = some k) : v = kV k := by
  cases q <;> cases h <;> rfl
theorem keyD_kV (k : Key) : RD K L ρ H (keyD k) (kV k) := by
  cases k with
  | inl i => exact .int i
  | inr x => exact .str x
theorem atI_rd {xs : List D} {vs : List V} {i : Int} {d : D} (t : RDs K L ρ H xs vs) (h : atI xs i = some d) : ∃ v, atI vs i = some v ∧ RD K L ρ H d v := by
  unfold atI at h ⊢
  rw [← t.len]
  cases e : ixN xs.length i with
  | none => rw [e] at h; cases h
  | some j =>
    rw [e] at h
    exact t.get h
theorem cut_rd {xs : List D} {vs : List V} (t : RDs K L ρ H xs vs) (lo hi : Option Int) : RDs K L ρ H (cutD xs lo hi) (cutV vs lo hi) := by
  unfold cutD cutV
  rw [← t.len]
  exact (t.drop _).take _
end

/-! ### rules by values -/
def rMI (K : PySem.W.Frag) (L : Lay) (o : D → D → Hq → OutD) : R2 := fun x y H Q => ∃ ρ hp d e, RelH K L ρ hp H ∧ RD K L ρ H d x ∧ RD K L ρ H e y ∧ (o d e hp).app (KQ K L ρ H Q)
section
variable {X : Cx} {L : Lay}
theorem sz_line : SZ = sizeLine := sizeLine_eq.symm
theorem mi_bin (o : BOp) : OpR X (binaryOp (bopOf o)) (rMI X.K L (oBin o)) := by
  intro pins s σ H x y v u Q I rx ry h
  obtain ⟨ρ, hp, d, e, r, q1, q2, h⟩ := h
  cases o with
  | add =>
    cases d <;> cases e <;> first | exact False.elim h | skip
    · cases q1; cases q2
      exact op_add pins s σ H _ _ v u Q I rx ry ⟨_, _, rfl, rfl, h.here r (.int _)⟩
    · cases q1; cases q2
      exact op_add_str pins s σ H _ _ v u Q I rx ry ⟨_, _, rfl, rfl, by rw [← sz_line]; exact h.1, h.2.here r (.str _)⟩
    · rename_i xs ys
      cases q1 with
      | @tup a vs _ ha ta =>
        cases q2 with
        | @tup b us _ hb tb =>
          refine op_catA pins s σ H _ _ v u Q I rx ry ⟨a, b, vs, us, rfl, rfl, ha, hb, ?_, ?_, ?_, ?_⟩
          · rw [← sz_line, ← ta.len, ← tb.len]; exact h.1
          · intro e
            subst e
            cases ta
            exact h.2.here r (.tup hb tb)
          · intro _ e
            subst e
            cases tb
            have h2 := h.2
            rw [List.append_nil] at h2
            exact h2.here r (.tup ha ta)
          · intro _ _
            exact h.2.tup r (ta.app tb)
    · rename_i i j
      cases q1 with
      | ref ha =>
        cases q2 with
        | ref hb =>
          have h : (match gtL hp i, gtL hp j with
            | some xs, some ys => OutD.cd (xs.length + ys.length ≤ SZ) (.ref hp.length) (hp ++ [O.lst (xs ++ ys)])
            | _, _ => .no).app (KQ X.K L ρ H Q) := h
          cases e1 : gtL hp i with
          | none => rw [e1] at h; exact False.elim h
          | some xs =>
            cases e2 : gtL hp j with
            | none => rw [e1, e2] at h; exact False.elim h
            | some ys =>
              rw [e1, e2] at h
              obtain ⟨vs, g1, t1⟩ := r.lst ha e1
              obtain ⟨us, g2, t2⟩ := r.lst hb e2
              refine op_cat pins s σ H _ _ v u Q I rx ry ⟨_, _, vs, us, rfl, rfl, g1, g2, ?_, ?_⟩
              · rw [← sz_line, ← t1.len, ← t2.len]; exact h.1
              · exact h.2.new r (.lst (t1.app t2))
  | sub =>
    cases d <;> cases e <;> first | exact False.elim h | skip
    cases q1; cases q2
    exact op_sub pins s σ H _ _ v u Q I rx ry ⟨_, _, rfl, rfl, h.here r (.int _)⟩
  | mul =>
    cases d <;> cases e <;> first | exact False.elim h | skip
    · cases q1; cases q2
      exact op_mul pins s σ H _ _ v u Q I rx ry ⟨_, _, rfl, rfl, h.1, h.2.here r (.int _)⟩
    · rename_i i k
      cases q2
      cases q1 with
      | ref ha =>
        have h : (match gtL hp i with
          | some xs => OutD.cd (-(2 ^ 63) ≤ k ∧ k < 2 ^ 63 ∧ xs.length * k.toNat ≤ SZ) (.ref hp.length) (hp ++ [O.lst (List.replicate k.toNat xs).flatten])
          | none => .no).app (KQ X.K L ρ H Q) := h
        cases e1 : gtL hp i with
        | none => rw [e1] at h; exact False.elim h
        | some xs =>
          rw [e1] at h
          obtain ⟨vs, g1, t1⟩ := r.lst ha e1
          obtain ⟨⟨c1, c2, c3⟩, h⟩ := h
          refine op_rep pins s σ H _ _ v u Q I rx ry ⟨_, _, vs, rfl, rfl, g1, c1, c2, ?_, ?_⟩
          · rw [← sz_line, ← t1.len]; exact c3
          · exact h.new r (.lst (t1.rep _))
  | fdiv =>
    cases d <;> cases e <;> first | exact False.elim h | skip
    cases q1; cases q2
    exact op_fdiv pins s σ H _ _ v u Q I rx ry ⟨_, _, rfl, rfl, h.1, h.2.here r (.int _)⟩
  | mod =>
    cases d <;> cases e <;> first | exact False.elim h | skip
    cases q1; cases q2
    exact op_mod pins s σ H _ _ v u Q I rx ry ⟨_, _, rfl, rfl, h.1, h.2.here r (.int _)⟩
  | pow =>
    cases d <;> cases e <;> first | exact False.elim h | skip
    cases q1; cases q2
    exact op_pow pins s σ H _ _ v u Q I rx ry ⟨_, _, rfl, rfl, h.1, h.2.here r (.int _)⟩
end
end MI
/-! MI, part 6: comparisons, truth, items, slices, built-in functions and methods, by values. -/
namespace MI
open PySem PySem.Spec PyProof.Rows L2
section
variable {X : Cx} {L : Lay} {ρ : List Addr} {hp : Hq} {H : Hp}

theorem flD_eq {K : PySem.W.Frag} {d : D} {x y : V} (q1 : RD K L ρ H d x) (q2 : RD K L ρ H d y) (h : flD d = true) : y = x ∧ flatB x = true := by
  cases q1 <;> first | (cases h; done) | skip
  all_goals
    cases q2
    exact ⟨rfl, rfl⟩
theorem rks_of {K : PySem.W.Frag} : ∀ {ks : List (Key × D)} {vs : List (Key × V)}, RKs K L ρ H ks vs → ∀ q ∈ vs, ∃ p ∈ ks, p.1 = q.1 ∧ RD K L ρ H p.2 q.2
  | _, _, .nil, q, h => by cases h
  | _, _, .cons (a := p) r t, q, h => by
    rcases List.mem_cons.mp h with e | e
    · subst e; exact ⟨p, List.mem_cons_self, r⟩
    · obtain ⟨p', h1, h2⟩ := rks_of t q e
      exact ⟨p', List.mem_cons_of_mem _ h1, h2⟩
theorem eq_dic {K : PySem.W.Frag} {ks ls : List (Key × D)} {vs us : List (Key × V)} (t1 : RKs K L ρ H ks vs) (t2 : RKs K L ρ H ls us) (h : ks.length = ls.length ∧ ∀ p ∈ ks, dget ls p.1 = some p.2 ∧ flD p.2 = true) :
    vs.length = us.length ∧ ∀ p ∈ vs, valV us p.1 = some p.2 ∧ flatB p.2 = true := by
  refine ⟨by rw [← t1.len, ← t2.len]; exact h.1, fun q hq => ?_⟩
  obtain ⟨p, hp, e, r⟩ := rks_of t1 q hq
  obtain ⟨g1, g2⟩ := h.2 p hp
  rcases t2.get p.1 with ⟨z, _⟩ | ⟨d, v, z1, z2, z3⟩
  · rw [z] at g1; cases g1
  · rw [z1] at g1
    cases g1
    obtain ⟨e1, e2⟩ := flD_eq r z3 g2
    rw [← e, z2, e1]
    exact ⟨rfl, e2⟩
theorem eq_cases {K : PySem.W.Frag} {d e : D} {x y : V} {k : Bool → Prop} (r : RelH K L ρ hp H) (q1 : RD K L ρ H d x) (q2 : RD K L ρ H e y) (h : (oEq d e hp).app k) :
    (scal x y = true ∧ k (decide (x = y))) ∨ (∃ a b vs us, x = .ref a ∧ y = .ref b ∧ H a = some (.dK vs) ∧ H b = some (.dK us) ∧ vs.length = us.length ∧ (∀ p ∈ vs, valV us p.1 = some p.2 ∧ flatB p.2 = true) ∧ k true) ∨ ∃ a b, Dp K H x a ∧ Dp K H y b ∧ SeqAt.shaped a = true ∧ SeqAt.shaped b = true ∧ k (PyData.eqv a b) := by
  unfold oEq at h
  split at h
  · cases q1; cases q2
    refine .inl ⟨rfl, ?_⟩
    have : ∀ i j : Int, decide (V.int i = V.int j) = decide (i = j) := fun i j => by simp
    rw [this]; exact h
  · cases q1; cases q2
    refine .inl ⟨rfl, ?_⟩
    have : ∀ i j : Str, decide (V.str i = V.str j) = decide (i = j) := fun i j => by simp
    rw [this]; exact h
  · cases q1; cases q2
    refine .inl ⟨rfl, ?_⟩
    have : ∀ i j : Bool, decide (V.bl i = V.bl j) = decide (i = j) := fun i j => by simp
    rw [this]; exact h
  · cases q1; cases q2
    exact .inl ⟨rfl, h⟩
  · right
    have plain : (oEqP d e hp).app k → ∃ a b, Dp K H x a ∧ Dp K H y b ∧ SeqAt.shaped a = true ∧ SeqAt.shaped b = true ∧ k (PyData.eqv a b) := by
      intro h
      unfold oEqP at h
      cases e1 : toP 40 hp d with
      | none => rw [e1] at h; exact False.elim h
      | some a =>
        cases e2 : toP 40 hp e with
        | none => rw [e1, e2] at h; exact False.elim h
        | some b =>
          rw [e1, e2] at h
          exact ⟨a, b, toP_dp r 40 d x a q1 e1, toP_dp r 40 e y b q2 e2, h.1.1, h.1.2, h.2⟩
    unfold oEqG at h
    split at h
    · split at h
      · rename_i ks ls z1 z2
        left
        cases q1 with
        | ref h1 =>
          cases q2 with
          | ref h2 =>
            obtain ⟨vs, g1, t1⟩ := r.dic h1 z1
            obtain ⟨us, g2, t2⟩ := r.dic h2 z2
            obtain ⟨c1, c2⟩ := eq_dic t1 t2 h.1
            exact ⟨_, _, vs, us, rfl, rfl, g1, g2, c1, c2, h.2⟩
      · exact .inr (plain h)
    · exact .inr (plain h)

theorem isNon_rd {K : PySem.W.Frag} {d : D} {x : V} (q : RD K L ρ H d x) : isNon d = decide (x = .non) := by
  cases q <;> rfl

theorem op_inT (hu : X.A.units + 65 < cLine) : OpR X (compareOp .In) (fun x y H Q => ∃ d ds, Dp X.K H x d ∧ Dp X.K H y (.tuple ds) ∧ SeqAt.shaped d = true ∧ SeqAt.shaped (.list ds) = true ∧ Q (.bl (ds.any fun z => PyData.eqv z d)) H) := by
  intro pins s σ H x y v u Q I rx ry h
  obtain ⟨d, ds, hd, he, sd, se, q⟩ := h
  obtain ⟨as, r1⟩ := Dp.reads I d x v hd rx
  obtain ⟨bs, r2⟩ := Dp.reads I (.tuple ds) y u he ry
  exact SeqAt.in_tuple_reads r2 r1 (SeqAt.canLay_of_shaped se) (SeqAt.canLay_of_shaped sd) (room_in_shaped sd hu) ⟨.bl _, H, I, rfl, q⟩
theorem op_notInT (hu : X.A.units + 65 < cLine) : OpR X (compareOp .NotIn) (fun x y H Q => ∃ d ds, Dp X.K H x d ∧ Dp X.K H y (.tuple ds) ∧ SeqAt.shaped d = true ∧ SeqAt.shaped (.list ds) = true ∧ Q (.bl (!ds.any fun z => PyData.eqv z d)) H) := by
  intro pins s σ H x y v u Q I rx ry h
  obtain ⟨d, ds, hd, he, sd, se, q⟩ := h
  obtain ⟨as, r1⟩ := Dp.reads I d x v hd rx
  obtain ⟨bs, r2⟩ := Dp.reads I (.tuple ds) y u he ry
  exact SeqAt.notIn_tuple_reads r2 r1 (SeqAt.canLay_of_shaped se) (SeqAt.canLay_of_shaped sd) (room_in_shaped sd hu) ⟨.bl _, H, I, rfl, q⟩

theorem in_cases {K : PySem.W.Frag} {d e : D} {x y : V} {k : Bool → Prop} (r : RelH K L ρ hp H) (q1 : RD K L ρ H d x) (q2 : RD K L ρ H e y) (h : (oIn d e hp).app k) :
    (∃ a o, y = .ref a ∧ DGet H a x o ∧ k o.isSome) ∨ (∃ a b, Dp K H x a ∧ Dp K H y (.list b) ∧ SeqAt.shaped a = true ∧ SeqAt.shaped (.list b) = true ∧ k (b.any fun z => PyData.eqv z a)) ∨
      ∃ a b, Dp K H x a ∧ Dp K H y (.tuple b) ∧ SeqAt.shaped a = true ∧ SeqAt.shaped (.list b) = true ∧ k (b.any fun z => PyData.eqv z a) := by
  have seq : ∀ ys : List D, (oInS d ys hp).app k → ∃ a b, toP 40 hp d = some a ∧ mapO (toP 40 hp) ys = some b ∧ SeqAt.shaped a = true ∧ SeqAt.shaped (.list b) = true ∧ k (b.any fun z => PyData.eqv z a) := fun ys h => by
    unfold oInS at h
    cases e1 : toP 40 hp d with
    | none => rw [e1] at h; exact False.elim h
    | some a =>
      cases e2 : mapO (toP 40 hp) ys with
      | none => rw [e1, e2] at h; exact False.elim h
      | some b =>
        rw [e1, e2] at h
        exact ⟨a, b, rfl, rfl, h.1.1, h.1.2, h.2⟩
  have dic : ∀ (a : Addr) (kvs : List (Key × D)) (vs : List (Key × V)), y = .ref a → Rd H a (.dK vs) → RKs K L ρ H kvs vs → (oInD d kvs).app k → ∃ a o, y = .ref a ∧ DGet H a x o ∧ k o.isSome := fun a kvs vs ey hr hk h => by
    unfold oInD at h
    cases e1 : kOf d with
    | none => rw [e1] at h; exact False.elim h
    | some key =>
      rw [e1] at h
      have ex := kOf_kV q1 e1
      refine ⟨a, valV vs key, ey, .inl ⟨vs, key, hr, ex, rfl⟩, ?_⟩
      rcases hk.get key with ⟨g1, g2⟩ | ⟨d', v', g1, g2, _⟩
      · have h : k (dget kvs key).isSome := h
        rw [g1] at h
        rw [g2]; exact h
      · have h : k (dget kvs key).isSome := h
        rw [g1] at h
        rw [g2]; exact h
  cases q2 with
  | @tup a vs ys hs t =>
    right; right
    obtain ⟨a', b, e1, e2, s1, s2, h⟩ := seq ys h
    exact ⟨a', b, toP_dp r 40 d x a' q1 e1, .tup hs (toPs_dp r 40 ys vs b t e2), s1, s2, h⟩
  | @kl a vs ys hs t =>
    right; left
    obtain ⟨a', b, e1, e2, s1, s2, h⟩ := seq ys h
    exact ⟨a', b, toP_dp r 40 d x a' q1 e1, .lst hs.sq (toPs_dp r 40 ys vs b t e2), s1, s2, h⟩
  | @ref i a hs =>
    obtain ⟨o, u, g1, g2, g3⟩ := r.at2 hs
    have h : (match hp[i]? with
      | some (.dic kvs) => oInD d kvs
      | some (.fdic kvs) => oInD d kvs
      | some (.lst ys) => oInS d ys hp
      | _ => .no).app k := h
    rw [g1] at h
    cases g3 with
    | @lst ys vs t =>
      right; left
      obtain ⟨a', b, e1, e2, s1, s2, h⟩ := seq ys h
      exact ⟨a', b, toP_dp r 40 d x a' q1 e1, .lst (.of g2) (toPs_dp r 40 ys vs b t e2), s1, s2, h⟩
    | dic t => exact .inl (dic a _ _ rfl (.inl g2) t h)
    | fdic t => exact .inl (dic a _ _ rfl (.inr ⟨_, g2⟩) t h)
    | _ => exact False.elim h
  | _ => exact False.elim h

theorem val_app {o : OutB} {neg : Bool} {Q : QD} (h : (o.val neg hp).app Q) : o.app fun b => Q (.bl (if neg then !b else b)) hp := by
  cases o with
  | no => exact h
  | ok b => exact h
  | cd C b => exact h
theorem mi_cmp (hu : X.A.units + 65 < cLine) (o : COp) : OpR X (compareOp (copOf o)) (rMI X.K L (oCmp o)) := by
  intro pins s σ H x y v u Q I rx ry h
  obtain ⟨ρ, hp, d, e, r, q1, q2, h⟩ := h
  have bl : ∀ b, KQ X.K L ρ H Q (.bl b) hp → Q (.bl b) H := fun b k => k.here r (.bl b)
  cases o with
  | eq =>
    have h := val_app h
    rcases eq_cases r q1 q2 h with ⟨hs, k⟩ | ⟨a, b, vs, us, e1, e2, g1, g2, c1, c2, k⟩ | ⟨a, b, d1, d2, s1, s2, k⟩
    · exact op_eq pins s σ H x y v u Q I rx ry ⟨hs, bl _ k⟩
    · exact op_eq_dictA (by omega) pins s σ H x y v u Q I rx ry ⟨a, b, vs, us, e1, e2, g1, g2, c1, c2, bl _ k⟩
    · exact op_eqD (by omega) pins s σ H x y v u Q I rx ry ⟨a, b, d1, d2, s1, s2, bl _ k⟩
  | ne =>
    have h := val_app h
    rcases eq_cases r q1 q2 h with ⟨hs, k⟩ | ⟨a, b, vs, us, e1, e2, g1, g2, c1, c2, k⟩ | ⟨a, b, d1, d2, s1, s2, k⟩
    · exact op_ne pins s σ H x y v u Q I rx ry ⟨hs, bl _ k⟩
    · exact op_ne_dictA (by omega) pins s σ H x y v u Q I rx ry ⟨a, b, vs, us, e1, e2, g1, g2, c1, c2, bl _ k⟩
    · exact op_neD (by omega) pins s σ H x y v u Q I rx ry ⟨a, b, d1, d2, s1, s2, bl _ k⟩
  | lt =>
    cases d <;> cases e <;> first | exact False.elim h | skip
    cases q1; cases q2
    exact op_lt pins s σ H _ _ v u Q I rx ry ⟨_, _, rfl, rfl, bl _ h⟩
  | le =>
    cases d <;> cases e <;> first | exact False.elim h | skip
    cases q1; cases q2
    exact op_le pins s σ H _ _ v u Q I rx ry ⟨_, _, rfl, rfl, bl _ h⟩
  | gt =>
    cases d <;> cases e <;> first | exact False.elim h | skip
    cases q1; cases q2
    exact op_gt pins s σ H _ _ v u Q I rx ry ⟨_, _, rfl, rfl, bl _ h⟩
  | ge =>
    cases d <;> cases e <;> first | exact False.elim h | skip
    cases q1; cases q2
    exact op_ge pins s σ H _ _ v u Q I rx ry ⟨_, _, rfl, rfl, bl _ h⟩
  | is =>
    cases e <;> first | exact False.elim h | skip
    cases q2
    have h : KQ X.K L ρ H Q (.bl (isNon d)) hp := h
    rw [isNon_rd q1] at h
    exact op_isN pins s σ H _ _ v u Q I rx ry ⟨rfl, bl _ h⟩
  | nis =>
    cases e <;> first | exact False.elim h | skip
    cases q2
    have h : KQ X.K L ρ H Q (.bl (!isNon d)) hp := h
    rw [isNon_rd q1] at h
    exact op_notN pins s σ H _ _ v u Q I rx ry ⟨rfl, bl _ h⟩
  | isin =>
    have h := val_app h
    rcases in_cases r q1 q2 h with ⟨a, o, ey, g, k⟩ | ⟨a, b, d1, d2, s1, s2, k⟩ | ⟨a, b, d1, d2, s1, s2, k⟩
    · subst ey
      cases ry
      exact d_in (by omega) I g rx fun s3 I3 => ⟨.bl o.isSome, H, I3, rfl, bl _ k⟩
    · exact op_inD hu pins s σ H x y v u Q I rx ry ⟨a, b, d1, d2, s1, s2, bl _ k⟩
    · exact op_inT hu pins s σ H x y v u Q I rx ry ⟨a, b, d1, d2, s1, s2, bl _ k⟩
  | nin =>
    have h := val_app h
    rcases in_cases r q1 q2 h with ⟨a, o, ey, g, k⟩ | ⟨a, b, d1, d2, s1, s2, k⟩ | ⟨a, b, d1, d2, s1, s2, k⟩
    · subst ey
      cases ry
      exact d_notIn (by omega) I g rx fun s3 I3 => ⟨.bl (!o.isSome), H, I3, rfl, bl _ k⟩
    · exact op_notInD hu pins s σ H x y v u Q I rx ry ⟨a, b, d1, d2, s1, s2, bl _ k⟩
    · exact op_notInT hu pins s σ H x y v u Q I rx ry ⟨a, b, d1, d2, s1, s2, bl _ k⟩

/-! ### truth -/
theorem tru_of {K : PySem.W.Frag} {d : D} {x : V} {k : Bool → Prop} (r : RelH K L ρ hp H) (q : RD K L ρ H d x) (h : (oTru d hp).app k) : ∃ b, TruV K x H b ∧ k b := by
  cases q with
  | non => exact ⟨_, rfl, h⟩
  | bl b => exact ⟨_, rfl, h⟩
  | int i => exact ⟨_, rfl, h⟩
  | str y => exact ⟨_, ⟨by rw [← sz_line]; exact h.1, rfl⟩, h.2⟩
  | @tup a xs ds hs t =>
    refine ⟨!xs.isEmpty, .inr (.inl ⟨xs, hs, rfl⟩), ?_⟩
    have h : k (!ds.isEmpty) := h
    cases t <;> exact h
  | @kl a xs ds hs t =>
    refine ⟨!xs.isEmpty, .inl ⟨xs, hs.sq, rfl⟩, ?_⟩
    have h : k (!ds.isEmpty) := h
    cases t <;> exact h
  | @ref i a hs =>
    obtain ⟨o, u, g1, g2, g3⟩ := r.at2 hs
    have h : (match hp[i]? with
      | some (.lst xs) => OutB.ok (!xs.isEmpty)
      | some (.dic kvs) => .ok (!kvs.isEmpty)
      | _ => .no).app k := h
    rw [g1] at h
    cases g3 with
    | @lst xs vs t =>
      refine ⟨!vs.isEmpty, .inl ⟨vs, .of g2, rfl⟩, ?_⟩
      have h : k (!xs.isEmpty) := h
      cases t <;> exact h
    | @dic xs vs t =>
      refine ⟨!vs.isEmpty, .inr (.inr ⟨vs, g2, rfl⟩), ?_⟩
      have h : k (!xs.isEmpty) := h
      unfold RKs at t
      cases t <;> exact h
    | _ => exact False.elim h
  | _ => exact False.elim h

/-! ### items, slices -/
theorem mi_ix (hu : X.A.units + 65 < cLine) : IxR X (rMI X.K L oIx) := by
  intro value slice pins s σ H x y v u Q I rx ry h hs
  obtain ⟨ρ, hp, d, e, r, q1, q2, h⟩ := h
  have item : ∀ (ds : List D) (i : Int) (vs : List V), RDs X.K L ρ H ds vs → (oAtI ds i hp).app (KQ X.K L ρ H Q) → ∃ w, atI vs i = some w ∧ Q w H := fun ds i vs t h => by
    unfold oAtI at h
    cases e1 : atI ds i with
    | none => rw [e1] at h; exact False.elim h
    | some d' =>
      rw [e1] at h
      obtain ⟨w, g1, g2⟩ := atI_rd t e1
      exact ⟨w, g1, KQ.here h r g2⟩
  have dic : ∀ (a : Addr) (kvs : List (Key × D)) (vs : List (Key × V)), x = .ref a → Rd H a (.dK vs) → RKs X.K L ρ H kvs vs → (oAtK kvs e hp).app (KQ X.K L ρ H Q) → wpAny (model X.prog X.w) X.A (subscriptTail value slice v u) (EP X pins σ Q) X.xe s := fun a kvs vs ex hr hk h => by
    unfold oAtK at h
    cases e1 : kOf e with
    | none => rw [e1] at h; exact False.elim h
    | some key =>
      rw [e1] at h
      rcases hk.get key with ⟨g1, g2⟩ | ⟨d', v', g1, g2, g3⟩
      · simp only [g1] at h; exact False.elim h
      · simp only [g1] at h
        have ey := kOf_kV q2 e1
        subst ex
        have rx' : v = Value.ref a := rx
        subst rx'
        have g : DGet H a y (some v') := .inl ⟨vs, key, hr, ey, g2.symm⟩
        obtain ⟨kvs', hd⟩ : ∃ kvs', Rd H a (.dK kvs') := ⟨vs, hr⟩
        obtain ⟨_, hd2, vs', _, dd⟩ := dk_rd I.hok hd
        exact tail_any dd.typeIs PySem.F.slot_dict_getitem.lookup (d_getItem (by omega) I g ry fun w' s' I' rw' => ⟨v', H, I', rw', KQ.here h r g3⟩) hs
  cases q1 with
  | @tup a vs ds hs' t =>
    cases e <;> first | exact False.elim h | skip
    cases q2
    obtain ⟨w, g1, g2⟩ := item ds _ vs t h
    exact ix_tup value slice pins s σ H _ _ v u Q I rx ry ⟨a, vs, _, w, rfl, rfl, hs', g1, g2⟩ hs
  | @kl a vs ds hs' t =>
    cases e <;> first | exact False.elim h | skip
    cases q2
    obtain ⟨w, g1, g2⟩ := item ds _ vs t h
    exact ix_list value slice pins s σ H _ _ v u Q I rx ry ⟨a, vs, _, w, rfl, rfl, hs'.sq, g1, g2⟩ hs
  | @ref i a ha =>
    obtain ⟨o, w, g1, g2, g3⟩ := r.at2 ha
    unfold oIx at h
    simp only [g1] at h
    cases g3 with
    | @lst ds vs t =>
      cases e <;> first | exact False.elim h | skip
      cases q2
      obtain ⟨w, k1, k2⟩ := item ds _ vs t h
      exact ix_list value slice pins s σ H _ _ v u Q I rx ry ⟨a, vs, _, w, rfl, rfl, .of g2, k1, k2⟩ hs
    | dic t => exact dic a _ _ rfl (.inl g2) t h
    | fdic t => exact dic a _ _ rfl (.inr ⟨_, g2⟩) t h
    | _ => exact False.elim h
  | _ => exact False.elim h

def rSlMI (K : PySem.W.Frag) (L : Lay) : V → Option Int → Option Int → Hp → VK → Prop := fun x lo hi H Q => ∃ ρ hp d, RelH K L ρ hp H ∧ RD K L ρ H d x ∧ (oSl d lo hi hp).app (KQ K L ρ H Q)
theorem mi_sl : SlR X (rSlMI X.K L) := by
  intro pins s σ H x v vl vu lo hi sl Q I rx hs pl pu h
  obtain ⟨ρ, hp, d, r, q, h⟩ := h
  unfold oSl at h
  cases q with
  | @tup a vs ds ht t =>
    have h : KQ X.K L ρ H Q (.tup (cutD ds lo hi)) hp := h
    refine sl_tupA pins s σ H _ v vl vu lo hi sl Q I rx hs pl pu ⟨a, vs, rfl, ht, fun hz => ?_, fun _ => h.tup r (cut_rd t lo hi)⟩
    obtain ⟨z1, z2⟩ := hz
    have e : cutD ds lo hi = ds := by
      unfold cutD
      rw [t.len, z1, z2, List.drop_zero, Nat.sub_zero, ← t.len, List.take_length]
    rw [e] at h
    exact h.here r (.tup ht t)
  | @ref i a ha =>
    have h : (match gtL hp i with
      | some xs => oNew hp (.lst (cutD xs lo hi))
      | none => .no).app (KQ X.K L ρ H Q) := h
    cases e1 : gtL hp i with
    | none => rw [e1] at h; exact False.elim h
    | some xs =>
      rw [e1] at h
      obtain ⟨vs, g1, t⟩ := r.lst ha e1
      exact sl_list pins s σ H _ v vl vu lo hi sl Q I rx hs pl pu ⟨a, vs, rfl, .of g1, KQ.new h r (.lst (cut_rd t lo hi))⟩
  | _ => exact False.elim h
end
end MI
/-! MI, part 7: built-in functions, methods of built-in types, stores, by values. -/
namespace MI
open PySem PySem.Spec PyProof.Rows L2

def bfV : BF → Value
  | .list1 => .type "list"
  | .tuple1 => .type "tuple"
  | .int1 => .type "int"
  | .dict1 => .type "dict"
  | .dict0 => .type "dict"
  | .str1 => .type "str"
  | .len => .builtin "len"
  | .repr => .builtin "repr"
  | .sum1 => .builtin "sum"
  | .max1 => .builtin "max"
  | .min1 => .builtin "min"
  | .max2 => .builtin "max"
  | .min2 => .builtin "min"
  | .sorted1 => .builtin "sorted"
  | .all1 => .builtin "all"
  | .any1 => .builtin "any"
  | .isi => .builtin "isinstance"
def rBF (K : PySem.W.Frag) (L : Lay) (b : BF) : List V → Hp → VK → Prop := fun vs H Q => ∃ ρ hp ds, RelH K L ρ hp H ∧ RDs K L ρ H ds vs ∧ (oBF b ds hp).app (KQ K L ρ H Q)

theorem merge_rks {K : PySem.W.Frag} {L : Lay} {ρ : List Addr} {H : Hp} : ∀ {kvs : List (Key × D)} {vs : List (Key × V)} {acc : List (Key × D)} {acv : List (Key × V)}, RKs K L ρ H kvs vs → RKs K L ρ H acc acv → RKs K L ρ H (kvs.foldl (fun acc kv => dput acc kv.1 kv.2) acc) (mergeK acv vs)
  | [], _, acc, acv, .nil, ra => ra
  | p :: kvs, _, acc, acv, .cons (b := q) r t, ra => by
    obtain ⟨e, r⟩ := r
    show RKs K L ρ H (kvs.foldl _ (dput acc p.1 p.2)) (mergeK (putK acv q.1 q.2) _)
    refine merge_rks t ?_
    rw [← e]
    exact ra.put p.1 r
theorem prs_rd {K : PySem.W.Frag} {L : Lay} {ρ : List Addr} {H : Hp} : ∀ {xs : List D} {vs : List V} {kvs : List (Key × D)}, RDs K L ρ H xs vs → prsOf xs = some kvs → ∃ (ps : List Addr) (kvs' : List (Key × V)), vs = ps.map V.ref ∧ Paired (fun p kv => SqT K H p [kV kv.1, kv.2]) ps kvs' ∧ RKs K L ρ H kvs kvs'
  | [], _, kvs, .nil, h => by
    cases h
    exact ⟨[], [], rfl, .nil, .nil⟩
  | d :: xs, _, kvs, .cons r t, h => by
    unfold prsOf at h
    split at h
    · rename_i z
      cases z
    · rename_i k v r' heq
      cases heq
      cases e : kOf k with
      | none => simp only [e] at h; cases h
      | some key =>
        cases e2 : prsOf xs with
        | none => simp only [e, e2] at h; cases h
        | some kvs0 =>
          simp only [e, e2] at h
          cases h
          obtain ⟨ps, kvs', h1, h2, h3⟩ := prs_rd t e2
          cases r with
          | @tup a us _ hs tt =>
            cases tt with
            | cons r1 tt =>
              cases tt with
              | cons r2 tt =>
                cases tt
                have ek := kOf_kV r1 e
                subst ek
                exact ⟨a :: ps, (key, _) :: kvs', by rw [h1]; rfl, .cons hs h2, .cons ⟨rfl, r2⟩ h3⟩
    · cases h
theorem imax_spec : ∀ (ns : List Int) (m : Int), (imax m ns = m ∨ imax m ns ∈ ns) ∧ m ≤ imax m ns ∧ ∀ y ∈ ns, y ≤ imax m ns
  | [], m => ⟨.inl rfl, Int.le_refl _, fun y h => by cases h⟩
  | n :: r, m => by
    have ih := imax_spec r (if n > m then n else m)
    show (imax (if n > m then n else m) r = m ∨ imax (if n > m then n else m) r ∈ n :: r) ∧ m ≤ imax (if n > m then n else m) r ∧ ∀ y ∈ n :: r, y ≤ imax (if n > m then n else m) r
    obtain ⟨h1, h2, h3⟩ := ih
    refine ⟨?_, ?_, fun y hy => ?_⟩
    · rcases h1 with h1 | h1
      · by_cases h : n > m
        · rw [if_pos h] at h1 ⊢; right; rw [h1]; exact List.mem_cons_self
        · rw [if_neg h] at h1 ⊢; left; exact h1
      · right; exact List.mem_cons_of_mem _ h1
    · split at h2 <;> split <;> omega
    · rcases List.mem_cons.mp hy with e | e
      · subst e; split at h2 <;> split <;> omega
      · exact h3 y e
theorem imin_spec : ∀ (ns : List Int) (m : Int), (imin m ns = m ∨ imin m ns ∈ ns) ∧ imin m ns ≤ m ∧ ∀ y ∈ ns, imin m ns ≤ y
  | [], m => ⟨.inl rfl, Int.le_refl _, fun y h => by cases h⟩
  | n :: r, m => by
    have ih := imin_spec r (if n < m then n else m)
    show (imin (if n < m then n else m) r = m ∨ imin (if n < m then n else m) r ∈ n :: r) ∧ imin (if n < m then n else m) r ≤ m ∧ ∀ y ∈ n :: r, imin (if n < m then n else m) r ≤ y
    obtain ⟨h1, h2, h3⟩ := ih
    refine ⟨?_, ?_, fun y hy => ?_⟩
    · rcases h1 with h1 | h1
      · by_cases h : n < m
        · rw [if_pos h] at h1 ⊢; right; rw [h1]; exact List.mem_cons_self
        · rw [if_neg h] at h1 ⊢; left; exact h1
      · right; exact List.mem_cons_of_mem _ h1
    · split at h2 <;> split <;> omega
    · rcases List.mem_cons.mp hy with e | e
      · subst e; split at h2 <;> split <;> omega
      · exact h3 y e

section
variable {X : Cx} {L : Lay}
theorem repr_any (hg : X.A.guards = some []) (hu : X.A.units + 200 < cLine) : CallR X (.builtin "repr") (fun vs H Q => ∃ x a, vs = [x] ∧ Dp X.K H x a ∧ SeqAt.shaped a = true ∧ a.showable = true ∧ a.shown.length ≤ sizeLine ∧ Q (.str a.shown) H) := by
  intro pins s σ H xs us Q I rv h
  obtain ⟨x, a, rfl, hd, hs, hw, hz, q⟩ := h
  obtain ⟨u, rfl, rx⟩ := vals1 rv
  have fin : ∀ (h' : Heap) (t tk : Nat), (∀ b o, s.heap.get? b = some o → h'.get? b = some o) → EP X pins σ Q (.str a.shown t) { s with heap := h', toks := tk } := fun h' t tk k => ⟨.str a.shown, H, I.kept k, ⟨t, rfl⟩, q⟩
  have hdep : a.depth ≤ 64 := by
    unfold SeqAt.shaped at hs
    simp only [Bool.and_eq_true, decide_eq_true_eq] at hs
    exact hs.2
  have hnd : a.hasDict = false := PyData.hasDict_of_canLay a (SeqAt.canLay_of_shaped hs)
  have refs : ∀ (p : Addr), u = .ref p → wpAny (model X.prog X.w) X.A (call (.builtin "repr") [u]) (EP X pins σ Q) X.xe s := fun p e => by
    obtain ⟨as, r1⟩ := Dp.reads I a x u hd rx
    subst e
    exact repr_of_reads' r1 hw (PyData.noDict_hsm hnd) hg (by omega) (fun _ _ e => e) (fun h' t tk k => fin h' t tk k) hz
  cases hd with
  | non =>
    cases rx
    refine PySem.P.repr_of_none ?_
    have := fin s.heap s.toks (s.toks + 1) (fun _ _ e => e)
    rw [PyData.shown_none] at this
    exact this
  | bl b =>
    cases rx
    refine PySem.P.repr_of_bool ?_
    have := fin s.heap s.toks (s.toks + 1) (fun _ _ e => e)
    rw [PyData.shown_bool] at this
    exact this
  | int i =>
    obtain ⟨t, rfl⟩ := rx
    refine PySem.P.repr_of_int (by simpa [PyData.showable] using hw) ?_
    have := fin s.heap s.toks (s.toks + 1) (fun _ _ e => e)
    rw [PyData.shown_int] at this
    exact this
  | str z =>
    obtain ⟨t, rfl⟩ := rx
    refine PySem.P.repr_of_str ?_ (by rw [PyData.shown_str] at hz; exact hz)
    have := fin s.heap s.toks (s.toks + 1) (fun _ _ e => e)
    rw [PyData.shown_str] at this
    exact this
  | lst _ _ => cases rx; exact refs _ rfl
  | tup _ _ => cases rx; exact refs _ rfl

theorem kit_all : ∀ a ∈ "NoneType" :: tyAll, ∀ b ∈ tyAll, kitB a b = some (isiB a b) := by decide +kernel
theorem ty_of {ρ : List Addr} {hp : Hq} {H : Hp} {d : D} {v : V} {a : String} (r : RelH X.K L ρ hp H) (q : RD X.K L ρ H d v) (h : tyOf hp d = some a) : TyX X.K H v (.type a) ∧ a ∈ "NoneType" :: tyAll := by
  cases q with
  | non => cases h; exact ⟨.base .non, by decide +kernel⟩
  | bl b => cases h; exact ⟨.base (.bl b), by decide +kernel⟩
  | int i => cases h; exact ⟨.base (.int i), by decide +kernel⟩
  | str x => cases h; exact ⟨.base (.str x), by decide +kernel⟩
  | tup hs t =>
    cases h
    refine ⟨?_, by decide +kernel⟩
    rcases hs with (e | ⟨o, e⟩) | ⟨o, its, n, e, c, _⟩
    · exact .base (.tup e)
    · exact .fTuple e
    · exact .kTuple e c
  | kl hs t =>
    cases h
    refine ⟨?_, by decide +kernel⟩
    rcases hs with ⟨o, e⟩ | ⟨o, its, n, e, c, _⟩
    · exact .base (.frz e)
    · exact .kList e c
  | @ref i p hs =>
    obtain ⟨o, u, g1, g2, g3⟩ := r.at2 hs
    unfold tyOf at h
    simp only [g1] at h
    cases g3 with
    | lst t => cases h; exact ⟨.base (.lst g2), by decide +kernel⟩
    | dic t => cases h; exact ⟨.base (.dK g2), by decide +kernel⟩
    | fdic t => cases h; exact ⟨.fDict g2, by decide +kernel⟩
    | _ => cases h
  | _ => cases h
theorem mi_bf (hc : X.calm = true) (hg : X.A.guards = some []) (hu : X.A.units + 200 < cLine) (b : BF) : CallR X (bfV b) (rBF X.K L b) := by
  intro pins s σ H vs us Q I rv h
  obtain ⟨ρ, hp, ds, r, q, h⟩ := h
  cases b with
  | len =>
    cases q with
    | nil => exact False.elim h
    | @cons d v _ _ qd qt =>
      cases qt with
      | cons _ _ => exact False.elim (by cases d <;> exact h)
      | nil =>
        cases qd with
        | str x => exact call_len_str pins s σ H _ us Q I rv ⟨x, rfl, by rw [← sz_line]; exact h.1, h.2.here r (.int _)⟩
        | @tup a xs ys hs t =>
          have h : KQ X.K L ρ H Q (.int ys.length) hp := h
          rw [t.len] at h
          exact call_len_seq pins s σ H _ us Q I rv ⟨a, xs, rfl, .inr hs, h.here r (.int _)⟩
        | @kl a xs ys hs t =>
          have h : KQ X.K L ρ H Q (.int ys.length) hp := h
          rw [t.len] at h
          exact call_len_seq pins s σ H _ us Q I rv ⟨a, xs, rfl, .inl hs.sq, h.here r (.int _)⟩
        | @ref i a hs =>
          obtain ⟨o, w, g1, g2, g3⟩ := r.at2 hs
          unfold oBF at h
          simp only [g1] at h
          cases g3 with
          | @lst ys xs t =>
            have h : KQ X.K L ρ H Q (.int ys.length) hp := h
            rw [t.len] at h
            exact call_len_seq pins s σ H _ us Q I rv ⟨a, xs, rfl, .inl (.of g2), h.here r (.int _)⟩
          | @dic ys xs t =>
            have h : KQ X.K L ρ H Q (.int ys.length) hp := h
            rw [t.len] at h
            obtain ⟨u, rfl, rx⟩ := vals1 rv
            cases rx
            exact d_len I (.inl g2) fun t' s' I' => ⟨.int xs.length, H, I', ⟨t', rfl⟩, h.here r (.int _)⟩
          | @fdic ys xs ob t =>
            have h : KQ X.K L ρ H Q (.int ys.length) hp := h
            rw [t.len] at h
            obtain ⟨u, rfl, rx⟩ := vals1 rv
            cases rx
            exact d_len I (.inr ⟨_, g2⟩) fun t' s' I' => ⟨.int xs.length, H, I', ⟨t', rfl⟩, h.here r (.int _)⟩
          | _ => exact False.elim h
        | _ => exact False.elim h
  | list1 =>
    cases q with
    | nil => exact False.elim h
    | @cons d v _ _ qd qt =>
      cases qt with
      | cons _ _ => exact False.elim h
      | nil =>
        unfold oBF at h
        cases e : sqOf hp d with
        | none => simp only [e] at h; exact False.elim h
        | some ys =>
          simp only [e] at h
          obtain ⟨a, xs, rfl, hs, t⟩ := qd.sq r e
          exact call_list_of pins s σ H _ us Q I rv ⟨a, xs, rfl, hs, KQ.new h r (.lst t)⟩
  | tuple1 =>
    cases q with
    | nil => exact False.elim h
    | @cons d v _ _ qd qt =>
      cases qt with
      | cons _ _ => exact False.elim h
      | nil =>
        unfold oBF at h
        cases e : sqOf hp d with
        | none => simp only [e] at h; exact False.elim h
        | some ys =>
          simp only [e] at h
          have h : KQ X.K L ρ H Q (.tup ys) hp := h
          obtain ⟨a, xs, rfl, hs, t⟩ := qd.sq r e
          refine call_tuple_of pins s σ H _ us Q I rv ⟨a, xs, rfl, ?_⟩
          rcases hs with hs | hs
          · exact .inl ⟨hs, h.tup r t⟩
          · exact .inr ⟨hs, h.here r (.tup hs t)⟩
  | dict1 =>
    cases q with
    | nil => exact False.elim h
    | @cons d v _ _ qd qt =>
      cases qt with
      | cons _ _ => exact False.elim h
      | nil =>
        unfold oBF at h
        cases e : lsOf hp d with
        | some ys =>
          simp only [e] at h
          cases e2 : prsOf ys with
          | none => simp only [e2] at h; exact False.elim h
          | some kvs =>
            simp only [e2] at h
            obtain ⟨a, xs, rfl, hs, t⟩ := qd.lsq r e
            obtain ⟨ps, kvs', rfl, h2, h3⟩ := prs_rd t e2
            exact call_dictP hc pins s σ H _ us Q I rv ⟨a, ps, kvs', rfl, hs, h2, KQ.new h r (.dic (merge_rks h3 .nil))⟩
        | none =>
          simp only [e] at h
          cases qd with
          | @ref i a ha =>
            simp only at h
            cases e2 : rdD hp i with
            | none => simp only [e2] at h; exact False.elim h
            | some kvs =>
              simp only [e2] at h
              obtain ⟨vs, g1, t⟩ := r.rdic ha e2
              exact call_dictD pins s σ H _ us Q I rv ⟨a, vs, rfl, g1, KQ.new h r (.dic t)⟩
          | _ => exact False.elim h
  | int1 =>
    cases q with
    | nil => exact False.elim h
    | @cons d v _ _ qd qt =>
      cases qt with
      | cons _ _ => exact False.elim (by cases d <;> exact h)
      | nil =>
        cases qd with
        | int i => exact call_int1 pins s σ H _ us Q I rv (.inl ⟨i, rfl, KQ.here h r (.int _)⟩)
        | bl k => exact call_int1 pins s σ H _ us Q I rv (.inr ⟨k, rfl, KQ.here h r (.int _)⟩)
        | _ => exact False.elim h
  | repr =>
    cases q with
    | nil => exact False.elim h
    | @cons d v _ _ qd qt =>
      cases qt with
      | cons _ _ => exact False.elim h
      | nil =>
        unfold oBF at h
        cases e : toP 40 hp d with
        | none => simp only [e] at h; exact False.elim h
        | some a =>
          simp only [e] at h
          obtain ⟨⟨h1, h2, h3⟩, h⟩ := h
          exact repr_any hg hu pins s σ H _ us Q I rv ⟨v, a, rfl, toP_dp r 40 d v a qd e, h1, h2, by rw [← sz_line]; exact h3, KQ.here h r (.str _)⟩
  | sum1 =>
    cases q with
    | nil => exact False.elim h
    | @cons d v _ _ qd qt =>
      cases qt with
      | cons _ _ => exact False.elim h
      | nil =>
        unfold oBF at h
        cases e : lsOf hp d with
        | none => simp only [e] at h; exact False.elim h
        | some ys =>
          cases e2 : intsOf ys with
          | none => simp only [e, Option.bind_some, e2] at h; exact False.elim h
          | some ns =>
            simp only [e, Option.bind_some, e2] at h
            obtain ⟨a, xs, rfl, hs, t⟩ := qd.lsq r e
            have ex := intsOf_map t e2
            subst ex
            exact cr_sum hc pins s σ H _ us Q I rv ⟨a, ns, rfl, hs, KQ.here h r (.int _)⟩
  | max2 =>
    cases q with
    | nil => exact False.elim h
    | @cons d v _ _ qd qt =>
      cases qt with
      | nil => exact False.elim (by cases d <;> exact h)
      | @cons d2 v2 _ _ qd2 qt =>
        cases qt with
        | cons _ _ => exact False.elim (by cases d <;> cases d2 <;> exact h)
        | nil =>
          cases d <;> cases d2 <;> first | exact False.elim h | skip
          cases qd; cases qd2
          exact call_max2 hc pins s σ H _ us Q I rv ⟨_, _, rfl, KQ.here h r (.int _)⟩
  | min2 =>
    cases q with
    | nil => exact False.elim h
    | @cons d v _ _ qd qt =>
      cases qt with
      | nil => exact False.elim (by cases d <;> exact h)
      | @cons d2 v2 _ _ qd2 qt =>
        cases qt with
        | cons _ _ => exact False.elim (by cases d <;> cases d2 <;> exact h)
        | nil =>
          cases d <;> cases d2 <;> first | exact False.elim h | skip
          cases qd; cases qd2
          exact call_min2 hc pins s σ H _ us Q I rv ⟨_, _, rfl, KQ.here h r (.int _)⟩
  | max1 =>
    cases q with
    | nil => exact False.elim h
    | @cons d v _ _ qd qt =>
      cases qt with
      | cons _ _ => exact False.elim h
      | nil =>
        unfold oBF at h
        cases e : lsOf hp d with
        | none => simp only [e] at h; exact False.elim h
        | some ys =>
          cases e2 : intsOf ys with
          | none => simp only [e, Option.bind_some, e2] at h; exact False.elim h
          | some ns =>
            simp only [e, Option.bind_some, e2] at h
            obtain ⟨a, xs, rfl, hs, t⟩ := qd.lsq r e
            have ex := intsOf_map t e2
            subst ex
            cases ns with
            | nil => exact False.elim h
            | cons n ns =>
              have h : KQ X.K L ρ H Q (.int (imax n ns)) hp := h
              refine cr_max hc pins s σ H _ us Q I rv ⟨a, n :: ns, rfl, hs, by simp, fun m hm hle => ?_⟩
              obtain ⟨k1, k2, k3⟩ := imax_spec ns n
              have e3 : m = imax n ns := by
                apply Int.le_antisymm
                · rcases List.mem_cons.mp hm with z | z
                  · rw [z]; exact k2
                  · exact k3 m z
                · rcases k1 with z | z
                  · rw [z]; exact hle n List.mem_cons_self
                  · exact hle _ (List.mem_cons_of_mem _ z)
              rw [e3]
              exact KQ.here h r (.int _)
  | min1 =>
    cases q with
    | nil => exact False.elim h
    | @cons d v _ _ qd qt =>
      cases qt with
      | cons _ _ => exact False.elim h
      | nil =>
        unfold oBF at h
        cases e : lsOf hp d with
        | none => simp only [e] at h; exact False.elim h
        | some ys =>
          cases e2 : intsOf ys with
          | none => simp only [e, Option.bind_some, e2] at h; exact False.elim h
          | some ns =>
            simp only [e, Option.bind_some, e2] at h
            obtain ⟨a, xs, rfl, hs, t⟩ := qd.lsq r e
            have ex := intsOf_map t e2
            subst ex
            cases ns with
            | nil => exact False.elim h
            | cons n ns =>
              have h : KQ X.K L ρ H Q (.int (imin n ns)) hp := h
              refine cr_min hc pins s σ H _ us Q I rv ⟨a, n :: ns, rfl, hs, by simp, fun m hm hle => ?_⟩
              obtain ⟨k1, k2, k3⟩ := imin_spec ns n
              have e3 : m = imin n ns := by
                apply Int.le_antisymm
                · rcases k1 with z | z
                  · rw [z]; exact hle n List.mem_cons_self
                  · exact hle _ (List.mem_cons_of_mem _ z)
                · rcases List.mem_cons.mp hm with z | z
                  · rw [z]; exact k2
                  · exact k3 m z
              rw [e3]
              exact KQ.here h r (.int _)
  | all1 =>
    cases q with
    | nil => exact False.elim h
    | @cons d v _ _ qd qt =>
      cases qt with
      | cons _ _ => exact False.elim h
      | nil =>
        unfold oBF at h
        cases e : lsOf hp d with
        | none => simp only [e] at h; exact False.elim h
        | some ys =>
          cases e2 : boolsOf ys with
          | none => simp only [e, Option.bind_some, e2] at h; exact False.elim h
          | some ns =>
            simp only [e, Option.bind_some, e2] at h
            obtain ⟨a, xs, rfl, hs, t⟩ := qd.lsq r e
            have ex := boolsOf_map t e2
            subst ex
            exact cr_all hc pins s σ H _ us Q I rv ⟨a, ns, rfl, hs, KQ.here h r (.bl _)⟩
  | any1 =>
    cases q with
    | nil => exact False.elim h
    | @cons d v _ _ qd qt =>
      cases qt with
      | cons _ _ => exact False.elim h
      | nil =>
        unfold oBF at h
        cases e : lsOf hp d with
        | none => simp only [e] at h; exact False.elim h
        | some ys =>
          cases e2 : boolsOf ys with
          | none => simp only [e, Option.bind_some, e2] at h; exact False.elim h
          | some ns =>
            simp only [e, Option.bind_some, e2] at h
            obtain ⟨a, xs, rfl, hs, t⟩ := qd.lsq r e
            have ex := boolsOf_map t e2
            subst ex
            exact cr_any hc pins s σ H _ us Q I rv ⟨a, ns, rfl, hs, KQ.here h r (.bl _)⟩
  | isi =>
    cases q with
    | nil => exact False.elim h
    | @cons d v _ _ qd qt =>
      cases qt with
      | nil => exact False.elim h
      | @cons d2 v2 _ _ qd2 qt =>
        cases qt with
        | cons _ _ => exact False.elim (by cases d2 <;> exact h)
        | nil =>
          cases qd2 with
          | ty b =>
            unfold oBF at h
            cases e : tyOf hp d with
            | none => simp only [e] at h; exact False.elim h
            | some a =>
              simp only [e] at h
              split at h
              · rename_i hb
                obtain ⟨ty, ha⟩ := ty_of r qd e
                exact call_isi pins s σ H _ us Q I rv ⟨v, .ty b, .type a, .type b, isiB a b, rfl, .ty b, ty, kit_ty (kit_all a ha b (by simpa using hb)), h.here r (.bl _)⟩
              · exact False.elim h
          | _ => exact False.elim h
  | _ => exact False.elim h
theorem alike_ints (ns : List Int) : PySem.W.AlikeAll (ns.map PyData.int) := by
  refine ⟨fun x hx y hy => ?_, fun x hx => ?_⟩
  · obtain ⟨i, _, rfl⟩ := List.mem_map.mp hx
    obtain ⟨j, _, rfl⟩ := List.mem_map.mp hy
    rfl
  · obtain ⟨i, _, rfl⟩ := List.mem_map.mp hx
    exact fun z => nomatch z
theorem DpAll.ints {K : PySem.W.Frag} {H : Hp} : ∀ ns : List Int, DpAll K H (ns.map V.int) (ns.map PyData.int)
  | [] => .nil
  | n :: r => .cons (.int n) (DpAll.ints r)
theorem depth_ints : ∀ ns : List Int, PyData.depthAll (ns.map PyData.int) ≤ 1
  | [] => Nat.zero_le _
  | n :: r => by
    show max (PyData.int n).depth (PyData.depthAll (r.map PyData.int)) ≤ 1
    exact Nat.max_le.mpr ⟨by unfold PyData.depth; exact Nat.zero_le _, depth_ints r⟩
theorem imin_fold : ∀ (ns : List Int) (m : Int), imin m ns = ns.foldl min m
  | [], m => rfl
  | n :: r, m => by
    show imin (if n < m then n else m) r = r.foldl min (min m n)
    rw [imin_fold r]
    congr 1
    split <;> omega
theorem imax_fold : ∀ (ns : List Int) (m : Int), imax m ns = ns.foldl max m
  | [], m => rfl
  | n :: r, m => by
    show imax (if n > m then n else m) r = r.foldl max (max m n)
    rw [imax_fold r]
    congr 1
    split <;> omega
def rMmd (K : PySem.W.Frag) (L : Lay) (mx : Bool) : List V → List V → Hp → VK → Prop := fun vs zs H Q => ∃ ρ hp d e v z, vs = [v] ∧ zs = [z] ∧ RelH K L ρ hp H ∧ RD K L ρ H d v ∧ RD K L ρ H e z ∧ (oMmd mx d e hp).app (KQ K L ρ H Q)
theorem mi_mmd (hc : X.calm = true) (hu : X.A.units + 200 < cLine) (mx : Bool) : CallRK X (.builtin (if mx then "max" else "min")) ["default"] (rMmd X.K L mx) := by
  intro pins s σ H vs zs us ws Q I rv rz h
  obtain ⟨ρ, hp, d, e, v, z, rfl, rfl, r, q1, q2, h⟩ := h
  unfold oMmd at h
  cases e1 : lsOf hp d with
  | none => simp only [e1] at h; exact False.elim h
  | some ys =>
    cases e2 : intsOf ys with
    | none => simp only [e1, Option.bind_some, e2] at h; exact False.elim h
    | some ns =>
      simp only [e1, Option.bind_some, e2] at h
      obtain ⟨a, xs, rfl, hs, t⟩ := q1.lsq r e1
      have ex := intsOf_map t e2
      subst ex
      obtain ⟨its, rx, hl, _⟩ := I.list hs
      obtain ⟨as, ra⟩ := Dp.readsAll I (ns.map PyData.int) _ _ (DpAll.ints ns) rx
      have ru := Vals.ref1 rv
      subst ru
      obtain ⟨w, rfl, rw'⟩ := Vals.one rz
      have hd := depth_ints ns
      have kp : ∀ {v' : V} {u' : Value} {h' : Heap} {tk : Nat}, RelV v' u' → Q v' H → (∀ b o, s.heap.get? b = some o → h'.get? b = some o) → EP X pins σ Q u' { s with heap := h', toks := tk } := fun {v' u' h' tk} r q k => ⟨v', H, I.kept k, r, q⟩
      have itm : ∀ {i : Nat} {u : Value} {n : Int} {h' : Heap} {bs : List Addr}, its.toArray[i]? = some u → Reads h' u (.int n) bs → RelV (.int n) u := fun {i u n h' bs} _ rr => by
        cases rr with
        | int _ t => exact ⟨t, rfl⟩
      cases mx with
      | false =>
        refine PySem.W.min_list_default (I.ok.hd hc) hl.isList (by simpa using ra) (alike_ints ns) (by omega) (fun hn h' tk k => ?_) (fun y yt i u h' tk bs hy hi rr k => ?_)
        · cases ns with
          | nil => exact kp rw' (h.here r q2) k
          | cons _ _ => cases hn
        · cases ns with
          | nil => cases hy
          | cons n nr =>
            cases hy
            rw [PySem.W.minD_ints, ← imin_fold] at rr
            exact kp (itm hi rr) (h.here r (.int _)) k
      | true =>
        refine PySem.W.max_list_default (I.ok.hd hc) hl.isList (by simpa using ra) (alike_ints ns) (by omega) (fun hn h' tk k => ?_) (fun y yt i u h' tk bs hy hi rr k => ?_)
        · cases ns with
          | nil => exact kp rw' (h.here r q2) k
          | cons _ _ => cases hn
        · cases ns with
          | nil => cases hy
          | cons n nr =>
            cases hy
            rw [PySem.W.maxD_ints, ← imax_fold] at rr
            exact kp (itm hi rr) (h.here r (.int _)) k
end
end MI
/-! MI, part 8: methods of built-in types; stores; attributes, by values. -/
namespace MI
open PySem PySem.Spec PyProof.Rows L2
section
variable {X : Cx} {L : Lay}

def bkT : BK → String
  | .lst => "list"
  | .dic => "dict"
  | .str => "str"
/-- a built-in type's method, as the text calls it on a receiver of this kind -/
structure BmFact (X : Cx) (L : Lay) (m : BM) (k : BK) : Prop where
  ex : ∃ T id, PlainAttrs T ∧ Slot T (bmName m) id ∧ typeOf (.builtin id) = pure (.type "method_descriptor") ∧ bkT k = T ∧
    ∀ (pins : List (Addr × Obj)) (s : Shared) (σ : L2.St) (H : Hp) (x : V) (xs : List V) (v : Value) (us : List Value) (Q : VK) (ρ : List Addr) (hp : Hq) (d : D) (ds : List D),
      Inv X pins σ H s → RelV x v → Vals xs us → RelH X.K L ρ hp H → RD X.K L ρ H d x → RDs X.K L ρ H ds xs → (oBM m k d ds hp).app (KQ X.K L ρ H Q) →
      wpAny (model X.prog X.w) X.A (call (.builtin id) (v :: us)) (EP X pins σ Q) X.xe s

theorem bm_kind {pins : List (Addr × Obj)} {σ : L2.St} {H : Hp} {s : Shared} {ρ : List Addr} {hp : Hq} {d : D} {x : V} {v : Value} {m : BM} {k : BK} (I : Inv X pins σ H s) (r : RelH X.K L ρ hp H) (q : RD X.K L ρ H d x) (rx : RelV x v) (h : bmK m d hp = some k) :
    s.TypeIs v (bkT k) ∧ ∀ a, v = .ref a → ∃ ob, s.heap.get? a = some ob ∧ ob.dict = none := by
  cases q with
  | @ref i a hs =>
    cases rx
    obtain ⟨o, u, g1, g2, g3⟩ := r.at2 hs
    unfold bmK at h
    cases m <;> simp only [g1] at h <;> cases g3 <;> simp only [Option.some.injEq, reduceCtorEq] at h <;> subst h
    all_goals first
      | exact tyV_is (T := "list") (x := V.ref a) I rfl (.inl ⟨rfl, _, .of g2⟩)
      | exact let ⟨t1, t2, _⟩ := isD_at I (.inl ⟨_, .inl g2⟩); ⟨t1, t2⟩
      | exact let ⟨t1, t2, _⟩ := isD_at I (.inl ⟨_, .inr ⟨_, g2⟩⟩); ⟨t1, t2⟩
  | _ => exact False.elim (by cases m <;> cases h)

theorem bm_fact (hu : X.A.units + 65 < cLine) (hh : X.calm = true) : ∀ (m : BM) (k : BK) (d : D) (hp : Hq), bmK m d hp = some k → BmFact X L m k := by
  intro m k d hp h
  have hk : (m = .append ∧ k = .lst) ∨ (m = .get1 ∧ k = .dic) ∨ (m = .get2 ∧ k = .dic) ∨ (m = .pop1 ∧ k = .dic) ∨ (m = .pop1 ∧ k = .lst) ∨ (m = .pop2 ∧ k = .dic) ∨ (m = .clear ∧ k = .lst) ∨ (m = .clear ∧ k = .dic) := by
    unfold bmK at h
    split at h <;> (try split at h) <;> simp_all
  clear h
  rcases hk with ⟨rfl, rfl⟩ | ⟨rfl, rfl⟩ | ⟨rfl, rfl⟩ | ⟨rfl, rfl⟩ | ⟨rfl, rfl⟩ | ⟨rfl, rfl⟩ | ⟨rfl, rfl⟩ | ⟨rfl, rfl⟩
  · -- append
    refine ⟨"list", "list.append", PySem.F.plainAttrs_list, PySem.F.slot_list_append, PySem.F.type_list_append, rfl, ?_⟩
    intro pins s σ H x xs v us Q ρ hp d ds I rx rv r q qs h
    cases q with
    | @ref i a hs =>
      cases qs with
      | nil => exact False.elim h
      | @cons e w _ _ qe qt =>
        cases qt with
        | cons _ _ => exact False.elim h
        | nil =>
          unfold oBM at h
          cases e1 : gtL hp i with
          | none => simp only [e1] at h; exact False.elim h
          | some ys =>
            simp only [e1] at h
            obtain ⟨vs, g1, t⟩ := r.lst hs e1
            obtain ⟨h1, h2⟩ := h
            have tl : RDs X.K L ρ H (ys ++ [e]) (vs ++ [w]) := t.app (.one qe)
            obtain ⟨r2, e2⟩ := r.put hs (.lst tl) (by intro o k z; rw [g1] at z; cases z)
            exact mt_append pins s σ H _ _ v us Q I rx rv ⟨a, vs, w, rfl, rfl, g1, by rw [← sz_line, ← t.len]; exact h1, h2 _ _ _ e2 r2 .non⟩
    | _ => exact False.elim h
  · -- get1
    refine ⟨"dict", "dict.get", PySem.F.plainAttrs_dict, PySem.F.slot_dict_get, PySem.F.type_dict_get, rfl, ?_⟩
    intro pins s σ H x xs v us Q ρ hp d ds I rx rv r q qs h
    cases q with
    | @ref i a hs =>
      cases qs with
      | nil => exact False.elim h
      | @cons e w _ _ qe qt =>
        cases qt with
        | cons _ _ => exact False.elim h
        | nil =>
          unfold oBM at h
          cases e1 : rdD hp i with
          | none => simp only [e1] at h; exact False.elim h
          | some kvs =>
            cases e2 : kOf e with
            | none => simp only [e1, e2] at h; exact False.elim h
            | some key =>
              simp only [e1, e2] at h
              obtain ⟨vs, g1, t⟩ := r.rdic hs e1
              have ew := kOf_kV qe e2
              obtain ⟨u, rfl, ru⟩ := Vals.one rv
              cases rx
              have g : DGet H a w (valV vs key) := .inl ⟨vs, key, g1, ew, rfl⟩
              refine d_get1 (by omega) I g ru fun w' s3 I3 rw' => ⟨_, H, I3, rw', ?_⟩
              have h : KQ X.K L ρ H Q ((dget kvs key).getD .non) hp := h
              rcases t.get key with ⟨k1, k2⟩ | ⟨d', v', k1, k2, k3⟩
              · rw [k1] at h; rw [k2]; exact h.here r .non
              · rw [k1] at h; rw [k2]; exact h.here r k3
    | _ => exact False.elim h
  · -- get2
    refine ⟨"dict", "dict.get", PySem.F.plainAttrs_dict, PySem.F.slot_dict_get, PySem.F.type_dict_get, rfl, ?_⟩
    intro pins s σ H x xs v us Q ρ hp d ds I rx rv r q qs h
    cases q with
    | @ref i a hs =>
      cases qs with
      | nil => exact False.elim h
      | @cons e w _ _ qe qt =>
        cases qt with
        | nil => exact False.elim h
        | @cons e' w' _ _ qe' qt =>
          cases qt with
          | cons _ _ => exact False.elim h
          | nil =>
            unfold oBM at h
            cases e1 : rdD hp i with
            | none => simp only [e1] at h; exact False.elim h
            | some kvs =>
              cases e2 : kOf e with
              | none => simp only [e1, e2] at h; exact False.elim h
              | some key =>
                simp only [e1, e2] at h
                obtain ⟨vs, g1, t⟩ := r.rdic hs e1
                have ew := kOf_kV qe e2
                obtain ⟨u, u', rfl, ru, ru'⟩ := Vals.two rv
                cases rx
                have g : DGet H a w (valV vs key) := .inl ⟨vs, key, g1, ew, rfl⟩
                refine d_get2 (by omega) I g ru ru' fun w2 s3 I3 rw' => ⟨_, H, I3, rw', ?_⟩
                have h : KQ X.K L ρ H Q ((dget kvs key).getD e') hp := h
                rcases t.get key with ⟨k1, k2⟩ | ⟨d', v', k1, k2, k3⟩
                · rw [k1] at h; rw [k2]; exact h.here r qe'
                · rw [k1] at h; rw [k2]; exact h.here r k3
    | _ => exact False.elim h
  · -- pop1 of a dict
    refine ⟨"dict", "dict.pop", PySem.F.plainAttrs_dict, PySem.F.slot_dict_pop, PySem.F.type_dict_pop, rfl, ?_⟩
    intro pins s σ H x xs v us Q ρ hp d ds I rx rv r q qs h
    cases q with
    | @ref i a hs =>
      cases qs with
      | nil => exact False.elim h
      | @cons e w _ _ qe qt =>
        cases qt with
        | cons _ _ => exact False.elim h
        | nil =>
          unfold oBM at h
          cases e1 : gtD hp i with
          | none => simp only [e1] at h; exact False.elim h
          | some kvs =>
            cases e2 : kOf e with
            | none => simp only [e1, e2] at h; exact False.elim h
            | some key =>
              simp only [e1, e2] at h
              obtain ⟨vs, g1, t⟩ := r.dic hs e1
              have ew := kOf_kV qe e2
              obtain ⟨u, rfl, ru⟩ := Vals.one rv
              cases rx
              rcases t.get key with ⟨k1, k2⟩ | ⟨d', v', k1, k2, k3⟩
              · simp only [k1] at h; exact False.elim h
              · simp only [k1] at h
                have h : KQ X.K L ρ H Q d' (hp.set i (.dic (ddrop kvs key))) := h
                obtain ⟨r2, x2⟩ := r.put hs (.dic (t.drop key)) (by intro o k z; rw [g1] at z; cases z)
                subst ew
                exact d_pop I g1 ru k2 (.inl rfl) fun w' s3 I3 rw' => ⟨_, _, I3, rw', h _ _ _ x2 r2 (k3.mono x2)⟩
    | _ => exact False.elim (by cases ds <;> first | exact h | (rename_i a b; cases b <;> exact h))
  · -- pop1 of a list
    refine ⟨"list", "list.pop", PySem.F.plainAttrs_list, PySem.F.slot_list_pop, PySem.F.type_list_pop, rfl, ?_⟩
    intro pins s σ H x xs v us Q ρ hp d ds I rx rv r q qs h
    cases q with
    | @ref i a hs =>
      cases qs with
      | nil => exact False.elim h
      | @cons e w _ _ qe qt =>
        cases qt with
        | cons _ _ => exact False.elim (by cases e <;> exact h)
        | nil =>
          cases qe with
          | int z =>
            unfold oBM at h
            cases e1 : gtL hp i with
            | none => simp only [e1] at h; exact False.elim h
            | some ys =>
              simp only [e1] at h
              cases e2 : ixN ys.length z with
              | none => simp only [e2] at h; exact False.elim h
              | some j =>
                simp only [e2] at h
                cases e3 : ys[j]? with
                | none => simp only [e3] at h; exact False.elim h
                | some d' =>
                  simp only [e3] at h
                  obtain ⟨⟨h1, h2⟩, h⟩ := h
                  obtain ⟨vs, g1, t⟩ := r.lst hs e1
                  obtain ⟨v', g2, g3⟩ := t.get e3
                  have er : ∀ {ds : List D} {vs : List V} (j : Nat), RDs X.K L ρ H ds vs → RDs X.K L ρ H (ds.eraseIdx j) (vs.eraseIdx j) := by
                    intro ds vs j t
                    rw [List.eraseIdx_eq_take_drop_succ, List.eraseIdx_eq_take_drop_succ]
                    exact (t.take _).app (t.drop _)
                  obtain ⟨r2, x2⟩ := r.put hs (.lst (er j t)) (by intro o k z; rw [g1] at z; cases z)
                  rw [t.len] at e2
                  exact mt_popAt pins s σ H _ _ v us Q I rx rv ⟨a, vs, z, j, v', rfl, rfl, g1, h1, h2, (ixN_seq e2).1, g2, h _ _ _ x2 r2 (g3.mono x2)⟩
          | _ => exact False.elim h
    | _ => exact False.elim (by cases ds <;> first | exact h | (rename_i a b; cases a <;> cases b <;> exact h))
  · -- pop2
    refine ⟨"dict", "dict.pop", PySem.F.plainAttrs_dict, PySem.F.slot_dict_pop, PySem.F.type_dict_pop, rfl, ?_⟩
    intro pins s σ H x xs v us Q ρ hp d ds I rx rv r q qs h
    cases q with
    | @ref i a hs =>
      cases qs with
      | nil => exact False.elim h
      | @cons e w _ _ qe qt =>
        cases qt with
        | nil => exact False.elim h
        | @cons e' w' _ _ qe' qt =>
          cases qt with
          | cons _ _ => exact False.elim h
          | nil =>
            unfold oBM at h
            cases e1 : gtD hp i with
            | none => simp only [e1] at h; exact False.elim h
            | some kvs =>
              cases e2 : kOf e with
              | none => simp only [e1, e2] at h; exact False.elim h
              | some key =>
                simp only [e1, e2] at h
                obtain ⟨vs, g1, t⟩ := r.dic hs e1
                have ew := kOf_kV qe e2
                obtain ⟨u, u', rfl, ru, ru'⟩ := Vals.two rv
                cases rx
                subst ew
                rcases t.get key with ⟨k1, k2⟩ | ⟨d', v', k1, k2, k3⟩
                · simp only [k1] at h
                  have h : KQ X.K L ρ H Q e' hp := h
                  exact d_popD I g1 ru k2 fun s3 I3 => ⟨w', H, I3, ru', h.here r qe'⟩
                · simp only [k1] at h
                  have h : KQ X.K L ρ H Q d' (hp.set i (.dic (ddrop kvs key))) := h
                  obtain ⟨r2, x2⟩ := r.put hs (.dic (t.drop key)) (by intro o k z; rw [g1] at z; cases z)
                  exact d_pop I g1 ru k2 (.inr ⟨_, rfl⟩) fun w2 s3 I3 rw' => ⟨_, _, I3, rw', h _ _ _ x2 r2 (k3.mono x2)⟩
    | _ => exact False.elim h
  · -- clear of a list
    refine ⟨"list", "list.clear", PySem.F.plainAttrs_list, PySem.F.slot_list_clear, PySem.F.type_list_clear, rfl, ?_⟩
    intro pins s σ H x xs v us Q ρ hp d ds I rx rv r q qs h
    cases q with
    | @ref i a hs =>
      cases qs with
      | cons _ _ => exact False.elim h
      | nil =>
        unfold oBM at h
        cases e1 : gtL hp i with
        | none => simp only [e1] at h; exact False.elim h
        | some ys =>
          simp only [e1] at h
          have h : KQ X.K L ρ H Q .non (hp.set i (.lst [])) := h
          obtain ⟨vs, g1, t⟩ := r.lst hs e1
          obtain ⟨r2, x2⟩ := r.put (o := .lst []) (u := .lst []) hs (.lst .nil) (by intro o k z; rw [g1] at z; cases z)
          exact mt_clear pins s σ H _ _ v us Q I rx rv ⟨a, vs, rfl, rfl, g1, h _ _ _ x2 r2 .non⟩
    | _ => exact False.elim (by cases ds <;> exact h)
  · -- clear of a dict
    refine ⟨"dict", "dict.clear", PySem.F.plainAttrs_dict, PySem.F.slot_dict_clear, PySem.F.type_dict_clear, rfl, ?_⟩
    intro pins s σ H x xs v us Q ρ hp d ds I rx rv r q qs h
    cases q with
    | @ref i a hs =>
      cases qs with
      | cons _ _ => exact False.elim h
      | nil =>
        unfold oBM at h
        cases e1 : gtD hp i with
        | none => simp only [e1] at h; exact False.elim h
        | some ys =>
          simp only [e1] at h
          have h : KQ X.K L ρ H Q .non (hp.set i (.dic [])) := h
          obtain ⟨vs, g1, t⟩ := r.dic hs e1
          obtain ⟨r2, x2⟩ := r.put (o := .dic []) (u := .dK []) hs (.dic .nil) (by intro o k z; rw [g1] at z; cases z)
          obtain rfl := Vals.zero rv
          cases rx
          exact d_clear I g1 fun s3 I3 => ⟨.non, _, I3, rfl, h _ _ _ x2 r2 .non⟩
    | _ => exact False.elim (by cases ds <;> exact h)

/-! ### stores -/
def rSetMI (K : PySem.W.Frag) (L : Lay) : TSet := fun o i v H Q => ∃ ρ hp d e x, RelH K L ρ hp H ∧ RD K L ρ H d o ∧ RD K L ρ H e i ∧ RD K L ρ H x v ∧ (oSet d e x hp).app fun hp' => ∀ H', Ext ρ H ρ H' → RelH K L ρ hp' H' → Q H'
theorem mi_set (hu : X.A.units + 65 < cLine) : PSet X (rSetMI X.K L) := by
  intro pins s σ H o i v ov iv u Q I ro ri rv h
  obtain ⟨ρ, hp, d, e, x, r, q1, q2, q3, h⟩ := h
  cases q1 with
  | @ref j a hs =>
    obtain ⟨ob, w, g1, g2, g3⟩ := r.at2 hs
    unfold oSet at h
    simp only [g1] at h
    cases g3 with
    | @dic kvs vs t =>
      cases e2 : kOf e with
      | none => simp only [e2] at h; exact False.elim h
      | some key =>
        simp only [e2] at h
        obtain ⟨h1, h2⟩ := h
        have ew := kOf_kV q2 e2
        obtain ⟨r2, x2⟩ := r.put hs (.dic (t.put key q3)) (by intro o k z; rw [g2] at z; cases z)
        cases ro
        subst ew
        exact d_setItem (by omega) I (DPut.k g2 (by rw [← sz_line, ← t.len]; exact h1)) ri rv fun s3 I3 => ⟨_, I3, h2 _ x2 r2⟩
    | @lst ys vs t =>
      cases q2 with
      | int z =>
        simp only at h
        cases e2 : ixN ys.length z with
        | none => simp only [e2] at h; exact False.elim h
        | some j' =>
          simp only [e2] at h
          have h : ∀ H', Ext ρ H ρ H' → RelH X.K L ρ (hp.set j (.lst (ys.set j' x))) H' → Q H' := h
          obtain ⟨r2, x2⟩ := r.put hs (.lst (t.set j' q3)) (by intro o k z; rw [g2] at z; cases z)
          rw [t.len] at e2
          exact set_list pins s σ H _ _ v ov iv u Q I ro ri rv ⟨a, vs, z, j', rfl, rfl, g2, e2, h _ x2 r2⟩
      | _ => exact False.elim h
    | _ => exact False.elim h
  | _ => exact False.elim h
end
end MI
/-! MI, part 9: expressions. -/
namespace MI
open PySem PySem.Spec PyProof.Rows L2

theorem PE.imp {X : Cx} {e : Expr} {t t' : TE} (h : PE X e t) (i : ∀ σ H Q, t' σ H Q → t σ H Q) : PE X e t' := ⟨fun pins s σ H Q I q => h.run pins s σ H Q I (i σ H Q q)⟩
theorem PT.imp {X : Cx} {e : Expr} {t t' : TT} (h : PT X e t) (i : ∀ σ H Q, t' σ H Q → t σ H Q) : PT X e t' := ⟨fun pins s σ H Q I q => h.run pins s σ H Q I (i σ H Q q)⟩
theorem PW.imp {X : Cx} {e : Expr} {t t' : TT} (h : PW X e t) (i : ∀ σ H Q, t' σ H Q → t σ H Q) : PW X e t' := ⟨fun w pins s σ H Q I q => h.run w pins s σ H Q I (i σ H Q q)⟩
theorem PA.imp {X : Cx} {e : List Expr} {t t' : TA} (h : PA X e t) (i : ∀ σ H Q, t' σ H Q → t σ H Q) : PA X e t' := ⟨fun p pins s σ H Q I q => h.run p pins s σ H Q I (i σ H Q q)⟩
theorem PO.imp {X : Cx} {e : Option Expr} {t t' : TO} (h : PO X e t) (i : ∀ σ H Q, t' σ H Q → t σ H Q) : PO X e t' := ⟨fun pins s σ H Q I q => h.run pins s σ H Q I (i σ H Q q)⟩
theorem PS.imp {X : Cx} {e : Stmt} {t t' : TS} (h : PS X e t) (i : ∀ D σ H, t' D σ H → t D σ H) : PS X e t' := ⟨fun pins s σ H D I q => h.run pins s σ H D I (i D σ H q)⟩
theorem PSs.imp {X : Cx} {e : List Stmt} {t t' : TS} (h : PSs X e t) (i : ∀ D σ H, t' D σ H → t D σ H) : PSs X e t' := ⟨fun pins s σ H D I q => h.run pins s σ H D I (i D σ H q)⟩
theorem PI.imp {X : Cx} {g e : Expr} {t t' : TI} (h : PI X g e t) (i : ∀ σ H R, t' σ H R → t σ H R) : PI X g e t' := ⟨fun pins s σ H R I q => h.run pins s σ H R I (i σ H R q)⟩
theorem PG.imp {X : Cx} {e : Expr} {t t' : TG} (h : PG X e t) (i : ∀ v σ H Q, t' v σ H Q → t v σ H Q) : PG X e t' := ⟨fun pins s σ H v u Q I r q => h.run pins s σ H v u Q I r (i v σ H Q q)⟩
theorem PGs.imp {X : Cx} {e : List Expr} {t t' : TGs} (h : PGs X e t) (i : ∀ v σ H Q, t' v σ H Q → t v σ H Q) : PGs X e t' := ⟨fun pins s σ H v u Q I r q => h.run pins s σ H v u Q I r (i v σ H Q q)⟩

section
variable (K : PySem.W.Frag) (L : Lay) (g : Glob) (cl : Cl) (W : WX)
def tE (e : Ex) : TE := fun σ H Q => ∃ ρ hp env, RelH K L ρ hp H ∧ RE K L ρ H env σ ∧ wE g cl e env hp (KQ K L ρ H Q) (KX K L ρ H σ W)
def tEs (es : Exs) : TA := fun σ H Q => ∃ ρ hp env, RelH K L ρ hp H ∧ RE K L ρ H env σ ∧ wEs g cl es env hp (KQs K L ρ H Q) (KX K L ρ H σ W)
def KO (ρ : List Addr) (H : Hp) (Q : Option Int → Hp → Prop) : Option D → Hq → Prop := fun o hp' => match bnd o with
  | some oi => ∀ ρ' H', Ext ρ H ρ' H' → RelH K L ρ' hp' H' → Q oi H'
  | none => False
def tEo (eo : Exo) : TO := fun σ H Q => ∃ ρ hp env, RelH K L ρ hp H ∧ RE K L ρ H env σ ∧ wEo g cl eo env hp (KO K L ρ H Q) (KX K L ρ H σ W)
def KT (ρ : List Addr) (H : Hp) (Q : Bool → Hp → Prop) : QD := fun x hp' => (oTru x hp').app fun b => ∀ ρ' H', Ext ρ H ρ' H' → RelH K L ρ' hp' H' → Q b H'
def tT (e : Ex) : TT := fun σ H Q => ∃ ρ hp env, RelH K L ρ hp H ∧ RE K L ρ H env σ ∧ wE g cl e env hp (KT K L ρ H Q) (KX K L ρ H σ W)
end

theorem ab_ok {o : Expr} {a : Str} {ev : PySem.Env} {w : Sem Value} (h : ∀ id p pos, o = .Call (.Name id p) [] [] pos → (id != ("super" : Str)) = true) : attributeBase o a ev w = w := by
  unfold attributeBase
  split
  · rename_i id p pos
    have hid := h id p pos rfl
    rw [if_pos (by rw [hid]; simp)]
  · rfl

section
variable {X : Cx} {L : Lay} {g : Glob} {cl : Cl} {W : WX} {x y z : Expr} {a b c : Ex} {pos : Pos}

theorem s_var {i : Nat} {n : Str} {p : Pos} (hN : X.N[i]? = some n) (hv : Vis X.env.scope n) (h1 : (n == ("__debug__" : Str)) = false) (h2 : (n == ("__classdict__" : Str)) = false) : PE X (.Name n p) (tE X.K L g cl W (.var i)) :=
  PE.imp (pe_var (i := i) hN hv h1 h2) fun σ H Q ⟨ρ, hp, env, r, re, h⟩ => by
    unfold wE at h
    split at h
    · rename_i d e
      obtain ⟨v, hv, rd⟩ := re.at_ i d e
      exact ⟨v, hv, h.here r rd⟩
    · exact False.elim h
theorem s_int {i : Int} {j : Nat} : PE X (.Constant (.int i) j pos) (tE X.K L g cl W (.lit (.int i))) :=
  PE.imp pe_int fun σ H Q ⟨ρ, hp, env, r, re, h⟩ => KQ.here (show KQ X.K L ρ H Q (.int i) hp from h) r (.int i)
theorem s_bl {i : Bool} {j : Nat} : PE X (.Constant (.bool i) j pos) (tE X.K L g cl W (.lit (.bl i))) :=
  PE.imp pe_bl fun σ H Q ⟨ρ, hp, env, r, re, h⟩ => KQ.here (show KQ X.K L ρ H Q (.bl i) hp from h) r (.bl i)
theorem s_str {i : Str} {j : Nat} : PE X (.Constant (.str i) j pos) (tE X.K L g cl W (.lit (.str i))) :=
  PE.imp pe_str fun σ H Q ⟨ρ, hp, env, r, re, h⟩ => KQ.here (show KQ X.K L ρ H Q (.str i) hp from h) r (.str i)
theorem s_non {j : Nat} : PE X (.Constant .none j pos) (tE X.K L g cl W (.lit .non)) :=
  PE.imp pe_non fun σ H Q ⟨ρ, hp, env, r, re, h⟩ => KQ.here (show KQ X.K L ρ H Q .non hp from h) r .non
theorem s_glob {k : Nat} {n : Str} {p : Pos} {u : Value} {v : V} {d : D} (hg : Gl X n) (hm : X.mg n = some u) (rv : RelV v u) (hk : g.consts[k]? = some d) (rd : ∀ ρ H, RD X.K L ρ H d v) (h1 : (n == ("__debug__" : Str)) = false) :
    PE X (.Name n p) (tE X.K L g cl W (.glob k)) :=
  PE.imp (pe_glob hg hm rv h1) fun σ H Q ⟨ρ, hp, env, r, re, h⟩ => by
    unfold wE at h
    simp only [hk] at h
    exact KQ.here h r (rd ρ H)

/-- two in a row -/
theorem seq2 (hm : ClMono cl) {σ : L2.St} {H : Hp} {ρ : List Addr} {hp : Hq} {env : Env} {F : D → D → Hq → Prop} {R : V → V → Hp → Prop} (r : RelH X.K L ρ hp H) (re : RE X.K L ρ H env σ)
    (h : wE g cl a env hp (fun d1 hp1 => wE g cl b env hp1 (fun d2 hp2 => F d1 d2 hp2) (KX X.K L ρ H σ W)) (KX X.K L ρ H σ W))
    (k : ∀ ρ2 hp2 H2 d1 d2 v1 v2, Ext ρ H ρ2 H2 → RelH X.K L ρ2 hp2 H2 → RD X.K L ρ2 H2 d1 v1 → RD X.K L ρ2 H2 d2 v2 → F d1 d2 hp2 → R v1 v2 H2) :
    tE X.K L g cl W a σ H fun v1 H1 => tE X.K L g cl W b σ H1 fun v2 H2 => R v1 v2 H2 := by
  refine ⟨ρ, hp, env, r, re, wE_mono hm a env hp _ _ _ _ (fun d1 hp1 q1 => ?_) (fun _ _ _ z => z) h⟩
  intro ρ1 H1 v1 e1 r1 d1r
  refine ⟨ρ1, hp1, env, r1, re.mono e1, wE_mono hm b env hp1 _ _ _ _ (fun d2 hp2 q2 => ?_) (fun _ _ _ z => z.ext e1) q1⟩
  intro ρ2 H2 v2 e2 r2 d2r
  exact k ρ2 hp2 H2 d1 d2 v1 v2 (e1.trans e2) r2 (d1r.mono e2) d2r q2
theorem s_bin (hm : ClMono cl) {o : BOp} (ha : PE X x (tE X.K L g cl W a)) (hb : PE X y (tE X.K L g cl W b)) : PE X (.BinOp x (bopOf o) y pos) (tE X.K L g cl W (.bin o a b)) :=
  PE.imp (pe_op (mi_bin (L := L) o) ha hb) fun σ H Q ⟨ρ, hp, env, r, re, h⟩ => by
    unfold wE at h
    exact seq2 hm (F := fun d1 d2 hp2 => (oBin o d1 d2 hp2).app (KQ X.K L ρ H Q)) (R := fun v1 v2 H2 => rMI X.K L (oBin o) v1 v2 H2 Q) r re h fun ρ2 hp2 H2 d1 d2 v1 v2 e r2 q1 q2 q => ⟨ρ2, hp2, d1, d2, r2, q1, q2, OutD.mono (fun _ _ k => k.ext e) q⟩
theorem s_cmp (hm : ClMono cl) (hu : X.A.units + 65 < cLine) {o : COp} (ha : PE X x (tE X.K L g cl W a)) (hb : PE X y (tE X.K L g cl W b)) (hmk : behindInMarks (copOf o) y = false) : PE X (.Compare x [copOf o] [y] pos) (tE X.K L g cl W (.cmp o a b)) :=
  PE.imp (pe_cmpR (mi_cmp (L := L) hu o) ha hb hmk) fun σ H Q ⟨ρ, hp, env, r, re, h⟩ => by
    unfold wE at h
    exact seq2 hm (F := fun d1 d2 hp2 => (oCmp o d1 d2 hp2).app (KQ X.K L ρ H Q)) (R := fun v1 v2 H2 => rMI X.K L (oCmp o) v1 v2 H2 Q) r re h fun ρ2 hp2 H2 d1 d2 v1 v2 e r2 q1 q2 q => ⟨ρ2, hp2, d1, d2, r2, q1, q2, OutD.mono (fun _ _ k => k.ext e) q⟩
theorem s_ix (hm : ClMono cl) (hu : X.A.units + 65 < cLine) (ha : PE X x (tE X.K L g cl W a)) (hb : PE X y (tE X.K L g cl W b)) (hp : PlainIx y) : PE X (.Subscript x y pos) (tE X.K L g cl W (.ix a b)) :=
  PE.imp (pe_ix (mi_ix (L := L) hu) ha hb hp) fun σ H Q ⟨ρ, hp, env, r, re, h⟩ => by
    unfold wE at h
    exact seq2 hm (F := fun d1 d2 hp2 => (oIx d1 d2 hp2).app (KQ X.K L ρ H Q)) (R := fun v1 v2 H2 => rMI X.K L oIx v1 v2 H2 Q) r re h fun ρ2 hp2 H2 d1 d2 v1 v2 e r2 q1 q2 q => ⟨ρ2, hp2, d1, d2, r2, q1, q2, OutD.mono (fun _ _ k => k.ext e) q⟩
theorem s_neg (hm : ClMono cl) (ha : PE X x (tE X.K L g cl W a)) : PE X (.UnaryOp .USub x pos) (tE X.K L g cl W (.neg a)) :=
  PE.imp (pe_un un_neg ha) fun σ H Q ⟨ρ, hp, env, r, re, h⟩ => by
    unfold wE at h
    refine ⟨ρ, hp, env, r, re, wE_mono hm a env hp _ _ _ _ (fun d1 hp1 q1 => ?_) (fun _ _ _ z => z) h⟩
    intro ρ1 H1 v1 e1 r1 d1r
    cases d1r with
    | int i => exact ⟨i, rfl, q1 _ _ _ e1 r1 (.int _)⟩
    | _ => exact False.elim q1
theorem s_cmp2 (hm : ClMono cl) (hu : X.A.units + 65 < cLine) {o p : COp} (ha : PE X x (tE X.K L g cl W a)) (hb : PE X y (tE X.K L g cl W b)) (hc : PE X z (tE X.K L g cl W c)) (hmk : lastMarks [copOf o, copOf p] [y, z] = false) :
    PE X (.Compare x [copOf o, copOf p] [y, z] pos) (tE X.K L g cl W (.cmp2 o p a b c)) :=
  PE.imp (pe_chain (mi_cmp (L := L) hu o) (mi_cmp (L := L) hu p) ha hb hc hmk) fun σ H Q ⟨ρ, hp, env, r, re, h⟩ => by
    unfold wE at h
    refine seq2 (b := b) hm (R := fun v1 v2 H2 => rMI X.K L (oCmp o) v1 v2 H2 fun z H3 => ∃ k, z = .bl k ∧ if k = true then tE X.K L g cl W c σ H3 fun w' H4 => rMI X.K L (oCmp p) v2 w' H4 Q else Q (.bl false) H3) r re h fun ρ2 hp2 H2 d1 d2 v1 v2 e r2 q1 q2 q => ⟨ρ2, hp2, d1, d2, r2, q1, q2, OutD.mono (fun d3 hp3 k => ?_) q⟩
    intro ρ3 H3 v3 e3 r3 d3r
    cases d3r with
    | bl t =>
      refine ⟨t, rfl, ?_⟩
      cases t with
      | true =>
        rw [if_pos rfl]
        refine ⟨ρ3, hp3, env, r3, (re.mono e).mono e3, wE_mono hm c env hp3 _ _ _ _ (fun d4 hp4 q4 => ?_) (fun _ _ _ z => z.ext (e.trans e3)) k⟩
        intro ρ4 H4 v4 e4 r4 d4r
        exact ⟨ρ4, hp4, d2, d4, r4, (q2.mono e3).mono e4, d4r, OutD.mono (fun _ _ k => k.ext ((e.trans e3).trans e4)) q4⟩
      | false =>
        rw [if_neg Bool.false_ne_true]
        exact k _ _ _ (e.trans e3) r3 (.bl false)
    | _ => exact False.elim k
/-- as a test, where the text takes the value -/
theorem t_plain (hm : ClMono cl) (ha : PE X x (tE X.K L g cl W a)) (he : ∀ whole, isTrue x X.env whole = (do let v ← whole; standAt x.pos; holding [v] (truthy v))) : PT X x (tT X.K L g cl W a) :=
  PT.imp (pt_truth ha he) fun σ H Q ⟨ρ, hp, env, r, re, h⟩ => by
    refine ⟨ρ, hp, env, r, re, wE_mono hm a env hp _ _ _ _ (fun d1 hp1 q1 => ?_) (fun _ _ _ z => z) h⟩
    intro ρ1 H1 v1 e1 r1 d1r
    obtain ⟨k, t, q⟩ := tru_of r1 d1r q1
    exact ⟨k, t, q _ _ e1 r1⟩
theorem KT.ext {K : PySem.W.Frag} {ρ ρ' : List Addr} {H H' : Hp} {Q : Bool → Hp → Prop} {d : D} {hp : Hq} (k : KT K L ρ H Q d hp) (e : Ext ρ H ρ' H') : KT K L ρ' H' Q d hp :=
  OutB.mono (fun _ q ρ2 H2 e2 r2 => q ρ2 H2 (e.trans e2) r2) k
theorem oTru_bl {b : Bool} {hp : Hq} {k : Bool → Prop} (h : (oTru (.bl b) hp).app k) : k b := h
theorem t_cmp (hm : ClMono cl) (hu : X.A.units + 65 < cLine) {o : COp} (ha : PE X x (tE X.K L g cl W a)) (hb : PE X y (tE X.K L g cl W b)) (hmk : behindInMarks (copOf o) y = false) : PT X (.Compare x [copOf o] [y] pos) (tT X.K L g cl W (.cmp o a b)) :=
  PT.imp (pt_cmpR (mi_cmp (L := L) hu o) ha hb hmk) fun σ H Q ⟨ρ, hp, env, r, re, h⟩ => by
    unfold wE at h
    refine seq2 hm (F := fun d1 d2 hp2 => (oCmp o d1 d2 hp2).app (KT X.K L ρ H Q)) (R := fun v1 v2 H2 => rMI X.K L (oCmp o) v1 v2 H2 fun x H' => ∃ k, x = .bl k ∧ Q k H') r re h fun ρ2 hp2 H2 d1 d2 v1 v2 e r2 q1 q2 q => ⟨ρ2, hp2, d1, d2, r2, q1, q2, ?_⟩
    have isb : ∀ {o : COp} {d1 d2 : D} {hp : Hq} {Q' : QD}, (oCmp o d1 d2 hp).app Q' → (oCmp o d1 d2 hp).app fun d h => (∃ t, d = .bl t) ∧ Q' d h := by
      intro o d1 d2 hp Q' h
      cases e : oCmp o d1 d2 hp with
      | no => rw [e] at h; exact h
      | ok d h' =>
        rw [e] at h
        refine ⟨?_, h⟩
        have vb : ∀ {ob : OutB} {neg : Bool} {d : D} {h' : Hq}, ob.val neg hp = .ok d h' → ∃ t, d = .bl t := by
          intro ob neg d h' e
          cases ob <;> cases e
          exact ⟨_, rfl⟩
        cases o <;> first
          | exact vb e
          | (cases d1 <;> cases d2 <;> first | (cases e; exact ⟨_, rfl⟩) | cases e)
      | cd C d h' =>
        rw [e] at h
        refine ⟨h.1, ?_, h.2⟩
        have vb : ∀ {ob : OutB} {neg : Bool} {d : D} {h' : Hq} {C : Prop}, ob.val neg hp = .cd C d h' → ∃ t, d = .bl t := by
          intro ob neg d h' C e
          cases ob <;> cases e
          exact ⟨_, rfl⟩
        cases o <;> first
          | exact vb e
          | (cases d1 <;> cases d2 <;> cases e)
    refine OutD.mono (fun d3 hp3 k => ?_) (isb q)
    obtain ⟨⟨t, rfl⟩, k⟩ := k
    intro ρ3 H3 v3 e3 r3 d3r
    cases d3r
    exact ⟨t, rfl, k _ _ (e.trans e3) r3⟩
theorem s_not (hm : ClMono cl) (ha : PE X x (tE X.K L g cl W a)) : PE X (.UnaryOp .Not x pos) (tE X.K L g cl W (.not a)) :=
  PE.imp (pe_notT ha) fun σ H Q ⟨ρ, hp, env, r, re, h⟩ => by
    unfold wE at h
    refine ⟨ρ, hp, env, r, re, wE_mono hm a env hp _ _ _ _ (fun d1 hp1 q1 => ?_) (fun _ _ _ z => z) h⟩
    intro ρ1 H1 v1 e1 r1 d1r
    obtain ⟨k, t, q⟩ := tru_of r1 d1r q1
    exact ⟨k, t, q _ _ _ e1 r1 (.bl _)⟩
theorem t_not (ha : PT X x (tT X.K L g cl W a)) (hm : ClMono cl) : PT X (.UnaryOp .Not x pos) (tT X.K L g cl W (.not a)) :=
  PT.imp (pt_not ha) fun σ H Q ⟨ρ, hp, env, r, re, h⟩ => by
    unfold wE at h
    refine ⟨ρ, hp, env, r, re, wE_mono hm a env hp _ _ _ _ (fun d1 hp1 q1 => ?_) (fun _ _ _ z => z) h⟩
    exact OutB.mono (fun b q ρ' H' e r' => q _ _ e r') q1
theorem tru_agree {d : D} {hp : Hq} {k k' : Bool → Prop} (h : (oTru d hp).app k) (h' : (oTru d hp).app k') : (oTru d hp).app fun b => k b ∧ k' b := by
  cases e : oTru d hp with
  | no => rw [e] at h; exact h
  | ok b => rw [e] at h h'; exact ⟨h, h'⟩
  | cd C b => rw [e] at h h'; exact ⟨h.1, h.2, h'.2⟩
theorem tru_det {d : D} {hp : Hq} {k : Bool → Prop} {t : Bool} (h : (oTru d hp).app k) (h' : (oTru d hp).app fun b => b = t) : k t := by
  cases e : oTru d hp with
  | no => rw [e] at h; exact False.elim h
  | ok b => rw [e] at h h'; cases (show b = t from h'); exact h
  | cd C b => rw [e] at h h'; cases (show b = t from h'.2); exact h.2
theorem tru_self {d : D} {hp : Hq} {k : Bool → Prop} (h : (oTru d hp).app k) : (oTru d hp).app fun b => k b ∧ (oTru d hp).app fun b' => b' = b := by
  cases e : oTru d hp with
  | no => rw [e] at h; exact h
  | ok b => rw [e] at h; exact ⟨h, rfl⟩
  | cd C b => rw [e] at h; exact ⟨h.1, h.2, h.1, rfl⟩
theorem s_and (hm : ClMono cl) {rest : List Expr} (ha : PE X x (tE X.K L g cl W a)) (hb : PE X (.BoolOp .And (y :: rest) pos) (tE X.K L g cl W b)) : PE X (.BoolOp .And (x :: y :: rest) pos) (tE X.K L g cl W (.and a b)) :=
  PE.imp (pe_andT ha hb) fun σ H Q ⟨ρ, hp, env, r, re, h⟩ => by
    unfold wE at h
    refine ⟨ρ, hp, env, r, re, wE_mono hm a env hp _ _ _ _ (fun d1 hp1 q1 => ?_) (fun _ _ _ z => z) h⟩
    intro ρ1 H1 v1 e1 r1 d1r
    obtain ⟨k, t, q⟩ := tru_of r1 d1r q1
    refine ⟨k, t, ?_⟩
    cases k with
    | true => exact ⟨ρ1, hp1, env, r1, re.mono e1, wE_mono hm b env hp1 _ _ _ _ (fun _ _ k => k.ext e1) (fun _ _ _ z => z.ext e1) q⟩
    | false => exact q _ _ _ e1 r1 d1r
theorem s_or (hm : ClMono cl) {rest : List Expr} (ha : PE X x (tE X.K L g cl W a)) (hb : PE X (.BoolOp .Or (y :: rest) pos) (tE X.K L g cl W b)) : PE X (.BoolOp .Or (x :: y :: rest) pos) (tE X.K L g cl W (.or a b)) :=
  PE.imp (pe_orT ha hb) fun σ H Q ⟨ρ, hp, env, r, re, h⟩ => by
    unfold wE at h
    refine ⟨ρ, hp, env, r, re, wE_mono hm a env hp _ _ _ _ (fun d1 hp1 q1 => ?_) (fun _ _ _ z => z) h⟩
    intro ρ1 H1 v1 e1 r1 d1r
    obtain ⟨k, t, q⟩ := tru_of r1 d1r q1
    refine ⟨k, t, ?_⟩
    cases k with
    | false => exact ⟨ρ1, hp1, env, r1, re.mono e1, wE_mono hm b env hp1 _ _ _ _ (fun _ _ k => k.ext e1) (fun _ _ _ z => z.ext e1) q⟩
    | true => exact q _ _ _ e1 r1 d1r
theorem t_and (hm : ClMono cl) {rest : List Expr} (ha : PT X x (tT X.K L g cl W a)) (hb : PW X (.BoolOp .And (y :: rest) pos) (tT X.K L g cl W b)) : PW X (.BoolOp .And (x :: y :: rest) pos) (tT X.K L g cl W (.and a b)) :=
  PW.imp (pw_and ha hb) fun σ H Q ⟨ρ, hp, env, r, re, h⟩ => by
    unfold wE at h
    refine ⟨ρ, hp, env, r, re, wE_mono hm a env hp _ _ _ _ (fun d1 hp1 q1 => ?_) (fun _ _ _ z => z) h⟩
    refine OutB.mono (fun k q ρ1 H1 e1 r1 => ?_) (tru_self q1)
    obtain ⟨q, hk⟩ := q
    cases k with
    | true => exact ⟨ρ1, hp1, env, r1, re.mono e1, wE_mono hm b env hp1 _ _ _ _ (fun _ _ k => KT.ext k e1) (fun _ _ _ z => z.ext e1) q⟩
    | false => exact tru_det q hk ρ1 H1 e1 r1
theorem t_or (hm : ClMono cl) {rest : List Expr} (ha : PT X x (tT X.K L g cl W a)) (hb : PW X (.BoolOp .Or (y :: rest) pos) (tT X.K L g cl W b)) : PW X (.BoolOp .Or (x :: y :: rest) pos) (tT X.K L g cl W (.or a b)) :=
  PW.imp (pw_or ha hb) fun σ H Q ⟨ρ, hp, env, r, re, h⟩ => by
    unfold wE at h
    refine ⟨ρ, hp, env, r, re, wE_mono hm a env hp _ _ _ _ (fun d1 hp1 q1 => ?_) (fun _ _ _ z => z) h⟩
    refine OutB.mono (fun k q ρ1 H1 e1 r1 => ?_) (tru_self q1)
    obtain ⟨q, hk⟩ := q
    cases k with
    | false => exact ⟨ρ1, hp1, env, r1, re.mono e1, wE_mono hm b env hp1 _ _ _ _ (fun _ _ k => KT.ext k e1) (fun _ _ _ z => z.ext e1) q⟩
    | true => exact tru_det q hk ρ1 H1 e1 r1
theorem s_ite (hm : ClMono cl) (hc : PT X x (tT X.K L g cl W c)) (ha : PE X y (tE X.K L g cl W a)) (hb : PE X z (tE X.K L g cl W b)) : PE X (.IfExp x y z pos) (tE X.K L g cl W (.ite c a b)) :=
  PE.imp (pe_ifExp hc ha hb) fun σ H Q ⟨ρ, hp, env, r, re, h⟩ => by
    unfold wE at h
    refine ⟨ρ, hp, env, r, re, wE_mono hm c env hp _ _ _ _ (fun d1 hp1 q1 => ?_) (fun _ _ _ z => z) h⟩
    refine OutB.mono (fun k q ρ1 H1 e1 r1 => ?_) q1
    cases k with
    | true => exact ⟨ρ1, hp1, env, r1, re.mono e1, wE_mono hm a env hp1 _ _ _ _ (fun _ _ k => k.ext e1) (fun _ _ _ z => z.ext e1) q⟩
    | false => exact ⟨ρ1, hp1, env, r1, re.mono e1, wE_mono hm b env hp1 _ _ _ _ (fun _ _ k => k.ext e1) (fun _ _ _ z => z.ext e1) q⟩
theorem t_ite (hm : ClMono cl) (hc : PT X x (tT X.K L g cl W c)) (ha : PT X y (tT X.K L g cl W a)) (hb : PT X z (tT X.K L g cl W b)) : PT X (.IfExp x y z pos) (tT X.K L g cl W (.ite c a b)) := by
  refine ⟨fun pins s σ H Q I ⟨ρ, hp, env, r, re, h⟩ => ?_⟩
  unfold wE at h
  have e : isTrue (.IfExp x y z pos) X.env (eval (.IfExp x y z pos) X.env) = (do if ← isTrue x X.env (eval x X.env) then isTrue y X.env (eval y X.env) else isTrue z X.env (eval z X.env)) := by
    first | rfl | (unfold isTrue; rfl)
  rw [e]
  refine wpAny_bind (thn (hc.run pins s σ H (fun k H1 => if k = true then tT X.K L g cl W a σ H1 Q else tT X.K L g cl W b σ H1 Q) I
    ⟨ρ, hp, env, r, re, wE_mono hm c env hp _ _ _ _ (fun d1 hp1 q1 => OutB.mono (fun k q ρ1 H1 e1 r1 => ?_) q1) (fun _ _ _ z => z) h⟩) fun k s1 ⟨H1, I1, q1⟩ => ?_)
  · cases k with
    | true => exact ⟨ρ1, hp1, env, r1, re.mono e1, wE_mono hm a env hp1 _ _ _ _ (fun _ _ k => KT.ext k e1) (fun _ _ _ z => z.ext e1) q⟩
    | false => exact ⟨ρ1, hp1, env, r1, re.mono e1, wE_mono hm b env hp1 _ _ _ _ (fun _ _ k => KT.ext k e1) (fun _ _ _ z => z.ext e1) q⟩
  · cases k with
    | true => exact ha.run pins s1 σ H1 Q I1 q1
    | false => exact hb.run pins s1 σ H1 Q I1 q1
end
end MI
/-! MI, exceptions 0: own exception classes with one field. -/
namespace MI
open PySem PySem.Spec PyProof.Rows L2
/-- self's field f is set to the one argument, behind the base's __init__ -/
def spX (K : PySem.W.Frag) (C : Addr) (f : Str) : Sp := fun vs H Q _ => ∃ a y, vs = [.ref a, y] ∧ H a = some (exo a C none) ∧ ∀ dx, H dx = none → dx ≠ a → Q .non (upd (upd H dx (exd dx [(f, y)])) a (exo a C (some dx)))
/-- what the text says of a class whose instances are asked and read -/
structure ExF (K : PySem.W.Frag) (attrs : List Str) (C : Addr) : Prop where
  c : ExcC K C
  f : XfC K C
  no : ∀ x ∈ attrs, PySem.W.findIn K (.ref C) x = some none
end MI
/-! MI, part 10: displays, slices, attributes, calls. -/
namespace MI
open PySem PySem.Spec PyProof.Rows L2

def KE (K : PySem.W.Frag) (L : Lay) (ρ : List Addr) (H : Hp) (E : XK) : QX := fun c i hp' => ∀ ρ' H' a C, Ext ρ H ρ' H' → RelH K L ρ' hp' H' → ρ'[i]? = some a → L.exs[c]? = some C → E (.ref C) (some a) H'
/-- the promise of the f-th def: what its run says -/
def spI (K : PySem.W.Frag) (L : Lay) (g : Glob) (n f : Nat) : Sp := fun vs H Q E => ∃ ρ hp ds, RelH K L ρ hp H ∧ RDs K L ρ H ds vs ∧ wCall g n f ds hp (KQ K L ρ H Q) (KE K L ρ H E)
/-- a def keeps a promise, where nothing is being shown -/
structure FnG (P : Program) (w : World) (K : PySem.W.Frag) (mg : Str → Option Value) (base : Heap) (k : Nat) (f : Addr) (fd : FuncData) (ps : List Str) (sp : Sp) : Prop where
  len : ∀ vs H Q E, sp vs H Q E → vs.length = ps.length
  run : ∀ (A : Around) (outer : List PySem.Env) (s : Shared) (H : Hp) (args : Args) (us : List Value) (vs : List V) (Q : VK) (E : XK), Room k A → A.guards = some [] → Env0 P w K mg base A outer s H → BindsTo s fd args (ps.zip us) → Vals vs us → sp vs H Q E →
    codeAny (model P w) A (.call (.ref f) args) (CR (L2.CX P w) outer P w H s Q E) s
theorem FnG.mono {P : Program} {w : World} {K : PySem.W.Frag} {mg : Str → Option Value} {base : Heap} {j k : Nat} {f : Addr} {fd : FuncData} {ps : List Str} {sp : Sp} (F : FnG P w K mg base j f fd ps sp) (h : j ≤ k) : FnG P w K mg base k f fd ps sp :=
  ⟨F.len, fun A outer s H args us vs Q E hr => F.run A outer s H args us vs Q E (hr.mono h)⟩

/-- a call of such a form: n values by their places, some by names; pm: which one each parameter takes -/
def ShpOk (K : PySem.W.Frag) (fd : FuncData) (ps : List Str) (n : Nat) (ks : List Str) (pm : List Nat) : Prop :=
  (∀ j ∈ pm, j < n + ks.length) ∧ ∀ (s : Shared) (us ws : List Value), K.In s.heap → us.length = n → ws.length = ks.length → BindsTo s fd ⟨us, ks.zip ws⟩ (ps.zip (pm.filterMap fun j => (us ++ ws)[j]?))
/-- what the text's own things are, seen from a def's body that may call to depth n -/
structure TF (S : Nm) (g : Glob) (P : Program) (w : World) (K : PySem.W.Frag) (mg : Str → Option Value) (base : Heap) (L : Lay) (n : Nat) : Prop where
  blt : ∀ x ∈ S.blts, mg x = none
  att : L.attrs = S.attrs ∧ S.attrs.Nodup
  fn : ∀ (f : Nat) (x : Str), S.fnN[f]? = some (some x) → ∃ a, L.fns[f]? = some a ∧ mg x = some (.ref a) ∧ PySem.W.keepIn K (.ref a) = true
  call : ∀ (f : Nat) (a : Addr), L.fns[f]? = some a → ∃ fd ps, Binds K fd ps [] ∧ (∀ sh ∈ S.shp, sh.1 = f → ShpOk K fd ps sh.2.1 sh.2.2.1 sh.2.2.2) ∧ FnG P w K mg base (2 * n + 2) a fd ps (spI K L g n f)
  mks : ∀ e ∈ S.mks, ∀ c f, g.meth c e.1 = some f → (f, e.2.1 + 1, e.2.2.1, 0 :: e.2.2.2.map (· + 1)) ∈ S.shp
  mak : ∀ (c : Nat) (x : Str) (f : Nat), S.clsN[c]? = some x → g.init c = some f → ∃ C a, L.clss[c]? = some C ∧ mg x = some (.ref C) ∧ L.fns[f]? = some a ∧ Mk K C a
  ini : ∀ (k : Nat) (x : Str), S.clsN[k]? = some x → g.init k ≠ none
  cls : ∀ (c : Nat) (C : Addr), L.clss[c]? = some C → Cls K C ∧ (∀ x ∈ S.attrs, NoAttr K C x)
  mth : ∀ (c : Nat) (C : Addr) (m : Nat) (nm : Str) (f : Nat), L.clss[c]? = some C → S.mths[m]? = some nm → g.meth c m = some f → ∃ a, L.fns[f]? = some a ∧ Meth K C nm a
  mna : ∀ (m : Nat) (nm : Str), S.mths[m]? = some nm → nm ∉ S.attrs
  exc : ∀ (k : Nat) (x : Str) (f : Nat), S.excN[k]? = some (x, f) → ∃ C nm, L.exs[k]? = some C ∧ mg x = some (.ref C) ∧ S.attrs[f]? = some nm ∧ ∃ fI fd ps, OexC K C ∧ PySem.W.findIn K (.ref C) "__init__" = some (some (.ref fI)) ∧ PySem.W.typeIn K (.ref fI) = some (.type "function") ∧ Binds K fd ps [] ∧ FnOk P w K mg base (L2.CX P w) 1 fI fd ps (spX K C nm)
  exf : ∀ (k : Nat) (C : Addr), L.exs[k]? = some C → ExF K S.attrs C
  exm : ∀ p ∈ S.exm, ∃ R, mg p.1 = some (.ref R) ∧ ∀ (k : Nat) (C : Addr) (b : Bool), L.exs[k]? = some C → p.2[k]? = some b → PySem.W.exmOne K (.ref C) (.ref R) = some b ∧ PySem.W.kitOne K (.ref C) (.ref R) = some b
  con : ∀ (k : Nat) (x : Str), S.constN[k]? = some x → ∃ d u v, g.consts[k]? = some d ∧ mg x = some u ∧ RelV v u ∧ ∀ ρ H, RD K L ρ H d v

section
variable {X : Cx} {L : Lay} {g : Glob} {cl : Cl} {W : WX} {x y z : Expr} {a b c : Ex} {es : Exs} {xs : List Expr} {pos : Pos}

/-! ### items -/
theorem sa_nil : PA X [] (tEs X.K L g cl W .nil) :=
  PA.imp pa_nil fun σ H Q ⟨ρ, hp, env, r, re, h⟩ => (show KQs X.K L ρ H Q [] hp from h) ρ H [] (Ext.refl _ _) r .nil
theorem sa_cons (hm : ClMono cl) (ha : PE X x (tE X.K L g cl W a)) (hb : PA X xs (tEs X.K L g cl W es)) (hs : starEach (x :: xs) X.env = (false, eval x X.env) :: starEach xs X.env) : PA X (x :: xs) (tEs X.K L g cl W (.cons a es)) :=
  PA.imp (pa_cons ha hb hs) fun σ H Q ⟨ρ, hp, env, r, re, h⟩ => by
    unfold wEs at h
    refine ⟨ρ, hp, env, r, re, wE_mono hm a env hp _ _ _ _ (fun d1 hp1 q1 => ?_) (fun _ _ _ z => z) h⟩
    intro ρ1 H1 v1 e1 r1 d1r
    refine ⟨ρ1, hp1, env, r1, re.mono e1, wEs_mono hm es env hp1 _ _ _ _ (fun ds hp2 q2 => ?_) (fun _ _ _ z => z.ext e1) q1⟩
    intro ρ2 H2 vs e2 r2 dsr
    exact q2 ρ2 H2 (v1 :: vs) (e1.trans e2) r2 (.cons (d1r.mono e2) dsr)
/-- the number of items -/
theorem wEs_len (hm : ClMono cl) : ∀ (es : Exs) (env : Env) (hp : Hq) (Q : List D → Hq → Prop) (E : QX), wEs g cl es env hp Q E → wEs g cl es env hp (fun ds h => ds.length = es.len ∧ Q ds h) E
  | .nil, env, hp, Q, E, h => ⟨rfl, h⟩
  | .cons e r, env, hp, Q, E, h => by
    unfold wEs at h ⊢
    refine wE_mono hm e env hp _ _ _ _ (fun d h1 q1 => ?_) (fun _ _ _ z => z) h
    refine wEs_mono hm r env h1 _ _ _ _ (fun ds h2 q2 => ?_) (fun _ _ _ z => z) (wEs_len hm r env h1 _ _ q1)
    exact ⟨by rw [List.length_cons, q2.1]; rfl, q2.2⟩
theorem s_tup (hm : ClMono cl) {k : Nat} (ha : PA X xs (tEs X.K L g cl W es)) (hl : es.len ≤ 1000) : PE X (.Tuple xs k pos) (tE X.K L g cl W (.tup es)) :=
  PE.imp (pe_tup ha) fun σ H Q ⟨ρ, hp, env, r, re, h⟩ => by
    unfold wE at h
    refine ⟨ρ, hp, env, r, re, wEs_mono hm es env hp _ _ _ _ (fun ds hp1 q1 => ?_) (fun _ _ _ z => z) (wEs_len hm es env hp _ _ h)⟩
    intro ρ1 H1 vs e1 r1 dsr
    obtain ⟨hd, q1⟩ := q1
    exact ⟨by rw [← dsr.len, hd, sizeLine_eq]; omega, KQ.tup (KQ.ext q1 e1) r1 dsr⟩
theorem s_lst (hm : ClMono cl) (ha : PA X xs (tEs X.K L g cl W es)) (hl : es.len ≤ 1000) : PE X (.List xs pos) (tE X.K L g cl W (.lst es)) :=
  PE.imp (pe_lst ha) fun σ H Q ⟨ρ, hp, env, r, re, h⟩ => by
    unfold wE at h
    refine ⟨ρ, hp, env, r, re, wEs_mono hm es env hp _ _ _ _ (fun ds hp1 q1 => ?_) (fun _ _ _ z => z) (wEs_len hm es env hp _ _ h)⟩
    intro ρ1 H1 vs e1 r1 dsr
    obtain ⟨hd, q1⟩ := q1
    exact ⟨by rw [← dsr.len, hd, sizeLine_eq]; omega, KQ.new (KQ.ext q1 e1) r1 (.lst dsr)⟩
/-- the pairs of a display -/
def trsOf (K : PySem.W.Frag) (L : Lay) (g : Glob) (cl : Cl) (W : WX) : Exs → List (TE × TE)
  | .nil => []
  | .cons e r => match r with
    | .nil => []
    | .cons e' r' => (tE K L g cl W e, tE K L g cl W e') :: trsOf K L g cl W r'
def evenX : Exs → Bool
  | .nil => true
  | .cons _ r => match r with
    | .nil => false
    | .cons _ r' => evenX r'
def flatP : List (V × V) → List V
  | [] => []
  | p :: r => p.1 :: p.2 :: flatP r
theorem pairs_imp (hm : ClMono cl) : ∀ (es : Exs) (σ : L2.St) (ρ : List Addr) (hp : Hq) (env : Env) (H : Hp) (Q : List (V × V) → Hp → Prop) (R : List D → Hq → Prop), evenX es = true → RelH X.K L ρ hp H → RE X.K L ρ H env σ →
    wEs g cl es env hp R (KX X.K L ρ H σ W) → (∀ ds hp' ρ' H' ps, R ds hp' → Ext ρ H ρ' H' → RelH X.K L ρ' hp' H' → RDs X.K L ρ' H' ds (flatP ps) → Q ps H') → tPairs (trsOf X.K L g cl W es) σ H Q
  | .nil, σ, ρ, hp, env, H, Q, R, ev, r, re, h, k => k [] hp ρ H [] h (Ext.refl _ _) r .nil
  | .cons e .nil, σ, ρ, hp, env, H, Q, R, ev, r, re, h, k => by cases ev
  | .cons e (.cons e' r'), σ, ρ, hp, env, H, Q, R, ev, r, re, h, k => by
    unfold wEs at h
    refine ⟨ρ, hp, env, r, re, wE_mono hm e env hp _ _ _ _ (fun d1 hp1 q1 => ?_) (fun _ _ _ z => z) h⟩
    intro ρ1 H1 v1 e1 r1 d1r
    unfold wEs at q1
    refine ⟨ρ1, hp1, env, r1, re.mono e1, wE_mono hm e' env hp1 _ _ _ _ (fun d2 hp2 q2 => ?_) (fun _ _ _ z => z.ext e1) q1⟩
    intro ρ2 H2 v2 e2 r2 d2r
    refine pairs_imp hm r' σ ρ2 hp2 env H2 _ (fun ds hp' => R (d1 :: d2 :: ds) hp') ev r2 ((re.mono e1).mono e2) (wEs_mono hm r' env hp2 _ _ _ _ (fun _ _ z => z) (fun _ _ _ z => z.ext (e1.trans e2)) q2) fun ds hp' ρ' H' ps hr e3 r3 rd => ?_
    exact k _ hp' ρ' H' ((v1, v2) :: ps) hr ((e1.trans e2).trans e3) r3 (.cons ((d1r.mono e2).mono e3) (.cons (d2r.mono e3) rd))
theorem pairs_of {K : PySem.W.Frag} {L : Lay} {ρ : List Addr} {H : Hp} : ∀ {ds : List D} {ps : List (V × V)} {kvs : List (Key × D)}, RDs K L ρ H ds (flatP ps) → pairsOf ds = some kvs → ∃ kvs' : List (Key × V), ps = kvs'.map (fun kv => (kV kv.1, kv.2)) ∧ RKs K L ρ H kvs kvs' ∧ 2 * kvs'.length = ds.length
  | [], [], kvs, _, h => by cases h; exact ⟨[], rfl, .nil, rfl⟩
  | [], _ :: _, _, r, _ => by cases r
  | [d], ps, kvs, _, h => by cases h
  | k :: v :: ds, [], _, r, _ => by cases r
  | k :: v :: ds, p :: ps, kvs, r, h => by
    unfold pairsOf at h
    cases r with
    | cons r1 r =>
      cases r with
      | cons r2 r =>
        cases e : kOf k with
        | none => simp only [e] at h; cases h
        | some key =>
          cases e2 : pairsOf ds with
          | none => simp only [e, e2] at h; cases h
          | some kvs0 =>
            simp only [e, e2] at h
            cases h
            obtain ⟨kvs', h1, h2, h3⟩ := pairs_of r e2
            refine ⟨(key, p.2) :: kvs', ?_, .cons ⟨rfl, r2⟩ h2, by simp only [List.length_cons]; omega⟩
            rw [h1, List.map_cons]
            congr 1
            exact Prod.ext (kOf_kV r1 e) rfl
theorem RelH.side0 {K : PySem.W.Frag} {L : Lay} {ρ : List Addr} {H : Hp} {hp : Hq} {p : Addr} {o u : HO} (r : RelH K L ρ hp H) (hn : p ∉ ρ) (h : H p = some o) (hs : ¬ Stb o) : RelH K L ρ hp (upd H p u) ∧ ExtW ρ H ρ (upd H p u) := by
  have w : ExtW ρ H ρ (upd H p u) := ⟨⟨[], by simp⟩, fun a o' h' s => by rw [upd_ne fun z => by subst z; rw [h] at h'; cases h'; exact hs s]; exact h'⟩
  refine ⟨⟨r.nd, r.len, fun i o' h' => ?_⟩, w⟩
  obtain ⟨a, u', h1, h2, h3⟩ := r.at_ i o' h'
  exact ⟨a, u', h1, by rw [upd_ne fun z => hn (by rw [← z]; exact List.mem_of_getElem? h1)]; exact h2, h3.monoW w⟩
theorem Ext.side0 {ρ ρ' : List Addr} {H H' : Hp} {p : Addr} {u : HO} (e : Ext ρ H ρ' H') (h : H p = none) : Ext ρ H ρ' (upd H' p u) :=
  ⟨e.pre, e.new, fun a o h1 h2 => by rw [upd_ne (ne_of_none h1 h)]; exact e.out a o h1 h2, fun a o h1 s => by rw [upd_ne (ne_of_none h1 h)]; exact e.st a o h1 s, fun a o k h1 => by rw [upd_ne (ne_of_none h1 h)]; exact e.fz a o k h1⟩
/-- what stands untold is told -/
theorem RelH.tell0 {K : PySem.W.Frag} {L : Lay} {ρ ρ0 : List Addr} {H H0 : Hp} {hp : Hq} {p : Addr} {o : O} {u : HO} (r : RelH K L ρ hp H) (hn : p ∉ ρ) (h : H p = some u) (q : RHO K L ρ H o u) (e : Ext ρ0 H0 ρ H) (h0 : H0 p = none) : RelH K L (ρ ++ [p]) (hp ++ [o]) H ∧ Ext ρ0 H0 (ρ ++ [p]) H := by
  have w : ExtW ρ H (ρ ++ [p]) H := ⟨⟨[p], rfl⟩, fun _ _ h _ => h⟩
  refine ⟨⟨?_, by simp [r.len], fun i o' h' => ?_⟩, ⟨?_, fun a ha => ?_, e.out, e.st, e.fz⟩⟩
  · rw [List.nodup_append]
    refine ⟨r.nd, by simp, fun a ha b hb => ?_⟩
    have : b = p := by simpa using hb
    subst this
    exact fun z => hn (z ▸ ha)
  · by_cases hi : i < hp.length
    · rw [List.getElem?_append_left hi] at h'
      obtain ⟨a, u', h1, h2, h3⟩ := r.at_ i o' h'
      exact ⟨a, u', w.ix h1, h2, h3.monoW w⟩
    · have hl : i < (hp ++ [o]).length := (List.getElem?_eq_some_iff.mp h').1
      have hi2 : i = hp.length := by
        rw [List.length_append, List.length_singleton] at hl
        omega
      subst hi2
      rw [List.getElem?_append_right (Nat.le_refl _)] at h'
      have : o = o' := by simpa using h'
      subst this
      refine ⟨p, u, ?_, h, q.monoW w⟩
      rw [← r.len, List.getElem?_append_right (Nat.le_refl _)]
      simp
  · obtain ⟨m, hm⟩ := e.pre
    exact ⟨m ++ [p], by rw [hm, List.append_assoc]⟩
  · rcases List.mem_append.mp ha with k | k
    · exact e.new a k
    · have : a = p := by simpa using k
      subst this
      exact .inr h0

theorem s_dic (hm : ClMono cl) {ks : List (Option Expr)} {vs : List Expr} (h : PPs X pos ks vs (trsOf X.K L g cl W es)) (ev : evenX es = true) (hl : ks.length = vs.length) (hall : ks.all (·.isSome) = true) (h15 : ks.length ≤ 15) (hes : es.len = 2 * ks.length) (h0 : ks ≠ []) : PE X (.Dict ks vs pos) (tE X.K L g cl W (.dic es)) :=
  PE.imp (pe_disp h hall hl h0 h15) fun σ H Q ⟨ρ, hp, env, r, re, h⟩ => by
    unfold wE at h
    intro p hpn
    obtain ⟨r1, e1⟩ := r.tmp (u := .dK []) hpn
    have hnp := r.notin hpn
    have h := wEs_len hm es env hp _ _ h
    refine pairs_imp hm es σ ρ hp env _ _ _ ev r1 (re.mono e1) (wEs_mono hm es env hp _ _ _ _ (fun _ _ z => z) (fun _ _ _ z => z.ext e1) h) fun ds hp' ρ' H' ps hr e2 r2 rd => ?_
    obtain ⟨hlen, hr⟩ := hr
    have hp2 : H' p = some (.dK []) := e2.out _ _ upd_same hnp
    have hn2 : p ∉ ρ' := fun z => by
      rcases e2.new p z with q | q
      · exact hnp q
      · rw [upd_same] at q; cases q
    refine ⟨hp2, ?_⟩
    cases eq : pairsOf ds with
    | none => simp only [eq] at hr
    | some kvs =>
      simp only [eq] at hr
      obtain ⟨kvs', k1, k2, k3⟩ := pairs_of rd eq
      refine ⟨kvs', k1, by omega, ?_⟩
      obtain ⟨r3, w3⟩ := r2.side0 (u := .dK (mergeK [] kvs')) hn2 hp2 (fun z => by cases z)
      have e3 : Ext ρ H ρ' (upd H' p (.dK (mergeK [] kvs'))) := (e1.trans e2).side0 hpn
      have rel : RHO X.K L ρ' (upd H' p (.dK (mergeK [] kvs'))) (.dic (kvs.foldl (fun acc kv => dput acc kv.1 kv.2) [])) (.dK (mergeK [] kvs')) := .dic ((merge_rks k2 .nil).monoW w3)
      obtain ⟨r4, e4⟩ := r3.tell0 hn2 upd_same rel e3 hpn
      refine hr _ _ _ e4 r4 (.ref ?_)
      rw [← r2.len, List.getElem?_append_right (Nat.le_refl _)]
      simp
theorem s_dic0 : PE X (.Dict [] [] pos) (tE X.K L g cl W (.dic .nil)) :=
  PE.imp pe_dnewK fun σ H Q ⟨ρ, hp, env, r, re, h⟩ => KQ.new (show KQ X.K L ρ H Q (.ref hp.length) (hp ++ [.dic []]) from h) r (.dic .nil)
theorem ty_boot : ∀ n ∈ tyAll, bootBuiltins (PySem.Str.ofString n) = some (.type n) := by decide +kernel
theorem s_bty {n : String} {p : Pos} (hn : n ∈ tyAll) (hg : Gl X (PySem.Str.ofString n)) (hmg : X.mg (PySem.Str.ofString n) = none) (h1 : PySem.Str.ofString n ≠ "__name__") (h2 : (PySem.Str.ofString n == ("__debug__" : Str)) = false) : PE X (.Name (PySem.Str.ofString n) p) (tE X.K L g cl W (.bty n)) :=
  ⟨fun pins s σ H Q I ⟨ρ, hp, env, r, re, h⟩ => ld_blt I hg hmg (ty_boot n hn) ⟨.ty n, H, I, rfl, KQ.here (show KQ X.K L ρ H Q (.ty n) hp from h) r (.ty n)⟩ h1 h2⟩
theorem s_mmd (hm : ClMono cl) (hc : X.calm = true) (hu : X.A.units + 200 < cLine) {mx : Bool} {p kp : Pos} (hg : Gl X (if mx then "max" else "min" : Str)) (hmg : X.mg (if mx then "max" else "min" : Str) = none) (ha : PE X x (tE X.K L g cl W a)) (hb : PE X y (tE X.K L g cl W b)) (hs : isSub x = false) :
    PE X (.Call (.Name (if mx then "max" else "min" : Str) p) [x] [⟨some "default", y, kp⟩] pos) (tE X.K L g cl W (.mmd mx a b)) := by
  have hst : starEach [x] X.env = (false, eval x X.env) :: starEach [] X.env := by cases x <;> first | rfl | cases hs
  have imp : ∀ σ H Q, tE X.K L g cl W (.mmd mx a b) σ H Q → tCKw (rMmd X.K L mx) (tEs X.K L g cl W (.cons a .nil)) (tCons (tE X.K L g cl W b) tNil) σ H Q := fun σ H Q ⟨ρ, hp, env, r, re, h⟩ => by
    unfold wE at h
    refine ⟨ρ, hp, env, r, re, ?_⟩
    show wE g cl a env hp _ _
    refine wE_mono hm a env hp _ _ _ _ (fun d1 hp1 q1 => ?_) (fun _ _ _ z => z) h
    intro ρ1 H1 vs e1 r1 dsr
    cases dsr with
    | cons d1r t =>
      cases t
      refine ⟨ρ1, hp1, env, r1, re.mono e1, wE_mono hm b env hp1 _ _ _ _ (fun d2 hp2 q2 => ?_) (fun _ _ _ z => z.ext e1) q1⟩
      intro ρ2 H2 v2 e2 r2 d2r
      exact ⟨ρ2, hp2, d1, d2, _, v2, rfl, rfl, r2, d1r.mono e2, d2r, OutD.mono (fun _ _ k => k.ext (e1.trans e2)) q2⟩
  have pa : PA X [x] (tEs X.K L g cl W (.cons a .nil)) := sa_cons hm ha sa_nil hst
  have e1 : backTo pos (starEach [x] X.env) = (false, eval x X.env) :: backTo pos (starEach [] X.env) := by rw [hst]; rfl
  have e2 : (backTo pos (starEach [x] X.env)).any (·.1) = false := by rw [hst]; rfl
  cases mx with
  | false => exact PE.imp (pe_callBK (id := "min") (mi_mmd (L := L) hc hu false) hg hmg (by decide +kernel) pa (pk_cons hb pk_nil) (by decide +kernel) (by decide +kernel) e1 e2) imp
  | true => exact PE.imp (pe_callBK (id := "max") (mi_mmd (L := L) hc hu true) hg hmg (by decide +kernel) pa (pk_cons hb pk_nil) (by decide +kernel) (by decide +kernel) e1 e2) imp

/-! ### slices -/
theorem so_no : PO X none (tEo X.K L g cl W .no) :=
  PO.imp po_none fun σ H Q ⟨ρ, hp, env, r, re, h⟩ => (show KO X.K L ρ H Q none hp from h) ρ H (Ext.refl _ _) r
theorem so_so (hm : ClMono cl) (ha : PE X x (tE X.K L g cl W a)) : PO X (some x) (tEo X.K L g cl W (.so a)) := by
  refine PO.imp (po_some ha) fun σ H Q ⟨ρ, hp, env, r, re, h⟩ => ?_
  unfold wEo at h
  refine ⟨ρ, hp, env, r, re, wE_mono hm a env hp _ _ _ _ (fun d1 hp1 q1 => ?_) (fun _ _ _ z => z) h⟩
  intro ρ1 H1 v1 e1 r1 d1r
  cases d1r with
  | int i => exact ⟨i, rfl, q1 _ _ e1 r1⟩
  | _ => exact False.elim q1
theorem s_sl (hm : ClMono cl) {lo hi : Exo} {l h' : Option Expr} {p2 : Pos} (ha : PE X x (tE X.K L g cl W a)) (hl : PO X l (tEo X.K L g cl W lo)) (hh : PO X h' (tEo X.K L g cl W hi)) : PE X (.Subscript x (.Slice l h' none p2) pos) (tE X.K L g cl W (.sl a lo hi)) :=
  PE.imp (pe_slice (mi_sl (L := L)) ha hl hh) fun σ H Q ⟨ρ, hp, env, r, re, h⟩ => by
    unfold wE at h
    refine ⟨ρ, hp, env, r, re, wE_mono hm a env hp _ _ _ _ (fun d1 hp1 q1 => ?_) (fun _ _ _ z => z) h⟩
    intro ρ1 H1 v1 e1 r1 d1r
    refine ⟨ρ1, hp1, env, r1, re.mono e1, wEo_mono hm lo env hp1 _ _ _ _ (fun ol hp2 q2 => ?_) (fun _ _ _ z => z.ext e1) q1⟩
    unfold KO
    cases eb : bnd ol with
    | none => simp only [eb] at q2
    | some ol' =>
      simp only [eb] at q2 ⊢
      intro ρ2 H2 e2 r2
      refine ⟨ρ2, hp2, env, r2, (re.mono e1).mono e2, wEo_mono hm hi env hp2 _ _ _ _ (fun oh hp3 q3 => ?_) (fun _ _ _ z => z.ext (e1.trans e2)) q2⟩
      unfold KO
      cases eh : bnd oh with
      | none => simp only [eh] at q3
      | some oh' =>
        simp only [eh] at q3 ⊢
        intro ρ3 H3 e3 r3
        exact ⟨ρ3, hp3, d1, r3, (d1r.mono e2).mono e3, OutD.mono (fun _ _ k => k.ext ((e1.trans e2).trans e3)) q3⟩

/-! ### attributes -/
theorem s_fld (hm : ClMono cl) {S : Nm} {n : Nat} (T : TF S g X.prog X.w X.K X.mg X.base L n) {f : Nat} {nm : Str} (hf : S.attrs[f]? = some nm) (ha : PE X x (tE X.K L g cl W a)) (hb : attributeBase x nm X.env (eval x X.env) = eval x X.env) : PE X (.Attribute x nm pos) (tE X.K L g cl W (.fld a f)) :=
  PE.imp (pe_fld ha hb) fun σ H Q ⟨ρ, hp, env, r, re, h⟩ => by
    unfold wE at h
    refine ⟨ρ, hp, env, r, re, wE_mono hm a env hp _ _ _ _ (fun d1 hp1 q1 => ?_) (fun _ _ _ z => z) h⟩
    intro ρ1 H1 v1 e1 r1 d1r
    cases d1r with
    | @ref i p hs =>
      unfold oGetF at q1
      cases e : gtI hp1 i with
      | none => simp only [e] at q1; exact False.elim q1
      | some cf =>
        obtain ⟨c, fs⟩ := cf
        simp only [e] at q1
        obtain ⟨C, dx, vs, h1, h2, h3⟩ := r1.ins hs e
        obtain ⟨hc, hn⟩ := T.cls c C h1
        have hmem : nm ∈ S.attrs := List.mem_of_getElem? hf
        have hLa : L.attrs[f]? = some nm := by rw [T.att.1]; exact hf
        have hnd : L.attrs.Nodup := by rw [T.att.1]; exact T.att.2
        rcases h3.get hnd hLa with ⟨k1, k2⟩ | ⟨d', v', k1, k2, k3⟩
        · simp only [k1] at q1; exact False.elim q1
        · simp only [k1] at q1
          exact ⟨p, C, dx, vs, v', rfl, h2, hc, hn nm hmem, k2, q1 _ _ _ e1 r1 k3⟩
    | _ => exact False.elim q1

/-! ### built-in functions -/
theorem s_blt (hm : ClMono cl) (hc : X.calm = true) (hg : X.A.guards = some []) (hu : X.A.units + 200 < cLine) {bf : BF} {p : Pos} (hgl : Gl X (bfName bf)) (hmg : X.mg (bfName bf) = none) (ha : PA X (x :: xs) (tEs X.K L g cl W es))
    (he : starEach (x :: xs) X.env = (false, eval x X.env) :: starEach xs X.env) (hpl : (backTo pos (starEach xs X.env)).any (·.1) = false) : PE X (.Call (.Name (bfName bf) p) (x :: xs) [] pos) (tE X.K L g cl W (.blt bf es)) := by
  have hd : (bfName bf == ("__debug__" : Str)) = false := by cases bf <;> decide +kernel
  have hn : bfName bf ≠ "__name__" := by cases bf <;> decide +kernel
  have imp : ∀ σ H Q, tE X.K L g cl W (.blt bf es) σ H Q → tCB (rBF X.K L bf) (tEs X.K L g cl W es) σ H Q := fun σ H Q ⟨ρ, hp, env, r, re, h⟩ => by
    unfold wE at h
    refine ⟨ρ, hp, env, r, re, wEs_mono hm es env hp _ _ _ _ (fun ds hp1 q1 => ?_) (fun _ _ _ z => z) h⟩
    intro ρ1 H1 vs e1 r1 dsr
    exact ⟨ρ1, hp1, ds, r1, dsr, OutD.mono (fun _ _ k => k.ext e1) q1⟩
  have val : bootBuiltins (bfName bf) = some (bfV bf) := by cases bf <;> decide +kernel
  have run := mi_bf (L := L) hc hg hu bf
  cases bf <;> first
    | exact PE.imp (pe_callB run hgl hmg val ha hn hd he hpl) imp
    | exact PE.imp (pe_callTy run hgl hmg val ha hn hd he hpl) imp

/-! ### methods of built-in types -/
theorem s_bm0 (hm : ClMono cl) (hc : X.calm = true) (hu : X.A.units + 65 < cLine) {m : BM} {apos : Pos} (ho : PE X x (tE X.K L g cl W a))
    (hbase : attributeBase x (bmName m) X.env (eval x X.env) = eval x X.env) (hline : (apos.endLine == pos.line) = true) :
    PE X (.Call (.Attribute x (bmName m) apos) [] [] pos) (tE X.K L g cl W (.bm m a .nil)) := by
  refine ⟨fun pins s σ H Q I ⟨ρ, hp, env, r, re, h⟩ => ?_⟩
  unfold wE at h
  refine wpAny_Call_method0_late hbase hline (thn (ho.run pins s σ H (fun v1 H1 => ∃ ρ1 hp1 d1 k, Ext ρ H ρ1 H1 ∧ RelH X.K L ρ1 hp1 H1 ∧ RD X.K L ρ1 H1 d1 v1 ∧ bmK m d1 hp1 = some k ∧ (oBM m k d1 [] hp1).app (KQ X.K L ρ H Q)) I
    ⟨ρ, hp, env, r, re, wE_mono hm a env hp _ _ _ _ (fun d1 hp1 q1 => ?_) (fun _ _ _ z => z) h⟩) fun v s1 ⟨x1, H1, I1, rx, q⟩ => ?_)
  · intro ρ1 H1 v1 e1 r1 d1r
    split at q1
    · rename_i k ek
      exact ⟨ρ1, hp1, d1, k, e1, r1, d1r, ek, q1⟩
    · exact False.elim q1
  · obtain ⟨ρ1, hp1, d1, k, e1, r1, d1r, ek, q1⟩ := q
    obtain ⟨h1, h2⟩ := bm_kind I1 r1 d1r rx ek
    obtain ⟨T, id, pa, slot, hty, hT, run⟩ := (bm_fact (L := L) hu hc m k d1 hp1 ek).ex
    subst hT
    exact ⟨bkT k, id, pa, slot, hty, h1, h2, Calls.callWith_builtin rfl (PySem.evalArgs_none (run pins s1 σ H1 x1 [] v [] Q ρ1 hp1 d1 [] I1 rx .nil r1 d1r .nil (OutD.mono (fun _ _ k => k.ext e1) q1)))⟩
theorem s_bm (hm : ClMono cl) (hc : X.calm = true) (hu : X.A.units + 65 < cLine) {m : BM} {apos : Pos} (ho : PE X x (tE X.K L g cl W a)) (ha : PA X (y :: xs) (tEs X.K L g cl W es))
    (hbase : attributeBase x (bmName m) X.env (eval x X.env) = eval x X.env)
    (hfew : ((backTo pos (starEach (y :: xs) X.env)).all (fun x => !x.1) && (backToKw pos (keywordEach [] X.env)).all (fun x => x.1.isSome)
      && decide ((y :: xs).length + ([] : List Keyword).length + (if ([] : List Keyword).isEmpty then 0 else 1) < 30)) = true)
    (hline : (apos.endLine == pos.line) = true) (hs : starEach (y :: xs) X.env = (false, eval y X.env) :: starEach xs X.env) (hplain : (backTo pos (starEach xs X.env)).any (·.1) = false) :
    PE X (.Call (.Attribute x (bmName m) apos) (y :: xs) [] pos) (tE X.K L g cl W (.bm m a es)) := by
  refine ⟨fun pins s σ H Q I ⟨ρ, hp, env, r, re, h⟩ => ?_⟩
  unfold wE at h
  refine wpAny_Call_method_late hbase hfew hline rfl (thn (ho.run pins s σ H (fun v1 H1 => ∃ ρ1 hp1 d1 k, Ext ρ H ρ1 H1 ∧ RelH X.K L ρ1 hp1 H1 ∧ RD X.K L ρ1 H1 d1 v1 ∧ bmK m d1 hp1 = some k ∧ wEs g cl es env hp1 (fun ds hp => (oBM m k d1 ds hp).app (KQ X.K L ρ H Q)) (KX X.K L ρ H σ W)) I
    ⟨ρ, hp, env, r, re, wE_mono hm a env hp _ _ _ _ (fun d1 hp1 q1 => ?_) (fun _ _ _ z => z) h⟩) fun v s1 ⟨x1, H1, I1, rx, q⟩ => ?_)
  · intro ρ1 H1 v1 e1 r1 d1r
    split at q1
    · rename_i k ek
      exact ⟨ρ1, hp1, d1, k, e1, r1, d1r, ek, q1⟩
    · exact False.elim q1
  · obtain ⟨ρ1, hp1, d1, k, e1, r1, d1r, ek, q1⟩ := q
    obtain ⟨h1, h2⟩ := bm_kind I1 r1 d1r rx ek
    obtain ⟨T, id, pa, slot, hty, hT, run⟩ := (bm_fact (L := L) hu hc m k d1 hp1 ek).ex
    subst hT
    refine ⟨bkT k, id, pa, slot, hty, h1, h2, ?_⟩
    have hA := ha.run pos pins s1 σ H1 (fun vs H2 => ∃ ρ2 hp2 ds, Ext ρ1 H1 ρ2 H2 ∧ RelH X.K L ρ2 hp2 H2 ∧ RDs X.K L ρ2 H2 ds vs ∧ (oBM m k d1 ds hp2).app (KQ X.K L ρ H Q)) I1
      ⟨ρ1, hp1, env, r1, re.mono e1, wEs_mono hm es env hp1 _ _ _ _ (fun ds hp2 q2 ρ2 H2 vs e2 r2 dsr => ⟨ρ2, hp2, ds, e2, r2, dsr, q2⟩) (fun _ _ _ z => z.ext e1) q1⟩
    rw [hs] at hA ⊢
    refine Calls.callWith_builtin (by show (false || (backTo pos (starEach xs X.env)).any (·.1)) = false; rw [hplain] <;> rfl) (Calls.evalArgs_plain ?_)
    refine thn hA fun us s2 ⟨vs, H2, I2, r2, ρ2, hp2, ds, e2, rr, dsr, q2⟩ => ?_
    exact run pins s2 σ H2 x1 vs v us Q ρ2 hp2 d1 ds I2 rx r2 rr (d1r.mono e2) dsr (OutD.mono (fun _ _ k => k.ext (e1.trans e2)) q2)

/-! ### calls of the text's own -/
theorem run_fnG {pins : List (Addr × Obj)} {σ : L2.St} {H : Hp} {s : Shared} {Q : VK} {us : List Value} {vs : List V} {k : Nat} {f : Addr} {fd : FuncData} {ps : List Str} {sp : Sp} (F : FnG X.prog X.w X.K X.mg X.base k f fd ps sp) (hr : Room k X.A) (hg : X.A.guards = some [])
    (hb : Binds X.K fd ps []) (tk : Takes X W) (I : Inv X pins σ H s) (r : Vals vs us) (h : sp vs H Q fun cls d H' => W cls d σ H') : wpAny (model X.prog X.w) X.A (call (.ref f) us) (EP X pins σ Q) X.xe s := by
  have hl : us.length = ps.length := by rw [← r.length]; exact F.len _ _ _ _ h
  have hb2 : BindsTo s fd ⟨us, []⟩ (ps.zip us) := by
    have := hb s us I.kIn (by rw [List.append_nil]; exact hl)
    rw [List.append_nil] at this
    exact this
  refine wpAny_call (codeAny_mono (F.run X.A X.stack s H ⟨us, []⟩ us vs Q _ hr hg I.env0 hb2 r h) fun r s' hq => ?_)
  cases r with
  | error e => exact tk e s' (XE.of_call I (fun cls d H' h => h) hq)
  | ok fl =>
    cases fl with
    | ret u => exact I.after hq
    | next => exact False.elim hq
    | brk => exact False.elim hq
    | cont => exact False.elim hq
theorem KX.toE {K : PySem.W.Frag} {L : Lay} {ρ ρ1 : List Addr} {H H1 : Hp} {σ : L2.St} {W : WX} {c i : Nat} {hp : Hq} (k : KX K L ρ H σ W c i hp) (e : Ext ρ H ρ1 H1) : KE K L ρ1 H1 (fun cls d H' => W cls d σ H') c i hp :=
  fun ρ' H' a C e' r q z => k ρ' H' a C (e.trans e') r q z
theorem callWith_any {pins : List (Addr × Obj)} {σ : L2.St} {H : Hp} {s : Shared} {f : Value} {first : List Value} {R : List V → Hp → Prop} {t : TA} {Q : Value → Shared → Prop} (hk : PySem.W.keepIn X.K f = true) (I : Inv X pins σ H s) (ha : PA X xs t)
    (hsh : xs = [] ∨ ∃ y ys, xs = y :: ys ∧ starEach (y :: ys) X.env = (false, eval y X.env) :: starEach ys X.env ∧ (backTo pos (starEach ys X.env)).any (·.1) = false)
    (h : t σ H R) (hnil : xs = [] → R [] H) (k : ∀ us vs H1 s1, Inv X pins σ H1 s1 → Vals vs us → R vs H1 → wpAny (model X.prog X.w) X.A (call f (first ++ us)) Q X.xe s1) :
    wpAny (model X.prog X.w) X.A (callWith pos f first (backTo pos (starEach xs X.env)) (backToKw pos (keywordEach [] X.env))) Q X.xe s := by
  rcases hsh with rfl | ⟨y, ys, rfl, he, hpl⟩
  · exact PySem.W.callWith_K0 I.kIn hk (k [] [] H s I .nil (hnil rfl))
  · exact PySem.W.callWith_K (h₀ := X.base) I.ok.mod.kin hk (thn (ha.run pos pins s σ H _ I h) fun us s1 ⟨vs, H1, I1, r, q⟩ => ⟨I1.kIn, k us vs H1 s1 I1 r q⟩) he hpl

variable {S : Nm} {n : Nat}
def Shape (X : Cx) (pos : Pos) (xs : List Expr) : Prop := xs = [] ∨ ∃ y ys, xs = y :: ys ∧ starEach (y :: ys) X.env = (false, eval y X.env) :: starEach ys X.env ∧ (backTo pos (starEach ys X.env)).any (·.1) = false
theorem s_call (T : TF S g X.prog X.w X.K X.mg X.base L n) (hr : Room (2 * n + 2) X.A) (hg : X.A.guards = some []) (tk : Takes X W) {f : Nat} {nm : Str} {p : Pos} (hf : S.fnN[f]? = some (some nm)) (hgl : Gl X nm) (hdb : (nm == ("__debug__" : Str)) = false)
    (ha : PA X xs (tEs X.K L g (wCall g n) W es)) (hsh : Shape X pos xs) (hnl : xs = [] → es = .nil) : PE X (.Call (.Name nm p) xs [] pos) (tE X.K L g (wCall g n) W (.call f es)) := by
  obtain ⟨fa, h1, h2, h3⟩ := T.fn f nm hf
  obtain ⟨fd, ps, hb, _, F⟩ := T.call f fa h1
  refine ⟨fun pins s σ H Q I ⟨ρ, hp, env, r, re, h⟩ => ?_⟩
  unfold wE at h
  refine wpAny_Call_Name_kw (ld_glob I hgl h2 ?_ hdb)
  refine callWith_any (R := fun vs H1 => ∃ ρ1 hp1 ds, Ext ρ H ρ1 H1 ∧ RelH X.K L ρ1 hp1 H1 ∧ RDs X.K L ρ1 H1 ds vs ∧ wCall g n f ds hp1 (KQ X.K L ρ H Q) (KX X.K L ρ H σ W)) h3 I ha hsh
    ⟨ρ, hp, env, r, re, wEs_mono (wCall_mono g n) es env hp _ _ _ _ (fun ds hp1 q1 ρ1 H1 vs e1 r1 dsr => ⟨ρ1, hp1, ds, e1, r1, dsr, q1⟩) (fun _ _ _ z => z) h⟩
    (fun e => by
      have := hnl e
      subst this
      exact ⟨ρ, hp, [], Ext.refl _ _, r, .nil, h⟩) fun us vs H1 s1 I1 rv ⟨ρ1, hp1, ds, e1, r1, dsr, q1⟩ => ?_
  exact run_fnG F hr hg hb tk I1 rv ⟨ρ1, hp1, ds, r1, dsr, wCall_mono g n f ds hp1 _ _ _ _ (fun _ _ k => k.ext e1) (fun _ _ _ k => k.toE e1) q1⟩

/-- o.m( .. ), where the method's name and the call stand in one line -/
theorem methCall_any {env : PySem.Env} {A : Around} {E : Value → Shared → Prop} {s : Shared} {o : Expr} {nm : Str} {apos pos : Pos} {args : List Expr} {prog : Program} {w : World} {Q : Value → Shared → Prop}
    (hbase : attributeBase o nm env (eval o env) = eval o env) (hline : (apos.endLine == pos.line) = true)
    (hfew : methodCallForm (args.length + ([] : List Keyword).length) (backTo pos (starEach args env)) (backToKw pos (keywordEach [] env)) = true)
    (h : wpAny (model prog w) A (eval o env) (fun ov s₁ => ∀ pl, wpAny (model prog w) A (getMethod ov nm pl) (fun fx s₂ => wpAny (model prog w) A (callWith pos fx.1 fx.2 (backTo pos (starEach args env)) (backToKw pos (keywordEach [] env))) Q E s₂) E s₁) E s) :
    wpAny (model prog w) A (eval (.Call (.Attribute o nm apos) args [] pos) env) Q E s := by
  rw [arm_eval_Call, hbase]
  refine wpAny_bind (wpAny_mono h (fun ov s₁ h₁ => ?_) fun _ _ e => e)
  refine wpAny_bind (wpAny_standAt ?_)
  have hpos : methodCallPos true o env apos pos = pure pos := by unfold methodCallPos; simp [hline]
  unfold methodCall
  rw [hfew]
  refine wpAny_bind (wpAny_holding (wpAny_mono (h₁ _) (fun fx s2 h2 => ?_) fun _ _ e => e))
  exact wpAny_bind (wpAny_of_eq hpos h2)

theorem s_meth (T : TF S g X.prog X.w X.K X.mg X.base L n) (hr : Room (2 * n + 2) X.A) (hg : X.A.guards = some []) (tk : Takes X W) {m : Nat} {nm : Str} {apos : Pos} (hf : S.mths[m]? = some nm) (ho : PE X x (tE X.K L g (wCall g n) W a))
    (ha : PA X xs (tEs X.K L g (wCall g n) W es)) (hsh : Shape X pos xs) (hnl : xs = [] → es = .nil) (hbase : attributeBase x nm X.env (eval x X.env) = eval x X.env) (hline : (apos.endLine == pos.line) = true) (hfew : methodCallForm (xs.length + ([] : List Keyword).length) (backTo pos (starEach xs X.env)) (backToKw pos (keywordEach [] X.env)) = true) : PE X (.Call (.Attribute x nm apos) xs [] pos) (tE X.K L g (wCall g n) W (.meth a m es)) := by
  refine ⟨fun pins s σ H Q I ⟨ρ, hp, env, r, re, h⟩ => ?_⟩
  unfold wE at h
  have hm := wCall_mono g n
  refine methCall_any hbase hline hfew (thn (ho.run pins s σ H (fun v1 H1 => ∃ ρ1 hp1 i c fs f, v1 = v1 ∧ Ext ρ H ρ1 H1 ∧ RelH X.K L ρ1 hp1 H1 ∧ RD X.K L ρ1 H1 (.ref i) v1 ∧ gtI hp1 i = some (c, fs) ∧ g.meth c m = some f ∧
      wEs g (wCall g n) es env hp1 (fun ds hp => wCall g n f (.ref i :: ds) hp (KQ X.K L ρ H Q) (KX X.K L ρ H σ W)) (KX X.K L ρ H σ W)) I
    ⟨ρ, hp, env, r, re, wE_mono hm a env hp _ _ _ _ (fun d1 hp1 q1 => ?_) (fun _ _ _ z => z) h⟩) fun v s1 ⟨x1, H1, I1, rx, q⟩ pl => ?_)
  · intro ρ1 H1 v1 e1 r1 d1r
    cases d1r with
    | @ref i pa hs =>
      cases e : gtI hp1 i with
      | none => simp only [e] at q1
      | some cf =>
        obtain ⟨c, fs⟩ := cf
        simp only [e] at q1
        cases e2 : g.meth c m with
        | none => simp only [e2] at q1
        | some f =>
          simp only [e2] at q1
          exact ⟨ρ1, hp1, i, c, fs, f, rfl, e1, r1, .ref hs, e, e2, q1⟩
    | _ => exact False.elim q1
  · obtain ⟨ρ1, hp1, i, c, fs, f, _, e1, r1, d1r, eg, em, q1⟩ := q
    cases d1r with
    | @ref _ pa hs =>
      cases rx
      obtain ⟨C, dx, vs, g1, g2, g3⟩ := r1.ins hs eg
      obtain ⟨hc, _⟩ := T.cls c C g1
      obtain ⟨fa, f1, hmeth⟩ := T.mth c C m nm f g1 hf em
      obtain ⟨fd, ps, hb, _, F⟩ := T.call f fa f1
      have hlook : vs.lookup nm = none := by
        have hna := T.mna m nm hf
        have hat : ∀ x v, (x, v) ∈ vs → x ∈ S.attrs := by
          intro x v hx
          unfold RFs at g3
          clear eg g2
          induction g3 with
          | nil => cases hx
          | cons rr t ih =>
            rcases List.mem_cons.mp hx with e | e
            · rw [← e] at rr
              rw [← T.att.1]
              exact List.mem_of_getElem? rr.1
            · exact ih e
        clear g3 g2 eg
        induction vs with
        | nil => rfl
        | cons p l ih =>
          obtain ⟨x, v⟩ := p
          have hx : ¬ nm = x := fun z => hna (z ▸ hat x v List.mem_cons_self)
          show (match nm == x with | true => some v | false => l.lookup nm) = none
          rw [show (nm == x) = false from beq_eq_false_iff_ne.mpr hx]
          exact ih fun y w hy => hat y w (List.mem_cons_of_mem _ hy)
      refine getmeth_ok I1 g2 hc hmeth hlook ?_
      refine callWith_any (first := [.ref pa]) (R := fun us H2 => ∃ ρ2 hp2 ds, Ext ρ1 H1 ρ2 H2 ∧ RelH X.K L ρ2 hp2 H2 ∧ RDs X.K L ρ2 H2 ds us ∧ wCall g n f (.ref i :: ds) hp2 (KQ X.K L ρ H Q) (KX X.K L ρ H σ W)) hmeth.kp I1 ha hsh
        ⟨ρ1, hp1, env, r1, re.mono e1, wEs_mono hm es env hp1 _ _ _ _ (fun ds hp2 q2 ρ2 H2 us e2 r2 dsr => ⟨ρ2, hp2, ds, e2, r2, dsr, q2⟩) (fun _ _ _ z => z.ext e1) q1⟩
        (fun e => by
          have := hnl e
          subst this
          exact ⟨ρ1, hp1, [], Ext.refl _ _, r1, .nil, q1⟩) fun us vs2 H2 s2 I2 rv ⟨ρ2, hp2, ds, e2, r2, dsr, q2⟩ => ?_
      have hsr : RD X.K L ρ2 H2 (.ref i) (.ref pa) := .ref (e2.ix hs)
      exact run_fnG (vs := .ref pa :: vs2) F hr hg hb tk I2 (.cons rfl rv) ⟨ρ2, hp2, .ref i :: ds, r2, .cons hsr dsr, wCall_mono g n f _ hp2 _ _ _ _ (fun _ _ k => k.ext (e1.trans e2)) (fun _ _ _ k => k.toE (e1.trans e2)) q2⟩

/-! ### with names -/
theorem filt_rd {K : PySem.W.Frag} {L : Lay} {ρ : List Addr} {H : Hp} {ds : List D} {vs : List V} (h : RDs K L ρ H ds vs) : ∀ (pm : List Nat) (ds' : List D), perm (pm.map .inl) ds = some ds' → RDs K L ρ H ds' (pm.filterMap fun j => vs[j]?)
  | [], ds', e => by
    cases e
    exact .nil
  | j :: pm, ds', e => by
    unfold perm at e
    rw [List.map_cons] at e
    unfold mapO at e
    cases e1 : ds[j]? with
    | none => simp only [e1] at e; cases e
    | some y =>
      cases e2 : perm (pm.map .inl) ds with
      | none =>
        unfold perm at e2
        simp only [e1, e2] at e; cases e
      | some ys =>
        have e3 := e2
        unfold perm at e3
        simp only [e1, e3] at e
        cases e
        obtain ⟨v, h1, h2⟩ := h.get e1
        rw [List.filterMap_cons, h1]
        exact .cons h2 (filt_rd h pm ys e2)
theorem filt_vals {vs : List V} {us : List Value} (h : Vals vs us) : ∀ pm : List Nat, Vals (pm.filterMap fun j => vs[j]?) (pm.filterMap fun j => us[j]?)
  | [] => .nil
  | j :: pm => by
    rw [List.filterMap_cons, List.filterMap_cons]
    cases e : vs[j]? with
    | none =>
      have e2 : us[j]? = none := by
        rw [List.getElem?_eq_none_iff] at e ⊢
        rw [← h.length]; exact e
      rw [e2]
      exact filt_vals h pm
    | some v =>
      obtain ⟨u, e2, r⟩ := h.get e
      rw [e2]
      exact .cons r (filt_vals h pm)
theorem filt_shift {α : Type} (x : α) (us : List α) : ∀ pm : List Nat, ((0 :: pm.map (· + 1)).filterMap fun j => (x :: us)[j]?) = x :: pm.filterMap fun j => us[j]? := by
  intro pm
  rw [List.filterMap_cons]
  show x :: _ = _
  congr 1
  rw [List.filterMap_map]
  rfl
theorem perm_inl {pm : List (Sum Nat D)} {pl : List Nat} (h : pm.map (fun s => match s with | .inl j => some j | .inr _ => none) = pl.map some) : pm = pl.map .inl := by
  induction pm generalizing pl with
  | nil =>
    cases pl with
    | nil => rfl
    | cons _ _ => cases h
  | cons s r ih =>
    cases pl with
    | nil => cases h
    | cons j pl =>
      rw [List.map_cons, List.map_cons] at h
      injection h with h1 h2
      cases s with
      | inl j' =>
        cases h1
        rw [ih h2]
        rfl
      | inr _ => cases h1
theorem run_fnS {pins : List (Addr × Obj)} {σ : L2.St} {H : Hp} {s : Shared} {Q : VK} {us ws : List Value} {vs : List V} {k : Nat} {f : Addr} {fd : FuncData} {ps ks : List Str} {sp : Sp} {pm : List Nat} (F : FnG X.prog X.w X.K X.mg X.base k f fd ps sp) (hr : Room k X.A) (hg : X.A.guards = some [])
    (hb : ShpOk X.K fd ps us.length ks pm) (hw : ws.length = ks.length) (tk : Takes X W) (I : Inv X pins σ H s) (r : Vals vs (us ++ ws)) (h : sp (pm.filterMap fun j => vs[j]?) H Q fun cls d H' => W cls d σ H') : wpAny (model X.prog X.w) X.A (call (.ref f) us (ks.zip ws)) (EP X pins σ Q) X.xe s := by
  refine wpAny_call (codeAny_mono (F.run X.A X.stack s H ⟨us, ks.zip ws⟩ _ _ Q _ hr hg I.env0 (hb.2 s us ws I.kIn rfl hw) (filt_vals r pm) h) fun r s' hq => ?_)
  cases r with
  | error e => exact tk e s' (XE.of_call I (fun cls d H' h => h) hq)
  | ok fl =>
    cases fl with
    | ret u => exact I.after hq
    | next => exact False.elim hq
    | brk => exact False.elim hq
    | cont => exact False.elim hq
theorem wEs_split (hm : ClMono cl) : ∀ (k : Nat) (es : Exs) (env : Env) (hp : Hq) (Q : List D → Hq → Prop) (E : QX), wEs g cl es env hp Q E → wEs g cl (takeX k es) env hp (fun ds1 hp1 => wEs g cl (dropX k es) env hp1 (fun ds2 hp2 => Q (ds1 ++ ds2) hp2) E) E
  | 0, es, env, hp, Q, E, h => by
    cases es <;> exact h
  | k + 1, .nil, env, hp, Q, E, h => h
  | k + 1, .cons e r, env, hp, Q, E, h => by
    unfold wEs at h
    show wEs g cl (.cons e (takeX k r)) env hp _ E
    unfold wEs
    exact wE_mono hm e env hp _ _ _ _ (fun d hp1 q1 => wEs_split hm k r env hp1 (fun ds hp => Q (d :: ds) hp) E q1) (fun _ _ _ z => z) h
theorem PK.imp {X : Cx} {kws : List Keyword} {t t' : TA} (h : PK X kws t) (i : ∀ σ H Q, t' σ H Q → t σ H Q) : PK X kws t' := ⟨fun pos pins s σ H Q I q => h.run pos pins s σ H Q I (i σ H Q q)⟩
theorem sk_nil : PK X [] (tEs X.K L g cl W .nil) :=
  PK.imp pk_nil fun σ H Q ⟨ρ, hp, env, r, re, h⟩ => (show KQs X.K L ρ H Q [] hp from h) ρ H [] (Ext.refl _ _) r .nil
theorem sk_cons (hm : ClMono cl) {k : Keyword} {kws : List Keyword} (ha : PE X k.value (tE X.K L g cl W a)) (hb : PK X kws (tEs X.K L g cl W es)) : PK X (k :: kws) (tEs X.K L g cl W (.cons a es)) := by
  obtain ⟨kn, kv, kp⟩ := k
  exact PK.imp (pk_cons ha hb) fun σ H Q ⟨ρ, hp, env, r, re, h⟩ => by
    unfold wEs at h
    refine ⟨ρ, hp, env, r, re, wE_mono hm a env hp _ _ _ _ (fun d1 hp1 q1 => ?_) (fun _ _ _ z => z) h⟩
    intro ρ1 H1 v1 e1 r1 d1r
    refine ⟨ρ1, hp1, env, r1, re.mono e1, wEs_mono hm es env hp1 _ _ _ _ (fun ds hp2 q2 => ?_) (fun _ _ _ z => z.ext e1) q1⟩
    intro ρ2 H2 vs e2 r2 dsr
    exact q2 ρ2 H2 (v1 :: vs) (e1.trans e2) r2 (.cons (d1r.mono e2) dsr)
theorem RDs.app2 {K : PySem.W.Frag} {L : Lay} {ρ : List Addr} {H : Hp} {ds es : List D} {vs us : List V} (a : RDs K L ρ H ds vs) (b : RDs K L ρ H es us) : RDs K L ρ H (ds ++ es) (vs ++ us) := a.app b
theorem callWith_kws {pins : List (Addr × Obj)} {σ : L2.St} {H : Hp} {s : Shared} {f : Value} {first : List Value} {k : Keyword} {kws : List Keyword} {R1 : List V → Hp → Prop} {R : List V → List V → Hp → Prop} {t tk : TA} {Q : Value → Shared → Prop} {ks : List Str} (hk : PySem.W.keepIn X.K f = true) (I : Inv X pins σ H s) (ha : PA X xs t)
    (hsh : xs = [] ∨ ∃ y ys, xs = y :: ys ∧ starEach (y :: ys) X.env = (false, eval y X.env) :: starEach ys X.env ∧ (backTo pos (starEach ys X.env)).any (·.1) = false) (hkw : PK X (k :: kws) tk)
    (hall : (backToKw pos (keywordEach (k :: kws) X.env)).all (·.1.isSome) = true) (hnone : (backToKw pos (keywordEach (k :: kws) X.env)).any (·.1.isNone) = false) (hks : (backToKw pos (keywordEach (k :: kws) X.env)).filterMap (·.1) = ks)
    (h : t σ H R1) (hnil : xs = [] → R1 [] H) (h2 : ∀ vs H1, R1 vs H1 → tk σ H1 (R vs)) (kk : ∀ us ws vs zs H1 s1, Inv X pins σ H1 s1 → Vals vs us → Vals zs ws → R vs zs H1 → wpAny (model X.prog X.w) X.A (call f (first ++ us) (ks.zip ws)) Q X.xe s1) :
    wpAny (model X.prog X.w) X.A (callWith pos f first (backTo pos (starEach xs X.env)) (backToKw pos (keywordEach (k :: kws) X.env))) Q X.xe s := by
  rcases hsh with rfl | ⟨y, ys, rfl, he, hpl⟩
  · refine PySem.W.callWith_KW0 (h₀ := X.base) I.ok.mod.kin hk hall (thn (hkw.run pos pins s σ H _ I (h2 [] H (hnil rfl))) fun ws s2 ⟨zs, H2, I2, rz, q2⟩ => ⟨I2.kIn, ?_⟩) (by rw [hnone]; rfl)
    rw [hks]
    exact kk [] ws [] zs H2 s2 I2 .nil rz q2
  · refine PySem.W.callWith_KW (h₀ := X.base) I.ok.mod.kin hk hall (thn (ha.run pos pins s σ H _ I h) fun us s1 ⟨vs, H1, I1, r, q⟩ => ?_) (by rw [hnone, he]; show ((false || (backTo pos (starEach ys X.env)).any (·.1)) || false) = false; rw [hpl]; rfl) he
    refine thn (hkw.run pos pins s1 σ H1 _ I1 (h2 vs H1 q)) fun ws s2 ⟨zs, H2, I2, rz, q2⟩ => ⟨I2.kIn, ?_⟩
    rw [hks]
    exact kk us ws vs zs H2 s2 I2 r rz q2
theorem methCall_anyK {env : PySem.Env} {A : Around} {E : Value → Shared → Prop} {s : Shared} {o : Expr} {nm : Str} {apos pos : Pos} {args : List Expr} {kws : List Keyword} {prog : Program} {w : World} {Q : Value → Shared → Prop}
    (hbase : attributeBase o nm env (eval o env) = eval o env) (hline : (apos.endLine == pos.line) = true)
    (hfew : methodCallForm (args.length + kws.length) (backTo pos (starEach args env)) (backToKw pos (keywordEach kws env)) = true)
    (h : wpAny (model prog w) A (eval o env) (fun ov s₁ => ∀ pl, wpAny (model prog w) A (getMethod ov nm pl) (fun fx s₂ => wpAny (model prog w) A (callWith pos fx.1 fx.2 (backTo pos (starEach args env)) (backToKw pos (keywordEach kws env))) Q E s₂) E s₁) E s) :
    wpAny (model prog w) A (eval (.Call (.Attribute o nm apos) args kws pos) env) Q E s := by
  rw [arm_eval_Call, hbase]
  refine wpAny_bind (wpAny_mono h (fun ov s₁ h₁ => ?_) fun _ _ e => e)
  refine wpAny_bind (wpAny_standAt ?_)
  have hpos : methodCallPos true o env apos pos = pure pos := by unfold methodCallPos; simp [hline]
  unfold methodCall
  rw [hfew]
  refine wpAny_bind (wpAny_holding (wpAny_mono (h₁ _) (fun fx s2 h2 => ?_) fun _ _ e => e))
  exact wpAny_bind (wpAny_of_eq hpos h2)
/-- an instance's own things hold no method's name -/
theorem no_own {K : PySem.W.Frag} {P : Program} {w : World} {mg : Str → Option Value} {base : Heap} {ρ : List Addr} {H : Hp} {fs : List (Nat × D)} {vs : List (Str × V)} {m : Nat} {nm : Str} (T : TF S g P w K mg base L n) (hf : S.mths[m]? = some nm) (g3 : RFs K L ρ H fs vs) : vs.lookup nm = none := by
  have hna := T.mna m nm hf
  have hat : ∀ x v, (x, v) ∈ vs → x ∈ S.attrs := by
    intro x v hx
    unfold RFs at g3
    induction g3 with
    | nil => cases hx
    | cons rr t ih =>
      rcases List.mem_cons.mp hx with e | e
      · rw [← e] at rr
        rw [← T.att.1]
        exact List.mem_of_getElem? rr.1
      · exact ih e
  clear g3
  induction vs with
  | nil => rfl
  | cons p l ih =>
    obtain ⟨x, v⟩ := p
    have hx : ¬ nm = x := fun z => hna (z ▸ hat x v List.mem_cons_self)
    show (match nm == x with | true => some v | false => l.lookup nm) = none
    rw [show (nm == x) = false from beq_eq_false_iff_ne.mpr hx]
    exact ih fun y w hy => hat y w (List.mem_cons_of_mem _ hy)
theorem s_methK (T : TF S g X.prog X.w X.K X.mg X.base L n) (hr : Room (2 * n + 2) X.A) (hg : X.A.guards = some []) (tk : Takes X W) {m : Nat} {nm : Str} {apos : Pos} {k : Keyword} {kws : List Keyword} {pm : List (Sum Nat D)} {pl : List Nat} {ks : List Str} (hf : S.mths[m]? = some nm) (ho : PE X x (tE X.K L g (wCall g n) W a))
    (ha : PA X xs (tEs X.K L g (wCall g n) W (takeX xs.length es))) (hkw : PK X (k :: kws) (tEs X.K L g (wCall g n) W (dropX xs.length es))) (hsh : Shape X pos xs) (hbase : attributeBase x nm X.env (eval x X.env) = eval x X.env) (hline : (apos.endLine == pos.line) = true)
    (hfew : methodCallForm (xs.length + (k :: kws).length) (backTo pos (starEach xs X.env)) (backToKw pos (keywordEach (k :: kws) X.env)) = true) (hlen : es.len = xs.length + (k :: kws).length)
    (hall : (backToKw pos (keywordEach (k :: kws) X.env)).all (·.1.isSome) = true) (hnone : (backToKw pos (keywordEach (k :: kws) X.env)).any (·.1.isNone) = false) (hks : (backToKw pos (keywordEach (k :: kws) X.env)).filterMap (·.1) = ks) (hksl : ks.length = (k :: kws).length)
    (hin : (m, xs.length, ks, pl) ∈ S.mks) (hpm : pm = pl.map .inl) : PE X (.Call (.Attribute x nm apos) xs (k :: kws) pos) (tE X.K L g (wCall g n) W (.methK a m es pm)) := by
  refine ⟨fun pins s σ H Q I ⟨ρ, hp, env, r, re, h⟩ => ?_⟩
  unfold wE at h
  have hm := wCall_mono g n
  refine methCall_anyK hbase hline hfew (thn (ho.run pins s σ H (fun v1 H1 => ∃ ρ1 hp1 i c fs f, v1 = v1 ∧ Ext ρ H ρ1 H1 ∧ RelH X.K L ρ1 hp1 H1 ∧ RD X.K L ρ1 H1 (.ref i) v1 ∧ gtI hp1 i = some (c, fs) ∧ g.meth c m = some f ∧
      wEs g (wCall g n) es env hp1 (fun ds hp => match perm pm ds with
          | some vs => wCall g n f (.ref i :: vs) hp (KQ X.K L ρ H Q) (KX X.K L ρ H σ W)
          | none => False) (KX X.K L ρ H σ W)) I
    ⟨ρ, hp, env, r, re, wE_mono hm a env hp _ _ _ _ (fun d1 hp1 q1 => ?_) (fun _ _ _ z => z) h⟩) fun v s1 ⟨x1, H1, I1, rx, q⟩ plc => ?_)
  · intro ρ1 H1 v1 e1 r1 d1r
    cases d1r with
    | @ref i pa hs =>
      cases e : gtI hp1 i with
      | none => simp only [e] at q1
      | some cf =>
        obtain ⟨c, fs⟩ := cf
        simp only [e] at q1
        cases e2 : g.meth c m with
        | none => simp only [e2] at q1
        | some f =>
          simp only [e2] at q1
          exact ⟨ρ1, hp1, i, c, fs, f, rfl, e1, r1, .ref hs, e, e2, q1⟩
    | _ => exact False.elim q1
  · obtain ⟨ρ1, hp1, i, c, fs, f, _, e1, r1, d1r, eg, em, q1⟩ := q
    cases d1r with
    | @ref _ pa hs =>
      cases rx
      obtain ⟨C, dx, vs, g1, g2, g3⟩ := r1.ins hs eg
      obtain ⟨hc, _⟩ := T.cls c C g1
      obtain ⟨fa, f1, hmeth⟩ := T.mth c C m nm f g1 hf em
      obtain ⟨fd, ps, hb, hshp, F⟩ := T.call f fa f1
      have hsp := hshp _ (T.mks _ hin c f em) rfl
      have hlook : vs.lookup nm = none := no_own T hf g3
      refine getmeth_ok I1 g2 hc hmeth hlook ?_
      have q1 := wEs_len hm _ _ _ _ _ (wEs_split hm xs.length es env hp1 _ _ (wEs_len hm es env hp1 _ _ q1))
      refine callWith_kws (first := [.ref pa]) (ks := ks) (R1 := fun us H2 => ∃ ρ2 hp2 ds, Ext ρ1 H1 ρ2 H2 ∧ RelH X.K L ρ2 hp2 H2 ∧ RDs X.K L ρ2 H2 ds us ∧ ds.length = (takeX xs.length es).len ∧ wEs g (wCall g n) (dropX xs.length es) env hp2 (fun ds2 hp => (ds ++ ds2).length = es.len ∧ match perm pm (ds ++ ds2) with
          | some vs => wCall g n f (.ref i :: vs) hp (KQ X.K L ρ H Q) (KX X.K L ρ H σ W)
          | none => False) (KX X.K L ρ H σ W))
        (R := fun us zs H2 => ∃ ρ2 hp2 ds vs', Ext ρ1 H1 ρ2 H2 ∧ RelH X.K L ρ2 hp2 H2 ∧ RDs X.K L ρ2 H2 ds (us ++ zs) ∧ ds.length = es.len ∧ us.length = (takeX xs.length es).len ∧ perm pm ds = some vs' ∧ wCall g n f (.ref i :: vs') hp2 (KQ X.K L ρ H Q) (KX X.K L ρ H σ W))
        hmeth.kp I1 ha hsh hkw hall hnone hks
        ⟨ρ1, hp1, env, r1, re.mono e1, wEs_mono hm _ env hp1 _ _ _ _ (fun ds hp2 q2 ρ2 H2 us e2 r2 dsr => ⟨ρ2, hp2, ds, e2, r2, dsr, q2.1, q2.2⟩) (fun _ _ _ z => z.ext e1) q1⟩
        (fun e => ?_) (fun us H2 ⟨ρ2, hp2, ds, e2, r2, dsr, hl, q2⟩ => ?_) fun us ws vs2 zs H2 s2 I2 rv rz ⟨ρ2, hp2, ds, vs', e2, r2, dsr, hl, hl2, ep, q2⟩ => ?_
      · subst e
        refine ⟨ρ1, hp1, [], Ext.refl _ _, r1, .nil, ?_, ?_⟩
        · cases es <;> rfl
        · cases es <;> exact q1.2
      · refine ⟨ρ2, hp2, env, r2, (re.mono e1).mono e2, wEs_mono hm _ env hp2 _ _ _ _ (fun ds2 hp3 q3 => ?_) (fun _ _ _ z => (z.ext e1).ext e2) q2⟩
        intro ρ3 H3 zs e3 r3 zsr
        obtain ⟨hl3, q3⟩ := q3
        cases ep : perm pm (ds ++ ds2) with
        | none => simp only [ep] at q3
        | some vs' =>
          simp only [ep] at q3
          exact ⟨ρ3, hp3, ds ++ ds2, vs', e2.trans e3, r3, (dsr.mono e3).app zsr, hl3, by rw [← dsr.len]; exact hl, ep, q3⟩
      · have hsr : RD X.K L ρ2 H2 (.ref i) (.ref pa) := .ref (e2.ix hs)
        have hul : us.length = xs.length := by
          rw [← rv.length, hl2]
          have : ∀ (k : Nat) (es : Exs), k ≤ es.len → (takeX k es).len = k := by
            intro k
            induction k with
            | zero => intro es _; cases es <;> rfl
            | succ k ih =>
              intro es h
              cases es with
              | nil => cases h
              | cons e r =>
                show (takeX k r).len + 1 = k + 1
                rw [ih r (Nat.le_of_succ_le_succ h)]
          exact this _ _ (by omega)
        have hwl : ws.length = ks.length := by
          have := dsr.len
          rw [List.length_append, hl, rv.length, rz.length, hul, hlen] at this
          omega
        have hrd : RDs X.K L ρ2 H2 (.ref i :: vs') (.ref pa :: pl.filterMap fun j => (vs2 ++ zs)[j]?) := .cons hsr (filt_rd dsr pl vs' (by rw [← hpm]; exact ep))
        refine run_fnS (us := .ref pa :: us) (vs := .ref pa :: (vs2 ++ zs)) (pm := 0 :: pl.map (· + 1)) F hr hg (by rw [List.length_cons, hul]; exact hsp) hwl tk I2 (.cons rfl (rv.append rz)) ?_
        rw [filt_shift]
        exact ⟨ρ2, hp2, .ref i :: vs', r2, hrd, wCall_mono g n f _ hp2 _ _ _ _ (fun _ _ k => k.ext (e1.trans e2)) (fun _ _ _ k => k.toE (e1.trans e2)) q2⟩

theorem s_make (T : TF S g X.prog X.w X.K X.mg X.base L n) (hr : Room (2 * n + 3) X.A) (hg : X.A.guards = some []) (tk : Takes X W) {k : Nat} {nm : Str} {p : Pos} (hf : S.clsN[k]? = some nm) (hgl : Gl X nm) (hdb : (nm == ("__debug__" : Str)) = false)
    (hin : g.init k ≠ none) (ha : PA X xs (tEs X.K L g (wCall g n) W es)) (hsh : Shape X pos xs) (hnl : xs = [] → es = .nil) : PE X (.Call (.Name nm p) xs [] pos) (tE X.K L g (wCall g n) W (.make k es)) := by
  obtain ⟨f, ef⟩ := Option.ne_none_iff_exists'.mp hin
  obtain ⟨C, fa, h1, h2, h3, M⟩ := T.mak k nm f hf ef
  obtain ⟨fd, ps, hb, _, F⟩ := T.call f fa h3
  refine ⟨fun pins s σ H Q I ⟨ρ, hp, env, r, re, h⟩ => ?_⟩
  unfold wE at h
  simp only [ef] at h
  refine wpAny_Call_Name_kw (ld_glob I hgl h2 ?_ hdb)
  refine callWith_any (R := fun vs H1 => ∃ ρ1 hp1 ds, Ext ρ H ρ1 H1 ∧ RelH X.K L ρ1 hp1 H1 ∧ RDs X.K L ρ1 H1 ds vs ∧ wCall g n f (.ref hp1.length :: ds) (hp1 ++ [.ins k []]) (fun v hp' => match v with
      | .non => KQ X.K L ρ H Q (.ref hp1.length) hp'
      | _ => False) (KX X.K L ρ H σ W)) M.kp I ha hsh
    ⟨ρ, hp, env, r, re, wEs_mono (wCall_mono g n) es env hp _ _ _ _ (fun ds hp1 q1 ρ1 H1 vs e1 r1 dsr => ⟨ρ1, hp1, ds, e1, r1, dsr, q1⟩) (fun _ _ _ z => z) h⟩
    (fun e => by
      have := hnl e
      subst this
      exact ⟨ρ, hp, [], Ext.refl _ _, r, .nil, h⟩) fun us vs H1 s1 I1 rv ⟨ρ1, hp1, ds, e1, r1, dsr, q1⟩ => ?_
  -- the instance's dict, then the instance
  have hdx : H1 s1.heap.objs.size = none := I1.hok.fresh (Nat.le_refl _)
  have hx : H1 (s1.heap.objs.size + 1) = none := I1.hok.fresh (Nat.le_succ _)
  have hne : s1.heap.objs.size ≠ s1.heap.objs.size + 1 := Nat.ne_of_lt (Nat.lt_succ_self _)
  obtain ⟨r2, e2⟩ := r1.tmp (u := .own (s1.heap.objs.size + 1)) hdx
  have hx2 : upd H1 s1.heap.objs.size (.own (s1.heap.objs.size + 1)) (s1.heap.objs.size + 1) = none := by rw [upd_ne (Ne.symm hne)]; exact hx
  obtain ⟨r3, e3⟩ := r2.push (o := .ins k []) (u := .ins C s1.heap.objs.size []) hx2 (.ins h1 .nil)
  have e23 := e2.trans e3
  have I2 := Inv.made (C := C) I1
  have hself : (ρ1 ++ [s1.heap.objs.size + 1])[hp1.length]? = some (s1.heap.objs.size + 1) := by
    rw [← r1.len, List.getElem?_append_right (Nat.le_refl _)]
    simp
  have hsp : spI X.K L g n f (V.ref (s1.heap.objs.size + 1) :: vs) (upd (upd H1 s1.heap.objs.size (.own (s1.heap.objs.size + 1))) (s1.heap.objs.size + 1) (.ins C s1.heap.objs.size []))
      (fun v H' => v = .non ∧ Q (.ref (s1.heap.objs.size + 1)) H') fun cls d H' => W cls d σ H' := by
    refine ⟨_, _, _, r3, .cons (.ref hself) (dsr.mono e23), wCall_mono g n f _ _ _ _ _ _ (fun d hp' k ρ' H' v e' r' q => ?_) (fun _ _ _ k => k.toE (e1.trans e23)) q1⟩
    cases q with
    | non => exact ⟨rfl, k _ _ _ ((e1.trans e23).trans e') r' (.ref (e'.ix hself))⟩
    | _ => exact False.elim k
  have r2v : Vals (V.ref (s1.heap.objs.size + 1) :: vs) (Value.ref (s1.heap.objs.size + 1) :: us) := .cons rfl rv
  have hl : (Value.ref (s1.heap.objs.size + 1) :: us).length = ps.length := by rw [← r2v.length]; exact F.len _ _ _ _ hsp
  have hb2 : ∀ s', X.K.In s'.heap → BindsTo s' fd ⟨Value.ref (s1.heap.objs.size + 1) :: us, []⟩ (ps.zip (Value.ref (s1.heap.objs.size + 1) :: us)) := fun s' k => by
    have := hb s' (Value.ref (s1.heap.objs.size + 1) :: us) k (by rw [List.append_nil]; exact hl)
    rw [List.append_nil] at this
    exact this
  refine wpAny_call (make_map (f := fa) I1.kIn M.makes M.init (beq_iff_eq.mp M.fn) (codeAny_mono (F.run _ X.stack _ _ ⟨Value.ref (s1.heap.objs.size + 1) :: us, []⟩ (Value.ref (s1.heap.objs.size + 1) :: us) _ _ _ (hr.make C us [])
    (by first | exact hg | (simpa [Around.under, Code.guards, Code.isGuard, guardIds, pushGuards] using hg)) (I2.env0.make C us []) (hb2 _ I2.kIn) r2v hsp) fun r s' hq' => ?_))
  cases r with
  | error e => exact tk e s' (XE.of_call I2 (fun cls d H' h => h) hq')
  | ok fl =>
    cases fl with
    | ret u =>
      obtain ⟨v, H', I3, rv', ev, q3⟩ := I2.after hq'
      subst ev
      exact ⟨rv', ⟨V.ref (s1.heap.objs.size + 1), H', I3, rfl, q3⟩⟩
    | next => exact False.elim hq'
    | brk => exact False.elim hq'
    | cont => exact False.elim hq'
end
end MI
/-! MI, part 11: what is walked. -/
namespace MI
open PySem PySem.Spec PyProof.Rows L2

/-! ### unlocking -/
def unP (H0 : Hp) (P : Hp → Prop) (H' : Hp) : Prop := P H' ∨ ∃ d od u, H' d = some (.frz od u) ∧ (∀ o' u', H0 d ≠ some (.frz o' u')) ∧ P (upd H' d u)
theorem ps_un {X : Cx} {st : Stmt} {t : TS} (h : PS X st t) : PS X st (fun D σ H => t ⟨fun σ' => unP X.H_0 (D.nx σ'), fun v => unP X.H_0 (D.rt v), fun σ' => unP X.H_0 (D.bk σ'), fun σ' => unP X.H_0 (D.ct σ')⟩ σ H) := by
  refine ⟨fun pins s σ H D I hw => ?_⟩
  refine thn (h.run pins s σ H _ I hw) fun f s1 q => ?_
  cases f with
  | next =>
    obtain ⟨σ', H', I2, q⟩ := q
    rcases q with q | ⟨d, od, u, e, hn, q⟩
    · exact ⟨σ', H', I2, q⟩
    · exact ⟨σ', _, I2.unlock e hn, q⟩
  | brk =>
    obtain ⟨σ', H', I2, q⟩ := q
    rcases q with q | ⟨d, od, u, e, hn, q⟩
    · exact ⟨σ', H', I2, q⟩
    · exact ⟨σ', _, I2.unlock e hn, q⟩
  | cont =>
    obtain ⟨σ', H', I2, q⟩ := q
    rcases q with q | ⟨d, od, u, e, hn, q⟩
    · exact ⟨σ', H', I2, q⟩
    · exact ⟨σ', _, I2.unlock e hn, q⟩
  | ret v =>
    obtain ⟨x, σ', H', I2, r, q⟩ := q
    rcases q with q | ⟨d, od, u, e, hn, q⟩
    · exact ⟨x, σ', H', I2, r, q⟩
    · exact ⟨x, σ', _, I2.unlock e hn, r, q⟩
theorem pe_un {X : Cx} {e : Expr} {t : TE} (h : PE X e t) : PE X e (fun σ H Q => t σ H fun v => unP X.H_0 (Q v)) := by
  refine ⟨fun pins s σ H Q I hw => ?_⟩
  refine thn (h.run pins s σ H _ I hw) fun v s1 ⟨x, H', I2, r, q⟩ => ?_
  rcases q with q | ⟨d, od, u, e, hn, q⟩
  · exact ⟨x, H', I2, r, q⟩
  · exact ⟨x, _, I2.unlock e hn, r, q⟩

/-! ### iterators related -/
structure RIt (K : PySem.W.Frag) (L : Lay) (ρ1 : List Addr) (H1 : Hp) (J : It) (it : Itr) : Prop where
  stop : ∀ (j : Nat) ρ H hp, Ext ρ1 H1 ρ H → RelH K L ρ hp H → it.nx j hp = some none → J.stop j H
  go : ∀ (j : Nat) ρ H hp d, Ext ρ1 H1 ρ H → RelH K L ρ hp H → it.nx j hp = some (some d) → J.go j H ∧ ∀ x H', J.yld j H x H' → Ext ρ H ρ H' ∧ RelH K L ρ hp H' ∧ RD K L ρ H' d x
def UnI (K : PySem.W.Frag) (L : Lay) (H0 : Hp) (ρ1 : List Addr) (Hu H1 : Hp) (it : Itr) : Prop :=
  (Hu = H1 ∧ it.un = id) ∨ ∃ (d : Addr) (i : Nat) (od : Obj) (vs : List (Key × V)) (kvs : List (Key × D)), (∀ o' u', H0 d ≠ some (.frz o' u')) ∧ Hu d = some (.dK vs) ∧ H1 = upd Hu d (.frz od (.dK vs)) ∧ ρ1[i]? = some d ∧ RKs K L ρ1 Hu kvs vs ∧ it.un = fun h => h.set i (.dic kvs)
def KI (K : PySem.W.Frag) (L : Lay) (H0 : Hp) (ρ : List Addr) (H : Hp) (R : It → Hp → Prop) : Itr → Hq → Prop := fun itr hp' => ∀ ρ1 Hu H1 J, Ext ρ H ρ1 Hu → RelH K L ρ1 hp' H1 → RIt K L ρ1 H1 J itr → UnI K L H0 ρ1 Hu H1 itr → R J H1
section
variable {K : PySem.W.Frag} {L : Lay} {ρ ρ1 ρ' : List Addr} {H H' Hu H1 H0 : Hp} {hp hp' : Hq} {it : Itr}
theorem UnI.ext (h : UnI K L H0 ρ1 Hu H1 it) : Ext ρ1 Hu ρ1 H1 := by
  rcases h with ⟨rfl, _⟩ | ⟨d, i, od, vs, kvs, hn, hd, e, hi, rk, hu⟩
  · exact Ext.refl _ _
  · subst e
    refine ⟨⟨[], by simp⟩, fun _ h => .inl h, fun a o h n => ?_, fun a o h s => ?_, fun a o k h => ?_⟩
    · rw [upd_ne fun z => n (by rw [z]; exact List.mem_of_getElem? hi)]; exact h
    · rw [upd_ne fun z => by subst z; rw [hd] at h; cases h; cases s]; exact h
    · rw [upd_ne fun z => by subst z; rw [hd] at h; cases h]; exact h
theorem UnI.fin {P : Hp → Prop} (h : UnI K L H0 ρ1 Hu H1 it) (e : Ext ρ1 H1 ρ' H') (r : RelH K L ρ' hp' H') (k : ∀ H'', Ext ρ1 Hu ρ' H'' → ExtW ρ' H' ρ' H'' → (∀ a u, H' a = some u → (∀ o' u', u ≠ .frz o' u') → H'' a = some u) → RelH K L ρ' (it.un hp') H'' → P H'') : unP H0 P H' := by
  rcases h with ⟨rfl, hu⟩ | ⟨d, i, od, vs, kvs, hn, hd, e1, hi, rk, hu⟩
  · left
    rw [hu] at k
    exact k H' e ⟨⟨[], by simp⟩, fun _ _ h _ => h⟩ (fun _ _ h _ => h) r
  · right
    subst e1
    have hd' : H' d = some (.frz od (.dK vs)) := e.fz d od vs upd_same
    have nd : ∀ {a o}, Hu a = some o → Stb o → a ≠ d := fun {a o} h s z => by subst z; rw [hd] at h; cases h; cases s
    have w : ExtW ρ' H' ρ' (upd H' d (.dK vs)) := ⟨⟨[], by simp⟩, fun a o h s => by rw [upd_ne fun z => by subst z; rw [hd'] at h; cases h; cases s]; exact h⟩
    have wu : ExtW ρ1 Hu ρ' H' := ⟨e.pre, fun a o h s => e.st a o (by rw [upd_ne (nd h s)]; exact h) s⟩
    have rk' : RKs K L ρ' H' kvs vs := rk.monoW wu
    have hi' : ρ'[i]? = some d := e.ix hi
    refine ⟨d, od, .dK vs, hd', hn, k _ ⟨e.pre, fun a ha => ?_, fun a o h n => ?_, fun a o h s => ?_, fun a o q h => ?_⟩ w (fun a u h hu => by rw [upd_ne fun z => by subst z; rw [hd'] at h; cases h; exact hu _ _ rfl]; exact h) ?_⟩
    · rcases e.new a ha with q | q
      · exact .inl q
      · by_cases z : a = d
        · subst z; exact .inl (List.mem_of_getElem? hi)
        · rw [upd_ne z] at q; exact .inr q
    · have z : a ≠ d := fun z => n (by rw [z]; exact List.mem_of_getElem? hi)
      rw [upd_ne z]
      exact e.out a o (by rw [upd_ne z]; exact h) n
    · rw [upd_ne (nd h s)]
      exact e.st a o (by rw [upd_ne (nd h s)]; exact h) s
    · have z : a ≠ d := fun z => by subst z; rw [hd] at h; cases h
      rw [upd_ne z]
      exact e.fz a o q (by rw [upd_ne z]; exact h)
    · rw [hu]
      have hl : i < hp'.length := by rw [← r.len]; exact (List.getElem?_eq_some_iff.mp hi').1
      refine ⟨r.nd, by simp [r.len], fun j o' h => ?_⟩
      by_cases hj : i = j
      · subst hj
        have h : (hp'.set i (.dic kvs))[i]? = some o' := h
        rw [List.getElem?_set_self hl] at h
        cases h
        exact ⟨d, _, hi', upd_same, .dic (rk'.monoW w)⟩
      · have h : (hp'.set i (.dic kvs))[j]? = some o' := h
        rw [List.getElem?_set_ne hj] at h
        obtain ⟨b, u', h1, h2, h3⟩ := r.at_ j o' h
        refine ⟨b, u', h1, ?_, h3.monoW w⟩
        rw [upd_ne fun z => hj (nodup_at r.nd hi' (by rw [← z]; exact h1))]
        exact h2

theorem rks_at : ∀ {kvs : List (Key × D)} {vs : List (Key × V)} {j : Nat} {k : Key} {v : V}, RKs K L ρ H kvs vs → vs[j]? = some (k, v) → ∃ d, kvs[j]? = some (k, d) ∧ RD K L ρ H d v
  | _, _, _, _, _, .nil, h => by simp at h
  | (k', d) :: _, _, 0, k, v, .cons (b := (k2, v')) r _, h => by
    obtain ⟨e, r⟩ := r
    have e : k' = k2 := e
    subst e
    have h : (k', v') = (k, v) := by simpa using h
    cases h
    exact ⟨d, rfl, r⟩
  | _ :: _, _, j + 1, k, v, .cons _ t, h => by
    obtain ⟨d, h1, h2⟩ := rks_at (j := j) t (by simpa using h)
    exact ⟨d, by simpa using h1, h2⟩

/-! ### the kinds -/
theorem rit_list {i : Nat} {a : Addr} (ha : ρ1[i]? = some a) : RIt K L ρ1 H1 (Itl K a) (itLst i) where
  stop := fun j ρ H hp e r h => by
    cases g : gtL hp i with
    | none => simp [itLst, g] at h
    | some xs =>
      simp [itLst, g] at h
      obtain ⟨vs, h1, h2⟩ := r.lst (e.ix ha) g
      exact ⟨vs, .of h1, by rw [← h2.len]; exact h⟩
  go := fun j ρ H hp d e r h => by
    cases g : gtL hp i with
    | none => simp [itLst, g] at h
    | some xs =>
      have h : xs[j]? = some d := by simpa [itLst, g] using h
      obtain ⟨vs, h1, h2⟩ := r.lst (e.ix ha) g
      obtain ⟨v, h3, h4⟩ := h2.get h
      refine ⟨⟨vs, v, .of h1, h3⟩, fun x H' y => ?_⟩
      obtain ⟨rfl, y⟩ := y
      have := y vs (.of h1)
      rw [h3] at this
      cases this
      exact ⟨Ext.refl _ _, r, h4⟩
theorem rit_fixL {ds : List D} {vs : List V} {a : Addr} (hs : KlL K H1 a vs) (t : RDs K L ρ1 H1 ds vs) : RIt K L ρ1 H1 (Itl K a) (itFix ds) where
  stop := fun j ρ H hp e r h => by
    have h : ds[j]? = none := by simpa [itFix] using h
    exact ⟨vs, (KlL.mono e hs).sq, by rw [← t.len]; exact List.getElem?_eq_none_iff.mp h⟩
  go := fun j ρ H hp d e r h => by
    have h : ds[j]? = some d := by simpa [itFix] using h
    obtain ⟨v, h3, h4⟩ := t.get h
    refine ⟨⟨vs, v, (KlL.mono e hs).sq, h3⟩, fun x H' y => ?_⟩
    obtain ⟨rfl, y⟩ := y
    have := y vs (KlL.mono e hs).sq
    rw [h3] at this
    cases this
    exact ⟨Ext.refl _ _, r, h4.mono e⟩
theorem rit_fixT {ds : List D} {vs : List V} {a : Addr} (hs : SqT K H1 a vs) (t : RDs K L ρ1 H1 ds vs) : RIt K L ρ1 H1 (Itt K a) (itFix ds) where
  stop := fun j ρ H hp e r h => by
    have h : ds[j]? = none := by simpa [itFix] using h
    exact ⟨vs, SqT.mono e hs, by rw [← t.len]; exact List.getElem?_eq_none_iff.mp h⟩
  go := fun j ρ H hp d e r h => by
    have h : ds[j]? = some d := by simpa [itFix] using h
    obtain ⟨v, h3, h4⟩ := t.get h
    refine ⟨⟨vs, v, SqT.mono e hs, h3⟩, fun x H' y => ?_⟩
    obtain ⟨rfl, y⟩ := y
    have := y vs (SqT.mono e hs)
    rw [h3] at this
    cases this
    exact ⟨Ext.refl _ _, r, h4.mono e⟩
theorem rit_str {x : Str} {un : Hq → Hq} : RIt K L ρ1 H1 (Its x) ⟨fun j _ => some ((x.cps[j]?).map fun c => .str ⟨#[c]⟩), un⟩ where
  stop := fun j ρ H hp e r h => by
    have h : x.cps[j]? = none := by simpa using h
    exact Array.getElem?_eq_none_iff.mp h
  go := fun j ρ H hp d e r h => by
    have h : ∃ c, x.cps[j]? = some c ∧ D.str ⟨#[c]⟩ = d := by simpa using h
    obtain ⟨c, hx, rfl⟩ := h
    refine ⟨(Array.getElem?_eq_some_iff.mp hx).1, fun v H' y => ?_⟩
    obtain ⟨rfl, c', h', rfl⟩ := y
    rw [hx] at h'
    cases h'
    exact ⟨Ext.refl _ _, r, .str _⟩
theorem rit_rng {lo hi : Int} : RIt K L ρ1 H1 (L2.Itr lo (hi - lo).toNat) (itRng lo hi) where
  stop := fun j ρ H hp e r h => by
    have h : (if (j : Int) < hi - lo then some (D.int (lo + j)) else none) = none := by simpa [itRng] using h
    split at h
    · cases h
    · show (hi - lo).toNat ≤ j
      omega
  go := fun j ρ H hp d e r h => by
    have h : (if (j : Int) < hi - lo then some (D.int (lo + j)) else none) = some d := Option.some.inj h
    split at h
    · cases h
      refine ⟨by show j < (hi - lo).toNat; omega, fun v H' y => ?_⟩
      obtain ⟨rfl, rfl⟩ := y
      exact ⟨Ext.refl _ _, r, .int _⟩
    · cases h
/-- a dict that stands still -/
theorem rit_keys {d : Addr} {o : Obj} {kvs : List (Key × D)} {vs : List (Key × V)} {un : Hq → Hq} (hd : H1 d = some (.frz o (.dK vs))) (t : RKs K L ρ1 H1 kvs vs) : RIt K L ρ1 H1 (Itk d o vs) ⟨fun j _ => some ((kvs.map fun kv => keyD kv.1)[j]?), un⟩ where
  stop := fun j ρ H hp e r h => by
    have h : kvs.length ≤ j := by simpa using h
    exact ⟨e.fz _ _ _ hd, by rw [← t.len]; exact h⟩
  go := fun j ρ H hp x e r h => by
    have h : ∃ k y, kvs[j]? = some (k, y) ∧ keyD k = x := by simpa using h
    obtain ⟨k, y, hx, rfl⟩ := h
    have hl := (List.getElem?_eq_some_iff.mp hx).1
    refine ⟨⟨e.fz _ _ _ hd, by rw [← t.len]; exact hl⟩, fun v H' z => ?_⟩
    obtain ⟨rfl, k', w, h', rfl⟩ := z
    obtain ⟨d', h2, _⟩ := rks_at t h'
    rw [hx] at h2
    cases h2
    exact ⟨Ext.refl _ _, r, keyD_kV k⟩
theorem rit_vals {d : Addr} {o : Obj} {kvs : List (Key × D)} {vs : List (Key × V)} {un : Hq → Hq} (hd : H1 d = some (.frz o (.dK vs))) (t : RKs K L ρ1 H1 kvs vs) : RIt K L ρ1 H1 (Itd d o vs) ⟨fun j _ => some ((kvs.map fun kv => kv.2)[j]?), un⟩ where
  stop := fun j ρ H hp e r h => by
    have h : kvs.length ≤ j := by simpa using h
    exact ⟨e.fz _ _ _ hd, by rw [← t.len]; exact h⟩
  go := fun j ρ H hp x e r h => by
    have h : ∃ k, kvs[j]? = some (k, x) := by simpa using h
    obtain ⟨k, hx⟩ := h
    have hl := (List.getElem?_eq_some_iff.mp hx).1
    refine ⟨⟨e.fz _ _ _ hd, by rw [← t.len]; exact hl⟩, fun v H' z => ?_⟩
    obtain ⟨rfl, k', h'⟩ := z
    obtain ⟨d', h2, h3⟩ := rks_at t h'
    rw [hx] at h2
    cases h2
    exact ⟨Ext.refl _ _, r, h3.mono e⟩
theorem rit_items {d : Addr} {o : Obj} {kvs : List (Key × D)} {vs : List (Key × V)} {un : Hq → Hq} (hd : H1 d = some (.frz o (.dK vs))) (t : RKs K L ρ1 H1 kvs vs) : RIt K L ρ1 H1 (Iti d o vs) ⟨fun j _ => some ((kvs.map fun kv => D.tup [keyD kv.1, kv.2])[j]?), un⟩ where
  stop := fun j ρ H hp e r h => by
    have h : kvs.length ≤ j := by simpa using h
    exact ⟨e.fz _ _ _ hd, by rw [← t.len]; exact h⟩
  go := fun j ρ H hp x e r h => by
    have h : ∃ k y, kvs[j]? = some (k, y) ∧ D.tup [keyD k, y] = x := by simpa using h
    obtain ⟨k, y, hx, rfl⟩ := h
    have hl := (List.getElem?_eq_some_iff.mp hx).1
    refine ⟨⟨e.fz _ _ _ hd, by rw [← t.len]; exact hl⟩, fun v H' z => ?_⟩
    obtain ⟨T, k', w, h', rfl, hT, rfl⟩ := z
    obtain ⟨d', h2, h3⟩ := rks_at t h'
    rw [hx] at h2
    cases h2
    obtain ⟨r2, e2⟩ := r.tmp (u := .tup [kV k, w]) hT
    exact ⟨e2, r2, .tup (.of upd_same) (.cons (keyD_kV k) (.cons ((h3.mono e).mono e2) .nil))⟩
theorem rit_enum {i : Nat} {a : Addr} (ha : ρ1[i]? = some a) : RIt K L ρ1 H1 (Ite K a) (itEnum i) where
  stop := fun j ρ H hp e r h => by
    cases g : gtL hp i with
    | none => simp [itEnum, g] at h
    | some xs =>
      simp [itEnum, g] at h
      obtain ⟨vs, h1, h2⟩ := r.lst (e.ix ha) g
      exact ⟨vs, .of h1, by rw [← h2.len]; exact h⟩
  go := fun j ρ H hp d e r h => by
    cases g : gtL hp i with
    | none => simp [itEnum, g] at h
    | some xs =>
      have h : ∃ y, xs[j]? = some y ∧ D.tup [.int j, y] = d := by simpa [itEnum, g] using h
      obtain ⟨y, hx, rfl⟩ := h
      obtain ⟨vs, h1, h2⟩ := r.lst (e.ix ha) g
      obtain ⟨v, h3, h4⟩ := h2.get hx
      refine ⟨⟨vs, v, .of h1, h3⟩, fun x H' z => ?_⟩
      obtain ⟨T, w, rfl, hT, rfl, z⟩ := z
      have := z vs (.of h1)
      rw [h3] at this
      cases this
      obtain ⟨r2, e2⟩ := r.tmp (u := .tup [.int (j : Nat), v]) hT
      exact ⟨e2, r2, .tup (.of upd_same) (.cons (.int _) (.cons (h4.mono e2) .nil))⟩
theorem rit_zip {i k : Nat} {a b : Addr} (ha : ρ1[i]? = some a) (hb : ρ1[k]? = some b) : RIt K L ρ1 H1 (Itz K a b) (itZip i k) where
  stop := fun j ρ H hp e r h => by
    cases g : gtL hp i with
    | none => simp [itZip, g] at h
    | some xs =>
      cases g2 : gtL hp k with
      | none => simp [itZip, g, g2] at h
      | some ys =>
        obtain ⟨vs, h1, h2⟩ := r.lst (e.ix ha) g
        obtain ⟨us, h3, h4⟩ := r.lst (e.ix hb) g2
        refine ⟨vs, us, .of h1, .of h3, ?_⟩
        rw [← h2.len, ← h4.len]
        cases e1 : xs[j]? with
        | none => exact .inl (List.getElem?_eq_none_iff.mp e1)
        | some x =>
          cases e2 : ys[j]? with
          | none => exact .inr (List.getElem?_eq_none_iff.mp e2)
          | some y => simp [itZip, g, g2, e1, e2] at h
  go := fun j ρ H hp d e r h => by
    cases g : gtL hp i with
    | none => simp [itZip, g] at h
    | some xs =>
      cases g2 : gtL hp k with
      | none => simp [itZip, g, g2] at h
      | some ys =>
        obtain ⟨vs, h1, h2⟩ := r.lst (e.ix ha) g
        obtain ⟨us, h3, h4⟩ := r.lst (e.ix hb) g2
        cases e1 : xs[j]? with
        | none => simp [itZip, g, g2, e1] at h
        | some x =>
          cases e2 : ys[j]? with
          | none => simp [itZip, g, g2, e1, e2] at h
          | some y =>
            have h : D.tup [x, y] = d := by simpa [itZip, g, g2, e1, e2] using h
            subst h
            obtain ⟨v, k1, k2⟩ := h2.get e1
            obtain ⟨u, k3, k4⟩ := h4.get e2
            refine ⟨⟨vs, us, v, u, .of h1, .of h3, k1, k3⟩, fun w H' z => ?_⟩
            obtain ⟨T, v', u', rfl, hT, rfl, z1, z2⟩ := z
            have q1 := z1 vs (.of h1)
            have q2 := z2 us (.of h3)
            rw [k1] at q1
            rw [k3] at q2
            cases q1
            cases q2
            obtain ⟨r2, x2⟩ := r.tmp (u := .tup [v, u]) hT
            exact ⟨x2, r2, .tup (.of upd_same) (.cons (k2.mono x2) (.cons (k4.mono x2) .nil))⟩
end
end MI
/-! MI, part 12: what is walked, as it stands in the text. -/
namespace MI
open PySem PySem.Spec PyProof.Rows L2

def tI (K : PySem.W.Frag) (L : Lay) (g : Glob) (cl : Cl) (W : WX) (H0 : Hp) (it : Ix) : TI := fun σ H R => ∃ ρ hp env, RelH K L ρ hp H ∧ RE K L ρ H env σ ∧ wIt g cl it env hp (KI K L H0 ρ H R) (KX K L ρ H σ W)
section
variable {X : Cx} {L : Lay} {g : Glob} {cl : Cl} {W : WX} {x y tg : Expr} {a b : Ex} {pos : Pos}
theorem dic_in {pins : List (Addr × Obj)} {σ : L2.St} {H1 : Hp} {s1 : Shared} {ρ1 : List Addr} {hp1 hp2 : Hq} {i : Nat} {d : Addr} {f : Key × D → D} {itr : MI.Itr} (I : Inv X pins σ H1 s1) (r : RelH X.K L ρ1 hp1 H1) (hs : ρ1[i]? = some d) (h : itDic f hp1 (.ref i) = some (itr, hp2)) :
    ∃ od vs kvs HL un, Inv X pins σ HL s1 ∧ HL d = some (.frz od (.dK vs)) ∧ RelH X.K L ρ1 hp2 HL ∧ RKs X.K L ρ1 HL kvs vs ∧ itr = ⟨fun j _ => some ((kvs.map f)[j]?), un⟩ ∧ UnI X.K L X.H_0 ρ1 H1 HL itr := by
  obtain ⟨o, u, g1, g2, g3⟩ := r.at2 hs
  unfold itDic at h
  simp only [g1] at h
  cases g3 with
  | @dic kvs vs t =>
    cases h
    obtain ⟨od, I2⟩ := I.lock g2 trivial
    obtain ⟨r2, e2⟩ := r.put (o := .fdic kvs) (u := .frz od (.dK vs)) hs (.fdic t) (by intro o k z; rw [g2] at z; cases z)
    exact ⟨od, vs, kvs, _, _, I2, upd_same, r2, t.mono e2, rfl, .inr ⟨d, i, od, vs, kvs, I.nofrz g2 trivial, g2, rfl, hs, t, rfl⟩⟩
  | @fdic kvs vs ob t =>
    cases h
    exact ⟨ob, vs, kvs, H1, _, I, g2, r, t, rfl, .inl ⟨rfl, rfl⟩⟩
  | _ => cases h
theorem seq_dic {hp : Hq} {i : Nat} {o : O} (h : hp[i]? = some o) (hl : ∀ xs, o ≠ .lst xs) : itSeq hp (.ref i) = itDic (fun kv => keyD kv.1) hp (.ref i) := by
  unfold itSeq itDic
  simp only [h]
  cases o with
  | lst xs => exact absurd rfl (hl xs)
  | _ => rfl

theorem i_vl (hm : ClMono cl) (ha : PE X x (tE X.K L g cl W a)) : PI X tg x (tI X.K L g cl W X.H_0 (.vl a)) := by
  refine ⟨fun pins s σ H R I ⟨ρ, hp, env, r, re, h⟩ => ?_⟩
  unfold wIt at h
  refine thn (ha.run pins s σ H (fun v1 H1 => ∃ ρ1 hp1 d1, Ext ρ H ρ1 H1 ∧ RelH X.K L ρ1 hp1 H1 ∧ RD X.K L ρ1 H1 d1 v1 ∧ ∃ itr hp2, itSeq hp1 d1 = some (itr, hp2) ∧ KI X.K L X.H_0 ρ H R itr hp2) I
    ⟨ρ, hp, env, r, re, wE_mono hm a env hp _ _ _ _ (fun d1 hp1 q1 => ?_) (fun _ _ _ z => z) h⟩) fun v s1 ⟨x1, H1, I1, rx, q⟩ => ?_
  · intro ρ1 H1 v1 e1 r1 d1r
    cases eq : itSeq hp1 d1 with
    | none => simp only [eq] at q1
    | some p =>
      obtain ⟨itr, hp2⟩ := p
      simp only [eq] at q1
      exact ⟨ρ1, hp1, d1, e1, r1, d1r, itr, hp2, eq, q1⟩
  · obtain ⟨ρ1, hp1, d1, e1, r1, d1r, itr, hp2, eq, q1⟩ := q
    cases d1r with
    | @tup p xs ds hs t =>
      cases eq
      obtain rfl : v = Value.ref p := rx
      obtain ⟨its, rv, ht, hz⟩ := I1.tuple hs
      exact wpAny_pyIter_tuple (show s1.heap.IsTuple p its.toArray from ht) (pi_one (tk := s1.toks) I1 _ (turn_tuple p _) ⟨_, Heap.get?_push_size _ rfl, rfl, rfl⟩ (q1 ρ1 H1 H1 _ e1 r1 (rit_fixT hs t) (.inl ⟨rfl, rfl⟩)))
    | @kl p xs ds hs t =>
      cases eq
      obtain rfl : v = Value.ref p := rx
      obtain ⟨its, rv, ht, hz⟩ := I1.list hs.sq
      exact wpAny_pyIter_list ht.isList (pi_one (tk := s1.toks) I1 _ (turn_list p _) ⟨_, Heap.get?_push_size _ rfl, rfl, rfl⟩ (q1 ρ1 H1 H1 _ e1 r1 (rit_fixL hs t) (.inl ⟨rfl, rfl⟩)))
    | str z =>
      cases eq
      obtain ⟨t, rfl⟩ := rx
      have q := q1 ρ1 H1 H1 _ e1 r1 rit_str (.inl ⟨rfl, rfl⟩)
      cases hz : z.cps.all (· < 128)
      · exact wpAny_pyIter_wide hz (pi_one (tk := s1.toks) I1 _ (turn_str _ z t "str_iterator" (.inr rfl)) ⟨_, Heap.get?_push_size _ rfl, rfl, rfl⟩ q)
      · exact wpAny_pyIter_ascii hz (pi_one (tk := s1.toks) I1 _ (turn_str _ z t "str_ascii_iterator" (.inl rfl)) ⟨_, Heap.get?_push_size _ rfl, rfl, rfl⟩ q)
    | @ref i p hs =>
      obtain rfl : v = Value.ref p := rx
      obtain ⟨o, u, g1, g2, g3⟩ := r1.at2 hs
      by_cases hl : ∃ xs, o = .lst xs
      · obtain ⟨xs, rfl⟩ := hl
        unfold itSeq at eq
        simp only [g1] at eq
        cases eq
        cases g3 with
        | @lst _ vs t =>
          obtain ⟨its, rv, ht, hz⟩ := I1.list (SqL.of g2)
          exact wpAny_pyIter_list ht.isList (pi_one (tk := s1.toks) I1 _ (turn_list p _) ⟨_, Heap.get?_push_size _ rfl, rfl, rfl⟩ (q1 ρ1 H1 H1 _ e1 r1 (rit_list hs) (.inl ⟨rfl, rfl⟩)))
      · rw [seq_dic g1 (fun xs z => hl ⟨xs, z⟩)] at eq
        obtain ⟨od, vs, kvs, HL, un, I2, hd, r2, t, ei, ui⟩ := dic_in I1 r1 hs eq
        have q := q1 ρ1 H1 HL _ e1 r2 (by rw [ei]; exact rit_keys hd t) ui
        obtain ⟨hss, hgd, hx, es, ep, us, hdt, hsz, kv, hmm⟩ := I2.frzK hd
        refine iter_keys hss hgd hx hdt (pi_one (tk := s1.toks) I2 _ (turn_keys _ hdt) ⟨_, Heap.get?_push_size _ rfl, rfl, ?_⟩ q)
        rw [hsz] <;> rfl
    | _ => cases eq
theorem i_rng1 (hm : ClMono cl) {p : Pos} (hg : Gl X "range") (hmg : X.mg "range" = none) (ha : PE X x (tE X.K L g cl W a)) (hs : starEach [x] X.env = [(false, eval x X.env)]) (hs0 : starEach [] X.env = []) : PI X tg (.Call (.Name "range" p) [x] [] pos) (tI X.K L g cl W X.H_0 (.rng1 a)) :=
  PI.imp (pi_range1 hg hmg (sa_cons hm ha sa_nil (by rw [hs, hs0])) hs) fun σ H R ⟨ρ, hp, env, r, re, h⟩ => by
    unfold wIt at h
    refine ⟨ρ, hp, env, r, re, ?_⟩
    show wE g cl a env hp _ _
    refine wE_mono hm a env hp _ _ _ _ (fun d1 hp1 q1 => ?_) (fun _ _ _ z => z) h
    intro ρ1 H1 vs e1 r1 dsr
    cases dsr with
    | cons d1r t =>
      cases t
      cases d1r with
      | int j =>
        obtain ⟨⟨q2, q3⟩, q4⟩ := q1
        exact ⟨j, rfl, q2, q3, by simpa using q4 ρ1 H1 H1 _ e1 r1 rit_rng (.inl ⟨rfl, rfl⟩)⟩
      | _ => exact False.elim q1
theorem i_rng2 (hm : ClMono cl) {p : Pos} (hg : Gl X "range") (hmg : X.mg "range" = none) (ha : PE X x (tE X.K L g cl W a)) (hb : PE X y (tE X.K L g cl W b)) (hs : starEach [x, y] X.env = [(false, eval x X.env), (false, eval y X.env)]) (hs2 : starEach [y] X.env = [(false, eval y X.env)]) (hs0 : starEach [] X.env = []) :
    PI X tg (.Call (.Name "range" p) [x, y] [] pos) (tI X.K L g cl W X.H_0 (.rng2 a b)) :=
  PI.imp (pi_range2 hg hmg (sa_cons hm ha (sa_cons hm hb sa_nil (by rw [hs2, hs0])) (by rw [hs, hs2])) hs hs2) fun σ H R ⟨ρ, hp, env, r, re, h⟩ => by
    unfold wIt at h
    refine ⟨ρ, hp, env, r, re, ?_⟩
    show wE g cl a env hp (fun d1 hp1 => wE g cl b env hp1 _ _) _
    refine wE_mono hm a env hp _ _ _ _ (fun d1 hp1 q1 => ?_) (fun _ _ _ z => z) h
    refine wE_mono hm b env hp1 _ _ _ _ (fun d2 hp2 q2 => ?_) (fun _ _ _ z => z) q1
    intro ρ1 H1 vs e1 r1 dsr
    cases dsr with
    | cons d1r t =>
      cases t with
      | cons d2r t =>
        cases t
        cases d1r <;> cases d2r <;> first | exact False.elim q2 | skip
        rename_i i j
        obtain ⟨⟨⟨c1, c2⟩, c3, c4⟩, q4⟩ := q2
        exact ⟨i, j, rfl, ⟨c1, c2, c3, c4⟩, q4 ρ1 H1 H1 _ e1 r1 rit_rng (.inl ⟨rfl, rfl⟩)⟩
theorem i_enum (hm : ClMono cl) {p tpos : Pos} {elts : List Expr} {kk : Nat} (hg : Gl X "enumerate") (hmg : X.mg "enumerate" = none) (ha : PE X x (tE X.K L g cl W a)) (hs : starEach [x] X.env = [(false, eval x X.env)]) (hs0 : starEach [] X.env = []) :
    PI X (.Tuple elts kk tpos) (.Call (.Name "enumerate" p) [x] [] pos) (tI X.K L g cl W X.H_0 (.enum a)) :=
  PI.imp (pi_enum hg hmg (sa_cons hm ha sa_nil (by rw [hs, hs0])) hs) fun σ H R ⟨ρ, hp, env, r, re, h⟩ => by
    unfold wIt at h
    refine ⟨ρ, hp, env, r, re, ?_⟩
    show wE g cl a env hp _ _
    refine wE_mono hm a env hp _ _ _ _ (fun d1 hp1 q1 => ?_) (fun _ _ _ z => z) h
    intro ρ1 H1 vs e1 r1 dsr
    cases dsr with
    | cons d1r t =>
      cases t
      cases d1r with
      | @ref i p hs =>
        cases e : gtL hp1 i with
        | none => simp only [e] at q1
        | some xs =>
          simp only [e] at q1
          obtain ⟨vs, h1, h2⟩ := r1.lst hs e
          exact ⟨p, vs, rfl, .of h1, q1 ρ1 H1 H1 _ e1 r1 (rit_enum hs) (.inl ⟨rfl, rfl⟩)⟩
      | _ => exact False.elim q1
theorem i_zip (hm : ClMono cl) {p tpos : Pos} {elts : List Expr} {kk : Nat} (hg : Gl X "zip") (hmg : X.mg "zip" = none) (ha : PE X x (tE X.K L g cl W a)) (hb : PE X y (tE X.K L g cl W b)) (hs : starEach [x, y] X.env = (false, eval x X.env) :: starEach [y] X.env) (hs2 : starEach [y] X.env = [(false, eval y X.env)]) (hs0 : starEach [] X.env = [])
    (hpl : (backTo pos (starEach [y] X.env)).any (·.1) = false) :
    PI X (.Tuple elts kk tpos) (.Call (.Name "zip" p) [x, y] [] pos) (tI X.K L g cl W X.H_0 (.zip2 a b)) :=
  PI.imp (pi_zip hg hmg (sa_cons hm ha (sa_cons hm hb sa_nil (by rw [hs2, hs0])) hs) hs hpl) fun σ H R ⟨ρ, hp, env, r, re, h⟩ => by
    unfold wIt at h
    refine ⟨ρ, hp, env, r, re, ?_⟩
    show wE g cl a env hp (fun d1 hp1 => wE g cl b env hp1 _ _) _
    refine wE_mono hm a env hp _ _ _ _ (fun d1 hp1 q1 => ?_) (fun _ _ _ z => z) h
    refine wE_mono hm b env hp1 _ _ _ _ (fun d2 hp2 q2 => ?_) (fun _ _ _ z => z) q1
    intro ρ1 H1 vs e1 r1 dsr
    cases dsr with
    | cons d1r t =>
      cases t with
      | cons d2r t =>
        cases t
        cases d1r <;> cases d2r <;> first | exact False.elim q2 | skip
        rename_i i a1 hs1 j b1 hs2
        cases e : gtL hp2 i with
        | none => simp only [e] at q2
        | some xs =>
          cases e' : gtL hp2 j with
          | none => simp only [e, e'] at q2
          | some ys =>
            simp only [e, e'] at q2
            obtain ⟨vs, h1, h2⟩ := r1.lst hs1 e
            obtain ⟨us, h3, h4⟩ := r1.lst hs2 e'
            exact ⟨_, _, vs, us, rfl, .of h1, .of h3, q2 ρ1 H1 H1 _ e1 r1 (rit_zip hs1 hs2) (.inl ⟨rfl, rfl⟩)⟩
theorem i_items (hm : ClMono cl) {apos tpos : Pos} {elts : List Expr} {kk : Nat} (ha : PE X x (tE X.K L g cl W a)) (hbase : attributeBase x "items" X.env (eval x X.env) = eval x X.env) (hline : (apos.endLine == pos.line) = true) :
    PI X (.Tuple elts kk tpos) (.Call (.Attribute x "items" apos) [] [] pos) (tI X.K L g cl W X.H_0 (.items a)) := by
  refine ⟨fun pins s σ H R I ⟨ρ, hp, env, r, re, h⟩ => ?_⟩
  unfold wIt at h
  refine wpAny_Call_method (T := "dict") (id := "dict.items") hbase rfl hline F.plainAttrs_dict F.slot_dict_items F.type_dict_items (thn (ha.run pins s σ H (fun v1 H1 => ∃ ρ1 hp1 d1, Ext ρ H ρ1 H1 ∧ RelH X.K L ρ1 hp1 H1 ∧ RD X.K L ρ1 H1 d1 v1 ∧ ∃ itr hp2, itDic (fun kv => .tup [keyD kv.1, kv.2]) hp1 d1 = some (itr, hp2) ∧ KI X.K L X.H_0 ρ H R itr hp2) I
    ⟨ρ, hp, env, r, re, wE_mono hm a env hp _ _ _ _ (fun d1 hp1 q1 => ?_) (fun _ _ _ z => z) h⟩) fun v s1 ⟨x1, H1, I1, rx, q⟩ => ?_)
  · intro ρ1 H1 v1 e1 r1 d1r
    cases eq : itDic (fun kv => .tup [keyD kv.1, kv.2]) hp1 d1 with
    | none => simp only [eq] at q1
    | some p =>
      obtain ⟨itr, hp2⟩ := p
      simp only [eq] at q1
      exact ⟨ρ1, hp1, d1, e1, r1, d1r, itr, hp2, eq, q1⟩
  · obtain ⟨ρ1, hp1, d1, e1, r1, d1r, itr, hp2, eq, q1⟩ := q
    cases d1r with
    | @ref i d hs =>
      obtain rfl : v = Value.ref d := rx
      obtain ⟨od, vs, kvs, HL, un, I2, hd, r2, t, ei, ui⟩ := dic_in I1 r1 hs eq
      have q := q1 ρ1 H1 HL _ e1 r2 (by rw [ei]; exact rit_items hd t) ui
      obtain ⟨hss, hgd, hx, es, ep, us, hdt, hsz, kv, hmm⟩ := I2.frzK hd
      have hl : vs.length = us.length := Paired.length kv
      refine ⟨hmm.dictOf.typeIs, hmm.dictOf.mapOf.noDict, ?_⟩
      have I3 : Inv X pins σ HL { s1 with heap := s1.heap.push { cls := .type "dict_items", data := .fields #[.ref d] } } := I2.kept (t' := s1.toks) fun b ob q => Heap.get?_push_of_some _ q
      have fin : wpAny (model X.prog X.w) X.A (pyIter (.ref s1.heap.objs.size)) (PIE X pins σ (.Tuple elts kk tpos) R) X.xe { s1 with heap := s1.heap.push { cls := .type "dict_items", data := .fields #[.ref d] } } := by
        refine wpAny_pyIter_items (d := d) (knd := mixKind X.prog X.w) ⟨_, Heap.get?_push_size _ rfl, rfl, rfl⟩ (hmm.push _) (pi_one (tk := s1.toks) I3 _ (turn_items _ hdt) ⟨.none, .none, ?_⟩ q)
        rw [hl]
        exact Heap.get?_push_size _ rfl
      show wpAny _ _ (callWith pos (.builtin "dict.items") [.ref d] [] []) _ X.xe s1
      exact method_meetsIn F.slot_dict_items F.entry_dict_items rfl (PySem.evalArgs_none ⟨rfl, hmm.dictOf.typeIs, F.args_dict_items_1 _, _, meets_dict_items (mixKind X.prog X.w) d hss, ⟨us, hmm.dictOf⟩, fin⟩)
    | _ => cases eq
theorem i_vals (hm : ClMono cl) {apos : Pos} (ha : PE X x (tE X.K L g cl W a)) (hbase : attributeBase x "values" X.env (eval x X.env) = eval x X.env) (hline : (apos.endLine == pos.line) = true) :
    PI X tg (.Call (.Attribute x "values" apos) [] [] pos) (tI X.K L g cl W X.H_0 (.vals a)) := by
  refine ⟨fun pins s σ H R I ⟨ρ, hp, env, r, re, h⟩ => ?_⟩
  unfold wIt at h
  refine wpAny_Call_method (T := "dict") (id := "dict.values") hbase rfl hline F.plainAttrs_dict F.slot_dict_values F.type_dict_values (thn (ha.run pins s σ H (fun v1 H1 => ∃ ρ1 hp1 d1, Ext ρ H ρ1 H1 ∧ RelH X.K L ρ1 hp1 H1 ∧ RD X.K L ρ1 H1 d1 v1 ∧ ∃ itr hp2, itDic (fun kv => kv.2) hp1 d1 = some (itr, hp2) ∧ KI X.K L X.H_0 ρ H R itr hp2) I
    ⟨ρ, hp, env, r, re, wE_mono hm a env hp _ _ _ _ (fun d1 hp1 q1 => ?_) (fun _ _ _ z => z) h⟩) fun v s1 ⟨x1, H1, I1, rx, q⟩ => ?_)
  · intro ρ1 H1 v1 e1 r1 d1r
    cases eq : itDic (fun kv => kv.2) hp1 d1 with
    | none => simp only [eq] at q1
    | some p =>
      obtain ⟨itr, hp2⟩ := p
      simp only [eq] at q1
      exact ⟨ρ1, hp1, d1, e1, r1, d1r, itr, hp2, eq, q1⟩
  · obtain ⟨ρ1, hp1, d1, e1, r1, d1r, itr, hp2, eq, q1⟩ := q
    cases d1r with
    | @ref i d hs =>
      obtain rfl : v = Value.ref d := rx
      obtain ⟨od, vs, kvs, HL, un, I2, hd, r2, t, ei, ui⟩ := dic_in I1 r1 hs eq
      have q := q1 ρ1 H1 HL _ e1 r2 (by rw [ei]; exact rit_vals hd t) ui
      obtain ⟨hss, hgd, hx, es, ep, us, hdt, hsz, kv, hmm⟩ := I2.frzK hd
      have hl : vs.length = us.length := Paired.length kv
      refine ⟨hmm.dictOf.typeIs, hmm.dictOf.mapOf.noDict, ?_⟩
      have I3 : Inv X pins σ HL { s1 with heap := s1.heap.push { cls := .type "dict_values", data := .fields #[.ref d] } } := I2.kept (t' := s1.toks) fun b ob q => Heap.get?_push_of_some _ q
      have fin : wpAny (model X.prog X.w) X.A (pyIter (.ref s1.heap.objs.size)) (PIE X pins σ tg R) X.xe { s1 with heap := s1.heap.push { cls := .type "dict_values", data := .fields #[.ref d] } } := by
        refine wpAny_pyIter_values (d := d) (knd := mixKind X.prog X.w) ⟨_, Heap.get?_push_size _ rfl, rfl, rfl⟩ (hmm.push _) (pi_one (tk := s1.toks) I3 _ (turn_vals _ hdt) ⟨_, Heap.get?_push_size _ rfl, rfl, ?_⟩ q)
        rw [hl] <;> rfl
      show wpAny _ _ (callWith pos (.builtin "dict.values") [.ref d] [] []) _ X.xe s1
      exact method_meetsIn F.slot_dict_values F.entry_dict_values rfl (PySem.evalArgs_none ⟨rfl, hmm.dictOf.typeIs, F.args_dict_values_1 _, _, meets_dict_values (mixKind X.prog X.w) d hss, ⟨us, hmm.dictOf⟩, fin⟩)
    | _ => cases eq
end
end MI
/-! MI, part 13: targets. -/
namespace MI
open PySem PySem.Spec PyProof.Rows L2

theorem wipe_get (σ : L2.St) (k : Nat) : ∀ own : List Nat, (L2.wipe σ own)[k]? = if k ∈ own then (σ[k]?).map (fun _ => none) else σ[k]?
  | [] => by simp [L2.wipe]
  | j :: r => by
    unfold L2.wipe
    by_cases h : j = k
    · subst h
      rw [List.getElem?_set]
      simp only [if_true, List.mem_cons, true_or, wipe_length]
      split
      · rename_i hl
        rw [List.getElem?_eq_getElem hl]; rfl
      · rename_i hl
        rw [List.getElem?_eq_none (Nat.le_of_not_lt hl)]; rfl
    · rw [List.getElem?_set_ne h, wipe_get σ k r]
      have : (k ∈ j :: r) ↔ k ∈ r := by
        constructor
        · intro m
          rcases List.mem_cons.mp m with e | e
          · exact absurd e.symm h
          · exact e
        · exact List.mem_cons_of_mem _
      simp only [this]
theorem wipe_set {σ : L2.St} {i : Nat} {x : Option V} {own : List Nat} (h : i ∈ own) : L2.wipe (σ.set i x) own = L2.wipe σ own := by
  apply List.ext_getElem?
  intro k
  rw [wipe_get, wipe_get]
  by_cases hk : k ∈ own
  · rw [if_pos hk, if_pos hk, List.getElem?_set]
    split
    · subst_vars
      split
      · rename_i hl
        rw [List.getElem?_eq_getElem hl]; rfl
      · rename_i hl
        rw [List.getElem?_eq_none (Nat.le_of_not_lt hl)]
    · rfl
  · rw [if_neg hk, if_neg hk, List.getElem?_set_ne (fun z : i = k => hk (by rw [← z]; exact h))]

def KG (K : PySem.W.Frag) (L : Lay) (ρ : List Addr) (H : Hp) (P : List Nat → Bool) (σ : L2.St) (Q : L2.St → Hp → Prop) : Env → Hq → Prop := fun env' hp' => ∀ ρ' H' σ', Ext ρ H ρ' H' → RelH K L ρ' hp' H' → RE K L ρ' H' env' σ' → (∀ own, P own = true → L2.wipe σ' own = L2.wipe σ own) → Q σ' H'
def tG (K : PySem.W.Frag) (L : Lay) (g : Glob) (cl : Cl) (t : Tg) : TG := fun v σ H Q => ∃ ρ hp env d, RelH K L ρ hp H ∧ RE K L ρ H env σ ∧ RD K L ρ H d v ∧ wTg g cl t d env hp (KG K L ρ H (fun own => tgIn own t) σ Q)
def tGs (K : PySem.W.Frag) (L : Lay) (g : Glob) (cl : Cl) (ts : Tgs) : TGs := fun vs σ H Q => ∃ ρ hp env ds, RelH K L ρ hp H ∧ RE K L ρ H env σ ∧ RDs K L ρ H ds vs ∧ wTgs g cl ts ds env hp (KG K L ρ H (fun own => tgsIn own ts) σ Q)
section
variable {X : Cx} {L : Lay} {g : Glob} {cl : Cl} {W : WX} {x y tg : Expr} {a b : Ex} {pos : Pos} {t : Tg} {ts : Tgs} {xs : List Expr}
theorem g_nm {i : Nat} {n : Str} (hN : X.N.Nodup) (hi : X.N[i]? = some n) (hx : Loc X.env.scope n) (hf : X.fn n = true ∨ X.env.scope.names.lookup n = some .local) : PG X (.Name n pos) (tG X.K L g cl (.nm i)) :=
  PG.imp (pg_name hN hi hx hf) fun v σ H Q ⟨ρ, hp, env, d, r, re, rd, h⟩ => by
    unfold wTg at h
    refine h ρ H _ (Ext.refl _ _) r (re.set i rd) fun own ho => ?_
    exact wipe_set (by unfold tgIn at ho; simpa using ho)
theorem gs_nil : PGs X [] (tGs X.K L g cl .nil) :=
  PGs.imp pgs_nil fun v σ H Q ⟨ρ, hp, env, ds, r, re, rd, h⟩ => by
    unfold wTgs at h
    cases rd with
    | nil => exact ⟨rfl, h ρ H σ (Ext.refl _ _) r re fun _ _ => rfl⟩
    | cons _ _ => exact False.elim h
theorem gs_cons (hm : ClMono cl) (h1 : PG X x (tG X.K L g cl t)) (h2 : PGs X xs (tGs X.K L g cl ts)) (hs : (assignEach (x :: xs) X.env).map (·.2) = assign x X.env :: (assignEach xs X.env).map (·.2)) : PGs X (x :: xs) (tGs X.K L g cl (.cons t ts)) :=
  PGs.imp (pgs_cons h1 h2 hs) fun v σ H Q ⟨ρ, hp, env, ds, r, re, rd, h⟩ => by
    unfold wTgs at h
    cases rd with
    | nil => exact False.elim h
    | @cons d v ds vs r1 r2 =>
      refine ⟨_, _, rfl, ρ, hp, env, d, r, re, r1, wTg_mono hm t d env hp _ _ (fun env1 hp1 q => ?_) h⟩
      intro ρ1 H1 σ1 e1 rr re1 w1
      refine ⟨ρ1, hp1, env1, ds, rr, re1, r2.mono e1, wTgs_mono hm ts ds env1 hp1 _ _ (fun env2 hp2 q2 => ?_) q⟩
      intro ρ2 H2 σ2 e2 rr2 re2 w2
      refine q2 ρ2 H2 σ2 (e1.trans e2) rr2 re2 fun own ho => ?_
      have ho : (tgIn own t && tgsIn own ts) = true := by unfold tgsIn at ho; exact ho
      rw [Bool.and_eq_true] at ho
      rw [w2 own ho.2, w1 own ho.1]
theorem g_tp (hc : X.calm = true) (h : PGs X xs (tGs X.K L g cl ts)) {k : Nat} (hn : (assignEach xs X.env).length = ts.len) (hst : (assignEach xs X.env).findIdx? (·.1) = none) : PG X (.Tuple xs k pos) (tG X.K L g cl (.tp ts)) :=
  PG.imp (pg_tup hc h hn hst) fun v σ H Q ⟨ρ, hp, env, d, r, re, rd, h⟩ => by
    unfold wTg at h
    cases rd with
    | @tup p vs ds hs t =>
      obtain ⟨hl, h⟩ := h
      exact ⟨p, vs, rfl, hs, by rw [← t.len, hl], ρ, hp, env, ds, r, re, t, h⟩
    | _ => exact False.elim h
theorem g_at (hm : ClMono cl) {S : Nm} {n : Nat} (T : TF S g X.prog X.w X.K X.mg X.base L n) {f : Nat} {nm : Str} (hf : S.attrs[f]? = some nm) (ha : PE X x (tE X.K L g cl W a)) : PG X (.Attribute x nm pos) (tG X.K L g cl (.at a f)) := by
  refine ⟨fun pins s σ H v u Q I rv ⟨ρ, hp, env, d, r, re, rd, h⟩ => ?_⟩
  unfold wTg at h
  rw [assign_Attribute]
  refine wpAny_bind (wpAny_holding (thn (ha.run pins s σ H (fun v1 H1 => ∃ ρ1 hp1 d1, Ext ρ H ρ1 H1 ∧ RelH X.K L ρ1 hp1 H1 ∧ RD X.K L ρ1 H1 d1 v1 ∧ (oSetF d1 f d hp1).app (KG X.K L ρ H (fun own => tgIn own (.at a f)) σ Q env)) I
    ⟨ρ, hp, env, r, re, wE_mono hm a env hp _ _ _ _ (fun d1 hp1 q1 => ?_) (fun _ _ _ z => False.elim z) h⟩) fun ov s1 ⟨x1, H1, I1, rx, q⟩ => ?_))
  · intro ρ1 H1 v1 e1 r1 d1r
    exact ⟨ρ1, hp1, d1, e1, r1, d1r, q1⟩
  · obtain ⟨ρ1, hp1, d1, e1, r1, d1r, q1⟩ := q
    cases d1r with
    | @ref i p hs =>
      unfold oSetF at q1
      cases e : gtI hp1 i with
      | none => simp only [e] at q1; exact False.elim q1
      | some cf =>
        obtain ⟨c, fs⟩ := cf
        simp only [e] at q1
        obtain ⟨hl, q1⟩ := q1
        obtain ⟨C, dx, vs, h1, h2, h3⟩ := r1.ins hs e
        obtain ⟨hc, hn⟩ := T.cls c C h1
        have hmem : nm ∈ S.attrs := List.mem_of_getElem? hf
        have hLa : L.attrs[f]? = some nm := by rw [T.att.1]; exact hf
        have hnd : L.attrs.Nodup := by rw [T.att.1]; exact T.att.2
        obtain rfl : ov = Value.ref p := rx
        obtain ⟨r2, e2⟩ := r1.put hs (.ins h1 (h3.put hnd hLa (rd.mono e1))) (by intro o k z; rw [h2] at z; cases z)
        refine wpAny_bind (wpAny_standAt (wpAny_bind (wpAny_holding (setattr_ok I1 h2 hc (hn nm hmem) (by rw [← h3.len]; omega) rv fun s3 I3 => ?_))))
        exact wpAny_release ⟨σ, _, I3, q1 ρ1 _ σ (e1.trans e2) r2 ((re.mono e1).mono e2) fun own ho => rfl⟩
    | _ => exact False.elim q1
theorem g_sb (hm : ClMono cl) (hu : X.A.units + 65 < cLine) (ha : PE X x (tE X.K L g cl W a)) (hb : PE X y (tE X.K L g cl W b)) (hns : isSub y = false) : PG X (.Subscript x y pos) (tG X.K L g cl (.sb a b)) :=
  PG.imp (pg_sub ha hb (mi_set (L := L) hu) (by intro v; cases y <;> first | rfl | cases hns)) fun v σ H Q ⟨ρ, hp, env, d, r, re, rd, h⟩ => by
    unfold wTg at h
    refine ⟨ρ, hp, env, r, re, wE_mono hm a env hp _ _ _ _ (fun d1 hp1 q1 => ?_) (fun _ _ _ z => False.elim z) h⟩
    intro ρ1 H1 v1 e1 r1 d1r
    refine ⟨ρ1, hp1, env, r1, re.mono e1, wE_mono hm b env hp1 _ _ _ _ (fun d2 hp2 q2 => ?_) (fun _ _ _ z => False.elim z) q1⟩
    intro ρ2 H2 v2 e2 r2 d2r
    refine ⟨ρ2, hp2, d1, d2, d, r2, d1r.mono e2, d2r, (rd.mono e1).mono e2, OutH.mono (fun hp3 k H3 e3 r3 => ?_) q2⟩
    exact k ρ2 H3 σ ((e1.trans e2).trans e3) r3 (((re.mono e1).mono e2).mono e3) fun own ho => rfl
end
end MI
/-! MI, part 14: statements. -/
namespace MI
open PySem PySem.Spec PyProof.Rows L2

def KSt (K : PySem.W.Frag) (L : Lay) (ρ : List Addr) (H : Hp) (D : Ends) (W : WX) : KS where
  nx := fun env' hp' => ∀ ρ' H' σ', Ext ρ H ρ' H' → RelH K L ρ' hp' H' → RE K L ρ' H' env' σ' → D.nx σ' H'
  bk := fun env' hp' => ∀ ρ' H' σ', Ext ρ H ρ' H' → RelH K L ρ' hp' H' → RE K L ρ' H' env' σ' → D.bk σ' H'
  ct := fun env' hp' => ∀ ρ' H' σ', Ext ρ H ρ' H' → RelH K L ρ' hp' H' → RE K L ρ' H' env' σ' → D.ct σ' H'
  rt := KQ K L ρ H D.rt
  ex := fun c i env' hp' => ∀ ρ' H' σ' a C, Ext ρ H ρ' H' → RelH K L ρ' hp' H' → RE K L ρ' H' env' σ' → ρ'[i]? = some a → L.exs[c]? = some C → W (.ref C) (some a) σ' H'
theorem KSt.ext {K : PySem.W.Frag} {L : Lay} {ρ ρ1 : List Addr} {H H1 : Hp} {D : Ends} {W : WX} (e : Ext ρ H ρ1 H1) : KS.le (KSt K L ρ H D W) (KSt K L ρ1 H1 D W) :=
  ⟨fun _ _ q ρ' H' σ' e' => q ρ' H' σ' (e.trans e'), fun _ _ q ρ' H' σ' e' => q ρ' H' σ' (e.trans e'), fun _ _ q ρ' H' σ' e' => q ρ' H' σ' (e.trans e'), fun _ _ q => KQ.ext q e, fun _ _ _ _ q ρ' H' σ' a C e' => q ρ' H' σ' a C (e.trans e')⟩
theorem KSt.kx {K : PySem.W.Frag} {L : Lay} {ρ ρ1 : List Addr} {H H1 : Hp} {D : Ends} {W : WX} {env : Env} {σ : L2.St} {c i : Nat} {hp : Hq} (re : RE K L ρ1 H1 env σ) (e : Ext ρ H ρ1 H1) (q : (KSt K L ρ H D W).ex c i env hp) : KX K L ρ1 H1 σ W c i hp :=
  fun ρ' H' a C e' r h1 h2 => q ρ' H' σ a C (e.trans e') r (re.mono e') h1 h2
section
variable (K : PySem.W.Frag) (L : Lay) (g : Glob) (cl : Cl) (W : WX)
def tS (s : MI.St) : TS := fun D σ H => ∃ ρ hp env, RelH K L ρ hp H ∧ RE K L ρ H env σ ∧ wS g cl s env hp (KSt K L ρ H D W)
def tSs (s : Sts) : TS := fun D σ H => ∃ ρ hp env, RelH K L ρ hp H ∧ RE K L ρ H env σ ∧ wSs g cl s env hp (KSt K L ρ H D W)
end
section
variable {X : Cx} {L : Lay} {g : Glob} {cl : Cl} {W : WX} {x y tg : Expr} {a b : Ex} {pos : Pos} {t : Tg} {s r : MI.St} {sb rs : Sts} {st : Stmt} {rest : List Stmt}
theorem ss_nil : PSs X [] (tSs X.K L g cl W .nil) :=
  PSs.imp pss_nil fun D σ H ⟨ρ, hp, env, r, re, h⟩ => by
    unfold wSs at h
    exact h ρ H σ (Ext.refl _ _) r re
theorem ss_cons (hm : ClMono cl) (h1 : PS X st (tS X.K L g cl W s)) (h2 : PSs X rest (tSs X.K L g cl W rs)) : PSs X (st :: rest) (tSs X.K L g cl W (.cons s rs)) :=
  PSs.imp (pss_cons h1 h2) fun D σ H ⟨ρ, hp, env, r, re, h⟩ => by
    unfold wSs at h
    refine ⟨ρ, hp, env, r, re, wS_mono hm s env hp { KSt X.K L ρ H D W with nx := fun env hp => wSs g cl rs env hp (KSt X.K L ρ H D W) } _ ⟨fun env' hp' q => ?_, fun _ _ q => q, fun _ _ q => q, fun _ _ q => q, fun _ _ _ _ q => q⟩ h⟩
    intro ρ' H' σ' e' r' re'
    exact ⟨ρ', hp', env', r', re', wSs_mono hm rs env' hp' _ _ (KSt.ext e') q⟩
theorem ss_never (h : PS X st tNever) : PSs X (st :: rest) (tSs X.K L g cl W (.cons .never rs)) := ⟨fun pins s σ H D I ⟨ρ, hp, env, r, re, h⟩ => by unfold wSs at h; exact False.elim h⟩
theorem s_never : PS X st (tS X.K L g cl W .never) := ⟨fun pins s σ H D I ⟨ρ, hp, env, r, re, h⟩ => False.elim h⟩
theorem s_pass : PS X (.Pass pos) (tS X.K L g cl W .pass) := PS.imp ps_pass fun D σ H ⟨ρ, hp, env, r, re, h⟩ => h ρ H σ (Ext.refl _ _) r re
theorem s_doc {z : Str} {j : Nat} {p : Pos} : PS X (.Expr (.Constant (.str z) j p) pos) (tS X.K L g cl W .pass) := PS.imp ps_doc fun D σ H ⟨ρ, hp, env, r, re, h⟩ => h ρ H σ (Ext.refl _ _) r re
theorem s_brk : PS X (.Break pos) (tS X.K L g cl W .brk) := PS.imp ps_break fun D σ H ⟨ρ, hp, env, r, re, h⟩ => h ρ H σ (Ext.refl _ _) r re
theorem s_cont : PS X (.Continue pos) (tS X.K L g cl W .cont) := PS.imp ps_continue fun D σ H ⟨ρ, hp, env, r, re, h⟩ => h ρ H σ (Ext.refl _ _) r re
theorem s_expr (hm : ClMono cl) (ha : PE X x (tE X.K L g cl W a)) (hs : swapsWith x none pos.line X.env = pure false) : PS X (.Expr x pos) (tS X.K L g cl W (.expr a)) :=
  PS.imp (ps_expr ha hs) fun D σ H ⟨ρ, hp, env, r, re, h⟩ => by
    unfold wS at h
    refine ⟨ρ, hp, env, r, re, wE_mono hm a env hp _ _ _ _ (fun d1 hp1 q1 => ?_) (fun c i hp1 z => KSt.kx re (Ext.refl _ _) z) h⟩
    intro ρ1 H1 v1 e1 r1 d1r
    exact q1 ρ1 H1 σ e1 r1 (re.mono e1)
theorem s_ret (hm : ClMono cl) (ha : PE X x (tE X.K L g cl W a)) : PS X (.Return (some x) pos) (tS X.K L g cl W (.ret (.so a))) :=
  PS.imp (ps_ret ha) fun D σ H ⟨ρ, hp, env, r, re, h⟩ => by
    unfold wS wEo at h
    exact ⟨ρ, hp, env, r, re, wE_mono hm a env hp _ _ _ _ (fun d1 hp1 q1 => q1) (fun c i hp1 z => KSt.kx re (Ext.refl _ _) z) h⟩
theorem s_retN : PS X (.Return none pos) (tS X.K L g cl W (.ret .no)) :=
  PS.imp ps_retN fun D σ H ⟨ρ, hp, env, r, re, h⟩ => by
    unfold wS wEo at h
    exact KQ.here h r .non
theorem s_asg (hm : ClMono cl) (ha : PE X x (tE X.K L g cl W a)) (hg : PG X tg (tG X.K L g cl t)) (hs : swapsWithSole [tg] x pos.line X.env = pure false) (hw : swappedStores [tg] x X.env = pure none) (h1 : (assignEach [tg] X.env).map (·.2) = [assign tg X.env]) : PS X (.Assign [tg] x pos) (tS X.K L g cl W (.asg t a)) :=
  PS.imp (ps_asg ha hg hs hw h1) fun D σ H ⟨ρ, hp, env, r, re, h⟩ => by
    unfold wS at h
    refine ⟨ρ, hp, env, r, re, wE_mono hm a env hp _ _ _ _ (fun d1 hp1 q1 => ?_) (fun c i hp1 z => KSt.kx re (Ext.refl _ _) z) h⟩
    intro ρ1 H1 v1 e1 r1 d1r
    refine ⟨ρ1, hp1, env, d1, r1, re.mono e1, d1r, wTg_mono hm t d1 env hp1 _ _ (fun env2 hp2 q2 => ?_) q1⟩
    intro ρ2 H2 σ2 e2 r2 re2 _
    exact q2 ρ2 H2 σ2 (e1.trans e2) r2 re2
theorem s_asgN (hm : ClMono cl) (ha : PE X x (tE X.K L g cl W a)) {i : Nat} {n : Str} {p : Pos} (hN : X.N.Nodup) (hi : X.N[i]? = some n) (hx : Loc X.env.scope n) (hs : swapsWith x (some (.Name n p)) pos.line X.env = pure false) (hf : X.fn n = true ∨ X.env.scope.names.lookup n = some .local) :
    PS X (.Assign [.Name n p] x pos) (tS X.K L g cl W (.asg (.nm i) a)) :=
  PS.imp (ps_set hN hi hx ha hs hf) fun D σ H ⟨ρ, hp, env, r, re, h⟩ => by
    unfold wS at h
    refine ⟨ρ, hp, env, r, re, wE_mono hm a env hp _ _ _ _ (fun d1 hp1 q1 => ?_) (fun c i hp1 z => KSt.kx re (Ext.refl _ _) z) h⟩
    intro ρ1 H1 v1 e1 r1 d1r
    unfold wTg at q1
    exact q1 ρ1 H1 _ e1 r1 ((re.mono e1).set i d1r)
theorem s_par (hm : ClMono cl) {i j : Nat} {u v : Str} {p q pt pt2 : Pos} {kt k2 : Nat} {xa xb : Expr} (hc : X.calm = true) (hN : X.N.Nodup) (hi : X.N[i]? = some u) (hj : X.N[j]? = some v) (hij : i ≠ j) (hx : X.env.scope.names.lookup u = some .local) (hy : X.env.scope.names.lookup v = some .local)
    (ha : PA X [xa, xb] (tEs X.K L g cl W (.cons a (.cons b .nil)))) (hw : swappedStores [.Tuple [.Name u p, .Name v q] kt pt] (.Tuple [xa, xb] k2 pt2) X.env = pure (some [u, v]))
    (hs : swapsWithSole [.Tuple [.Name u p, .Name v q] kt pt] (.Tuple [xa, xb] k2 pt2) pos.line X.env = pure false) :
    PS X (.Assign [.Tuple [.Name u p, .Name v q] kt pt] (.Tuple [xa, xb] k2 pt2) pos) (tS X.K L g cl W (.asg (.tp (.cons (.nm i) (.cons (.nm j) .nil))) (.tup (.cons a (.cons b .nil))))) :=
  PS.imp (ps_par hc hN hi hj hij hx hy ha hw hs) fun D σ H ⟨ρ, hp, env, r, re, h⟩ => by
    unfold wS wE at h
    refine ⟨ρ, hp, env, r, re, wEs_mono hm _ env hp _ _ _ _ (fun ds hp1 q1 => ?_) (fun c i hp1 z => KSt.kx re (Ext.refl _ _) z) h⟩
    intro ρ1 H1 vs e1 r1 dsr
    unfold wTg at q1
    obtain ⟨hl, q1⟩ := q1
    cases dsr with
    | nil => cases hl
    | cons d1r t =>
      cases t with
      | nil => cases hl
      | cons d2r t =>
        cases t with
        | cons _ _ => cases hl
        | nil =>
          have q1 := q1
          unfold wTgs wTg at q1
          unfold wTgs wTg at q1
          unfold wTgs at q1
          exact ⟨_, _, rfl, q1 ρ1 H1 _ e1 r1 (((re.mono e1).set i d1r).set j d2r)⟩
theorem mi_aug {o : BOp} {d e : D} {pins : List (Addr × Obj)} {s : Shared} {σ : L2.St} {H : Hp} {v w : V} {u u' : Value} {Q : VK} {ρ : List Addr} {hp : Hq} (I : Inv X pins σ H s) (rv : RelV v u) (rw' : RelV w u') (r : RelH X.K L ρ hp H) (q1 : RD X.K L ρ H d v) (q2 : RD X.K L ρ H e w) (h : (oAug o d e hp).app (KQ X.K L ρ H Q)) :
    wpAny (model X.prog X.w) X.A (inplaceOp (bopOf o) u u') (EP X pins σ Q) X.xe s := by
  cases o <;> cases d <;> cases e <;> first | exact False.elim h | skip
  · cases q1; cases q2
    exact ip_add pins s σ H _ _ u u' Q I rv rw' ⟨_, _, rfl, rfl, h.here r (.int _)⟩
  · cases q1; cases q2
    exact ip_sub pins s σ H _ _ u u' Q I rv rw' ⟨_, _, rfl, rfl, h.here r (.int _)⟩
def rAugMI (K : PySem.W.Frag) (L : Lay) (o : BOp) : TIp := fun x y H Q => ∃ ρ hp d e, RelH K L ρ hp H ∧ RD K L ρ H d x ∧ RD K L ρ H e y ∧ (oAug o d e hp).app (KQ K L ρ H Q)
theorem s_augn (hm : ClMono cl) {i : Nat} {n : Str} {p : Pos} {o : BOp} (hN : X.N.Nodup) (hi : X.N[i]? = some n) (hx : Loc X.env.scope n) (ha : PE X x (tE X.K L g cl W a)) (hf : X.fn n = true ∨ X.env.scope.names.lookup n = some .local) :
    PS X (.AugAssign (.Name n p) (bopOf o) x pos) (tS X.K L g cl W (.augn i o a)) :=
  PS.imp (ps_aug (ti := rAugMI X.K L o) hN hi hx ha (fun pins s σ H v w u u' Q I rv rw' ⟨ρ, hp, d, e, r, q1, q2, h⟩ => mi_aug I rv rw' r q1 q2 h) hf) fun D σ H ⟨ρ, hp, env, r, re, h⟩ => by
    unfold wS at h
    split at h
    · rename_i d eq
      obtain ⟨v, hv, rd⟩ := re.at_ i d eq
      refine ⟨v, hv, ρ, hp, env, r, re, wE_mono hm a env hp _ _ _ _ (fun d1 hp1 q1 => ?_) (fun c i hp1 z => KSt.kx re (Ext.refl _ _) z) h⟩
      intro ρ1 H1 v1 e1 r1 d1r
      refine ⟨ρ1, hp1, d, d1, r1, rd.mono e1, d1r, OutD.mono (fun d2 hp2 q2 => ?_) q1⟩
      intro ρ2 H2 v2 e2 r2 d2r
      exact q2 ρ2 H2 _ (e1.trans e2) r2 (((re.mono e1).mono e2).set i d2r)
    · exact False.elim h
theorem s_augf (hm : ClMono cl) {S : Nm} {n : Nat} (T : TF S g X.prog X.w X.K X.mg X.base L n) {f : Nat} {nm : Str} {tpos : Pos} {o : BOp} (hf : S.attrs[f]? = some nm) (ha : PE X x (tE X.K L g cl W a)) (hb : PE X y (tE X.K L g cl W b)) :
    PS X (.AugAssign (.Attribute x nm tpos) (bopOf o) y pos) (tS X.K L g cl W (.augf a f o b)) := by
  refine ⟨fun pins s σ H D I ⟨ρ, hp, env, r, re, h⟩ => ?_⟩
  unfold wS at h
  have hmem : nm ∈ S.attrs := List.mem_of_getElem? hf
  have hLa : L.attrs[f]? = some nm := by rw [T.att.1]; exact hf
  have hnd : L.attrs.Nodup := by rw [T.att.1]; exact T.att.2
  refine wpAny_AugAssign_AttributeAny (thn (ha.run pins s σ H (fun v1 H1 => ∃ ρ1 hp1 d1, Ext ρ H ρ1 H1 ∧ RelH X.K L ρ1 hp1 H1 ∧ RD X.K L ρ1 H1 d1 v1 ∧ (oGetF d1 f hp1).app fun x hp => wE g cl b env hp (fun y hp => (oAug o x y hp).app fun z hp => (oSetF d1 f z hp).app ((KSt X.K L ρ H D W).nx env)) fun c i hp => (KSt X.K L ρ H D W).ex c i env hp) I
    ⟨ρ, hp, env, r, re, wE_mono hm a env hp _ _ _ _ (fun d1 hp1 q1 => ?_) (fun c i hp1 z => KSt.kx re (Ext.refl _ _) z) h⟩) fun ov s1 ⟨x1, H1, I1, rx, q⟩ => ?_)
  · intro ρ1 H1 v1 e1 r1 d1r
    exact ⟨ρ1, hp1, d1, e1, r1, d1r, q1⟩
  · obtain ⟨ρ1, hp1, d1, e1, r1, d1r, q1⟩ := q
    cases d1r with
    | @ref i p hs =>
      unfold oGetF at q1
      cases e : gtI hp1 i with
      | none => simp only [e] at q1; exact False.elim q1
      | some cf =>
        obtain ⟨c, fs⟩ := cf
        simp only [e] at q1
        obtain ⟨C, dx, vs, h1, h2, h3⟩ := r1.ins hs e
        obtain ⟨hc, hn⟩ := T.cls c C h1
        obtain rfl : ov = Value.ref p := rx
        rcases h3.get hnd hLa with ⟨k1, k2⟩ | ⟨d', v', k1, k2, k3⟩
        · simp only [k1] at q1; exact False.elim q1
        · simp only [k1] at q1
          refine getattr_ok I1 h2 hc (hn nm hmem) k2 fun u s2 I2 ru => ?_
          refine thn (hb.run pins s2 σ H1 (fun v2 H2 => ∃ ρ2 hp2 d2, Ext ρ1 H1 ρ2 H2 ∧ RelH X.K L ρ2 hp2 H2 ∧ RD X.K L ρ2 H2 d2 v2 ∧ (oAug o d' d2 hp2).app fun z hp => (oSetF (.ref i) f z hp).app ((KSt X.K L ρ H D W).nx env)) I2
            ⟨ρ1, hp1, env, r1, re.mono e1, wE_mono hm b env hp1 _ _ _ _ (fun d2 hp2 q2 => ?_) (fun c i hp1 z => KSt.kx (re.mono e1) e1 z) q1⟩) fun w s3 ⟨x2, H2, I3, rx2, q2⟩ => ?_
          · intro ρ2 H2 v2 e2 r2 d2r
            exact ⟨ρ2, hp2, d2, e2, r2, d2r, q2⟩
          · obtain ⟨ρ2, hp2, d2, e2, r2, d2r, q2⟩ := q2
            refine thn (mi_aug (Q := fun v3 H3 => ∃ ρ3 hp3 d3, Ext ρ2 H2 ρ3 H3 ∧ RelH X.K L ρ3 hp3 H3 ∧ RD X.K L ρ3 H3 d3 v3 ∧ (oSetF (.ref i) f d3 hp3).app ((KSt X.K L ρ H D W).nx env)) I3 ru rx2 r2 (k3.mono e2) d2r (OutD.mono (fun d3 hp3 q3 => ?_) q2)) fun w4 s4 ⟨z, H3, I4, rz, q4⟩ => ?_
            · intro ρ3 H3 v3 e3 r3 d3r
              exact ⟨ρ3, hp3, d3, e3, r3, d3r, q3⟩
            · obtain ⟨ρ3, hp3, d3, e3, r3, d3r, q3⟩ := q4
              unfold oSetF at q3
              cases e5 : gtI hp3 i with
              | none => simp only [e5] at q3; exact False.elim q3
              | some cf =>
                obtain ⟨c', fs'⟩ := cf
                simp only [e5] at q3
                obtain ⟨hl, q3⟩ := q3
                have hs3 := e3.ix (e2.ix hs)
                obtain ⟨C', dx', vs', g1, g2, g3⟩ := r3.ins hs3 e5
                obtain ⟨hc', hn'⟩ := T.cls c' C' g1
                obtain ⟨r4, e4⟩ := r3.put hs3 (.ins g1 (g3.put hnd hLa d3r)) (by intro o k z; rw [g2] at z; cases z)
                have e14 := ((e1.trans e2).trans e3).trans e4
                exact setattr_ok I4 g2 hc' (hn' nm hmem) (by rw [← g3.len]; omega) rz fun s5 I5 => ⟨σ, _, I5, q3 ρ3 _ σ e14 r4 (re.mono e14)⟩
    | _ => exact False.elim q1
theorem s_if (hm : ClMono cl) {ca : Ex} {sa sb : Sts} {p q : List Stmt} (hc : PT X x (tT X.K L g cl W ca)) (ha : PSs X p (tSs X.K L g cl W sa)) (hb : PSs X q (tSs X.K L g cl W sb)) : PS X (.If x p q pos) (tS X.K L g cl W (.ifs ca sa sb)) :=
  PS.imp (ps_if hc ha hb) fun D σ H ⟨ρ, hp, env, r, re, h⟩ => by
    unfold wS at h
    refine ⟨ρ, hp, env, r, re, wE_mono hm ca env hp _ _ _ _ (fun d1 hp1 q1 => OutB.mono (fun k q2 ρ1 H1 e1 r1 => ?_) q1) (fun c i hp1 z => KSt.kx re (Ext.refl _ _) z) h⟩
    cases k with
    | true => exact ⟨ρ1, hp1, env, r1, re.mono e1, wSs_mono hm sa env hp1 _ _ (KSt.ext e1) q2⟩
    | false => exact ⟨ρ1, hp1, env, r1, re.mono e1, wSs_mono hm sb env hp1 _ _ (KSt.ext e1) q2⟩
theorem s_while (hm : ClMono cl) {ca : Ex} {sb : Sts} {body : List Stmt} (hp : PassesOwn (model X.prog X.w) X.A X.env X.xe) (hc : PT X x (tT X.K L g cl W ca)) (hb : PSs X body (tSs X.K L g cl W sb)) : PS X (.While x body [] pos) (tS X.K L g cl W (.whl ca sb)) :=
  PS.imp (ps_while hp hc hb) fun D σ H ⟨ρ, hp, env, r, re, h⟩ => by
    unfold wS at h
    obtain ⟨N, h⟩ := h
    refine ⟨fun m σ' H' => ∃ ρ' hp' env', Ext ρ H ρ' H' ∧ RelH X.K L ρ' hp' H' ∧ RE X.K L ρ' H' env' σ' ∧ whLoop (fun env hp kn ke => wE g cl ca env hp (fun x hp => (oTru x hp).app fun t => if t = true then wSs g cl sb env hp { KSt X.K L ρ H D W with nx := kn, ct := kn, bk := (KSt X.K L ρ H D W).nx } else ke env hp) fun c i hp => (KSt X.K L ρ H D W).ex c i env hp) m env' hp' (KSt X.K L ρ H D W).nx, ⟨N, ρ, hp, env, Ext.refl _ _, r, re, h⟩, fun m σ1 H1 hw => ?_⟩
    obtain ⟨ρ1, hp1, env1, e1, r1, re1, hw⟩ := hw
    cases m with
    | zero => exact False.elim hw
    | succ m =>
      unfold whLoop at hw
      refine ⟨ρ1, hp1, env1, r1, re1, wE_mono hm ca env1 hp1 _ _ _ _ (fun d2 hp2 q2 => OutB.mono (fun k q ρ2 H2 e2 r2 => ?_) q2) (fun c i hp1 z => KSt.kx re1 e1 z) hw⟩
      cases k with
      | true =>
        refine ⟨_, fun σ' H' w => ⟨m, Nat.lt_succ_self m, w⟩, ρ2, hp2, env1, r2, re1.mono e2, wSs_mono hm sb env1 hp2 _ _ ⟨fun env3 hp3 q3 => ?_, fun env3 hp3 q3 => ?_, fun env3 hp3 q3 => ?_, fun d3 hp3 q3 => ?_, fun c i env3 hp3 q3 => ?_⟩ q⟩
        · intro ρ3 H3 σ3 e3 r3 re3
          exact ⟨ρ3, hp3, env3, (e1.trans e2).trans e3, r3, re3, q3⟩
        · intro ρ3 H3 σ3 e3 r3 re3
          exact q3 ρ3 H3 σ3 ((e1.trans e2).trans e3) r3 re3
        · intro ρ3 H3 σ3 e3 r3 re3
          exact ⟨ρ3, hp3, env3, (e1.trans e2).trans e3, r3, re3, q3⟩
        · exact KQ.ext q3 (e1.trans e2)
        · intro ρ3 H3 σ3 a3 C3 e3 r3 re3
          exact q3 ρ3 H3 σ3 a3 C3 ((e1.trans e2).trans e3) r3 re3
      | false => exact q ρ2 H2 σ1 (e1.trans e2) r2 (re1.mono e2)
theorem s_for (hm : ClMono cl) {it : Ix} {sb : Sts} {body : List Stmt} (hp : PassesOwn (model X.prog X.w) X.A X.env X.xe) (hc : X.calm = true) (hi : PI X tg x (tI X.K L g cl W X.H_0 it)) (hg : PG X tg (tG X.K L g cl t)) (hb : PSs X body (tSs X.K L g cl W sb))
    (hs : ∀ z, foldedSetIterable x X.env z = pure z) : PS X (.For tg x body [] pos) (tS X.K L g cl W (.for_ t it sb)) := by
  refine PS.imp (ps_un (ps_for hp hc hi hg hb hs)) fun D σ H ⟨ρ, hp, env, r, re, h⟩ => ?_
  unfold wS at h
  refine ⟨ρ, hp, env, r, re, wIt_mono hm it env hp _ _ _ _ (fun itr hp1 q1 => ?_) (fun c i hp1 z => KSt.kx re (Ext.refl _ _) z) h⟩
  intro ρ1 Hu H1 J eu r1 ri ui
  obtain ⟨N, q1⟩ := q1
  have e1 : Ext ρ H ρ1 H1 := eu.trans ui.ext
  refine ⟨fun j m σ' H' => ∃ ρ' hp' env', Ext ρ1 H1 ρ' H' ∧ RelH X.K L ρ' hp' H' ∧ RE X.K L ρ' H' env' σ' ∧ forLoop itr.nx (fun d env hp kn => wTg g cl t d env hp fun env hp =>
      wSs g cl sb env hp { nx := kn, ct := kn, bk := fun env hp => (KSt X.K L ρ H D W).nx env (itr.un hp), rt := fun d hp => (KSt X.K L ρ H D W).rt d (itr.un hp), ex := (KSt X.K L ρ H D W).ex }) m j env' hp' (fun env hp => (KSt X.K L ρ H D W).nx env (itr.un hp)), ⟨N, ρ1, hp1, env, Ext.refl _ _, r1, re.mono e1, q1⟩, fun j m σ2 H2 hw => ?_⟩
  obtain ⟨ρ2, hp2, env2, e2, r2, re2, hw⟩ := hw
  -- the end
  have fin : ∀ {ρ3 : List Addr} {H3 : Hp} {σ3 : L2.St} {env3 : Env} {hp3 : Hq} {P : L2.St → Hp → Prop}, Ext ρ1 H1 ρ3 H3 → RelH X.K L ρ3 hp3 H3 → RE X.K L ρ3 H3 env3 σ3 → (∀ ρ' H' σ', Ext ρ H ρ' H' → RelH X.K L ρ' (itr.un hp3) H' → RE X.K L ρ' H' env3 σ' → P σ' H') → unP X.H_0 (P σ3) H3 := by
    intro ρ3 H3 σ3 env3 hp3 P e3 r3 re3 k
    exact ui.fin e3 r3 fun H4 e4 w4 _ r4 => k ρ3 H4 σ3 (eu.trans e4) r4 (re3.monoW w4)
  cases m with
  | zero => exact False.elim hw
  | succ m =>
    unfold forLoop at hw
    cases en : itr.nx j hp2 with
    | none => rw [en] at hw; exact False.elim hw
    | some o =>
      rw [en] at hw
      cases o with
      | none => exact .inl ⟨ri.stop j ρ2 H2 hp2 e2 r2 en, fin e2 r2 re2 hw⟩
      | some d =>
        obtain ⟨hgo, hy⟩ := ri.go j ρ2 H2 hp2 d e2 r2 en
        refine .inr ⟨hgo, _, fun σ' H' w => ⟨m, Nat.lt_succ_self m, w⟩, fun v H3 y3 => ?_⟩
        obtain ⟨e3, r3, rd⟩ := hy v H3 y3
        refine ⟨ρ2, hp2, env2, d, r3, re2.mono e3, rd, wTg_mono hm t d env2 hp2 _ _ (fun env4 hp4 q4 => ?_) hw⟩
        intro ρ4 H4 σ4 e4 r4 re4 _
        have e24 := (e2.trans e3).trans e4
        refine ⟨ρ4, hp4, env4, r4, re4, wSs_mono hm sb env4 hp4 _ _ ⟨fun env5 hp5 q5 => ?_, fun env5 hp5 q5 => ?_, fun env5 hp5 q5 => ?_, fun d5 hp5 q5 => ?_, fun c i env5 hp5 q5 => ?_⟩ q4⟩
        · intro ρ5 H5 σ5 e5 r5 re5
          exact ⟨ρ5, hp5, env5, e24.trans e5, r5, re5, q5⟩
        · intro ρ5 H5 σ5 e5 r5 re5
          exact fin (e24.trans e5) r5 re5 q5
        · intro ρ5 H5 σ5 e5 r5 re5
          exact ⟨ρ5, hp5, env5, e24.trans e5, r5, re5, q5⟩
        · intro ρ5 H5 v5 e5 r5 rd5
          exact ui.fin (e24.trans e5) r5 fun H6 e6 w6 _ r6 => q5 ρ5 H6 v5 (eu.trans e6) r6 (rd5.monoW w6)
        · intro ρ5 H5 σ5 a5 C5 e5 r5 re5
          exact q5 ρ5 H5 σ5 a5 C5 ((e1.trans e24).trans e5) r5 re5
end
end MI
/-! MI, part 15: list comprehensions. -/
namespace MI
open PySem PySem.Spec PyProof.Rows L2

theorem wipe_idem (σ : L2.St) (own : List Nat) : L2.wipe (L2.wipe σ own) own = L2.wipe σ own := by
  apply List.ext_getElem?
  intro k
  rw [wipe_get, wipe_get]
  by_cases hk : k ∈ own
  · rw [if_pos hk, if_pos hk]
    cases σ[k]? <;> rfl
  · rw [if_neg hk, if_neg hk]
theorem Ext.notin {ρ ρ' : List Addr} {H H' : Hp} {p : Addr} {u : HO} (e : Ext ρ H ρ' H') (hn : p ∉ ρ) (h : H p = some u) : p ∉ ρ' := fun z => by
  rcases e.new p z with q | q
  · exact hn q
  · rw [q] at h; cases h
def ttOf (K : PySem.W.Frag) (L : Lay) (g : Glob) (cl : Cl) : Exo → TT
  | .no => tYes
  | .so e => tT K L g cl (fun _ _ _ _ => False) e
section
variable {X : Cx} {L : Lay} {g : Glob} {cl : Cl} {W : WX}
theorem lc_imp (hm : ClMono cl) {own : List Nat} {t : Tg} {it : Ix} {c : Exo} {e : Ex} (ht : tgIn own t = true) {σ : L2.St} {H : Hp} {Q : VK} (h : tE X.K L g cl W (.lc own t it c e) σ H Q) :
    tLc (tI X.K L g cl W X.H_0 it) (tG X.K L g cl t) (ttOf X.K L g cl c) (tE X.K L g cl (fun _ _ _ _ => False) e) own σ H (fun v => unP X.H_0 (Q v)) := by
  obtain ⟨ρ, hp, env, r, re, h⟩ := h
  unfold wE at h
  refine ⟨ρ, hp, env, r, re, wIt_mono hm it env hp _ _ _ _ (fun itr hp1 q1 => ?_) (fun _ _ _ z => z) h⟩
  intro ρ1 Hu H1 J eu r1 ri ui Dd hD
  obtain ⟨N, q1⟩ := q1
  have e1 : Ext ρ H ρ1 H1 := eu.trans ui.ext
  have hDu : Hu Dd = none := by
    rcases ui with ⟨rfl, _⟩ | ⟨d, i, od, vs, kvs, hn, hd, ee, hi, rk, hu⟩
    · exact hD
    · subst ee
      have z : Dd ≠ d := fun z => by subst z; rw [upd_same] at hD; cases hD
      rw [upd_ne z] at hD
      exact hD
  obtain ⟨r1', e1'⟩ := r1.tmp (u := .lst []) hD
  let body : D → Hq → (Option D → Hq → Prop) → Prop := fun d hp k => wTg g cl t d (wipeE env own) hp fun env2 hp =>
      wEo g cl c env2 hp (fun r hp => match r with
        | none => wE g cl e env2 hp (fun y hp => k (some y) hp) fun _ _ _ => False
        | some x => (oTru x hp).app fun b => if b = true then wE g cl e env2 hp (fun y hp => k (some y) hp) fun _ _ _ => False else k none hp) fun _ _ _ => False
  let fk : List D → Hq → Prop := fun ds hp => KQ X.K L ρ H Q (.ref (itr.un hp).length) (itr.un hp ++ [.lst ds])
  have q1 : lcLoop itr.nx body N 0 [] hp1 fk := q1
  refine ⟨fun j m H' => ∃ ρ' hp' ds vs, Ext ρ1 H1 ρ' H' ∧ RelH X.K L ρ' hp' H' ∧ Dd ∉ ρ' ∧ H' Dd = some (.lst vs) ∧ RDs X.K L ρ' H' ds vs ∧ lcLoop itr.nx body m j ds hp' fk,
    ⟨N, ρ1, hp1, [], [], (Ext.refl ρ1 H1).side0 hD, r1', r1.notin hD, upd_same, .nil, q1⟩, fun j m H2 hw => ?_⟩
  obtain ⟨ρ2, hp2, ds, vs, e2, r2, hn2, hd2, rd2, hw⟩ := hw
  cases m with
  | zero => exact False.elim hw
  | succ m =>
    unfold lcLoop at hw
    cases en : itr.nx j hp2 with
    | none => rw [en] at hw; exact False.elim hw
    | some o =>
      rw [en] at hw
      cases o with
      | none =>
        refine .inl ⟨ri.stop j ρ2 H2 hp2 e2 r2 en, ui.fin e2 r2 fun H4 e4 w4 oth r4 => ?_⟩
        have hd4 : H4 Dd = some (.lst vs) := oth _ _ hd2 (fun _ _ z => by cases z)
        obtain ⟨r5, e5⟩ := r4.tell0 (o := .lst ds) (u := .lst vs) hn2 hd4 (.lst (rd2.monoW w4)) (eu.trans e4) (by
          cases hH : H Dd with
          | none => rfl
          | some z =>
            by_cases hm : Dd ∈ ρ
            · exact absurd (by obtain ⟨mo, hmo⟩ := (eu.trans e4).pre; rw [hmo]; exact List.mem_append_left _ hm) hn2
            · have := eu.out Dd z hH hm
              rw [hDu] at this; cases this)
        have hw : KQ X.K L ρ H Q (.ref (itr.un hp2).length) (itr.un hp2 ++ [.lst ds]) := hw
        refine hw _ H4 _ e5 r5 (.ref ?_)
        rw [← r4.len, List.getElem?_append_right (Nat.le_refl _)]
        simp
      | some d =>
        obtain ⟨hgo, hy⟩ := ri.go j ρ2 H2 hp2 d e2 r2 en
        refine .inr ⟨hgo, _, fun H' w => ⟨m, Nat.lt_succ_self m, w⟩, fun v H3 y3 => ?_⟩
        obtain ⟨e3, r3, rdv⟩ := hy v H3 y3
        have re3 : RE X.K L ρ2 H3 (wipeE env own) (L2.wipe σ own) := ((re.wipe own).mono e1).mono (e2.trans e3)
        have hd3 : H3 Dd = some (.lst vs) := e3.out _ _ hd2 hn2
        refine ⟨ρ2, hp2, _, d, r3, re3, rdv, wTg_mono hm t d _ hp2 _ _ (fun env4 hp4 q4 => ?_) hw⟩
        intro ρ4 H4 σ4 e4 r4 re4 w4
        refine ⟨by rw [w4 own ht, wipe_idem], ?_⟩
        -- the item
        have item : ∀ {ρ5 : List Addr} {H5 : Hp} {hp5 : Hq}, Ext ρ4 H4 ρ5 H5 → RelH X.K L ρ5 hp5 H5 → wE g cl e env4 hp5 (fun y hp => ds.length < SZ ∧ lcLoop itr.nx body m (j + 1) (ds ++ [y]) hp fk) (fun _ _ _ => False) →
            tE X.K L g cl (fun _ _ _ _ => False) e σ4 H5 fun y H6 => ∃ acc, H6 Dd = some (.lst acc) ∧ acc.length < sizeLine ∧ ∃ ρ' hp' ds vs, Ext ρ1 H1 ρ' (upd H6 Dd (.lst (acc ++ [y]))) ∧ RelH X.K L ρ' hp' (upd H6 Dd (.lst (acc ++ [y]))) ∧ Dd ∉ ρ' ∧ (upd H6 Dd (.lst (acc ++ [y]))) Dd = some (.lst vs) ∧ RDs X.K L ρ' (upd H6 Dd (.lst (acc ++ [y]))) ds vs ∧ lcLoop itr.nx body m (j + 1) ds hp' fk := by
          intro ρ5 H5 hp5 e5 r5 q5
          refine ⟨ρ5, hp5, env4, r5, re4.mono e5, wE_mono hm e env4 hp5 _ _ _ _ (fun y hp6 q6 => ?_) (fun _ _ _ z => False.elim z) q5⟩
          intro ρ6 H6 v6 e6 r6 rd6
          obtain ⟨hl, q6⟩ := q6
          have e36 := (e4.trans e5).trans e6
          have hd6 : H6 Dd = some (.lst vs) := e36.out _ _ hd3 hn2
          have hn6 := e36.notin hn2 hd3
          obtain ⟨r7, w7⟩ := r6.side0 (u := .lst (vs ++ [v6])) hn6 hd6 (fun z => by cases z)
          exact ⟨vs, hd6, by rw [← sz_line, ← rd2.len]; exact hl, ρ6, hp6, ds ++ [y], vs ++ [v6], ((e2.trans e3).trans e36).side0 hD, r7, hn6, upd_same, ((rd2.mono (e3.trans e36)).app (.one rd6)).monoW w7, q6⟩
        cases c with
        | no =>
          unfold wEo at q4
          dsimp only [ttOf, tYes]
          rw [if_pos rfl]
          exact item (Ext.refl _ _) r4 q4
        | so ce =>
          unfold wEo at q4
          refine ⟨ρ4, hp4, env4, r4, re4, wE_mono hm ce env4 hp4 _ _ _ _ (fun d5 hp5 q5 => OutB.mono (fun b q ρ5 H5 e5 r5 => ?_) q5) (fun _ _ _ z => False.elim z) q4⟩
          cases b with
          | true => exact item e5 r5 q
          | false =>
            have e35 := e4.trans e5
            exact ⟨ρ5, hp5, ds, vs, (e2.trans e3).trans e35, r5, e35.notin hn2 hd3, e35.out _ _ hd3 hn2, rd2.mono (e3.trans e35), q⟩
variable {x tg elt : Expr} {ifs : List Expr} {scope : Scope} {pos : Pos}
theorem s_lc (hm : ClMono cl) {own : List Nat} {ow : List (Str × Nat)} {t : Tg} {it : Ix} {c : Exo} {e : Ex} (how : ow.map (·.2) = own) (ht : tgIn own t = true) (hc : X.calm = true) (hN : X.N.Nodup) (hi : PI X tg x (tI X.K L g cl W X.H_0 it)) (ok : BlkOk X.N X.env.scope scope ow)
    (hg : ∀ (s : Shared) (H : Hp) (C : Addr) (ce : List (Str × Addr)) (fp : List Addr), PG (X.blk s H scope (compEnvC scope ce C X.env) fp) tg (tG X.K L g cl t)) (hif : ∀ (s : Shared) (H : Hp) (C : Addr) (ce : List (Str × Addr)) (fp : List Addr), PTs (X.blk s H scope (compEnvC scope ce C X.env) fp) ifs (ttOf X.K L g cl c))
    (he : ∀ (s : Shared) (H : Hp) (C : Addr) (ce : List (Str × Addr)) (fp : List Addr), PE (X.blk s H scope (compEnvC scope ce C X.env) fp) elt (tE X.K L g cl (fun _ _ _ _ => False) e)) (hs : ∀ z, foldedSetIterable x X.env z = pure z) :
    PE X (.ListComp elt [⟨tg, x, ifs, 0⟩] scope pos) (tE X.K L g cl W (.lc own t it c e)) :=
  PE.imp (pe_un (pe_lc hc hN hi ok hg hif he hs)) fun σ H Q h => by
    rw [how]
    exact lc_imp hm ht h
theorem s_setLc (hm : ClMono cl) {own : List Nat} {ow : List (Str × Nat)} {t : Tg} {it : Ix} {c : Exo} {e : Ex} {i : Nat} {n : Str} {py spos : Pos} (how : ow.map (·.2) = own) (ht : tgIn own t = true) (hc : X.calm = true) (hN : X.N.Nodup) (hy : X.N[i]? = some n) (hyl : X.env.scope.names.lookup n = some .local)
    (hsw : swapsWith (.ListComp elt [⟨tg, x, ifs, 0⟩] scope pos) (some (.Name n py)) spos.line X.env = pure true) (hi : PI X tg x (tI X.K L g cl W X.H_0 it)) (ok : BlkOk X.N X.env.scope scope ow)
    (hg : ∀ (s : Shared) (H : Hp) (C : Addr) (ce : List (Str × Addr)) (fp : List Addr), PG (X.blk s H scope (compEnvC scope ce C X.env) fp) tg (tG X.K L g cl t)) (hif : ∀ (s : Shared) (H : Hp) (C : Addr) (ce : List (Str × Addr)) (fp : List Addr), PTs (X.blk s H scope (compEnvC scope ce C X.env) fp) ifs (ttOf X.K L g cl c))
    (he : ∀ (s : Shared) (H : Hp) (C : Addr) (ce : List (Str × Addr)) (fp : List Addr), PE (X.blk s H scope (compEnvC scope ce C X.env) fp) elt (tE X.K L g cl (fun _ _ _ _ => False) e)) (hs : ∀ z, foldedSetIterable x X.env z = pure z) :
    PS X (.Assign [.Name n py] (.ListComp elt [⟨tg, x, ifs, 0⟩] scope pos) spos) (tS X.K L g cl W (.asg (.nm i) (.lc own t it c e))) :=
  PS.imp (ps_un (ps_setLc hc hN hy hyl hsw hi ok hg hif he hs)) fun D σ H ⟨ρ, hp, env, r, re, h⟩ => by
    unfold wS at h
    have h2 : tE X.K L g cl W (.lc own t it c e) σ H fun v H' => D.nx (σ.set i (some v)) H' := by
      refine ⟨ρ, hp, env, r, re, wE_mono hm _ env hp _ _ _ _ (fun d1 hp1 q1 => ?_) (fun c i hp1 z => KSt.kx re (Ext.refl _ _) z) h⟩
      intro ρ1 H1 v1 e1 r1 d1r
      unfold wTg at q1
      exact q1 ρ1 H1 _ e1 r1 ((re.mono e1).set i d1r)
    show tLc _ _ _ _ _ σ H _
    rw [how]
    exact lc_imp hm ht h2
end
end MI
/-! MI, part 15a: dict comprehensions, comprehensions of two clauses, len by an own __len__. -/
namespace MI
open PySem PySem.Spec PyProof.Rows L2
section
variable {X : Cx} {L : Lay} {g : Glob} {cl : Cl} {W : WX}
theorem dc_imp (hm : ClMono cl) {own : List Nat} {t : Tg} {it : Ix} {c : Exo} {kx e : Ex} (ht : tgIn own t = true) {σ : L2.St} {H : Hp} {Q : VK} (h : tE X.K L g cl W (.dc own t it c kx e) σ H Q) :
    tDc (tI X.K L g cl W X.H_0 it) (tG X.K L g cl t) (ttOf X.K L g cl c) (tE X.K L g cl (fun _ _ _ _ => False) kx) (tE X.K L g cl (fun _ _ _ _ => False) e) own σ H (fun v => unP X.H_0 (Q v)) := by
  obtain ⟨ρ, hp, env, r, re, h⟩ := h
  unfold wE at h
  refine ⟨ρ, hp, env, r, re, wIt_mono hm it env hp _ _ _ _ (fun itr hp1 q1 => ?_) (fun _ _ _ z => z) h⟩
  intro ρ1 Hu H1 J eu r1 ri ui Dd hD
  obtain ⟨N, q1⟩ := q1
  have e1 : Ext ρ H ρ1 H1 := eu.trans ui.ext
  have hDu : Hu Dd = none := by
    rcases ui with ⟨rfl, _⟩ | ⟨d, i, od, vs, kvs, hn, hd, ee, hi, rk, hu⟩
    · exact hD
    · subst ee
      have z : Dd ≠ d := fun z => by subst z; rw [upd_same] at hD; cases hD
      rw [upd_ne z] at hD
      exact hD
  obtain ⟨r1', e1'⟩ := r1.tmp (u := .dK []) hD
  let body : D → Hq → (Option (D × D) → Hq → Prop) → Prop := fun d hp kk => wTg g cl t d (wipeE env own) hp fun env2 hp =>
      wEo g cl c env2 hp (fun r hp => match r with
        | none => wE g cl kx env2 hp (fun y hp => wE g cl e env2 hp (fun z hp => kk (some (y, z)) hp) fun _ _ _ => False) fun _ _ _ => False
        | some x => (oTru x hp).app fun b => if b = true then wE g cl kx env2 hp (fun y hp => wE g cl e env2 hp (fun z hp => kk (some (y, z)) hp) fun _ _ _ => False) fun _ _ _ => False else kk none hp) fun _ _ _ => False
  let fk : List (Key × D) → Hq → Prop := fun ds hp => KQ X.K L ρ H Q (.ref (itr.un hp).length) (itr.un hp ++ [.dic ds])
  have q1 : dcLoop itr.nx body N 0 [] hp1 fk := q1
  refine ⟨fun j m H' => ∃ ρ' hp' ds vs, Ext ρ1 H1 ρ' H' ∧ RelH X.K L ρ' hp' H' ∧ Dd ∉ ρ' ∧ H' Dd = some (.dK vs) ∧ RKs X.K L ρ' H' ds vs ∧ dcLoop itr.nx body m j ds hp' fk,
    ⟨N, ρ1, hp1, [], [], (Ext.refl ρ1 H1).side0 hD, r1', r1.notin hD, upd_same, .nil, q1⟩, fun j m H2 hw => ?_⟩
  obtain ⟨ρ2, hp2, ds, vs, e2, r2, hn2, hd2, rd2, hw⟩ := hw
  cases m with
  | zero => exact False.elim hw
  | succ m =>
    unfold dcLoop at hw
    cases en : itr.nx j hp2 with
    | none => rw [en] at hw; exact False.elim hw
    | some o =>
      rw [en] at hw
      cases o with
      | none =>
        refine .inl ⟨ri.stop j ρ2 H2 hp2 e2 r2 en, ui.fin e2 r2 fun H4 e4 w4 oth r4 => ?_⟩
        have hd4 : H4 Dd = some (.dK vs) := oth _ _ hd2 (fun _ _ z => by cases z)
        obtain ⟨r5, e5⟩ := r4.tell0 (o := .dic ds) (u := .dK vs) hn2 hd4 (.dic (rd2.monoW w4)) (eu.trans e4) (by
          cases hH : H Dd with
          | none => rfl
          | some z =>
            by_cases hm : Dd ∈ ρ
            · exact absurd (by obtain ⟨mo, hmo⟩ := (eu.trans e4).pre; rw [hmo]; exact List.mem_append_left _ hm) hn2
            · have := eu.out Dd z hH hm
              rw [hDu] at this; cases this)
        have hw : KQ X.K L ρ H Q (.ref (itr.un hp2).length) (itr.un hp2 ++ [.dic ds]) := hw
        refine hw _ H4 _ e5 r5 (.ref ?_)
        rw [← r4.len, List.getElem?_append_right (Nat.le_refl _)]
        simp
      | some d =>
        obtain ⟨hgo, hy⟩ := ri.go j ρ2 H2 hp2 d e2 r2 en
        refine .inr ⟨hgo, _, fun H' w => ⟨m, Nat.lt_succ_self m, w⟩, fun v H3 y3 => ?_⟩
        obtain ⟨e3, r3, rdv⟩ := hy v H3 y3
        have re3 : RE X.K L ρ2 H3 (wipeE env own) (L2.wipe σ own) := ((re.wipe own).mono e1).mono (e2.trans e3)
        have hd3 : H3 Dd = some (.dK vs) := e3.out _ _ hd2 hn2
        refine ⟨ρ2, hp2, _, d, r3, re3, rdv, wTg_mono hm t d _ hp2 _ _ (fun env4 hp4 q4 => ?_) hw⟩
        intro ρ4 H4 σ4 e4 r4 re4 w4
        refine ⟨by rw [w4 own ht, wipe_idem], ?_⟩
        -- the pair
        have item : ∀ {ρ5 : List Addr} {H5 : Hp} {hp5 : Hq}, Ext ρ4 H4 ρ5 H5 → RelH X.K L ρ5 hp5 H5 →
            wE g cl kx env4 hp5 (fun y hp => wE g cl e env4 hp (fun z hp => match kOf y with | some key => ds.length < SZ ∧ dcLoop itr.nx body m (j + 1) (dput ds key z) hp fk | none => False) (fun _ _ _ => False)) (fun _ _ _ => False) →
            tE X.K L g cl (fun _ _ _ _ => False) kx σ4 H5 fun y H6 => tE X.K L g cl (fun _ _ _ _ => False) e σ4 H6 fun z H7 => ∃ kvs k, y = kV k ∧ H7 Dd = some (.dK kvs) ∧ kvs.length < sizeLine ∧
              ∃ ρ' hp' ds vs, Ext ρ1 H1 ρ' (upd H7 Dd (.dK (putK kvs k z))) ∧ RelH X.K L ρ' hp' (upd H7 Dd (.dK (putK kvs k z))) ∧ Dd ∉ ρ' ∧ (upd H7 Dd (.dK (putK kvs k z))) Dd = some (.dK vs) ∧ RKs X.K L ρ' (upd H7 Dd (.dK (putK kvs k z))) ds vs ∧ dcLoop itr.nx body m (j + 1) ds hp' fk := by
          intro ρ5 H5 hp5 e5 r5 q5
          refine ⟨ρ5, hp5, env4, r5, re4.mono e5, wE_mono hm kx env4 hp5 _ _ _ _ (fun y hp6 q6 => ?_) (fun _ _ _ z => False.elim z) q5⟩
          intro ρ6 H6 v6 e6 r6 rd6
          refine ⟨ρ6, hp6, env4, r6, (re4.mono e5).mono e6, wE_mono hm e env4 hp6 _ _ _ _ (fun z hp7 q7 => ?_) (fun _ _ _ z => False.elim z) q6⟩
          intro ρ7 H7 v7 e7 r7 rd7
          cases ek : kOf y with
          | none => simp only [ek] at q7
          | some key =>
            simp only [ek] at q7
            obtain ⟨hl, q7⟩ := q7
            have e37 := ((e4.trans e5).trans e6).trans e7
            have hd7 : H7 Dd = some (.dK vs) := e37.out _ _ hd3 hn2
            have hn7 := e37.notin hn2 hd3
            obtain ⟨r8, w8⟩ := r7.side0 (u := .dK (putK vs key v7)) hn7 hd7 (fun z => by cases z)
            exact ⟨vs, key, kOf_kV rd6 ek, hd7, by rw [← sz_line, ← rd2.len]; exact hl, ρ7, hp7, dput ds key z, putK vs key v7, ((e2.trans e3).trans e37).side0 hD, r8, hn7, upd_same, ((rd2.mono (e3.trans e37)).put key rd7).monoW w8, q7⟩
        cases c with
        | no =>
          unfold wEo at q4
          dsimp only [ttOf, tYes]
          rw [if_pos rfl]
          exact item (Ext.refl _ _) r4 q4
        | so ce =>
          unfold wEo at q4
          refine ⟨ρ4, hp4, env4, r4, re4, wE_mono hm ce env4 hp4 _ _ _ _ (fun d5 hp5 q5 => OutB.mono (fun b q ρ5 H5 e5 r5 => ?_) q5) (fun _ _ _ z => False.elim z) q4⟩
          cases b with
          | true => exact item e5 r5 q
          | false =>
            have e35 := e4.trans e5
            exact ⟨ρ5, hp5, ds, vs, (e2.trans e3).trans e35, r5, e35.notin hn2 hd3, e35.out _ _ hd3 hn2, rd2.mono (e3.trans e35), q⟩
variable {x tg kx' elt : Expr} {ifs : List Expr} {scope : Scope} {pos : Pos}
theorem s_dc (hm : ClMono cl) {own : List Nat} {ow : List (Str × Nat)} {t : Tg} {it : Ix} {c : Exo} {kx e : Ex} (how : ow.map (·.2) = own) (ht : tgIn own t = true) (hc : X.calm = true) (hN : X.N.Nodup) (hi : PI X tg x (tI X.K L g cl W X.H_0 it)) (ok : BlkOk X.N X.env.scope scope ow)
    (hg : ∀ (s : Shared) (H : Hp) (C : Addr) (ce : List (Str × Addr)) (fp : List Addr), PG (X.blk s H scope (compEnvC scope ce C X.env) fp) tg (tG X.K L g cl t)) (hif : ∀ (s : Shared) (H : Hp) (C : Addr) (ce : List (Str × Addr)) (fp : List Addr), PTs (X.blk s H scope (compEnvC scope ce C X.env) fp) ifs (ttOf X.K L g cl c))
    (hk : ∀ (s : Shared) (H : Hp) (C : Addr) (ce : List (Str × Addr)) (fp : List Addr), PE (X.blk s H scope (compEnvC scope ce C X.env) fp) kx' (tE X.K L g cl (fun _ _ _ _ => False) kx))
    (he : ∀ (s : Shared) (H : Hp) (C : Addr) (ce : List (Str × Addr)) (fp : List Addr), PE (X.blk s H scope (compEnvC scope ce C X.env) fp) elt (tE X.K L g cl (fun _ _ _ _ => False) e)) (hs : ∀ z, foldedSetIterable x X.env z = pure z) :
    PE X (.DictComp kx' elt [⟨tg, x, ifs, 0⟩] scope pos) (tE X.K L g cl W (.dc own t it c kx e)) :=
  PE.imp (pe_un (pe_dc hc hN hi ok hg hif hk he hs)) fun σ H Q h => by
    rw [how]
    exact dc_imp hm ht h
/-! ### two clauses -/
/-- how a list or tuple is walked, whatever comes in between -/
structure RItW (K : PySem.W.Frag) (L : Lay) (ρ1 : List Addr) (H1 : Hp) (J : It) (it : MI.Itr) : Prop where
  stop : ∀ (j : Nat) ρ H hp, ExtW ρ1 H1 ρ H → RelH K L ρ hp H → it.nx j hp = some none → J.stop j H
  go : ∀ (j : Nat) ρ H hp d, ExtW ρ1 H1 ρ H → RelH K L ρ hp H → it.nx j hp = some (some d) → J.go j H ∧ ∀ x H', J.yld j H x H' → H' = H ∧ RD K L ρ H d x
theorem ritw_list {K : PySem.W.Frag} {ρ1 : List Addr} {H1 : Hp} {i : Nat} {a : Addr} (ha : ρ1[i]? = some a) : RItW K L ρ1 H1 (Itl K a) (itLst i) where
  stop := fun j ρ H hp e r h => by
    cases g : gtL hp i with
    | none => simp [itLst, g] at h
    | some xs =>
      simp [itLst, g] at h
      obtain ⟨vs, h1, h2⟩ := r.lst (e.ix ha) g
      exact ⟨vs, .of h1, by rw [← h2.len]; exact h⟩
  go := fun j ρ H hp d e r h => by
    cases g : gtL hp i with
    | none => simp [itLst, g] at h
    | some xs =>
      have h : xs[j]? = some d := by simpa [itLst, g] using h
      obtain ⟨vs, h1, h2⟩ := r.lst (e.ix ha) g
      obtain ⟨v, h3, h4⟩ := h2.get h
      refine ⟨⟨vs, v, .of h1, h3⟩, fun x H' y => ?_⟩
      obtain ⟨rfl, y⟩ := y
      have := y vs (.of h1)
      rw [h3] at this
      cases this
      exact ⟨rfl, h4⟩
theorem ritw_fixL {K : PySem.W.Frag} {ρ1 : List Addr} {H1 : Hp} {ds : List D} {vs : List V} {a : Addr} (hs : KlL K H1 a vs) (t : RDs K L ρ1 H1 ds vs) : RItW K L ρ1 H1 (Itl K a) (itFix ds) where
  stop := fun j ρ H hp e r h => by
    have h : ds[j]? = none := by simpa [itFix] using h
    exact ⟨vs, (KlL.monoW e hs).sq, by rw [← t.len]; exact List.getElem?_eq_none_iff.mp h⟩
  go := fun j ρ H hp d e r h => by
    have h : ds[j]? = some d := by simpa [itFix] using h
    obtain ⟨v, h3, h4⟩ := t.get h
    refine ⟨⟨vs, v, (KlL.monoW e hs).sq, h3⟩, fun x H' y => ?_⟩
    obtain ⟨rfl, y⟩ := y
    have := y vs (KlL.monoW e hs).sq
    rw [h3] at this
    cases this
    exact ⟨rfl, h4.monoW e⟩
theorem ritw_fixT {K : PySem.W.Frag} {ρ1 : List Addr} {H1 : Hp} {ds : List D} {vs : List V} {a : Addr} (hs : SqT K H1 a vs) (t : RDs K L ρ1 H1 ds vs) : RItW K L ρ1 H1 (Itt K a) (itFix ds) where
  stop := fun j ρ H hp e r h => by
    have h : ds[j]? = none := by simpa [itFix] using h
    exact ⟨vs, SqT.monoW e hs, by rw [← t.len]; exact List.getElem?_eq_none_iff.mp h⟩
  go := fun j ρ H hp d e r h => by
    have h : ds[j]? = some d := by simpa [itFix] using h
    obtain ⟨v, h3, h4⟩ := t.get h
    refine ⟨⟨vs, v, SqT.monoW e hs, h3⟩, fun x H' y => ?_⟩
    obtain ⟨rfl, y⟩ := y
    have := y vs (SqT.monoW e hs)
    rw [h3] at this
    cases this
    exact ⟨rfl, h4.monoW e⟩
def KIs (K : PySem.W.Frag) (L : Lay) (ρ : List Addr) (H : Hp) (R : It → Hp → Prop) : MI.Itr → Hq → Prop := fun itr hp' => ∀ ρ1 H1 J, Ext ρ H ρ1 H1 → RelH K L ρ1 hp' H1 → RItW K L ρ1 H1 J itr → R J H1
def tIs (K : PySem.W.Frag) (L : Lay) (g : Glob) (cl : Cl) (W : WX) (a : Ex) : TI := fun σ H R => ∃ ρ hp env, RelH K L ρ hp H ∧ RE K L ρ H env σ ∧ wE g cl a env hp (fun x hp => match itSq hp x with | some it => KIs K L ρ H R it hp | none => False) (KX K L ρ H σ W)
theorem i_sq {a : Ex} {x tg : Expr} (hm : ClMono cl) (ha : PE X x (tE X.K L g cl W a)) : PI X tg x (tIs X.K L g cl W a) := by
  refine ⟨fun pins s σ H R I ⟨ρ, hp, env, r, re, h⟩ => ?_⟩
  refine thn (ha.run pins s σ H (fun v1 H1 => ∃ ρ1 hp1 d1, Ext ρ H ρ1 H1 ∧ RelH X.K L ρ1 hp1 H1 ∧ RD X.K L ρ1 H1 d1 v1 ∧ ∃ itr, itSq hp1 d1 = some itr ∧ KIs X.K L ρ H R itr hp1) I
    ⟨ρ, hp, env, r, re, wE_mono hm a env hp _ _ _ _ (fun d1 hp1 q1 => ?_) (fun _ _ _ z => z) h⟩) fun v s1 ⟨x1, H1, I1, rx, q⟩ => ?_
  · intro ρ1 H1 v1 e1 r1 d1r
    cases eq : itSq hp1 d1 with
    | none => simp only [eq] at q1
    | some itr =>
      simp only [eq] at q1
      exact ⟨ρ1, hp1, d1, e1, r1, d1r, itr, eq, q1⟩
  · obtain ⟨ρ1, hp1, d1, e1, r1, d1r, itr, eq, q1⟩ := q
    cases d1r with
    | @tup p xs ds hs t =>
      cases eq
      obtain rfl : v = Value.ref p := rx
      obtain ⟨its, rv, ht, hz⟩ := I1.tuple hs
      exact wpAny_pyIter_tuple (show s1.heap.IsTuple p its.toArray from ht) (pi_one (tk := s1.toks) I1 _ (turn_tuple p _) ⟨_, Heap.get?_push_size _ rfl, rfl, rfl⟩ (q1 ρ1 H1 _ e1 r1 (ritw_fixT hs t)))
    | @kl p xs ds hs t =>
      cases eq
      obtain rfl : v = Value.ref p := rx
      obtain ⟨its, rv, ht, hz⟩ := I1.list hs.sq
      exact wpAny_pyIter_list ht.isList (pi_one (tk := s1.toks) I1 _ (turn_list p _) ⟨_, Heap.get?_push_size _ rfl, rfl, rfl⟩ (q1 ρ1 H1 _ e1 r1 (ritw_fixL hs t)))
    | @ref i p hs =>
      obtain rfl : v = Value.ref p := rx
      obtain ⟨o, u, g1, g2, g3⟩ := r1.at2 hs
      unfold itSq at eq
      simp only [g1] at eq
      cases g3 with
      | @lst _ vs t =>
        cases eq
        obtain ⟨its, rv, ht, hz⟩ := I1.list (SqL.of g2)
        exact wpAny_pyIter_list ht.isList (pi_one (tk := s1.toks) I1 _ (turn_list p _) ⟨_, Heap.get?_push_size _ rfl, rfl, rfl⟩ (q1 ρ1 H1 _ e1 r1 (ritw_list hs)))
      | _ => cases eq
    | _ => cases eq
theorem ExtW.trans {ρ ρ1 ρ2 : List Addr} {H H1 H2 : Hp} (a : ExtW ρ H ρ1 H1) (b : ExtW ρ1 H1 ρ2 H2) : ExtW ρ H ρ2 H2 := by
  obtain ⟨m1, e1⟩ := a.pre
  obtain ⟨m2, e2⟩ := b.pre
  exact ⟨⟨m1 ++ m2, by rw [e2, e1, List.append_assoc]⟩, fun x o h s => b.st x o (a.st x o h s) s⟩
theorem wipe_in {σ2 σ3 : L2.St} {own own1 : List Nat} (hi : ∀ i ∈ own1, i ∈ own) (h : L2.wipe σ3 own1 = L2.wipe σ2 own1) : L2.wipe σ3 own = L2.wipe σ2 own := by
  apply List.ext_getElem?
  intro k
  have hk := congrArg (fun l : L2.St => l[k]?) h
  simp only [wipe_get] at hk ⊢
  by_cases h1 : k ∈ own1
  · rw [if_pos (hi k h1), if_pos (hi k h1)]
    rw [if_pos h1, if_pos h1] at hk
    exact hk
  · rw [if_neg h1, if_neg h1] at hk
    rw [hk]
theorem lc2_imp (hm : ClMono cl) {own own1 : List Nat} {t t1 : Tg} {it : Ix} {a e : Ex} (ht : tgIn own t = true) (ht1 : tgIn own1 t1 = true) {σ : L2.St} {H : Hp} {Q : VK} (h : tE X.K L g cl W (.lc2 own own1 t it t1 a e) σ H Q) :
    tLc2 (tI X.K L g cl W X.H_0 it) (tG X.K L g cl t) tYes (tIs X.K L g cl (fun _ _ _ _ => False) a) (tG X.K L g cl t1) tYes (tE X.K L g cl (fun _ _ _ _ => False) e) own own1 σ H (fun v => unP X.H_0 (Q v)) := by
  obtain ⟨ρ, hp, env, r, re, h⟩ := h
  unfold wE at h
  refine ⟨ρ, hp, env, r, re, wIt_mono hm it env hp _ _ _ _ (fun itr hp1 q1 => ?_) (fun _ _ _ z => z) h⟩
  intro ρ1 Hu H1 J eu r1 ri ui Dd hD
  obtain ⟨N, q1⟩ := q1
  have e1 : Ext ρ H ρ1 H1 := eu.trans ui.ext
  have hDu : Hu Dd = none := by
    rcases ui with ⟨rfl, _⟩ | ⟨d, i, od, vs, kvs, hn, hd, ee, hi, rk, hu⟩
    · exact hD
    · subst ee
      have z : Dd ≠ d := fun z => by subst z; rw [upd_same] at hD; cases hD
      rw [upd_ne z] at hD
      exact hD
  obtain ⟨r1', e1'⟩ := r1.tmp (u := .lst []) hD
  let body1 : Env → D → Hq → (Option D → Hq → Prop) → Prop := fun env2 d hp k1 => wTg g cl t1 d (wipeE env2 own1) hp fun env3 hp => wE g cl e env3 hp (fun y hp => k1 (some y) hp) fun _ _ _ => False
  let body : D → List D → Hq → (List D → Hq → Prop) → Prop := fun d acc hp k => wTg g cl t d (wipeE env own) hp fun env2 hp =>
      wE g cl a env2 hp (fun x hp => match itSq hp x with
        | some it1 => ∃ M, lcLoop it1.nx (body1 env2) M 0 acc hp k
        | none => False) fun _ _ _ => False
  let fk : List D → Hq → Prop := fun ds hp => KQ X.K L ρ H Q (.ref (itr.un hp).length) (itr.un hp ++ [.lst ds])
  have q1 : acLoop itr.nx body N 0 [] hp1 fk := q1
  refine ⟨fun j m H' => ∃ ρ' hp' ds vs, Ext ρ1 H1 ρ' H' ∧ RelH X.K L ρ' hp' H' ∧ Dd ∉ ρ' ∧ H' Dd = some (.lst vs) ∧ RDs X.K L ρ' H' ds vs ∧ acLoop itr.nx body m j ds hp' fk,
    ⟨N, ρ1, hp1, [], [], (Ext.refl ρ1 H1).side0 hD, r1', r1.notin hD, upd_same, .nil, q1⟩, fun j m H2 hw => ?_⟩
  obtain ⟨ρ2, hp2, ds, vs, e2, r2, hn2, hd2, rd2, hw⟩ := hw
  cases m with
  | zero => exact False.elim hw
  | succ m =>
    unfold acLoop at hw
    cases en : itr.nx j hp2 with
    | none => rw [en] at hw; exact False.elim hw
    | some o =>
      rw [en] at hw
      cases o with
      | none =>
        refine .inl ⟨ri.stop j ρ2 H2 hp2 e2 r2 en, ui.fin e2 r2 fun H4 e4 w4 oth r4 => ?_⟩
        have hd4 : H4 Dd = some (.lst vs) := oth _ _ hd2 (fun _ _ z => by cases z)
        obtain ⟨r5, e5⟩ := r4.tell0 (o := .lst ds) (u := .lst vs) hn2 hd4 (.lst (rd2.monoW w4)) (eu.trans e4) (by
          cases hH : H Dd with
          | none => rfl
          | some z =>
            by_cases hm : Dd ∈ ρ
            · exact absurd (by obtain ⟨mo, hmo⟩ := (eu.trans e4).pre; rw [hmo]; exact List.mem_append_left _ hm) hn2
            · have := eu.out Dd z hH hm
              rw [hDu] at this; cases this)
        have hw : KQ X.K L ρ H Q (.ref (itr.un hp2).length) (itr.un hp2 ++ [.lst ds]) := hw
        refine hw _ H4 _ e5 r5 (.ref ?_)
        rw [← r4.len, List.getElem?_append_right (Nat.le_refl _)]
        simp
      | some d =>
        obtain ⟨hgo, hy⟩ := ri.go j ρ2 H2 hp2 d e2 r2 en
        refine .inr ⟨hgo, _, fun H' w => ⟨m, Nat.lt_succ_self m, w⟩, fun v H3 y3 => ?_⟩
        obtain ⟨e3, r3, rdv⟩ := hy v H3 y3
        have re3 : RE X.K L ρ2 H3 (wipeE env own) (L2.wipe σ own) := ((re.wipe own).mono e1).mono (e2.trans e3)
        have hd3 : H3 Dd = some (.lst vs) := e3.out _ _ hd2 hn2
        refine ⟨ρ2, hp2, _, d, r3, re3, rdv, wTg_mono hm t d _ hp2 _ _ (fun env4 hp4 q4 => ?_) hw⟩
        intro ρ4 H4 σ4 e4 r4 re4 w4
        refine ⟨by rw [w4 own ht, wipe_idem], ?_⟩
        dsimp only [tYes]
        rw [if_pos rfl]
        refine ⟨ρ4, hp4, env4, r4, re4, wE_mono hm a env4 hp4 _ _ _ _ (fun x5 hp5 q5 => ?_) (fun _ _ _ z => False.elim z) q4⟩
        cases ei : itSq hp5 x5 with
        | none => simp only [ei] at q5
        | some it1 =>
          simp only [ei] at q5 ⊢
          obtain ⟨M, q5⟩ := q5
          intro ρ5 H5 J1 e5 r5 ri1
          have e35 := e4.trans e5
          have hd5 : H5 Dd = some (.lst vs) := e35.out _ _ hd3 hn2
          have hn5 := e35.notin hn2 hd3
          have re5 : RE X.K L ρ5 H5 env4 σ4 := re4.mono e5
          refine ⟨fun j1 m1 H' => ∃ ρ' hp' ds vs, Ext ρ1 H1 ρ' H' ∧ ExtW ρ5 H5 ρ' H' ∧ RelH X.K L ρ' hp' H' ∧ Dd ∉ ρ' ∧ H' Dd = some (.lst vs) ∧ RDs X.K L ρ' H' ds vs ∧ lcLoop it1.nx (body1 env4) m1 j1 ds hp' (fun acc' hp' => acLoop itr.nx body m (j + 1) acc' hp' fk),
            ⟨M, ρ5, hp5, ds, vs, (e2.trans e3).trans e35, ⟨⟨[], by simp⟩, fun _ _ h _ => h⟩, r5, hn5, hd5, rd2.mono (e3.trans e35), q5⟩, fun j1 m1 H6 hw6 => ?_⟩
          obtain ⟨ρ6, hp6, ds6, vs6, e6, w6, r6, hn6, hd6, rd6, hw6⟩ := hw6
          cases m1 with
          | zero => exact False.elim hw6
          | succ m1 =>
            unfold lcLoop at hw6
            cases en1 : it1.nx j1 hp6 with
            | none => rw [en1] at hw6; exact False.elim hw6
            | some o1 =>
              rw [en1] at hw6
              cases o1 with
              | none => exact .inl ⟨ri1.stop j1 ρ6 H6 hp6 w6 r6 en1, ρ6, hp6, ds6, vs6, e6, r6, hn6, hd6, rd6, hw6⟩
              | some d1 =>
                obtain ⟨hgo1, hy1⟩ := ri1.go j1 ρ6 H6 hp6 d1 w6 r6 en1
                refine .inr ⟨hgo1, _, fun H' w => ⟨m1, Nat.lt_succ_self m1, w⟩, fun v7 H7 y7 => ?_⟩
                obtain ⟨rfl, rdv7⟩ := hy1 v7 H7 y7
                have re7 : RE X.K L ρ6 H7 (wipeE env4 own1) (L2.wipe σ4 own1) := (re5.wipe own1).monoW w6
                refine ⟨ρ6, hp6, _, d1, r6, re7, rdv7, wTg_mono hm t1 d1 _ hp6 _ _ (fun env8 hp8 q8 => ?_) hw6⟩
                intro ρ8 H8 σ8 e8 r8 re8 w8
                refine ⟨by rw [w8 own1 ht1, wipe_idem], ?_⟩
                dsimp only [tYes]
                rw [if_pos trivial]
                refine ⟨ρ8, hp8, env8, r8, re8, wE_mono hm e env8 hp8 _ _ _ _ (fun y hp9 q9 => ?_) (fun _ _ _ z => False.elim z) q8⟩
                intro ρ9 H9 v9 e9 r9 rd9
                obtain ⟨hl, q9⟩ := q9
                have e69 := e8.trans e9
                have hd9 : H9 Dd = some (.lst vs6) := e69.out _ _ hd6 hn6
                have hn9 := e69.notin hn6 hd6
                obtain ⟨rA, wA⟩ := r9.side0 (u := .lst (vs6 ++ [v9])) hn9 hd9 (fun z => by cases z)
                exact ⟨vs6, hd9, by rw [← sz_line, ← rd6.len]; exact hl, ρ9, hp9, ds6 ++ [y], vs6 ++ [v9], (e6.trans e69).side0 hD, ((w6.trans e69.w).trans wA), rA, hn9, upd_same, ((rd6.mono e69).app (.one rd9)).monoW wA, q9⟩
variable {x tg elt tg1 iter1 : Expr} {scope : Scope} {pos : Pos}
theorem s_lc2 (hm : ClMono cl) {own own1 : List Nat} {ow : List (Str × Nat)} {t t1 : Tg} {it : Ix} {a e : Ex} (how : ow.map (·.2) = own) (hin : ∀ i ∈ own1, i ∈ own) (ht : tgIn own t = true) (ht1 : tgIn own1 t1 = true) (hc : X.calm = true) (hN : X.N.Nodup) (hi : PI X tg x (tI X.K L g cl W X.H_0 it)) (ok : BlkOk X.N X.env.scope scope ow)
    (hg : ∀ (s : Shared) (H : Hp) (C : Addr) (ce : List (Str × Addr)) (fp : List Addr), PG (X.blk s H scope (compEnvC scope ce C X.env) fp) tg (tG X.K L g cl t))
    (hg1 : ∀ (s : Shared) (H : Hp) (C : Addr) (ce : List (Str × Addr)) (fp : List Addr), PG (X.blk s H scope (compEnvC scope ce C X.env) fp) tg1 (tG X.K L g cl t1))
    (ha : ∀ (s : Shared) (H : Hp) (C : Addr) (ce : List (Str × Addr)) (fp : List Addr), PE (X.blk s H scope (compEnvC scope ce C X.env) fp) iter1 (tE X.K L g cl (fun _ _ _ _ => False) a))
    (he : ∀ (s : Shared) (H : Hp) (C : Addr) (ce : List (Str × Addr)) (fp : List Addr), PE (X.blk s H scope (compEnvC scope ce C X.env) fp) elt (tE X.K L g cl (fun _ _ _ _ => False) e)) (hs : ∀ z, foldedSetIterable x X.env z = pure z) (hs1 : ∀ env z, foldedSetIterable iter1 env z = pure z) :
    PE X (.ListComp elt [⟨tg, x, [], 0⟩, ⟨tg1, iter1, [], 0⟩] scope pos) (tE X.K L g cl W (.lc2 own own1 t it t1 a e)) :=
  PE.imp (pe_un (pe_lc2 (own := ow) (vs1 := own1) hc hN hi ok (by rw [how]; exact hin) hg (fun _ _ _ _ _ => pts_nil) (fun s H C ce fp => i_sq hm (ha s H C ce fp)) hg1 (fun _ _ _ _ _ => pts_nil) he hs hs1)) fun σ H Q h => by
    rw [how]
    exact lc2_imp hm ht ht1 h
/-! ### len by an own __len__ -/
def rLenD (K : PySem.W.Frag) (L : Lay) (g : Glob) (n m : Nat) : List V → Hp → VK → Prop := fun vs H Q => ∃ ρ hp d v, vs = [v] ∧ RelH K L ρ hp H ∧ RD K L ρ H d v ∧ match d with
    | .ref i => match gtI hp i with
      | some (c, _) => match g.meth c m with
        | some f => wCall g n f [.ref i] hp (fun v hp => match v with
          | .int n => (0 ≤ n ∧ n < 2 ^ 62) ∧ KQ K L ρ H Q (.int n) hp
          | _ => False) fun _ _ _ => False
        | none => False
      | none => (oBF .len [d] hp).app (KQ K L ρ H Q)
    | _ => (oBF .len [d] hp).app (KQ K L ρ H Q)
theorem takes_false : Takes X (fun _ _ _ _ => False) := fun u s' ⟨_, _, _, _, _, _, _, _, _, _, _, _, _, _, _, _, w⟩ => w.elim
theorem mi_lenD {S : Nm} {n m : Nat} (T : TF S g X.prog X.w X.K X.mg X.base L n) (hr : Room (2 * n + 3) X.A) (hc : X.calm = true) (hg : X.A.guards = some []) (hg1 : X.A.in1.guards = some []) (hu : X.A.units + 200 < cLine) (hf : S.mths[m]? = some "__len__") : CallR X (.builtin "len") (rLenD X.K L g n m) := by
  intro pins s σ H vs us Q I rv h
  obtain ⟨ρ, hp, d, v, rfl, r, q, h⟩ := h
  have plain : (oBF .len [d] hp).app (KQ X.K L ρ H Q) → wpAny (model X.prog X.w) X.A (call (.builtin "len") us) (EP X pins σ Q) X.xe s := fun h =>
    mi_bf (L := L) hc hg hu .len pins s σ H _ us Q I rv ⟨ρ, hp, [d], r, .cons q .nil, h⟩
  cases d with
  | ref i =>
    simp only at h
    cases e : gtI hp i with
    | none => simp only [e] at h; exact plain h
    | some cf =>
      obtain ⟨c, fs⟩ := cf
      simp only [e] at h
      cases e2 : g.meth c m with
      | none => simp only [e2] at h
      | some f =>
        simp only [e2] at h
        cases q with
        | @ref _ pa hs =>
          obtain ⟨u, rfl, ru⟩ := vals1 rv
          obtain rfl : u = Value.ref pa := ru
          obtain ⟨C, dx, vs, g1, g2, g3⟩ := r.ins hs e
          obtain ⟨fa, f1, hmeth⟩ := T.mth c C m "__len__" f g1 hf e2
          obtain ⟨fd, ps, hb, _, F⟩ := T.call f fa f1
          obtain ⟨mA, J, _⟩ := ins_get I.hok g2
          obtain ⟨od, J, _⟩ := J.look
          obtain ⟨mm, hF⟩ := I.fr
          refine PySem.W.len_K hF I.ok.mod.kin J hmeth.at_ hmeth.fn ?_
          have hsp : spI X.K L g n f [.ref pa] H (fun v H' => ∃ k : Int, v = .int k ∧ (0 ≤ k ∧ k < 2 ^ 62) ∧ Q (.int k) H') (fun _ _ _ => False) := by
            refine ⟨ρ, hp, [.ref i], r, .cons (.ref hs) .nil, wCall_mono g n f _ hp _ _ _ _ (fun d hp' z => ?_) (fun _ _ _ z => False.elim z) h⟩
            intro ρ' H' v' e' r' rd'
            cases rd' with
            | int k =>
              obtain ⟨z1, z2⟩ := z
              exact ⟨k, rfl, z1, z2 ρ' H' _ e' r' (.int k)⟩
            | _ => exact False.elim z
          have e0 : Env0 X.prog X.w X.K X.mg X.base X.A.in1 X.stack s H := by
            have e := I.env0
            exact ⟨e.frames, e.mod, e.bs, e.bsz, e.funs, e.frf, e.hok, e.bare⟩
          have hl := F.len _ _ _ _ hsp
          have r2 : Vals [V.ref pa] [Value.ref pa] := .cons rfl .nil
          have hb2 : BindsTo s fd ⟨[Value.ref pa], []⟩ (ps.zip [Value.ref pa]) := by
            have := hb s [Value.ref pa] I.kIn (by simpa using hl)
            simpa using this
          refine wpAny_call (codeAny_mono (F.run X.A.in1 X.stack s H ⟨[.ref pa], []⟩ [.ref pa] [.ref pa] _ _ hr.in1 hg1 e0 hb2 r2 hsp) fun rr s' hq => ?_)
          cases rr with
          | error e => exact takes_false e s' (XE.of_call I (fun cls d H' h => h) hq)
          | ok fl =>
            cases fl with
            | ret u =>
              obtain ⟨v', H', I', rv', k, rfl, ⟨k1, k2⟩, qq⟩ := I.after hq
              obtain ⟨t, rfl⟩ := rv'
              exact ⟨⟨k1, by omega⟩, .int k, H', I'.tok _, ⟨_, rfl⟩, qq⟩
            | next => exact False.elim hq
            | brk => exact False.elim hq
            | cont => exact False.elim hq
  | _ => exact plain h
theorem s_lenD {S : Nm} {n m : Nat} {a : Ex} {x : Expr} {p pos : Pos} (T : TF S g X.prog X.w X.K X.mg X.base L n) (hr : Room (2 * n + 3) X.A) (hc : X.calm = true) (hg : X.A.guards = some []) (hg1 : X.A.in1.guards = some []) (hu : X.A.units + 200 < cLine) (hf : S.mths[m]? = some "__len__") (hgl : Gl X "len") (hmg : X.mg "len" = none)
    (ha : PE X x (tE X.K L g (wCall g n) W a)) (hst : isSub x = false) : PE X (.Call (.Name "len" p) [x] [] pos) (tE X.K L g (wCall g n) W (.lenD a m)) := by
  have he : starEach [x] X.env = (false, eval x X.env) :: starEach [] X.env := by cases x <;> first | rfl | cases hst
  have hm := wCall_mono g n
  have imp : ∀ σ H Q, tE X.K L g (wCall g n) W (.lenD a m) σ H Q → tCB (rLenD X.K L g n m) (tEs X.K L g (wCall g n) W (.cons a .nil)) σ H Q := fun σ H Q ⟨ρ, hp, env, r, re, h⟩ => by
    unfold wE at h
    refine ⟨ρ, hp, env, r, re, ?_⟩
    show wE g (wCall g n) a env hp _ _
    refine wE_mono hm a env hp _ _ _ _ (fun d1 hp1 q1 => ?_) (fun _ _ _ z => z) h
    intro ρ1 H1 vs e1 r1 dsr
    cases dsr with
    | @cons _ v1 _ _ d1r t =>
      cases t
      refine ⟨ρ1, hp1, d1, v1, rfl, r1, d1r, ?_⟩
      have pl : (oBF .len [d1] hp1).app (KQ X.K L ρ H Q) → (oBF .len [d1] hp1).app (KQ X.K L ρ1 H1 Q) := OutD.mono fun _ _ k => k.ext e1
      cases d1 with
      | ref i =>
        simp only at q1 ⊢
        cases e : gtI hp1 i with
        | none => simp only [e] at q1; exact pl q1
        | some cf =>
          obtain ⟨c, fs⟩ := cf
          simp only [e] at q1
          cases e2 : g.meth c m with
          | none => simp only [e2] at q1
          | some f =>
            simp only [e2] at q1 ⊢
            refine hm _ _ _ _ _ _ _ (fun v h2 q2 => ?_) (fun _ _ _ z => z) q1
            split at q2
            · exact ⟨q2.1, q2.2.ext e1⟩
            · exact False.elim q2
      | _ => exact pl q1
  exact PE.imp (pe_callB (mi_lenD T hr hc hg hg1 hu hf) hgl hmg PySem.boot_len (sa_cons hm ha sa_nil he) (by decide) (by decide) he rfl) imp
end
end MI
set_option maxHeartbeats 1000000
/-! MI, part 16: what the check says of a tree. -/
namespace MI
open PySem PySem.Spec PyProof.Rows L2

/-! ### forms -/
theorem chk_sub {c : Ck} {e : Ex} {x : Expr} (h : chkE c e x = true) : isSub x = false := by
  cases x <;> first | rfl | skip
  all_goals
    cases e <;> first
      | cases h
      | (unfold chkE at h
         split at h <;> first | rfl | contradiction | (cases h; done))
theorem chk_tst {c : Ck} {e : Ex} {x : Expr} (h : chkE c e x = true) (k : tstK e = false) : tstX x = false := by
  cases e <;> first | cases k | skip
  all_goals
    first
      | cases h
      | (unfold chkE at h
         split at h <;> first | rfl | cases h)
theorem isTrue_of {x : Expr} {env : PySem.Env} (h : tstX x = false) : ∀ whole, isTrue x env whole = (do let v ← whole; standAt x.pos; holding [v] (truthy v)) := by
  intro whole
  cases x <;> first | rfl | cases h | skip
  rename_i op y p
  cases op <;> first | rfl | cases h
theorem star_of {x : Expr} {xs : List Expr} {env : PySem.Env} (h : isSub x = false) : starEach (x :: xs) env = (false, eval x env) :: starEach xs env := by
  cases x <;> first | rfl | cases h
theorem marks_of {op : CmpOp} {x : Expr} (h : isSub x = false) : behindInMarks op x = false := by
  cases x <;> first | rfl | cases h
theorem plain_of {x : Expr} (h : isSub x = false) : PlainIx x := by
  intro o i
  cases x <;> first | rfl | cases h
theorem fold_of {x : Expr} {env : PySem.Env} (h : isSub x = false) : ∀ z, foldedSetIterable x env z = pure z := by
  intro z
  cases x <;> first | rfl | cases h
theorem swap_of {x : Expr} {tg : Option Expr} {l : Nat} {env : PySem.Env} (h : noComp x = true) : swapsWith x tg l env = pure false := by
  cases x <;> first | rfl | cases h
theorem chks_sub {c : Ck} : ∀ {es : Exs} {xs : List Expr}, chkEs c es xs = true → ∀ x ∈ xs, isSub x = false
  | .nil, [], _, x, hx => by cases hx
  | .nil, _ :: _, h, _, _ => by cases h
  | .cons e r, [], h, _, _ => by cases h
  | .cons e r, y :: ys, h, x, hx => by
    have h : (chkE c e y && chkEs c r ys) = true := h
    rw [Bool.and_eq_true] at h
    rcases List.mem_cons.mp hx with q | q
    · subst q; exact chk_sub h.1
    · exact chks_sub h.2 x q
theorem chks_len {c : Ck} : ∀ {es : Exs} {xs : List Expr}, chkEs c es xs = true → es.len = xs.length
  | .nil, [], _ => rfl
  | .nil, _ :: _, h => by cases h
  | .cons e r, [], h => by cases h
  | .cons e r, y :: ys, h => by
    have h : (chkE c e y && chkEs c r ys) = true := h
    rw [Bool.and_eq_true] at h
    show r.len + 1 = ys.length + 1
    rw [chks_len h.2]
theorem any_of {pos : Pos} {env : PySem.Env} : ∀ {xs : List Expr}, (∀ x ∈ xs, isSub x = false) → (backTo pos (starEach xs env)).any (·.1) = false
  | [], _ => rfl
  | x :: xs, h => by
    rw [star_of (h x List.mem_cons_self)]
    show (false || (backTo pos (starEach xs env)).any (·.1)) = false
    rw [any_of fun y hy => h y (List.mem_cons_of_mem _ hy)]
    rfl
theorem all_of {pos : Pos} {env : PySem.Env} : ∀ {xs : List Expr}, (∀ x ∈ xs, isSub x = false) → (backTo pos (starEach xs env)).all (fun x => !x.1) = true
  | [], _ => rfl
  | x :: xs, h => by
    rw [star_of (h x List.mem_cons_self)]
    show (true && (backTo pos (starEach xs env)).all (fun x => !x.1)) = true
    rw [all_of fun y hy => h y (List.mem_cons_of_mem _ hy)]
    rfl
theorem few_of {pos : Pos} {env : PySem.Env} {xs : List Expr} (h : ∀ x ∈ xs, isSub x = false) (hl : xs.length ≤ 20) : ((backTo pos (starEach xs env)).all (fun x => !x.1) && (backToKw pos (keywordEach [] env)).all (fun x => x.1.isSome)
      && decide (xs.length + ([] : List Keyword).length + (if ([] : List Keyword).isEmpty then 0 else 1) < 30)) = true := by
  rw [all_of h]
  show (true && true && decide (xs.length + 0 + (if true = true then 0 else 1) < 30)) = true
  rw [if_pos rfl]
  simp
  omega
theorem form_of {pos : Pos} {env : PySem.Env} {xs : List Expr} (h : ∀ x ∈ xs, isSub x = false) (hl : xs.length ≤ 20) : methodCallForm (xs.length + ([] : List Keyword).length) (backTo pos (starEach xs env)) (backToKw pos (keywordEach [] env)) = true := few_of h hl
theorem shape_of {X : Cx} {pos : Pos} {xs : List Expr} (h : ∀ x ∈ xs, isSub x = false) : Shape X pos xs := by
  cases xs with
  | nil => exact .inl rfl
  | cons y ys => exact .inr ⟨y, ys, rfl, star_of (h y List.mem_cons_self), any_of fun x hx => h x (List.mem_cons_of_mem _ hx)⟩
theorem dis_form {c : Ck} : ∀ {es : Exs} {ks : List (Option Expr)} {vs : List Expr}, chkDi c es ks vs = true → evenX es = true ∧ ks.length = vs.length ∧ ks.all (·.isSome) = true ∧ es.len = 2 * ks.length
  | .nil, ks, vs, h => by
    unfold chkDi at h
    split at h
    · exact ⟨rfl, rfl, rfl, rfl⟩
    · cases h
  | .cons e .nil, ks, vs, h => by cases h
  | .cons e (.cons e' r), ks, vs, h => by
    unfold chkDi at h
    simp only at h
    split at h
    · simp only [Bool.and_eq_true] at h
      obtain ⟨f1, f2, f3, f4⟩ := dis_form h.2
      refine ⟨f1, by simp [f2], by simpa using f3, ?_⟩
      show r.len + 1 + 1 = 2 * (_ + 1)
      rw [f4]
      omega
    · cases h
theorem chkk_sub {c : Ck} : ∀ {es : Exs} {xs : List Expr} {ks : List Keyword}, chkEk c es xs ks = true → (∀ x ∈ xs, isSub x = false) ∧ es.len = xs.length + ks.length
  | .nil, xs, ks, h => by
    unfold chkEk at h
    split at h
    · exact ⟨fun x hx => (nomatch hx), rfl⟩
    · cases h
  | .cons e r, [], [], h => by cases h
  | .cons e r, [], k :: ks, h => by
    have h : (chkE c e k.value && chkEk c r [] ks) = true := h
    rw [Bool.and_eq_true] at h
    obtain ⟨_, h2⟩ := chkk_sub h.2
    refine ⟨fun x hx => (nomatch hx), ?_⟩
    show r.len + 1 = _
    rw [h2, List.length_cons]
    simp
  | .cons e r, y :: ys, ks, h => by
    have h : (chkE c e y && chkEk c r ys ks) = true := h
    rw [Bool.and_eq_true] at h
    obtain ⟨h1, h2⟩ := chkk_sub h.2
    refine ⟨fun x hx => ?_, ?_⟩
    · rcases List.mem_cons.mp hx with q | q
      · subst q; exact chk_sub h.1
      · exact h1 x q
    · show r.len + 1 = _
      rw [h2, List.length_cons]
      omega
theorem kws_form {pos : Pos} {env : PySem.Env} : ∀ {ks : List Keyword}, ks.all (fun z => z.arg.isSome) = true → (backToKw pos (keywordEach ks env)).all (·.1.isSome) = true ∧ (backToKw pos (keywordEach ks env)).any (·.1.isNone) = false ∧ (backToKw pos (keywordEach ks env)).filterMap (·.1) = kwNames ks ∧ (kwNames ks).length = ks.length
  | [], _ => ⟨rfl, rfl, rfl, rfl⟩
  | k :: ks, h => by
    rw [List.all_cons, Bool.and_eq_true] at h
    obtain ⟨h1, h2, h3, h4⟩ := kws_form (pos := pos) (env := env) h.2
    obtain ⟨kn, kv, kp⟩ := k
    cases kn with
    | none => cases h.1
    | some nm =>
      refine ⟨?_, ?_, ?_, ?_⟩
      · show (true && (backToKw pos (keywordEach ks env)).all (·.1.isSome)) = true
        rw [h1]; rfl
      · show (false || (backToKw pos (keywordEach ks env)).any (·.1.isNone)) = false
        rw [h2]; rfl
      · show nm :: (backToKw pos (keywordEach ks env)).filterMap (·.1) = nm :: kwNames ks
        rw [h3]
      · show (kwNames ks).length + 1 = ks.length + 1
        rw [h4]
theorem kform_of {pos : Pos} {env : PySem.Env} {xs : List Expr} {k : Keyword} {ks : List Keyword} (h : ∀ x ∈ xs, isSub x = false) (h2 : (backToKw pos (keywordEach (k :: ks) env)).all (·.1.isSome) = true) (hl : xs.length + (k :: ks).length ≤ 20) :
    methodCallForm (xs.length + (k :: ks).length) (backTo pos (starEach xs env)) (backToKw pos (keywordEach (k :: ks) env)) = true := by
  have e : ∀ a b, methodCallForm (xs.length + (k :: ks).length) a b = (a.all (fun x => !x.1) && b.all (fun x => x.1.isSome) && decide (xs.length + (k :: ks).length + (if b.isEmpty then 0 else 1) < 30)) := fun a b => rfl
  rw [e, all_of h, h2]
  have q : (if (backToKw pos (keywordEach (k :: ks) env)).isEmpty = true then 0 else 1) ≤ 1 := by split <;> decide
  generalize (if (backToKw pos (keywordEach (k :: ks) env)).isEmpty = true then 0 else 1) = z at q ⊢
  rw [decide_eq_true (show xs.length + (k :: ks).length + z < 30 by omega)]
  rfl
/-! ### targets' forms -/
theorem tgs_form {c : Ck} {env : PySem.Env} : ∀ {ts : Tgs} {xs : List Expr}, chkTgs c ts xs = true → (assignEach xs env).length = ts.len ∧ (assignEach xs env).findIdx? (·.1) = none
  | .nil, [], _ => ⟨rfl, rfl⟩
  | .nil, _ :: _, h => by cases h
  | .cons t r, [], h => by cases h
  | .cons t r, y :: ys, h => by
    have h : (chkTg c t y && chkTgs c r ys) = true := h
    rw [Bool.and_eq_true] at h
    have e : assignEach (y :: ys) env = (false, assign y env) :: assignEach ys env := by
      have h1 := h.1
      cases y <;> first
        | rfl
        | (cases t <;> cases h1)
    obtain ⟨a, b⟩ := tgs_form (env := env) h.2
    rw [e]
    refine ⟨?_, ?_⟩
    · show (assignEach ys env).length + 1 = r.len + 1
      rw [a]
    · rw [List.findIdx?_cons, b]
      rfl
theorem tg_ae {c : Ck} {t : Tg} {y : Expr} {ys : List Expr} {env : PySem.Env} (h : chkTg c t y = true) : (assignEach (y :: ys) env).map (·.2) = assign y env :: (assignEach ys env).map (·.2) := by
  cases y <;> first
    | rfl
    | (cases t <;> cases h)
/-! ### chains as tests -/
theorem cmp_isb {o : COp} {d1 d2 : D} {hp : Hq} {Q' : QD} (h : (oCmp o d1 d2 hp).app Q') : (oCmp o d1 d2 hp).app fun d h => (∃ t, d = .bl t) ∧ Q' d h := by
  have vb : ∀ {ob : OutB} {neg : Bool} {d : D} {h' : Hq}, ob.val neg hp = .ok d h' → ∃ t, d = .bl t := by
    intro ob neg d h' e
    cases ob <;> cases e
    exact ⟨_, rfl⟩
  have vc : ∀ {ob : OutB} {neg : Bool} {d : D} {h' : Hq} {C : Prop}, ob.val neg hp = .cd C d h' → ∃ t, d = .bl t := by
    intro ob neg d h' C e
    cases ob <;> cases e
    exact ⟨_, rfl⟩
  cases e : oCmp o d1 d2 hp with
  | no => rw [e] at h; exact h
  | ok d h' =>
    rw [e] at h
    refine ⟨?_, h⟩
    cases o <;> first
      | exact vb e
      | (cases d1 <;> cases d2 <;> first | (cases e; exact ⟨_, rfl⟩) | cases e)
  | cd C d h' =>
    rw [e] at h
    refine ⟨h.1, ?_, h.2⟩
    cases o <;> first
      | exact vc e
      | (cases d1 <;> cases d2 <;> cases e)
section
variable {X : Cx} {L : Lay} {g : Glob} {cl : Cl} {W : WX} {x y z : Expr} {a b c : Ex} {pos : Pos}
theorem t_cmp2 (hm : ClMono cl) (hu : X.A.units + 65 < cLine) {o p : COp} (ha : PE X x (tE X.K L g cl W a)) (hb : PE X y (tE X.K L g cl W b)) (hc : PE X z (tE X.K L g cl W c)) (hmk : lastMarks [copOf o, copOf p] [y, z] = false) :
    PT X (.Compare x [copOf o, copOf p] [y, z] pos) (tT X.K L g cl W (.cmp2 o p a b c)) :=
  PT.imp (pt_chain (mi_cmp (L := L) hu o) (mi_cmp (L := L) hu p) ha hb hc hmk) fun σ H Q ⟨ρ, hp, env, r, re, h⟩ => by
    unfold wE at h
    refine seq2 (b := b) hm (R := fun v1 v2 H2 => rMI X.K L (oCmp o) v1 v2 H2 fun z H3 => ∃ k, z = .bl k ∧ if k = true then tE X.K L g cl W c σ H3 fun w' H4 => rMI X.K L (oCmp p) v2 w' H4 fun x H' => ∃ k, x = .bl k ∧ Q k H' else (∃ k, V.bl false = .bl k ∧ Q k H3)) r re h fun ρ2 hp2 H2 d1 d2 v1 v2 e r2 q1 q2 q => ⟨ρ2, hp2, d1, d2, r2, q1, q2, OutD.mono (fun d3 hp3 k => ?_) q⟩
    intro ρ3 H3 v3 e3 r3 d3r
    cases d3r with
    | bl t =>
      refine ⟨t, rfl, ?_⟩
      cases t with
      | true =>
        rw [if_pos rfl]
        refine ⟨ρ3, hp3, env, r3, (re.mono e).mono e3, wE_mono hm c env hp3 _ _ _ _ (fun d4 hp4 q4 => ?_) (fun _ _ _ z => z.ext (e.trans e3)) k⟩
        intro ρ4 H4 v4 e4 r4 d4r
        refine ⟨ρ4, hp4, d2, d4, r4, (q2.mono e3).mono e4, d4r, OutD.mono (fun d5 hp5 k5 => ?_) (cmp_isb q4)⟩
        obtain ⟨⟨t, rfl⟩, k5⟩ := k5
        intro ρ5 H5 v5 e5 r5 d5r
        cases d5r
        exact ⟨t, rfl, k5 _ _ (((e.trans e3).trans e4).trans e5) r5⟩
      | false =>
        rw [if_neg Bool.false_ne_true]
        exact ⟨false, rfl, k _ _ (e.trans e3) r3⟩
    | _ => exact False.elim k
theorem e_bool1 {op : BoolOp} {t : TE} (h : PE X x t) : PE X (.BoolOp op [x] pos) t := ⟨fun pins s σ H Q I q => by
  have e : eval (.BoolOp op [x] pos) X.env = eval x X.env := by cases op <;> rfl
  rw [e]
  exact h.run pins s σ H Q I q⟩
end
end MI
set_option maxHeartbeats 2000000
/-! MI, exceptions 1: a caught exception kept behind its suite. -/
namespace MI
open PySem PySem.Spec PyProof.Rows L2

section
variable {X : Cx} {pins : List (Addr × Obj)} {σ : L2.St} {H : Hp} {s : Shared} {a : Addr} {o : HO}
/-- an object that stands in the heap, untracked, new since the frame began, is tracked from here on -/
theorem track (I : Inv X pins σ H s) (h0 : X.s_0.heap.get? a = none) (hn : H a = none) (hl : X.env.locals ≠ a) (hc : ∀ x c, X.env.cells.lookup x = some c → c ≠ a) (hp : ∀ p ∈ X.pn ++ pins, p.1 ≠ a)
    (new : ObjOk X.prog X.w (upd H a o) s.heap a o) : Inv X pins σ (upd H a o) s := by
  have away : ∀ {b : Addr} {u : HO}, H b = some u → b ≠ a := fun q => ne_of_none q hn
  refine { ok := I.ok, os := I.os, bare := I.bare, base := ?_, loc := I.loc, cell := I.cell, free := ?_, freeC := ?_, pin := ?_, hok := ?_, len := I.len }
  · have B := I.base
    refine { keep := B.keep, slot := B.slot, free := ?_, there := B.there, tups := ?_, frzs := ?_, tbls := ?_ }
    · intro b u q n x
      have nb : b ≠ a := fun z => by subst z; rw [h0] at q; cases q
      rw [upd_ne nb]; exact B.free b u q n x
    · intro b xs q
      have q' := B.tups b xs q
      rw [upd_ne (away q')]; exact q'
    · intro b u v q
      have q' := B.frzs b u v q
      rw [upd_ne (away q')]; exact q'
    · intro b ps q
      obtain ⟨more, q'⟩ := B.tbls b ps q
      refine ⟨more, ?_⟩
      rw [upd_ne (away q')]; exact q'
  · rw [upd_ne hl]; exact I.free
  · intro x c e
    rw [upd_ne (hc x c e)]; exact I.freeC x c e
  · intro p hm
    obtain ⟨e1, e2, e3⟩ := I.pin p hm
    refine ⟨e1, ?_, e3⟩
    rw [upd_ne (hp p hm)]; exact e2
  · intro b u q
    by_cases hb : b = a
    · subst hb
      rw [upd_same] at q
      cases q
      exact new
    · rw [upd_ne hb] at q
      refine (I.hok b u q).stay (fun _ _ _ z => z) (fun c z => ?_) fun c xs z => ?_
      · rw [upd_ne (away z)]; exact z
      · rw [upd_ne (away z)]; exact z
end
end MI
set_option maxHeartbeats 2000000
/-! MI, exceptions 2: try: body / except x as n: k = n. -/
namespace MI
open PySem PySem.Spec PyProof.Rows L2

/-- what that clause wants of an exception of the body: slot j is k's, slot i is n's -/
def wKeep (K : PySem.W.Frag) (c : Value) (i j : Nat) (Wo : WX) (D : Ends) : WX := fun cls d σ H =>
  ∃ b, PySem.W.exmOne K cls c = some b ∧ (b = true → ∃ C dd, cls = .ref C ∧ d = some dd ∧ ∀ a, H a = none → D.nx ((σ.set j (some (.ref a))).set i none) (upd H a (kx a C dd))) ∧ (b = false → Wo cls d σ H)
theorem ps_try_keep {X : Cx} {x n kn : Str} {c : Value} {i j : Nat} {body : List Stmt} {np pos pos' p1 p2 p3 : Pos} {tb : WX → TS} {Wo : WX}
    (hs : X.stack = X.env :: X.outer) (hf : X.env.frame = some X.env.locals) (hN : X.N.Nodup) (hi : X.N[i]? = some n) (hln : X.env.kindOf n = some .local) (hj : X.N[j]? = some kn) (hlj : X.env.kindOf kn = some .local) (hij : i ≠ j) (hex : X.ex = []) (hc : Names X x c) (tk : Takes X Wo)
    (hsu : ∀ (a : Addr) (ob : Obj) (pn : List (Addr × Obj)), PSs (X.suite a ((a, ob) :: pn)) [.Assign [.Name kn p1] (.Name n p2) p3] (fun D σ H => match σ[i]? with | some (some v) => D.nx (σ.set j (some v)) H | _ => False))
    (hb : ∀ (W : WX) (pn : List (Addr × Obj)) (xe : Value → Shared → Prop), Takes (X.tr pn xe) W → PassesOwn (model X.prog X.w) X.A X.env xe → PSs (X.tr pn xe) body (tb W)) :
    PS X (.Try body [.ExceptHandler (some (.Name x np)) (some n) [.Assign [.Name kn p1] (.Name n p2) p3] pos'] [] [] pos) (fun D σ H => tb (wKeep X.K c i j Wo D) D σ H) := by
  refine ⟨fun pins s σ H D I h => ?_⟩
  have good := I.ok
  have frames : X.A.frames = some (X.env :: X.outer) := by rw [good.frames, hs]
  refine wpAny_Try_except ?_
  have B0 := (hb (wKeep X.K c i j Wo D) (X.pn ++ pins) (fun e t1 => wpAny (model X.prog X.w) X.A (noteFrame e X.env) (fun _ t2 => wpAny (model X.prog X.w) X.A (setFlight e none) (fun _ t3 =>
    wpAny (model X.prog X.w) X.A (handleBy e X.env [.ExceptHandler (some (.Name x np)) (some n) [.Assign [.Name kn p1] (.Name n p2) p3] pos']) (SP X pins D) X.xe t3) X.xe t2) X.xe t1) ?_ PassesOwn.looking).run [] s σ H D (I.toTry _) h
  · refine wpAny_mono B0 (fun fl t hsp => ?_) fun _ _ z => z
    cases fl with
    | ret u =>
      obtain ⟨v, σ1, H1, J, r, q⟩ := hsp
      exact ⟨v, σ1, H1, J.ofTry good, r, q⟩
    | next =>
      obtain ⟨σ1, H1, J, q⟩ := hsp
      exact wpAny_execs_nil ⟨σ1, H1, J.ofTry good, q⟩
    | brk =>
      obtain ⟨σ1, H1, J, q⟩ := hsp
      exact ⟨σ1, H1, J.ofTry good, q⟩
    | cont =>
      obtain ⟨σ1, H1, J, q⟩ := hsp
      exact ⟨σ1, H1, J.ofTry good, q⟩
  · -- caught
    intro u t caught
    obtain ⟨a, G, sI, pinsT, σ1, H1, cls, d, rfl, JT, ground, slots, sky, untr, hos, bare, b, hb1, yes, no⟩ := caught
    have J : Inv X pins σ1 H1 sI := JT.ofTry good
    have sky1 : Sky G (X.env :: X.outer) a (Zc cls d) X.env.locals t.heap := by rw [← hs]; exact sky
    show wpAny (model X.prog X.w) X.A (noteFrame (.ref a) X.env) _ _ _
    refine Sky.land Zc.steady frames hf sky1 fun h3 fl3 up3 => ?_
    have up03 := slots.trans up3
    have J3 : Inv X pins σ1 H1 { t with heap := h3 } := J.landed ground fl3.1 up03 hos bare
    obtain ⟨ob3, ws3, at3, z3, d3⟩ := fl3.there
    have outside : a ∉ frs (X.env :: X.outer) := fun hm => by
      obtain ⟨_, o', e', nf⟩ := fl3.2.2.1.mem hm
      rw [at3] at e'
      cases e'
      exact nf _ d3
    have notL : a ≠ X.env.locals := fun z => outside (List.mem_filterMap.mpr ⟨X.env, List.mem_cons_self, by rw [hf, z]⟩)
    have notF : a ∉ X.fs := fun hm => by
      obtain ⟨e, he, q⟩ := List.mem_filterMap.mp hm
      exact outside (List.mem_filterMap.mpr ⟨e, List.mem_cons_of_mem _ he, q⟩)
    have noG : G.get? a = none := fl3.2.1
    have noI : sI.heap.get? a = none := by
      cases q : sI.heap.get? a with
      | none => rfl
      | some o' =>
        have := ground a o' q (by rw [hs]; exact outside)
        rw [noG] at this
        cases this
    have no0 : X.s_0.heap.get? a = none := by
      cases q : X.s_0.heap.get? a with
      | none => rfl
      | some o' =>
        obtain ⟨o2, q2⟩ := J.base.there a o' q (by rw [hex]; exact nofun)
        rw [noI] at q2
        cases q2
    have noC : ∀ y cc, X.env.cells.lookup y = some cc → cc ≠ a := fun y cc e z => by
      obtain ⟨v, o', e1, e2⟩ := J.cell y cc e
      rw [z, noI] at e1
      cases e1
    have noP : ∀ p ∈ X.pn ++ pins, p.1 ≠ a := fun p hm z => by
      have q := (J.pin p hm).1
      rw [z, noI] at q
      cases q
    have S3 := J3.suite at3 d3 untr notL notF
    refine wpAny_handleBy_cons (codeAny_handlers_test ?_) (by intro q; cases q)
    have TY : PySem.W.Looks (model X.prog X.w) h3 (typeOf (.ref a)) cls := fun A' Q' E' s' k' q => wpAny_typeOf_ref (k' _ _ at3) (by rw [z3.1]; exact q)
    have MT := PySem.W.exm_one (M := model X.prog X.w) (J3.kIn) TY hb1
    have nameIt : ∀ {Q E : Value → Shared → Prop}, Q c { t with heap := h3 } → wpAny (model X.prog X.w) (X.A.mark (some (.ref a))) (eval (.Name x np) X.env) Q E { t with heap := h3 } := fun {Q E} q => by
      obtain ⟨n1, n2, m1 | ⟨m2, m3, m4⟩⟩ := hc
      · exact ld_glob (X := X.suite a ((a, ob3) :: (X.pn ++ pins))) S3 n1 m1 q n2
      · exact ld_blt (X := X.suite a ((a, ob3) :: (X.pn ++ pins))) S3 n1 m2 m3 q m4 n2
    refine nameIt (MT.here ?_)
    cases b with
    | true =>
      obtain ⟨C, dd, rfl, rfl, fin⟩ := yes rfl
      refine codeAny_handlers_suite_as ?_
      refine HandSPX.lands_againZ fl3 fun h4 fl4 up4 => ?_
      have J4 : Inv X pins σ1 H1 { t with heap := h4 } := J.landed ground fl4.1 (up03.trans up4) hos bare
      obtain ⟨ob4, ws4, at4, z4, d4⟩ := fl4.there
      have S4 := J4.suite at4 d4 untr notL notF
      refine store_ok (X := X.suite a ((a, ob4) :: (X.pn ++ pins))) (v := .ref a) S4 hN hi (.inl hln) rfl (fun s5 S5 => ?_) (.inr hln)
      have len1 : i < σ1.length := by
        rw [J.len]
        exact (List.getElem?_eq_some_iff.mp hi).1
      refine wpAny_mono ((hsu a ob4 (X.pn ++ pins)).run [] s5 _ H1 { nx := fun σ6 H6 => σ6 = (σ1.set i (some (.ref a))).set j (some (.ref a)) ∧ H6 = H1, rt := fun _ _ => False } S5 ?_) (fun fl s6 hsp => ?_) fun _ _ z => False.elim z
      · show (match (σ1.set i (some (.ref a)))[i]? with | some (some v) => _ | _ => False)
        rw [List.getElem?_set_self len1]
        exact ⟨rfl, rfl⟩
      · cases fl with
        | ret u =>
          obtain ⟨_, _, _, _, _, q⟩ := hsp
          exact q.elim
        | brk =>
          obtain ⟨_, _, _, q⟩ := hsp
          exact q.elim
        | cont =>
          obtain ⟨_, _, _, q⟩ := hsp
          exact q.elim
        | next =>
          obtain ⟨σ6, H6, S6, rfl, rfl⟩ := hsp
          refine gone_ok (X := X.suite a ((a, ob4) :: (X.pn ++ pins))) S6 hN hi hln fun s7 S7 => ?_
          have at7 := (S7.pin (a, ob4) (List.mem_append_left _ List.mem_cons_self)).1
          have J7 : Inv X pins _ H6 s7 := S7.unsuite good
          have e7 : ((σ1.set i (some (V.ref a))).set j (some (V.ref a))).set i none = (σ1.set j (some (V.ref a))).set i none := by
            rw [List.set_comm _ _ hij, List.set_set]
          rw [e7] at J7
          exact ⟨_, _, track J7 no0 untr (Ne.symm notL) noC noP (kx_ok at7 z4 d4), fin a untr⟩
    | false =>
      show wpAny _ X.A (handleBy (.ref a) X.env []) _ _ _
      refine wpAny_handleBy_nil ?_
      obtain ⟨k1, k2, k3, oe, vs, Tb, oT, ts', he, hz, hd, h1, hr⟩ := id fl3
      unfold PySem.passOn
      refine wpAny_bind (wpAny_field he hd h1 ?_)
      rw [if_neg (show ¬ ((Value.ref Tb == Value.none) = true) by simp)]
      have up : wpAny (model X.prog X.w) X.A (setFlight (.ref a) X.env.frame) (fun _ s4 => wpAny (model X.prog X.w) X.A (throw (.ref a) : Sem Flow) (SP X pins D) X.xe s4) X.xe { t with heap := h3 } := by
        rw [hf]
        refine HandSPX.setFlight_upZ fl3 fun h4 held up4 => wpAny_throw (tk _ _ ?_)
        refine ⟨a, G, sI, pins, σ1, H1, cls, d, rfl, J, ground, up03.trans up4, .inr (.inr ?_), untr, hos, bare, no rfl⟩
        rw [hs]
        exact held
      first
        | exact wpAny_bind (wpAny_pure (wpAny_bind up))
        | exact wpAny_bind up
end MI
set_option maxHeartbeats 4000000
/-! MI, exceptions 5: isinstance of a kept exception, its field. -/
namespace MI
open PySem PySem.Spec PySem.Calls PyProof.Rows L2
section
variable {prog : Program} {w : World} {A : Around} {E : Value → Shared → Prop} {s : Shared} {K : PySem.W.Frag} {a D : Addr} {ob dob : Obj}
/-- the class of an exception that has a dict, asked by name -/
theorem ask_class {Q : Option Value → Shared → Prop} (c : ExcC K D) (KI : K.In s.heap) (J : PySem.W.InstAt s.heap a ob D (some dob)) (h : Q (some (.ref D)) { s with toks := s.toks + 1 }) : wpAny (model prog w) A (getAttr? (.ref a) "__class__") Q E s := by
  have isC : (PySem.W.clsIn K D).isSome = true := by
    obtain ⟨cd, hcd, _⟩ := PySem.W.any_some c.hd
    rw [hcd]
    rfl
  have found := PySem.W.findObj_data (od := dob) isC c.ha c.hn c.ht
  obtain ⟨heap, gens, drawn, tok, os⟩ := s
  have T0 := J.type (M := model prog w)
  have T1 := PySem.W.looks_findIn (M := model prog w) KI c.hg
  have T2 := PySem.W.looks_findIn (M := model prog w) KI c.hk
  have T3 := PySem.W.looks_find (M := model prog w) KI J found
  have T4 : PySem.W.Looks (model prog w) heap (isInstance (.ref a) (.type "BaseException")) true := T0.andThen (PySem.W.looks_subIn KI c.hs)
  have z0 : (false && onTheHeap (Value.builtin "BaseException.__getattribute__")) = false := rfl
  have z1 : (onTheHeap (Value.ref D) && Value.builtin "BaseException.__getattribute__" == Value.builtin "object.__getattribute__") = false := by
    have : (Value.builtin "BaseException.__getattribute__" == Value.builtin "object.__getattribute__") = false := by decide +kernel
    rw [this]
    rfl
  unfold getAttr? getAttrBy? getAttrBy
  refine wpAny_bind (wpAny_mkText ?_)
  refine wpAny_bind (wpAny_attempt (wpAny_holding (wpAny_bind (T0.at (wpAny_bind (T1.at ?_))))))
  show wpAny _ _ (if (onTheHeap (Value.ref D) && (Value.builtin "BaseException.__getattribute__") == Value.builtin "object.__getattribute__") = true then _ else _) _ _ _
  rw [z1]
  rw [if_neg Bool.false_ne_true]
  unfold getAttrByItsOwn hookBefore
  refine wpAny_bind ?_
  have onH : onTheHeap (Value.ref D) = true := rfl
  rw [if_pos onH]
  refine T2.at ?_
  refine wpAny_bind (wpAny_attempt (wpAny_holding ?_))
  unfold callGetattribute
  rw [z0]
  rw [if_neg Bool.false_ne_true]
  unfold boundAndCalled
  have gb := PySem.F.excAttr_ValueError.ga.bind (.ref a)
  rw [gb]
  refine wpAny_bind (wpAny_pure ?_)
  show wpAny _ _ (call (.builtin "BaseException.__getattribute__") [.ref a, .str "__class__" tok]) _ _ _
  refine wpAny_call (codeAny_call_builtin PySem.F.excAttr_ValueError.ga.plain PySem.F.entry_bexc_ga ?_)
  refine @PySem.W.check_slot (model prog w) _ _ ⟨heap, gens, drawn, tok + 1, os⟩ "BaseException.__getattribute__" "BaseException" "__getattribute__" (.ref a) [.str "__class__" tok] [] _ (by decide +kernel) (by decide +kernel) T4 (PySem.F.args_bexc_ga (.ref a) (.str "__class__" tok)) ?_
  unfold Builtin.«object.__getattribute__»
  refine wpAny_bind (wpAny_of_eq (a := ((Value.ref a : Value), [Value.str "__class__" tok])) (by first | rfl | (simp only [slotArgs]; rfl)) ?_)
  refine wpAny_bind (wpAny_pure (wpAny_bind (T0.at (wpAny_bind (T3.at ?_)))))
  show wpAny _ _ (holding [Value.builtin "object.__class__"] (call (.builtin "getset_descriptor.__get__") [Value.builtin "object.__class__", Value.ref a, Value.ref D]) >>= ret) _ _ _
  refine wpAny_bind (wpAny_holding (wpAny_call (PySem.W.class_get (s := ⟨heap, gens, drawn, tok + 1, os⟩) (ox := ob) (od := some dob) KI J c.hm ?_)))
  refine wpAny_pure ?_
  show wpAny _ _ (handedOut (.ref D)) _ _ _
  have ho : handedOut (Value.ref D) = pure (Value.ref D) := PySem.W.handedOut_of (v := .ref D) rfl
  rw [ho]
  first
    | exact wpAny_pure (wpAny_pure h)
    | exact wpAny_pure h
    | exact wpAny_pure (wpAny_bind (wpAny_pure (wpAny_pure h)))
theorem kit_kept (c : ExcC K D) : PySem.W.KitX K (.ref a) (.ref D) (fun h => ∃ ob dob, PySem.W.InstAt h a ob D (some dob)) where
  ty := fun M h KI ⟨_, _, J⟩ => J.type
  it := fun M h KI _ => by
    obtain ⟨cd, hcd, _⟩ := PySem.W.any_some c.hd
    unfold PySem.W.clsIn at hcd
    split at hcd
    · rename_i q1 q2 q3 q4 ho
      intro A2 Q2 E2 s2 k2 q
      unfold isType loadHead
      exact wpAny_bind (wpAny_loadPart (k2 _ _ (KI _ _ ho)) (wpAny_pure q))
    · cases hcd
  ne := fun h tp dd its n sl KI htp => by
    obtain ⟨cd, hcd, _⟩ := PySem.W.any_some c.hd
    unfold PySem.W.clsIn at hcd
    refine Bool.eq_false_iff.mpr fun q => ?_
    have e : D = tp := Value.ref.inj (beq_iff_eq.mp q)
    subst e
    split at hcd
    · rename_i q1 q2 q3 q4 ho
      have z := (KI _ _ ho).symm.trans htp
      cases z
    · cases hcd
  ca := fun KI ⟨_, _, J⟩ k => ask_class c KI J k
end
end MI
set_option maxHeartbeats 2000000
/-! MI, exceptions 3: own classes with one field, made and raised. -/
namespace MI
open PySem PySem.Spec PyProof.Rows L2
section
variable {X : Cx} {e : Expr} {es : List Expr} {ta : TA} {p1 p2 pos : Pos}
/-- R.__init__(self, ..), R an own class that takes it from ValueError -/
theorem pe_rinit {x : Str} {R : Addr} {mc : Value} (hg : Gl X x) (hm : X.mg x = some (.ref R)) (r : ClX.CRead X.K R mc) (at_ : PySem.W.findCls X.K (.ref R) mc "__init__" = some (.val (.builtin "ValueError.__init__"))) (ha : PA X (e :: es) ta)
    (hdb : (x == ("__debug__" : Str)) = false) (hline : (p2.endLine == pos.line) = true) (hfew : methodCallForm ((e :: es).length + ([] : List Keyword).length) (backTo pos (starEach (e :: es) X.env)) (backToKw pos (keywordEach [] X.env)) = true)
    (he : starEach (e :: es) X.env = (false, eval e X.env) :: starEach es X.env) (hpl : (backTo pos (starEach es X.env)).any (·.1) = false) :
    PE X (.Call (.Attribute (.Name x p1) "__init__" p2) (e :: es) [] pos) (tVeI X.K ta) := by
  constructor
  intro pins s σ H Q I h
  refine methCall_any (ab_ok fun _ _ _ z => nomatch z) hline hfew (ld_glob I hg hm ?_ hdb)
  intro pl
  refine PySem.W.method_cls I.kIn r.ga (PySem.W.cls_value I.kIn r.rd at_ (by decide +kernel) ?_)
  refine PyProof.Rows.callWith_method1 (thn (ha.run pos pins _ σ H _ (I.tok _) h) fun us t ht => ?_) he hpl
  obtain ⟨vs, H1, I1, r1, a, C, ws, rfl, hl, T, ea, q⟩ := ht
  cases r1 with
  | @cons _ u0 _ ur ra rw' =>
    obtain rfl : u0 = Value.ref a := ra
    refine oinit_ok T I1 ea ?_ fun t' J => ⟨.non, H1, J, rfl, q⟩
    rw [← Paired.length rw', sizeLine_eq]
    omega
end
end MI
set_option maxHeartbeats 4000000
/-! MI, exceptions 6: the rules for the small language's own things. -/
namespace MI
open PySem PySem.Spec PySem.Calls PyProof.Rows L2
section
variable {K : PySem.W.Frag} {L : Lay} {ρ : List Addr} {H : Hp} {hp : Hq}
theorem RelH.xob {i c j : Nat} {a : Addr} (r : RelH K L ρ hp H) (ha : ρ[i]? = some a) (h : gtX hp i = some (c, j)) : ∃ C d, H a = some (kx a C d) ∧ L.exs[c]? = some C ∧ ρ[j]? = some d := by
  obtain ⟨o, u, h1, h2, h3⟩ := r.at2 ha
  unfold gtX at h
  rw [h1] at h
  cases h3 with
  | @xob c' me j' a' C d q1 q2 q3 =>
    simp only at h
    by_cases e : me = i
    · rw [if_pos e] at h
      cases h
      subst e
      rw [ha] at q1
      cases q1
      exact ⟨C, d, h2, q2, q3⟩
    · rw [if_neg e] at h
      cases h
  | _ => cases h
theorem RelH.xdd {j c : Nat} {d : Addr} {fs : List (Nat × D)} (r : RelH K L ρ hp H) (hd : ρ[j]? = some d) (h : hp[j]? = some (.xd c fs)) : ∃ vs, H d = some (.xd vs) ∧ RFs K L ρ H fs vs := by
  obtain ⟨o, u, h1, h2, h3⟩ := r.at2 hd
  rw [h] at h1
  cases h1
  cases h3 with
  | xd q => exact ⟨_, h2, q⟩
end
section
variable {X : Cx} {pins : List (Addr × Obj)} {σ : L2.St} {H : Hp} {s : Shared} {a C d : Addr} {vs : List (Str × V)}
theorem inst_kept (I : Inv X pins σ H s) (ha : H a = some (kx a C d)) (hd : H d = some (.xd vs)) : ∃ (ob dob : Obj) (mA : Str → Option Value), PySem.W.InstAt s.heap a ob C (some dob) ∧ (∀ name, PySem.W.lookIn name dob = some (mA name)) ∧ ∀ f, RelO (vs.lookup f) (mA f) := by
  obtain ⟨ob, ws, e1, e2, e3⟩ := kx_at I.hok ha
  have y : ObjOk X.prog X.w H s.heap d (.xd vs) := I.hok d _ hd
  obtain ⟨mA, hns, hr⟩ := y
  obtain ⟨dob, ho, hl⟩ := lookIn_ns hns
  refine ⟨ob, dob, mA, ⟨e1, e2.1, ?_, ?_⟩, hl, hr⟩
  · unfold PySem.W.notCls
    rw [e3] <;> rfl
  · rw [e2.2]
    exact ho
end
/-- isinstance(e, R), e kept -/
def rIsK (K : PySem.W.Frag) (R : Addr) : List V → Hp → VK → Prop := fun xs H Q => ∃ (p C d : Addr) (vs : List (Str × V)) (b : Bool), xs = [.ref p, .ref R] ∧ H p = some (kx p C d) ∧ H d = some (.xd vs) ∧ ExcC K C ∧ PySem.W.kitOne K (.ref C) (.ref R) = some b ∧ Q (.bl b) H
/-- .. of a tuple of two -/
def rIsT (K : PySem.W.Frag) (R R2 : Addr) : List V → Hp → VK → Prop := fun xs H Q => ∃ (p C d t : Addr) (vs : List (Str × V)) (b b2 : Bool), xs = [.ref p, .ref t] ∧ H t = some (.tup [.ref R, .ref R2]) ∧ H p = some (kx p C d) ∧ H d = some (.xd vs) ∧ ExcC K C ∧ PySem.W.kitOne K (.ref C) (.ref R) = some b ∧ PySem.W.kitOne K (.ref C) (.ref R2) = some b2 ∧ Q (.bl (b || b2)) H
section
variable {X : Cx} {R R2 : Addr}
theorem call_isK : CallR X (.builtin "isinstance") (rIsK X.K R) := by
  intro pins s σ H xs us Q I r h
  obtain ⟨p, C, d, vs, b, rfl, h1, h2, c, e, q⟩ := h
  cases r with
  | cons rx rr =>
    cases rr with
    | cons rt rr =>
      cases rr
      cases rx
      cases rt
      obtain ⟨ob, dob, _, J, _⟩ := inst_kept I h1 h2
      exact PySem.W.kia_one (kit_kept c) I.kIn ⟨ob, dob, J⟩ e (fun z => nomatch z) fun tk => ⟨.bl b, H, I.kept (t' := tk) fun _ _ z => z, rfl, q⟩
theorem call_isT : CallR X (.builtin "isinstance") (rIsT X.K R R2) := by
  intro pins s σ H xs us Q I r h
  obtain ⟨p, C, d, t, vs, b, b2, rfl, ht, h1, h2, c, e, e2, q⟩ := h
  cases r with
  | cons rx rr =>
    cases rr with
    | cons rt rr =>
      cases rr
      cases rx
      cases rt
      obtain ⟨ob, dob, _, J, _⟩ := inst_kept I h1 h2
      have y : ObjOk X.prog X.w H s.heap t (.tup [.ref R, .ref R2]) := I.hok t _ ht
      obtain ⟨_, its, ri, ot, et, ct, nn, dt⟩ := y
      have hi : its = [.ref R, .ref R2] := by
        cases ri with
        | cons r1 rr =>
          cases rr with
          | cons r2 rr =>
            cases rr
            cases r1
            cases r2
            rfl
      subst hi
      obtain ⟨oc, od, oda, osl⟩ := ot
      have ct : oc = .type "tuple" := ct
      have dt : oda = _ := dt
      subst ct dt
      have ea : PySem.W.kitAny X.K (.ref C) [.ref R, .ref R2] = some (b || b2) := by
        unfold PySem.W.kitAny
        rw [e]
        cases b with
        | true => rfl
        | false =>
          show PySem.W.kitAny X.K (.ref C) [.ref R2] = some b2
          unfold PySem.W.kitAny
          rw [e2]
          cases b2 <;> rfl
      exact PySem.W.kia_tup (kit_kept c) I.kIn ⟨ob, dob, J⟩ et ea (fun z => nomatch z) fun tk => ⟨.bl (b || b2), H, I.kept (t' := tk) fun _ _ z => z, rfl, q⟩
end
section
variable {S : Nm} {g : Glob} {L : Lay} {n : Nat} {X : Cx} {cl : Cl} {W : WX} {x y : Expr} {a : Ex} {p p2 p3 pos : Pos} {bs : List Bool} {R R2 : Addr} {z z2 : Str}
theorem pe_gl (hg : Gl X z) (hm : X.mg z = some (.ref R)) (hdb : (z == ("__debug__" : Str)) = false) : PE X (.Name z p2) (tC (.ref R)) := ⟨fun pins s σ H Q I h => ld_glob I hg hm ⟨.ref R, H, I, rfl, h⟩ hdb⟩
/-- what the table says of the class at R -/
def ExmAt (K : PySem.W.Frag) (L : Lay) (R : Addr) (bs : List Bool) : Prop := ∀ (k : Nat) (C : Addr) (b : Bool), L.exs[k]? = some C → bs[k]? = some b → PySem.W.exmOne K (.ref C) (.ref R) = some b ∧ PySem.W.kitOne K (.ref C) (.ref R) = some b
theorem s_isx (hm : ClMono cl) (T : TF S g X.prog X.w X.K X.mg X.base L n) (he : ExmAt X.K L R bs) (hgl : Gl X "isinstance") (hmg : X.mg "isinstance" = none) (hz : Gl X z) (hzm : X.mg z = some (.ref R)) (hzd : (z == ("__debug__" : Str)) = false)
    (ha : PE X y (tE X.K L g cl W a)) (hst : isSub y = false) : PE X (.Call (.Name "isinstance" p) [y, .Name z p2] [] pos) (tE X.K L g cl W (.isx a bs)) := by
  have e1 : starEach [y, .Name z p2] X.env = (false, eval y X.env) :: starEach [.Name z p2] X.env := by cases y <;> first | rfl | cases hst
  have imp : ∀ σ H Q, tE X.K L g cl W (.isx a bs) σ H Q → tCB (rIsK X.K R) (tCons (tE X.K L g cl W a) (tCons (tC (.ref R)) tNil)) σ H Q := fun σ H Q ⟨ρ, hp, env, r, re, h⟩ => by
    unfold wE at h
    refine ⟨ρ, hp, env, r, re, wE_mono hm a env hp _ _ _ _ (fun d1 hp1 q1 => ?_) (fun _ _ _ z => z) h⟩
    intro ρ1 H1 v1 x1 r1 d1r
    cases d1r with
    | @ref i q hs =>
      unfold oIsX at q1
      cases e : gtX hp1 i with
      | none => simp only [e] at q1; exact q1.elim
      | some cj =>
        obtain ⟨c, j⟩ := cj
        simp only [e] at q1
        obtain ⟨C, d, k1, k2, k3⟩ := r1.xob hs e
        split at q1
        · rename_i c' fs b hj hb
          obtain ⟨vs, k4, _⟩ := r1.xdd k3 hj
          exact ⟨q, C, d, vs, b, rfl, k1, k4, (T.exf c C k2).c, (he c C b k2 hb).2, q1 ρ1 H1 _ x1 r1 (.bl b)⟩
        · exact q1.elim
    | _ => exact q1.elim
  exact PE.imp (pe_callB call_isK hgl hmg (show bootBuiltins "isinstance" = some (.builtin "isinstance") by decide +kernel) (pa_cons ha (pa_cons (pe_gl hz hzm hzd) pa_nil) e1) (by decide) (by decide) e1 rfl) imp
theorem s_isx2 (hm : ClMono cl) (T : TF S g X.prog X.w X.K X.mg X.base L n) {bs1 bs2 : List Bool} (he : ExmAt X.K L R bs1) (he2 : ExmAt X.K L R2 bs2) (hbs : bs = List.zipWith (· || ·) bs1 bs2) (hgl : Gl X "isinstance") (hmg : X.mg "isinstance" = none)
    (hz : Gl X z) (hzm : X.mg z = some (.ref R)) (hzd : (z == ("__debug__" : Str)) = false) (hz2 : Gl X z2) (hzm2 : X.mg z2 = some (.ref R2)) (hzd2 : (z2 == ("__debug__" : Str)) = false)
    (ha : PE X y (tE X.K L g cl W a)) (hst : isSub y = false) {kt : Nat} {pt : Pos} : PE X (.Call (.Name "isinstance" p) [y, .Tuple [.Name z p2, .Name z2 p3] kt pt] [] pos) (tE X.K L g cl W (.isx a bs)) := by
  have e1 : starEach [y, .Tuple [.Name z p2, .Name z2 p3] kt pt] X.env = (false, eval y X.env) :: starEach [.Tuple [.Name z p2, .Name z2 p3] kt pt] X.env := by cases y <;> first | rfl | cases hst
  have imp : ∀ σ H Q, tE X.K L g cl W (.isx a bs) σ H Q → tCB (rIsT X.K R R2) (tCons (tE X.K L g cl W a) (tCons (tTup (tCons (tC (.ref R)) (tCons (tC (.ref R2)) tNil))) tNil)) σ H Q := fun σ H Q ⟨ρ, hp, env, r, re, h⟩ => by
    unfold wE at h
    refine ⟨ρ, hp, env, r, re, wE_mono hm a env hp _ _ _ _ (fun d1 hp1 q1 => ?_) (fun _ _ _ z => z) h⟩
    intro ρ1 H1 v1 x1 r1 d1r
    cases d1r with
    | @ref i q hs =>
      unfold oIsX at q1
      cases e : gtX hp1 i with
      | none => simp only [e] at q1; exact q1.elim
      | some cj =>
        obtain ⟨c, j⟩ := cj
        simp only [e] at q1
        obtain ⟨C, d, k1, k2, k3⟩ := r1.xob hs e
        split at q1
        · rename_i c' fs b hj hb
          obtain ⟨vs, k4, _⟩ := r1.xdd k3 hj
          rw [hbs, List.getElem?_zipWith] at hb
          cases b1 : bs1[c]? with
          | none => rw [b1] at hb; cases hb
          | some u1 =>
            cases b2 : bs2[c]? with
            | none => rw [b1, b2] at hb; cases hb
            | some u2 =>
              rw [b1, b2] at hb
              cases hb
              refine ⟨show 2 ≤ sizeLine by decide, fun t ht => ?_⟩
              obtain ⟨r2, x2⟩ := r1.tmp (u := .tup [.ref R, .ref R2]) ht
              exact ⟨q, C, d, t, vs, u1, u2, rfl, upd_same, by rw [upd_ne (ne_of_none k1 ht)]; exact k1, by rw [upd_ne (ne_of_none k4 ht)]; exact k4, (T.exf c C k2).c, (he c C u1 k2 b1).2, (he2 c C u2 k2 b2).2, q1 _ _ _ (x1.trans x2) r2 (.bl _)⟩
        · exact q1.elim
    | _ => exact q1.elim
  exact PE.imp (pe_callB call_isT hgl hmg (show bootBuiltins "isinstance" = some (.builtin "isinstance") by decide +kernel) (pa_cons ha (pa_cons (pe_tup (pa_cons (pe_gl hz hzm hzd) (pa_cons (pe_gl hz2 hzm2 hzd2) pa_nil))) pa_nil) e1) (by decide) (by decide) e1 rfl) imp
theorem s_xfd (hm : ClMono cl) (T : TF S g X.prog X.w X.K X.mg X.base L n) {f : Nat} {nm : Str} (hf : S.attrs[f]? = some nm) (ha : PE X y (tE X.K L g cl W a)) (hb : attributeBase y nm X.env (eval y X.env) = eval y X.env) : PE X (.Attribute y nm pos) (tE X.K L g cl W (.xfd a f)) := by
  constructor
  intro pins s σ H Q I ⟨ρ, hp, env, r, re, h⟩
  unfold wE at h
  refine attr_of hb (thn (ha.run pins s σ H (fun v1 H1 => ∃ (p C d : Addr) (vs : List (Str × V)) (v : V), v1 = .ref p ∧ H1 p = some (kx p C d) ∧ H1 d = some (.xd vs) ∧ ExF X.K S.attrs C ∧ vs.lookup nm = some v ∧ Q v H1) I ⟨ρ, hp, env, r, re, wE_mono hm a env hp _ _ _ _ (fun d1 hp1 q1 => ?_) (fun _ _ _ z => z) h⟩) fun u s1 hh => ?_)
  · intro ρ1 H1 v1 x1 r1 d1r
    cases d1r with
    | @ref i q hs =>
      unfold oXF at q1
      cases e : gtX hp1 i with
      | none => simp only [e] at q1; exact q1.elim
      | some cj =>
        obtain ⟨c, j⟩ := cj
        simp only [e] at q1
        obtain ⟨C, d, k1, k2, k3⟩ := r1.xob hs e
        split at q1
        · rename_i c' f' d' hj
          obtain ⟨vs, k4, k5⟩ := r1.xdd k3 hj
          by_cases ef : f' = f
          · rw [if_pos ef] at q1
            subst ef
            cases k5 with
            | @cons _ pv _ vs' k6 k7 =>
              cases k7
              obtain ⟨nm', v'⟩ := pv
              have hn : nm' = nm := by
                have z1 := k6.1
                rw [T.att.1, hf] at z1
                exact (Option.some.inj z1).symm
              subst hn
              exact ⟨q, C, d, _, v', rfl, k1, k4, T.exf c C k2, by simp [List.lookup], q1 ρ1 H1 _ x1 r1 k6.2⟩
          · rw [if_neg ef] at q1; exact q1.elim
        · exact q1.elim
    | _ => exact q1.elim
  · obtain ⟨v1, H1, I1, rx, q, C, d, vs, v, rfl, k1, k2, F, lk, qq⟩ := hh
    obtain rfl : u = Value.ref q := rx
    obtain ⟨ob, dob, mA, J, hl, hr⟩ := inst_kept I1 k1 k2
    have hv := hr nm
    rw [lk] at hv
    obtain ⟨u, hu, ru⟩ := RelO.some_of (v := v) (o := mA nm) hv
    exact HandSPX.exc_get I1.kIn J F.f.ga F.f.gg F.f.exC (PySem.W.findObj_own F.f.hdC (F.no nm (List.mem_of_getElem? hf)) rfl (by rw [hl, hu])) (handed_of ru) ⟨v, H1, I1.tok _, ru, qq⟩
end
end MI
set_option maxHeartbeats 4000000
/-! MI, exceptions 7: raise, try. -/
namespace MI
open PySem PySem.Spec PySem.Calls PyProof.Rows L2
section
variable {S : Nm} {g : Glob} {L : Lay} {n : Nat} {X : Cx} {cl : Cl} {W : WX} {x : Str} {y : Expr} {a : Ex} {p pos rpos : Pos}
theorem RE.setN {K : PySem.W.Frag} {ρ : List Addr} {H : Hp} {env : Env} {σ : L2.St} (h : RE K L ρ H env σ) (i : Nat) : RE K L ρ H (env.set i none) (σ.set i none) := h.wipe [i]
/-- a new thing that may tell of its own place -/
theorem RelH.pushN {K : PySem.W.Frag} {ρ : List Addr} {H : Hp} {hp : Hq} {p : Addr} {o : O} {u : HO} (r : RelH K L ρ hp H) (hn : H p = none) (q : RHO K L (ρ ++ [p]) (upd H p u) o u) : RelH K L (ρ ++ [p]) (hp ++ [o]) (upd H p u) ∧ Ext ρ H (ρ ++ [p]) (upd H p u) := by
  have e : Ext ρ H (ρ ++ [p]) (upd H p u) := by
    refine ⟨⟨[p], rfl⟩, fun a ha => ?_, fun a o' h _ => ?_, fun a o' h _ => ?_, fun a o' k h => ?_⟩
    · rcases List.mem_append.mp ha with h | h
      · exact .inl h
      · have : a = p := by simpa using h
        subst this
        exact .inr hn
    · rw [upd_ne (ne_of_none h hn)]; exact h
    · rw [upd_ne (ne_of_none h hn)]; exact h
    · rw [upd_ne (ne_of_none h hn)]; exact h
  refine ⟨⟨?_, by simp [r.len], fun i o' h => ?_⟩, e⟩
  · rw [List.nodup_append]
    refine ⟨r.nd, by simp, fun a ha b hb => ?_⟩
    have : b = p := by simpa using hb
    subst this
    exact fun z => r.notin hn (z ▸ ha)
  · by_cases hi : i < hp.length
    · rw [List.getElem?_append_left hi] at h
      obtain ⟨a, u', h1, h2, h3⟩ := r.at_ i o' h
      exact ⟨a, u', e.ix h1, by rw [upd_ne (ne_of_none h2 hn)]; exact h2, h3.mono e⟩
    · have hl : i < (hp ++ [o]).length := (List.getElem?_eq_some_iff.mp h).1
      have hi2 : i = hp.length := by
        rw [List.length_append, List.length_singleton] at hl
        omega
      subst hi2
      rw [List.getElem?_append_right (Nat.le_refl _)] at h
      have : o = o' := by simpa using h
      subst this
      refine ⟨p, u, ?_, upd_same, q⟩
      rw [← r.len, List.getElem?_append_right (Nat.le_refl _)]
      simp
theorem s_raise (hm : ClMono cl) (T : TF S g X.prog X.w X.K X.mg X.base L n) (hr : Room 2 X.A) (hc : X.calm = true) (tk : Takes X W) {k f : Nat} (hk : S.excN[k]? = some (x, f)) (hg : Gl X x) (hdb : (x == ("__debug__" : Str)) = false)
    (ha : PE X y (tE X.K L g cl W a)) (hst : isSub y = false) : PS X (.Raise (some (.Call (.Name x p) [y] [] pos)) none rpos) (tS X.K L g cl W (.raise k f a)) := by
  obtain ⟨C, nm, h1, h2, h3, fI, fd, ps, h4, h5, h6, h7, h8⟩ := T.exc k x f hk
  have e1 : starEach [y] X.env = (false, eval y X.env) :: starEach [] X.env := by cases y <;> first | rfl | cases hst
  refine PS.imp (ps_raise hc tk (pmk_oex (ds := []) (dvs := []) h4 h5 h6 h8 hr h7 .nil passL hg h2 (pa_cons ha pa_nil e1) hdb e1 rfl)) fun D σ H ⟨ρ, hp, env, r, re, h⟩ => ?_
  unfold wS at h
  refine ⟨ρ, hp, env, r, re, wE_mono hm a env hp _ _ _ _ (fun d1 hp1 q1 => ?_) (fun c i hp1 z => KSt.kx re (Ext.refl _ _) z) h⟩
  intro ρ1 H1 v1 x1 r1 d1r
  refine ⟨show 1 ≤ 1000 by decide, fun o hn => ⟨o, v1, rfl, upd_same, fun dx nx ne => ⟨rfl, dx, [(nm, v1)], upd_same, ?_, ?_, ?_⟩⟩⟩
  · rw [upd_ne ne, upd_same]
  · rw [upd_ne ne] at nx
    exact nx
  · have nx1 : H1 dx = none := by
      rw [upd_ne ne] at nx
      exact nx
    have eH : upd (del (upd (upd (upd H1 o (exo o C none)) dx (exd dx [(nm, v1)])) o (exo o C (some dx))) o) dx (.xd [(nm, v1)]) = upd H1 dx (.xd [(nm, v1)]) := by
      funext b
      by_cases hb : b = dx
      · rw [hb, upd_same, upd_same]
      · rw [upd_ne hb, upd_ne hb]
        by_cases hb2 : b = o
        · rw [hb2, del_same, hn]
        · rw [del_ne hb2, upd_ne hb2, upd_ne hb, upd_ne hb2]
    rw [eH]
    have fr : RFs X.K L ρ1 H1 [(f, d1)] [(nm, v1)] := .cons ⟨by rw [T.att.1]; exact h3, d1r⟩ .nil
    obtain ⟨r2, x2⟩ := r1.push nx1 (RHO.xd (c := k) fr)
    refine q1 _ _ _ dx C (x1.trans x2) r2 (re.mono (x1.trans x2)) ?_ h1
    rw [← r1.len, List.getElem?_append_right (Nat.le_refl _)]
    simp
theorem s_tryK (hm : ClMono cl) (hs : X.stack = X.env :: X.outer) (hf : X.env.frame = some X.env.locals) (hex : X.ex = []) (tk : Takes X W) {b : Sts} {bs : List Bool} {i j : Nat} {m kn : Str} {R : Addr} {body : List Stmt} {np pos' p1 p2 p3 : Pos} (he : ExmAt X.K L R bs)
    (hN : X.N.Nodup) (hi : X.N[i]? = some m) (hln : X.env.scope.names.lookup m = some .local) (hj : X.N[j]? = some kn) (hlj : X.env.scope.names.lookup kn = some .local) (hij : i ≠ j) (hg : Gl X x) (hgm : X.mg x = some (.ref R)) (hdb : (x == ("__debug__" : Str)) = false)
    (hv : (m == ("__debug__" : Str)) = false) (hv2 : (m == ("__classdict__" : Str)) = false)
    (hb : ∀ (W' : WX) (pn : List (Addr × Obj)) (xe : Value → Shared → Prop), Takes (X.tr pn xe) W' → PassesOwn (model X.prog X.w) X.A X.env xe → PSs (X.tr pn xe) body (tSs X.K L g cl W' b)) :
    PS X (.Try body [.ExceptHandler (some (.Name x np)) (some m) [.Assign [.Name kn p1] (.Name m p2) p3] pos'] [] [] pos) (tS X.K L g cl W (.tryK b bs i j)) := by
  refine PS.imp (ps_try_keep (tb := fun W' => tSs X.K L g cl W' b) (c := .ref R) hs hf hN hi hln hj hlj hij hex ⟨hg, hdb, .inl hgm⟩ tk (fun a ob pn => ?_) hb) fun D σ H ⟨ρ, hp, env, r, re, h⟩ => ?_
  · refine PSs.imp (pss_cons (ps_set (X := X.suite a ((a, ob) :: pn)) hN hj (.inl hlj) (pe_var (X := X.suite a ((a, ob) :: pn)) hi (.inl hln) hv hv2) rfl (.inr hlj)) pss_nil) fun D σ H q => ?_
    cases z : σ[i]? with
    | none => rw [z] at q; exact q.elim
    | some ov =>
      cases ov with
      | none => rw [z] at q; exact q.elim
      | some v =>
        rw [z] at q
        exact ⟨v, z, q⟩
  · unfold wS at h
    refine ⟨ρ, hp, env, r, re, wSs_mono hm b env hp _ (KSt X.K L ρ H D (wKeep X.K (.ref R) i j W D)) ?_ h⟩
    refine ⟨fun _ _ q => q, fun _ _ q => q, fun _ _ q => q, fun _ _ q => q, fun c i' env' hp' q => ?_⟩
    intro ρ' H' σ' d C x1 r1 re1 h1 h2
    have q : (match bs[c]? with
      | some true => (KSt X.K L ρ H D W).nx ((env'.set j (some (.ref hp'.length))).set i none) (hp' ++ [.xob c hp'.length i'])
      | some false => (KSt X.K L ρ H D W).ex c i' env' hp'
      | none => False) := q
    cases z : bs[c]? with
    | none => rw [z] at q; exact q.elim
    | some bb =>
      rw [z] at q
      refine ⟨bb, (he c C bb h2 z).1, fun eb => ?_, fun eb => ?_⟩
      · subst eb
        refine ⟨C, d, rfl, rfl, fun o hn => ?_⟩
        have le : ρ'.length = hp'.length := r1.len
        have me : (ρ' ++ [o])[hp'.length]? = some o := by
          rw [← le, List.getElem?_append_right (Nat.le_refl _)]
          simp
        have di : (ρ' ++ [o])[i']? = some d := by
          rw [List.getElem?_append_left (List.getElem?_eq_some_iff.mp h1).1]
          exact h1
        obtain ⟨r2, x2⟩ := r1.pushN (o := .xob c hp'.length i') (u := kx o C d) hn (.xob me h2 di)
        exact q _ _ _ (x1.trans x2) r2 (((re1.mono x2).set j (.ref me)).setN i)
      · subst eb
        exact q ρ' H' σ' d C x1 r1 re1 h1 h2
end
end MI
set_option maxHeartbeats 4000000
/-! MI, part 17: the check is enough (expressions). -/
namespace MI
open PySem PySem.Spec PyProof.Rows L2

structure Good (S : Nm) (g : Glob) (L : Lay) (n : Nat) (X : Cx) (c : Ck) (W : WX) : Prop where
  nm : c.nm = S
  sc : c.sc = X.env.scope
  N : c.N = X.N
  nd : X.N.Nodup
  fn : c.top = true → ∀ x, X.fn x = true
  calm : X.calm = true
  gd : X.A.guards = some []
  room : Room (2 * n + 3) X.A
  tk : Takes X W
  po : PassesOwn (model X.prog X.w) X.A X.env X.xe
  kind : X.env.scope.kind = .function
  tf : TF S g X.prog X.w X.K X.mg X.base L n
  tp : c.top = true → X.ex = [] ∧ X.stack = X.env :: X.outer ∧ X.env.frame = some X.env.locals
section
variable {S : Nm} {g : Glob} {L : Lay} {n : Nat} {X : Cx} {c : Ck} {W : WX}
theorem Good.u200 (G : Good S g L n X c W) : X.A.units + 200 < cLine := by have := G.room.un; omega
theorem Good.u65 (G : Good S g L n X c W) : X.A.units + 65 < cLine := by have := G.room.un; omega
theorem Good.hr (G : Good S g L n X c W) : Room (2 * n + 2) X.A := G.room.mono (by omega)
theorem Good.blk (G : Good S g L n X c W) {scope : Scope} (hk : scope.kind = .function) (s : Shared) (H : Hp) (C : Addr) (ce : List (Str × Addr)) (fp : List Addr) :
    Good S g L n (X.blk s H scope (compEnvC scope ce C X.env) fp) (c.inner scope) (fun _ _ _ _ => False) where
  nm := G.nm
  sc := by rw [show (c.inner scope).sc = relS scope c.sc from rfl, G.sc]; rfl
  N := G.N
  nd := G.nd
  fn := fun h => by cases h
  calm := G.calm
  gd := G.gd
  room := G.room
  tk := fun u s' ⟨_, _, _, _, _, _, _, _, _, _, _, _, _, _, _, _, w⟩ => w
  po := PassesOwn.never
  kind := by
    show (relS scope X.env.scope).kind = .function
    exact hk
  tf := G.tf
  tp := fun h => by cases h
theorem Good.tr (G : Good S g L n X c W) {W' : WX} {pn : List (Addr × Obj)} {xe : Value → Shared → Prop} (tk : Takes (X.tr pn xe) W') (po : PassesOwn (model X.prog X.w) X.A X.env xe) : Good S g L n (X.tr pn xe) c W' :=
  ⟨G.nm, G.sc, G.N, G.nd, G.fn, G.calm, G.gd, G.room, tk, po, G.kind, G.tf, G.tp⟩
theorem Good.loc (G : Good S g L n X c W) {x : Str} (h : c.loc x = true) : Loc X.env.scope x ∧ (X.fn x = true ∨ X.env.scope.names.lookup x = some .local) := by
  unfold Ck.loc at h
  rw [G.sc] at h
  split at h
  · rename_i e
    exact ⟨.inl e, .inr e⟩
  · rename_i e
    exact ⟨.inr e, .inl (G.fn h x)⟩
  · cases h
theorem Good.vis (G : Good S g L n X c W) {x : Str} (h : c.vis x = true) : Vis X.env.scope x ∧ (x == ("__debug__" : Str)) = false ∧ (x == ("__classdict__" : Str)) = false := by
  unfold Ck.vis at h
  rw [G.sc] at h
  simp only [Bool.and_eq_true, Bool.not_eq_true'] at h
  obtain ⟨⟨h1, h2⟩, h3⟩ := h
  refine ⟨?_, h2, h3⟩
  split at h1
  · rename_i e; exact .inl e
  · rename_i e; exact .inr (.inl e)
  · rename_i e; exact .inr (.inr e)
  · cases h1
theorem Good.glob (G : Good S g L n X c W) {x : Str} (h : c.glob x = true) : Gl X x ∧ (x == ("__debug__" : Str)) = false ∧ x ≠ "__name__" ∧ (x != ("super" : Str)) = true := by
  unfold Ck.glob at h
  rw [G.sc] at h
  simp only [Bool.and_eq_true, Bool.not_eq_true', decide_eq_true_eq] at h
  obtain ⟨⟨⟨h1, h2⟩, h3⟩, h4⟩ := h
  exact ⟨h1, h2, h3, h4⟩
theorem Good.blt (G : Good S g L n X c W) {x : Str} (h : c.nm.blts.contains x = true) : X.mg x = none := G.tf.blt x (by rw [← G.nm]; simpa using h)
/-- super() is no base of the text's -/
theorem base_of {e : Ex} {x : Expr} (G : Good S g L n X c W) (h : chkE c e x = true) (nm : Str) : attributeBase x nm X.env (eval x X.env) = eval x X.env := by
  refine ab_ok fun id p pos hx => ?_
  subst hx
  cases e <;> first
    | cases h
    | skip
  all_goals
    first
      | (rename_i d; cases d <;> cases h; done)
      | (unfold chkE at h
         simp only [Bool.and_eq_true] at h
         exact (G.glob h.1.2).2.2.2)
      | (unfold chkE at h
         simp only [Bool.and_eq_true] at h
         exact (G.glob h.2).2.2.2)
end

structure EOk (X : Cx) (L : Lay) (g : Glob) (cl : Cl) (W : WX) (e : Ex) (x : Expr) : Prop where
  pe : PE X x (tE X.K L g cl W e)
  pt : PT X x (tT X.K L g cl W e)
  pw : isBoolX x = true → PW X x (tT X.K L g cl W e)
theorem EOk.of {X : Cx} {L : Lay} {g : Glob} {cl : Cl} {W : WX} {e : Ex} {x : Expr} (hm : ClMono cl) (h : PE X x (tE X.K L g cl W e)) (ht : tstX x = false) : EOk X L g cl W e x :=
  ⟨h, t_plain hm h (isTrue_of ht), fun hb => by cases x <;> first | (cases hb; done) | (cases ht; done)⟩

section
variable {S : Nm} {g : Glob} {L : Lay} {n : Nat}
mutual
theorem okE : ∀ (e : Ex) {X : Cx} {c : Ck} {W : WX} {x : Expr}, Good S g L n X c W → chkE c e x = true → EOk X L g (wCall g n) W e x
  | .var i, X, c, W, x, G, h => by
    refine EOk.of (wCall_mono g n) ?_ (chk_tst h rfl)
    unfold chkE at h
    split at h
    · simp only [Bool.and_eq_true, decide_eq_true_eq] at h
      obtain ⟨a, b, d⟩ := G.vis h.2
      exact s_var (by rw [← G.N]; exact h.1) a b d
    · cases h
  | .lit d, X, c, W, x, G, h => by
    refine EOk.of (wCall_mono g n) ?_ (chk_tst h rfl)
    unfold chkE at h
    split at h
    · exact s_non
    · have h := beq_iff_eq.mp h
      subst h
      exact s_bl
    · have h := of_decide_eq_true h
      subst h
      exact s_int
    · have h := of_decide_eq_true h
      subst h
      exact s_str
    · cases h
  | .glob k, X, c, W, x, G, h => by
    refine EOk.of (wCall_mono g n) ?_ (chk_tst h rfl)
    unfold chkE at h
    split at h
    · simp only [Bool.and_eq_true, decide_eq_true_eq] at h
      obtain ⟨a, b, _⟩ := G.glob h.2
      obtain ⟨d, u, v, h1, h2, h3, h4⟩ := G.tf.con k _ (by rw [← G.nm]; exact h.1)
      exact s_glob a h2 h3 h1 h4 b
    · cases h
  | .bin o a b, X, c, W, x, G, h => by
    refine EOk.of (wCall_mono g n) ?_ (chk_tst h rfl)
    unfold chkE at h
    split at h
    · simp only [Bool.and_eq_true, decide_eq_true_eq] at h
      obtain ⟨⟨rfl, h1⟩, h2⟩ := h
      exact s_bin (wCall_mono g n) (okE a G h1).pe (okE b G h2).pe
    · cases h
  | .neg a, X, c, W, x, G, h => by
    refine EOk.of (wCall_mono g n) ?_ (chk_tst h rfl)
    unfold chkE at h
    split at h
    · exact s_neg (wCall_mono g n) (okE a G h).pe
    · cases h
  | .cmp o a b, X, c, W, x, G, h => by
    unfold chkE at h
    split at h
    · simp only [Bool.and_eq_true, decide_eq_true_eq] at h
      obtain ⟨⟨rfl, h1⟩, h2⟩ := h
      have pa := (okE a G h1).pe
      have pb := (okE b G h2).pe
      exact ⟨s_cmp (wCall_mono g n) G.u65 pa pb (marks_of (chk_sub h2)), t_cmp (wCall_mono g n) G.u65 pa pb (marks_of (chk_sub h2)), fun z => by cases z⟩
    · cases h
  | .cmp2 o p a b d, X, c, W, x, G, h => by
    unfold chkE at h
    split at h
    · simp only [Bool.and_eq_true, decide_eq_true_eq] at h
      obtain ⟨⟨⟨⟨rfl, rfl⟩, h1⟩, h2⟩, h3⟩ := h
      have pa := (okE a G h1).pe
      have pb := (okE b G h2).pe
      have pd := (okE d G h3).pe
      have hmk : ∀ {y z : Expr}, isSub z = false → lastMarks [copOf o, copOf p] [y, z] = false := fun hz => marks_of hz
      exact ⟨s_cmp2 (wCall_mono g n) G.u65 pa pb pd (hmk (chk_sub h3)), t_cmp2 (wCall_mono g n) G.u65 pa pb pd (hmk (chk_sub h3)), fun z => by cases z⟩
    · cases h
  | .and a b, X, c, W, x, G, h => by
    unfold chkE at h
    split at h
    · rename_i y z rest p
      rw [Bool.and_eq_true] at h
      obtain ⟨h1, h2⟩ := h
      have oa := okE a G h1
      cases rest with
      | nil =>
        have ob := okE b G h2
        have w := t_and (pos := p) (wCall_mono g n) oa.pt (PW.imp (pw_and1 ob.pt) fun _ _ _ q => q)
        exact ⟨s_and (wCall_mono g n) oa.pe (e_bool1 ob.pe), w.pt, fun _ => w⟩
      | cons z2 rest =>
        have ob := okE b G h2
        have w := t_and (pos := p) (wCall_mono g n) oa.pt (ob.pw rfl)
        exact ⟨s_and (wCall_mono g n) oa.pe ob.pe, w.pt, fun _ => w⟩
    · cases h
  | .or a b, X, c, W, x, G, h => by
    unfold chkE at h
    split at h
    · rename_i y z rest p
      rw [Bool.and_eq_true] at h
      obtain ⟨h1, h2⟩ := h
      have oa := okE a G h1
      cases rest with
      | nil =>
        have ob := okE b G h2
        have w := t_or (pos := p) (wCall_mono g n) oa.pt (PW.imp (pw_or1 ob.pt) fun _ _ _ q => q)
        exact ⟨s_or (wCall_mono g n) oa.pe (e_bool1 ob.pe), w.pt, fun _ => w⟩
      | cons z2 rest =>
        have ob := okE b G h2
        have w := t_or (pos := p) (wCall_mono g n) oa.pt (ob.pw rfl)
        exact ⟨s_or (wCall_mono g n) oa.pe ob.pe, w.pt, fun _ => w⟩
    · cases h
  | .not a, X, c, W, x, G, h => by
    unfold chkE at h
    split at h
    · have oa := okE a G h
      exact ⟨s_not (wCall_mono g n) oa.pe, t_not oa.pt (wCall_mono g n), fun z => by cases z⟩
    · cases h
  | .ite t a b, X, c, W, x, G, h => by
    unfold chkE at h
    split at h
    · simp only [Bool.and_eq_true] at h
      obtain ⟨⟨h1, h2⟩, h3⟩ := h
      have ot := okE t G h1
      have oa := okE a G h2
      have ob := okE b G h3
      exact ⟨s_ite (wCall_mono g n) ot.pt oa.pe ob.pe, t_ite (wCall_mono g n) ot.pt oa.pt ob.pt, fun z => by cases z⟩
    · cases h
  | .tup es, X, c, W, x, G, h => by
    refine EOk.of (wCall_mono g n) ?_ (chk_tst h rfl)
    unfold chkE at h
    split at h
    · simp only [Bool.and_eq_true, decide_eq_true_eq] at h
      exact s_tup (wCall_mono g n) (okEs es G h.1) (by rw [chks_len h.1]; exact h.2)
    · cases h
  | .lst es, X, c, W, x, G, h => by
    refine EOk.of (wCall_mono g n) ?_ (chk_tst h rfl)
    unfold chkE at h
    split at h
    · simp only [Bool.and_eq_true, decide_eq_true_eq] at h
      exact s_lst (wCall_mono g n) (okEs es G h.1) (by rw [chks_len h.1]; exact h.2)
    · cases h
  | .dic es, X, c, W, x, G, h => by
    refine EOk.of (wCall_mono g n) ?_ (chk_tst h rfl)
    unfold chkE at h
    split at h
    · rename_i ks vs p
      simp only [Bool.and_eq_true, decide_eq_true_eq] at h
      cases ks with
      | nil =>
        cases es with
        | nil =>
          cases vs with
          | nil => exact s_dic0
          | cons _ _ => cases h.1
        | cons e r => cases r <;> cases h.1
      | cons k ks =>
        obtain ⟨f1, f2, f3, f4⟩ := dis_form h.1
        exact s_dic (wCall_mono g n) (okDi es G h.1) f1 f2 f3 h.2 f4 (by intro z; cases z)
    · cases h
  | .bty b, X, c, W, x, G, h => by
    refine EOk.of (wCall_mono g n) ?_ (chk_tst h rfl)
    unfold chkE at h
    split at h
    · simp only [Bool.and_eq_true, decide_eq_true_eq] at h
      obtain ⟨⟨⟨rfl, h2⟩, h3⟩, h4⟩ := h
      obtain ⟨ga, gb, gn, _⟩ := G.glob h3
      exact s_bty (by simpa using h2) ga (G.blt h4) gn gb
    · cases h
  | .mmd mx a d, X, c, W, x, G, h => by
    refine EOk.of (wCall_mono g n) ?_ (chk_tst h rfl)
    unfold chkE at h
    split at h
    · simp only [Bool.and_eq_true, decide_eq_true_eq] at h
      obtain ⟨⟨⟨⟨⟨rfl, rfl⟩, h3⟩, h4⟩, h5⟩, h6⟩ := h
      obtain ⟨ga, gb, gn, _⟩ := G.glob h3
      exact s_mmd (wCall_mono g n) G.calm G.u200 ga (G.blt h4) (okE a G h5).pe (okE d G h6).pe (chk_sub h5)
    · cases h
  | .ix a i, X, c, W, x, G, h => by
    refine EOk.of (wCall_mono g n) ?_ (chk_tst h rfl)
    unfold chkE at h
    split at h
    · rw [Bool.and_eq_true] at h
      exact s_ix (wCall_mono g n) G.u65 (okE a G h.1).pe (okE i G h.2).pe (plain_of (chk_sub h.2))
    · cases h
  | .sl a lo hi, X, c, W, x, G, h => by
    refine EOk.of (wCall_mono g n) ?_ (chk_tst h rfl)
    unfold chkE at h
    split at h
    · simp only [Bool.and_eq_true] at h
      exact s_sl (wCall_mono g n) (okE a G h.1.1).pe ((okEo lo).1 G h.1.2) ((okEo hi).1 G h.2)
    · cases h
  | .fld a f, X, c, W, x, G, h => by
    refine EOk.of (wCall_mono g n) ?_ (chk_tst h rfl)
    unfold chkE at h
    split at h
    · simp only [Bool.and_eq_true, decide_eq_true_eq] at h
      exact s_fld (wCall_mono g n) G.tf (by rw [← G.nm]; exact h.1) (okE a G h.2).pe (base_of G h.2 _)
    · cases h
  | .call f es, X, c, W, x, G, h => by
    refine EOk.of (wCall_mono g n) ?_ (chk_tst h rfl)
    unfold chkE at h
    split at h
    · simp only [Bool.and_eq_true, decide_eq_true_eq] at h
      obtain ⟨a, b, _⟩ := G.glob h.1.2
      exact s_call G.tf G.hr G.gd G.tk (by rw [← G.nm]; exact h.1.1) a b (okEs es G h.2) (shape_of (chks_sub h.2)) fun z => by cases z
    · simp only [Bool.and_eq_true, decide_eq_true_eq] at h
      obtain ⟨a, b, _⟩ := G.glob h.1.2
      cases es with
      | nil => exact s_call G.tf G.hr G.gd G.tk (by rw [← G.nm]; exact h.1.1) a b sa_nil (.inl rfl) fun _ => rfl
      | cons _ _ => cases h.2
    · cases h
  | .make k es, X, c, W, x, G, h => by
    refine EOk.of (wCall_mono g n) ?_ (chk_tst h rfl)
    unfold chkE at h
    split at h
    · simp only [Bool.and_eq_true, decide_eq_true_eq] at h
      obtain ⟨a, b, _⟩ := G.glob h.1.2
      have hk := h.1.1
      rw [G.nm] at hk
      exact s_make G.tf G.room G.gd G.tk hk a b (G.tf.ini _ _ hk) (okEs es G h.2) (shape_of (chks_sub h.2)) fun z => by cases z
    · simp only [Bool.and_eq_true, decide_eq_true_eq] at h
      obtain ⟨a, b, _⟩ := G.glob h.1.2
      have hk := h.1.1
      rw [G.nm] at hk
      cases es with
      | nil => exact s_make G.tf G.room G.gd G.tk hk a b (G.tf.ini _ _ hk) sa_nil (.inl rfl) fun _ => rfl
      | cons _ _ => cases h.2
    · cases h
  | .meth a m es, X, c, W, x, G, h => by
    refine EOk.of (wCall_mono g n) ?_ (chk_tst h rfl)
    unfold chkE at h
    split at h
    · simp only [Bool.and_eq_true, decide_eq_true_eq] at h
      obtain ⟨⟨⟨⟨h1, h2⟩, h3⟩, h4⟩, h5⟩ := h
      exact s_meth G.tf G.hr G.gd G.tk (by rw [← G.nm]; exact h1) (okE a G h2).pe (okEs es G h3) (shape_of (chks_sub h3)) (fun z => by cases z) (base_of G h2 _) h5 (form_of (chks_sub h3) h4)
    · simp only [Bool.and_eq_true, decide_eq_true_eq] at h
      obtain ⟨⟨⟨h1, h2⟩, h3⟩, h5⟩ := h
      cases es with
      | nil => exact s_meth G.tf G.hr G.gd G.tk (by rw [← G.nm]; exact h1) (okE a G h2).pe sa_nil (.inl rfl) (fun _ => rfl) (base_of G h2 _) h5 rfl
      | cons _ _ => cases h3
    · cases h
  | .blt b es, X, c, W, x, G, h => by
    refine EOk.of (wCall_mono g n) ?_ (chk_tst h rfl)
    unfold chkE at h
    split at h
    · simp only [Bool.and_eq_true, decide_eq_true_eq] at h
      obtain ⟨⟨⟨⟨rfl, h2⟩, h3⟩, h4⟩, h5⟩ := h
      obtain ⟨ga, gb, _⟩ := G.glob h2
      have hs := chks_sub h4
      exact s_blt (wCall_mono g n) G.calm G.gd G.u200 ga (G.blt h3) (okEs es G h4) (star_of (hs _ List.mem_cons_self)) (any_of fun y hy => hs y (List.mem_cons_of_mem _ hy))
    · cases h
  | .bm m a es, X, c, W, x, G, h => by
    refine EOk.of (wCall_mono g n) ?_ (chk_tst h rfl)
    unfold chkE at h
    split at h
    · simp only [Bool.and_eq_true, decide_eq_true_eq] at h
      obtain ⟨⟨⟨⟨rfl, h2⟩, h3⟩, h4⟩, h5⟩ := h
      have hs := chks_sub h3
      exact s_bm (wCall_mono g n) G.calm G.u65 (okE a G h2).pe (okEs es G h3) (base_of G h2 _) (few_of hs (by omega)) h5 (star_of (hs _ List.mem_cons_self)) (any_of fun y hy => hs y (List.mem_cons_of_mem _ hy))
    · simp only [Bool.and_eq_true, decide_eq_true_eq] at h
      obtain ⟨⟨⟨rfl, h2⟩, h3⟩, h5⟩ := h
      cases es with
      | nil => exact s_bm0 (wCall_mono g n) G.calm G.u65 (okE a G h2).pe (base_of G h2 _) h5
      | cons _ _ => cases h3
    · cases h
  | .lc own t it d e', X, c, W, x, G, h => by
    refine EOk.of (wCall_mono g n) ?_ (chk_tst h rfl)
    unfold chkE at h
    split at h
    · rename_i elt tg iter ifs scope pos
      simp only [Bool.and_eq_true] at h
      obtain ⟨⟨⟨⟨⟨⟨h1, h2⟩, h3⟩, h4⟩, h5⟩, h6⟩, h7⟩ := h
      rw [G.N, G.sc] at h1
      have ok := blkOk_by h1
      have how : (ownOf X.N own).map (·.2) = own := by
        unfold ownOf
        rw [List.map_map]
        exact List.map_id' own
      have G2 := fun s H C ce fp => G.blk ok.kind s H C ce fp
      exact s_lc (wCall_mono g n) how h3 G.calm G.nd (okIt it G h4 h5).1 ok (fun s H C ce fp => okTg t (G2 s H C ce fp) h2) (fun s H C ce fp => (okEo d).2 (G2 s H C ce fp) h6) (fun s H C ce fp => (okE e' (G2 s H C ce fp) h7).pe) (okIt it G h4 h5).2
    · cases h
  | .dc own t it d k e', X, c, W, x, G, h => by
    refine EOk.of (wCall_mono g n) ?_ (chk_tst h rfl)
    unfold chkE at h
    split at h
    · rename_i kx elt tg iter ifs scope pos
      simp only [Bool.and_eq_true] at h
      obtain ⟨⟨⟨⟨⟨⟨⟨h1, h2⟩, h3⟩, h4⟩, h5⟩, h6⟩, h7⟩, h8⟩ := h
      rw [G.N, G.sc] at h1
      have ok := blkOk_by h1
      have how : (ownOf X.N own).map (·.2) = own := by
        unfold ownOf
        rw [List.map_map]
        exact List.map_id' own
      have G2 := fun s H C ce fp => G.blk ok.kind s H C ce fp
      exact s_dc (wCall_mono g n) how h3 G.calm G.nd (okIt it G h4 h5).1 ok (fun s H C ce fp => okTg t (G2 s H C ce fp) h2) (fun s H C ce fp => (okEo d).2 (G2 s H C ce fp) h6) (fun s H C ce fp => (okE k (G2 s H C ce fp) h7).pe) (fun s H C ce fp => (okE e' (G2 s H C ce fp) h8).pe) (okIt it G h4 h5).2
    · cases h
  | .lc2 own own1 t it t1 a e', X, c, W, x, G, h => by
    refine EOk.of (wCall_mono g n) ?_ (chk_tst h rfl)
    unfold chkE at h
    split at h
    · rename_i elt tg iter tg1 iter1 scope pos
      simp only [Bool.and_eq_true] at h
      obtain ⟨⟨⟨⟨⟨⟨⟨⟨⟨h1, h2⟩, h3⟩, h4⟩, h5⟩, h6⟩, h7⟩, h8⟩, h9⟩, h10⟩ := h
      rw [G.N, G.sc] at h1
      have ok := blkOk_by h1
      have how : (ownOf X.N own).map (·.2) = own := by
        unfold ownOf
        rw [List.map_map]
        exact List.map_id' own
      have G2 := fun s H C ce fp => G.blk ok.kind s H C ce fp
      have hin : ∀ i ∈ own1, i ∈ own := fun i hi => by simpa using List.all_eq_true.mp h8 i hi
      exact s_lc2 (wCall_mono g n) how hin h3 h7 G.calm G.nd (okIt it G h4 h5).1 ok (fun s H C ce fp => okTg t (G2 s H C ce fp) h2) (fun s H C ce fp => okTg t1 (G2 s H C ce fp) h6) (fun s H C ce fp => (okE a (G2 s H C ce fp) h9).pe) (fun s H C ce fp => (okE e' (G2 s H C ce fp) h10).pe) (okIt it G h4 h5).2 (fun env => fold_of (chk_sub h9))
    · cases h
  | .lenD a m, X, c, W, x, G, h => by
    refine EOk.of (wCall_mono g n) ?_ (chk_tst h rfl)
    unfold chkE at h
    split at h
    · simp only [Bool.and_eq_true, decide_eq_true_eq] at h
      obtain ⟨⟨⟨⟨rfl, h2⟩, h3⟩, h4⟩, h5⟩ := h
      obtain ⟨ga, gb, gn, _⟩ := G.glob h2
      exact s_lenD G.tf G.room G.calm G.gd G.gd G.u200 (by rw [← G.nm]; exact h4) ga (G.blt h3) (okE a G h5).pe (chk_sub h5)
    · cases h
  | .isx a bs, X, c, W, x, G, h => by
    refine EOk.of (wCall_mono g n) ?_ (chk_tst h rfl)
    unfold chkE at h
    split at h
    · simp only [Bool.and_eq_true, decide_eq_true_eq] at h
      obtain ⟨⟨⟨⟨⟨rfl, h2⟩, h3⟩, h4⟩, h5⟩, h6⟩ := h
      obtain ⟨ga, _⟩ := G.glob h2
      obtain ⟨gz, gzd, _⟩ := G.glob h5
      obtain ⟨R, r1, r2⟩ := G.tf.exm _ (show _ ∈ S.exm by rw [← G.nm]; simpa using h6)
      exact s_isx (wCall_mono g n) G.tf r2 ga (G.blt h3) gz r1 gzd (okE a G h4).pe (chk_sub h4)
    · simp only [Bool.and_eq_true, decide_eq_true_eq, List.any_eq_true, beq_iff_eq] at h
      obtain ⟨⟨⟨⟨⟨⟨rfl, h2⟩, h3⟩, h4⟩, h5⟩, h6⟩, ⟨u, hu, rfl, v, hv, rfl, hbs⟩⟩ := h
      obtain ⟨ga, _⟩ := G.glob h2
      obtain ⟨gz, gzd, _⟩ := G.glob h5
      obtain ⟨gz2, gzd2, _⟩ := G.glob h6
      obtain ⟨R, r1, r2⟩ := G.tf.exm u (by rw [← G.nm]; exact hu)
      obtain ⟨R2, q1, q2⟩ := G.tf.exm v (by rw [← G.nm]; exact hv)
      exact s_isx2 (wCall_mono g n) G.tf r2 q2 hbs ga (G.blt h3) gz r1 gzd gz2 q1 gzd2 (okE a G h4).pe (chk_sub h4)
    · cases h
  | .xfd a f, X, c, W, x, G, h => by
    refine EOk.of (wCall_mono g n) ?_ (chk_tst h rfl)
    unfold chkE at h
    split at h
    · simp only [Bool.and_eq_true, decide_eq_true_eq] at h
      exact s_xfd (wCall_mono g n) G.tf (by rw [← G.nm]; exact h.1.1) (okE a G h.2).pe (base_of G h.2 _)
    · cases h
  | .callK _ _ _, X, c, W, x, G, h => by cases h
  | .makeK _ _ _, X, c, W, x, G, h => by cases h
  | .methK a m es pm, X, c, W, x, G, h => by
    refine EOk.of (wCall_mono g n) ?_ (chk_tst h rfl)
    unfold chkE at h
    split at h
    · rename_i o nm p xs k ks q
      simp only [Bool.and_eq_true, decide_eq_true_eq, List.any_eq_true] at h
      obtain ⟨⟨⟨⟨⟨⟨h1, h2⟩, h3⟩, h4⟩, ⟨e, he, ⟨⟨e1, e2⟩, e3⟩, e4⟩⟩, h6⟩, h7⟩ := h
      obtain ⟨pa, pk⟩ := okEk es G h3
      obtain ⟨s1, s2⟩ := chkk_sub h3
      obtain ⟨k1, k2, k3, k4⟩ := kws_form (pos := q) (env := X.env) h4
      obtain ⟨em, en, ek, ep⟩ := e
      simp only at e1 e2 e3 e4
      subst e1 e2 e3
      exact s_methK G.tf G.hr G.gd G.tk (by rw [← G.nm]; exact h1) (okE a G h2).pe pa pk (shape_of s1) (base_of G h2 _) h7 (kform_of s1 k1 h6) s2 k1 k2 k3 k4 (by rw [← G.nm]; exact he) (perm_inl e4)
    · cases h
theorem okEs : ∀ (es : Exs) {X : Cx} {c : Ck} {W : WX} {xs : List Expr}, Good S g L n X c W → chkEs c es xs = true → PA X xs (tEs X.K L g (wCall g n) W es)
  | .nil, X, c, W, xs, G, h => by
    cases xs with
    | nil => exact sa_nil
    | cons _ _ => cases h
  | .cons e r, X, c, W, xs, G, h => by
    cases xs with
    | nil => cases h
    | cons y ys =>
      have h : (chkE c e y && chkEs c r ys) = true := h
      rw [Bool.and_eq_true] at h
      exact sa_cons (wCall_mono g n) (okE e G h.1).pe (okEs r G h.2) (star_of (chk_sub h.1))
theorem okEk : ∀ (es : Exs) {X : Cx} {c : Ck} {W : WX} {xs : List Expr} {ks : List Keyword}, Good S g L n X c W → chkEk c es xs ks = true → PA X xs (tEs X.K L g (wCall g n) W (takeX xs.length es)) ∧ PK X ks (tEs X.K L g (wCall g n) W (dropX xs.length es))
  | .nil, X, c, W, xs, ks, G, h => by
    unfold chkEk at h
    split at h
    · exact ⟨sa_nil, sk_nil⟩
    · cases h
  | .cons e r, X, c, W, xs, ks, G, h => by
    cases xs with
    | nil =>
      cases ks with
      | nil => cases h
      | cons k ks =>
        have h : (chkE c e k.value && chkEk c r [] ks) = true := h
        rw [Bool.and_eq_true] at h
        have q := (okEk r G h.2).2
        refine ⟨sa_nil, sk_cons (wCall_mono g n) (okE e G h.1).pe ?_⟩
        cases r <;> exact q
    | cons y ys =>
      have h : (chkE c e y && chkEk c r ys ks) = true := h
      rw [Bool.and_eq_true] at h
      have q := okEk r G h.2
      exact ⟨sa_cons (wCall_mono g n) (okE e G h.1).pe q.1 (star_of (chk_sub h.1)), q.2⟩
theorem okDi : ∀ (es : Exs) {X : Cx} {c : Ck} {W : WX} {ks : List (Option Expr)} {vs : List Expr} {pos : Pos}, Good S g L n X c W → chkDi c es ks vs = true → PPs X pos ks vs (trsOf X.K L g (wCall g n) W es)
  | .nil, X, c, W, ks, vs, pos, G, h => by
    unfold chkDi at h
    split at h
    · exact pps_nil
    · cases h
  | .cons e .nil, X, c, W, ks, vs, pos, G, h => by cases h
  | .cons e (.cons e' r), X, c, W, ks, vs, pos, G, h => by
    unfold chkDi at h
    simp only at h
    split at h
    · simp only [Bool.and_eq_true] at h
      exact pps_cons (okE e G h.1.1).pe (okE e' G h.1.2).pe (okDi r G h.2)
    · cases h
theorem okEo : ∀ (eo : Exo), (∀ {X : Cx} {c : Ck} {W : WX} {x : Option Expr}, Good S g L n X c W → chkEo c eo x = true → PO X x (tEo X.K L g (wCall g n) W eo)) ∧
    (∀ {X : Cx} {c : Ck} {x : List Expr}, Good S g L n X c (fun _ _ _ _ => False) → chkIf c eo x = true → PTs X x (ttOf X.K L g (wCall g n) eo))
  | .no => by
    refine ⟨fun {X c W x} G h => ?_, fun {X c x} G h => ?_⟩
    · cases x with
      | none => exact so_no
      | some _ => cases h
    · cases x with
      | nil => exact pts_nil
      | cons _ _ => cases h
  | .so e => by
    refine ⟨fun {X c W x} G h => ?_, fun {X c x} G h => ?_⟩
    · cases x with
      | none => cases h
      | some y => exact so_so (wCall_mono g n) (okE e G h).pe
    · cases x with
      | nil => cases h
      | cons y ys =>
        cases ys with
        | nil => exact pts_one (okE e G h).pt
        | cons _ _ => cases h
theorem okTg : ∀ (t : Tg) {X : Cx} {c : Ck} {W : WX} {x : Expr}, Good S g L n X c W → chkTg c t x = true → PG X x (tG X.K L g (wCall g n) t)
  | .nm i, X, c, W, x, G, h => by
    unfold chkTg at h
    split at h
    · simp only [Bool.and_eq_true, decide_eq_true_eq] at h
      obtain ⟨a, b⟩ := G.loc h.2
      exact g_nm G.nd (by rw [← G.N]; exact h.1) a b
    · cases h
  | .tp ts, X, c, W, x, G, h => by
    unfold chkTg at h
    split at h
    · exact g_tp G.calm (okTgs ts G h) (tgs_form h).1 (tgs_form h).2
    · cases h
  | .at o f, X, c, W, x, G, h => by
    unfold chkTg at h
    split at h
    · simp only [Bool.and_eq_true, decide_eq_true_eq] at h
      exact g_at (wCall_mono g n) G.tf (by rw [← G.nm]; exact h.1) (okE o G h.2).pe
    · cases h
  | .sb o i, X, c, W, x, G, h => by
    unfold chkTg at h
    split at h
    · rw [Bool.and_eq_true] at h
      exact g_sb (wCall_mono g n) G.u65 (okE o G h.1).pe (okE i G h.2).pe (chk_sub h.2)
    · cases h
theorem okTgs : ∀ (ts : Tgs) {X : Cx} {c : Ck} {W : WX} {xs : List Expr}, Good S g L n X c W → chkTgs c ts xs = true → PGs X xs (tGs X.K L g (wCall g n) ts)
  | .nil, X, c, W, xs, G, h => by
    cases xs with
    | nil => exact gs_nil
    | cons _ _ => cases h
  | .cons t r, X, c, W, xs, G, h => by
    cases xs with
    | nil => cases h
    | cons y ys =>
      have h : (chkTg c t y && chkTgs c r ys) = true := h
      rw [Bool.and_eq_true] at h
      exact gs_cons (wCall_mono g n) (okTg t G h.1) (okTgs r G h.2) (tg_ae h.1)
theorem okIt : ∀ (it : Ix) {X : Cx} {c : Ck} {W : WX} {tg x : Expr}, Good S g L n X c W → itTg it tg = true → chkIt c it x = true → PI X tg x (tI X.K L g (wCall g n) W X.H_0 it) ∧ ∀ z, foldedSetIterable x X.env z = pure z
  | .vl e, X, c, W, tg, x, G, ht, h => by
    have h : chkE c e x = true := h
    exact ⟨i_vl (wCall_mono g n) (okE e G h).pe, fold_of (chk_sub h)⟩
  | .rng1 e, X, c, W, tg, x, G, ht, h => by
    unfold chkIt at h
    split at h
    · simp only [Bool.and_eq_true, decide_eq_true_eq] at h
      obtain ⟨⟨⟨rfl, h2⟩, h3⟩, h4⟩ := h
      obtain ⟨ga, gb, _⟩ := G.glob h2
      exact ⟨i_rng1 (wCall_mono g n) ga (G.blt h3) (okE e G h4).pe (star_of (chk_sub h4)) rfl, fun _ => rfl⟩
    · cases h
  | .rng2 a b, X, c, W, tg, x, G, ht, h => by
    unfold chkIt at h
    split at h
    · simp only [Bool.and_eq_true, decide_eq_true_eq] at h
      obtain ⟨⟨⟨⟨rfl, h2⟩, h3⟩, h4⟩, h5⟩ := h
      obtain ⟨ga, gb, _⟩ := G.glob h2
      have e2 := star_of (xs := []) (env := X.env) (chk_sub h5)
      exact ⟨i_rng2 (wCall_mono g n) ga (G.blt h3) (okE a G h4).pe (okE b G h5).pe ((star_of (chk_sub h4)).trans (by rw [e2]; rfl)) e2 rfl, fun _ => rfl⟩
    · cases h
  | .enum e, X, c, W, tg, x, G, ht, h => by
    unfold chkIt at h
    split at h
    · simp only [Bool.and_eq_true, decide_eq_true_eq] at h
      obtain ⟨⟨⟨rfl, h2⟩, h3⟩, h4⟩ := h
      obtain ⟨ga, gb, _⟩ := G.glob h2
      cases tg <;> first | cases ht | skip
      exact ⟨i_enum (wCall_mono g n) ga (G.blt h3) (okE e G h4).pe (star_of (chk_sub h4)) rfl, fun _ => rfl⟩
    · cases h
  | .zip2 a b, X, c, W, tg, x, G, ht, h => by
    unfold chkIt at h
    split at h
    · simp only [Bool.and_eq_true, decide_eq_true_eq] at h
      obtain ⟨⟨⟨⟨rfl, h2⟩, h3⟩, h4⟩, h5⟩ := h
      obtain ⟨ga, gb, _⟩ := G.glob h2
      cases tg <;> first | cases ht | skip
      have e2 := star_of (xs := []) (env := X.env) (chk_sub h5)
      exact ⟨i_zip (wCall_mono g n) ga (G.blt h3) (okE a G h4).pe (okE b G h5).pe (star_of (chk_sub h4)) e2 rfl (by rw [e2]; rfl), fun _ => rfl⟩
    · cases h
  | .items e, X, c, W, tg, x, G, ht, h => by
    unfold chkIt at h
    split at h
    · simp only [Bool.and_eq_true, decide_eq_true_eq] at h
      obtain ⟨⟨rfl, h2⟩, h3⟩ := h
      cases tg <;> first | cases ht | skip
      exact ⟨i_items (wCall_mono g n) (okE e G h2).pe (base_of G h2 _) h3, fun _ => rfl⟩
    · cases h
  | .vals e, X, c, W, tg, x, G, ht, h => by
    unfold chkIt at h
    split at h
    · simp only [Bool.and_eq_true, decide_eq_true_eq] at h
      obtain ⟨⟨rfl, h2⟩, h3⟩ := h
      exact ⟨i_vals (wCall_mono g n) (okE e G h2).pe (base_of G h2 _) h3, fun _ => rfl⟩
    · cases h
end
end
end MI
set_option maxHeartbeats 4000000
/-! MI, part 18: the check is enough (statements). -/
namespace MI
open PySem PySem.Spec PyProof.Rows L2

section
variable {S : Nm} {g : Glob} {L : Lay} {n : Nat}
theorem blockKind_fn {env : PySem.Env} (h : env.scope.kind = .function) : env.blockKind = .function := by
  unfold PySem.Env.blockKind
  rw [h]
  rfl
theorem swap_par {env : PySem.Env} {u v : Str} {p q pt pt2 : Pos} {kt k2 : Nat} {xa xb : Expr} (hk : env.scope.kind = .function) (hx : env.scope.names.lookup u = some .local) (hy : env.scope.names.lookup v = some .local) (hl : (q.line == p.line) = true) (hne : u ≠ v) (ha : isSub xa = false) (hb : isSub xb = false)
    (hf : ([xa, xb].all (foldedForSure 8)) = false) (hc : ([xa, xb].all (constantsAlone 8)) = false) : swappedStores [.Tuple [.Name u p, .Name v q] kt pt] (.Tuple [xa, xb] k2 pt2) env = pure (some [u, v]) := by
  have hst : ([xa, xb].any fun | .Starred .. => true | _ => false) = false := by
    cases xa <;> first | cases ha | skip
    all_goals cases xb <;> first | rfl | cases hb
  have hbk := blockKind_fn hk
  have ku : env.kindOf u = some .local := hx
  have kv : env.kindOf v = some .local := hy
  have hl' : q.line = p.line := beq_iff_eq.mp hl
  unfold swappedStores
  simp only [hbk, hst, hf, hc, ku, kv, Expr.pos, hl', List.length_cons, List.length_nil, List.head?_cons, Option.map_some, Option.getD_some, List.filterMap_cons, List.filterMap_nil]
  simp [List.eraseDups_cons, hne, Ne.symm hne]
  intro h
  exfalso
  rcases h with h | h
  · cases xa <;> first | (cases ha; done) | (cases h; done)
  · cases xb <;> first | (cases hb; done) | (cases h; done)
theorem okS_setLc {X : Cx} {c : Ck} {W : WX} (G : Good S g L n X c W) {i : Nat} {x : Str} {p spos : Pos} {y : Expr} {e : Ex} (hi : X.N[i]? = some x) (hl : Loc X.env.scope x ∧ (X.fn x = true ∨ X.env.scope.names.lookup x = some .local)) (h : chkE c e y = true) (hn : (noComp y || isLc e) = true) :
    PS X (.Assign [.Name x p] y spos) (tS X.K L g (wCall g n) W (.asg (.nm i) e)) := by
  rw [Bool.or_eq_true] at hn
  rcases hn with hn | hn
  · exact s_asgN (wCall_mono g n) (okE e G h).pe G.nd hi hl.1 (swap_of hn) hl.2
  · cases e with
    | lc own t it d e' =>
      have hpe := (okE _ G h).pe
      unfold chkE at h
      split at h
      · rename_i elt tg iter ifs scope pos
        simp only [Bool.and_eq_true] at h
        obtain ⟨⟨⟨⟨⟨⟨h1, h2⟩, h3⟩, h4⟩, h5⟩, h6⟩, h7⟩ := h
        rw [G.N, G.sc] at h1
        have ok := blkOk_by h1
        have how : (ownOf X.N own).map (·.2) = own := by
          unfold ownOf
          rw [List.map_map]
          exact List.map_id' own
        have G2 := fun s H C ce fp => G.blk ok.kind s H C ce fp
        by_cases hcase : X.env.scope.names.lookup x = some .local ∧ (p.line == pos.line) = true ∧ (scope.names.any fun (n, k) => n == x && (k == .local || k == .cell)) = false
        · obtain ⟨c1, c2, c3⟩ := hcase
          exact s_setLc (wCall_mono g n) how h3 G.calm G.nd hi c1 (sw_true G.kind c1 c2 c3) (okIt it G h4 h5).1 ok (fun s H C ce fp => okTg t (G2 s H C ce fp) h2) (fun s H C ce fp => (okEo d).2 (G2 s H C ce fp) h6) (fun s H C ce fp => (okE e' (G2 s H C ce fp) h7).pe) (okIt it G h4 h5).2
        · refine s_asgN (wCall_mono g n) hpe G.nd hi hl.1 ?_ hl.2
          have hbk := blockKind_fn G.kind
          show (pure (X.env.blockKind == .function && X.env.kindOf x == some .local && p.line == pos.line && !(scope.names.any fun (n, k) => n == x && (k == .local || k == .cell))) : Sem Bool) = pure false
          congr 1
          cases hb : (X.env.blockKind == .function && X.env.kindOf x == some .local && p.line == pos.line && !(scope.names.any fun (n, k) => n == x && (k == .local || k == .cell))) with
          | false => rfl
          | true =>
            exfalso
            simp only [Bool.and_eq_true, Bool.not_eq_true'] at hb
            obtain ⟨⟨⟨b1, b2⟩, b3⟩, b4⟩ := hb
            exact hcase ⟨beq_iff_eq.mp b2, b3, b4⟩
      · cases h
    | _ => cases hn
mutual
theorem okS : ∀ (s : MI.St) {X : Cx} {c : Ck} {W : WX} {st : Stmt}, Good S g L n X c W → chkS c s st = true → PS X st (tS X.K L g (wCall g n) W s)
  | .pass, X, c, W, st, G, h => by
    unfold chkS at h
    split at h
    · exact s_pass
    · exact s_doc
    · cases h
  | .brk, X, c, W, st, G, h => by
    unfold chkS at h
    split at h
    · exact s_brk
    · cases h
  | .cont, X, c, W, st, G, h => by
    unfold chkS at h
    split at h
    · exact s_cont
    · cases h
  | .expr e, X, c, W, st, G, h => by
    unfold chkS at h
    split at h
    · rw [Bool.and_eq_true] at h
      exact s_expr (wCall_mono g n) (okE e G h.1).pe (swap_of h.2)
    · cases h
  | .ret eo, X, c, W, st, G, h => by
    unfold chkS at h
    split at h
    · rename_i x p
      cases eo with
      | no =>
        cases x with
        | none => exact s_retN
        | some _ => cases h
      | so e =>
        cases x with
        | none => cases h
        | some y => exact s_ret (wCall_mono g n) (okE e G h).pe
    · cases h
  | .asg t e, X, c, W, st, G, h => by
    unfold chkS at h
    split at h
    · rename_i x y p
      split at h
      · rename_i ts
        split at h
        · rename_i es
          -- a, b = x, y
          unfold chkPar at h
          split at h
          · split at h
            · simp only [Bool.and_eq_true, decide_eq_true_eq, Bool.not_eq_true'] at h
              obtain ⟨⟨⟨⟨⟨⟨⟨⟨⟨⟨h1, h2⟩, h3⟩, h4⟩, h5⟩, h6⟩, h7⟩, h8⟩, h9⟩, h10⟩, h11⟩ := h
              rw [G.N] at h3 h4
              rw [G.sc] at h5 h6
              have sa := chk_sub h8
              have sb := chk_sub h9
              exact s_par (wCall_mono g n) G.calm G.nd h3 h4 h1 h5 h6 (sa_cons (wCall_mono g n) (okE _ G h8).pe (sa_cons (wCall_mono g n) (okE _ G h9).pe sa_nil (star_of sb)) (star_of sa)) (swap_par G.kind h5 h6 h7 h2 sa sb h10 h11) rfl
            · cases h
          · cases h
        · rename_i hne
          simp only [Bool.and_eq_true, Bool.not_eq_true'] at h
          obtain ⟨⟨h1, h2⟩, h3⟩ := h
          have hx : ∃ xs k q, x = .Tuple xs k q := by
            cases x <;> first | exact ⟨_, _, _, rfl⟩ | cases h1
          obtain ⟨xs, k, q, rfl⟩ := hx
          refine s_asg (wCall_mono g n) (okE e G h2).pe (okTg _ G h1) ?_ ?_ rfl
          · show swapsWith y (some (.Tuple xs k q)) p.line X.env = pure false
            cases y <;> rfl
          · cases y <;> first | rfl | cases h3
      · rename_i i
        simp only [Bool.and_eq_true] at h
        obtain ⟨⟨h1, h2⟩, h3⟩ := h
        unfold chkTg at h1
        split at h1
        · simp only [Bool.and_eq_true, decide_eq_true_eq] at h1
          exact okS_setLc G (by rw [← G.N]; exact h1.1) (G.loc h1.2) h2 h3
        · cases h1
      · rename_i hn1 hn2
        rw [Bool.and_eq_true] at h
        obtain ⟨h1, h2⟩ := h
        cases t with
        | nm i => exact absurd rfl (hn2 i)
        | tp ts => exact absurd rfl (hn1 ts)
        | «at» o f =>
          have hx : ∃ a b q, x = .Attribute a b q := by
            cases x <;> first | exact ⟨_, _, _, rfl⟩ | cases h1
          obtain ⟨a, b, q, rfl⟩ := hx
          refine s_asg (wCall_mono g n) (okE e G h2).pe (okTg _ G h1) ?_ rfl rfl
          show swapsWith y (some (.Attribute a b q)) p.line X.env = pure false
          cases y <;> rfl
        | sb o i =>
          have hx : ∃ a b q, x = .Subscript a b q := by
            cases x <;> first | exact ⟨_, _, _, rfl⟩ | cases h1
          obtain ⟨a, b, q, rfl⟩ := hx
          refine s_asg (wCall_mono g n) (okE e G h2).pe (okTg _ G h1) ?_ rfl rfl
          show swapsWith y (some (.Subscript a b q)) p.line X.env = pure false
          cases y <;> rfl
    · cases h
  | .augn i o e, X, c, W, st, G, h => by
    unfold chkS at h
    split at h
    · simp only [Bool.and_eq_true, decide_eq_true_eq] at h
      obtain ⟨⟨⟨⟨h1, h2⟩, rfl⟩, h4⟩, h5⟩ := h
      obtain ⟨a, b⟩ := G.loc h2
      exact s_augn (wCall_mono g n) G.nd (by rw [← G.N]; exact h1) a (okE e G h5).pe b
    · cases h
  | .augf a f o e, X, c, W, st, G, h => by
    unfold chkS at h
    split at h
    · simp only [Bool.and_eq_true, decide_eq_true_eq] at h
      obtain ⟨⟨⟨⟨h1, rfl⟩, h3⟩, h4⟩, h5⟩ := h
      exact s_augf (wCall_mono g n) G.tf (by rw [← G.nm]; exact h1) (okE a G h4).pe (okE e G h5).pe
    · cases h
  | .ifs t a b, X, c, W, st, G, h => by
    unfold chkS at h
    split at h
    · simp only [Bool.and_eq_true] at h
      exact s_if (wCall_mono g n) (okE t G h.1.1).pt (okSs a G h.1.2) (okSs b G h.2)
    · cases h
  | .whl t b, X, c, W, st, G, h => by
    unfold chkS at h
    split at h
    · rw [Bool.and_eq_true] at h
      exact s_while (wCall_mono g n) G.po (okE t G h.1).pt (okSs b G h.2)
    · cases h
  | .for_ t it b, X, c, W, st, G, h => by
    unfold chkS at h
    split at h
    · simp only [Bool.and_eq_true] at h
      obtain ⟨⟨⟨h1, h2⟩, h3⟩, h4⟩ := h
      exact s_for (wCall_mono g n) G.po G.calm (okIt it G h2 h3).1 (okTg t G h1) (okSs b G h4) (okIt it G h2 h3).2
    · cases h
  | .raise k f e, X, c, W, st, G, h => by
    unfold chkS at h
    split at h
    · simp only [Bool.and_eq_true, decide_eq_true_eq] at h
      obtain ⟨gx, gd, _⟩ := G.glob h.1.2
      exact s_raise (wCall_mono g n) G.tf (G.room.mono (by omega)) G.calm G.tk (by rw [← G.nm]; exact h.1.1) gx gd (okE e G h.2).pe (chk_sub h.2)
    · cases h
  | .tryK b bs i j, X, c, W, st, G, h => by
    unfold chkS at h
    split at h
    · simp only [Bool.and_eq_true, decide_eq_true_eq] at h
      obtain ⟨⟨⟨⟨⟨⟨⟨⟨⟨⟨h0, h1⟩, h2⟩, rfl⟩, h4⟩, h5⟩, h6⟩, h7⟩, h8⟩, h9⟩, h10⟩ := h
      obtain ⟨gx, gd, _⟩ := G.glob h1
      obtain ⟨R, r1, r2⟩ := G.tf.exm _ (show _ ∈ S.exm by rw [← G.nm]; simpa using h2)
      obtain ⟨t1, t2, t3⟩ := G.tp h0
      obtain ⟨_, v2, v3⟩ := G.vis h9
      rw [G.N] at h4 h5
      rw [G.sc] at h7 h8
      exact s_tryK (wCall_mono g n) t2 t3 t1 G.tk r2 G.nd h4 h7 h5 h8 h6 gx r1 gd v2 v3 fun W' pn xe tk po => okSs b (G.tr tk po) h10
    · cases h
  | .never, X, c, W, st, G, h => s_never
theorem okSs : ∀ (ss : Sts) {X : Cx} {c : Ck} {W : WX} {sts : List Stmt}, Good S g L n X c W → chkSs c ss sts = true → PSs X sts (tSs X.K L g (wCall g n) W ss)
  | .nil, X, c, W, sts, G, h => by
    cases sts with
    | nil => exact ss_nil
    | cons _ _ => cases h
  | .cons s r, X, c, W, sts, G, h => by
    cases sts with
    | nil => cases h
    | cons x xs =>
      have h : (chkS c s x && chkSs c r xs) = true := h
      rw [Bool.and_eq_true] at h
      exact ss_cons (wCall_mono g n) (okS s G h.1) (okSs r G h.2)
end
end
end MI
set_option maxHeartbeats 4000000
/-! MI, part 19: the text's functions, level by level; the end. -/
namespace MI
open PySem PySem.Spec PyProof.Rows L2

/-- the f-th def of the text stands at fa and its body is the f-th body -/
structure FnT (S : Nm) (g : Glob) (K : PySem.W.Frag) (f : Nat) (fa : Addr) : Prop where
  ex : ∃ (name qual : Str) (params : Arguments) (body : List Stmt) (scope : Scope) (dV kV doc pm cdv ct oc : Value) (an od : Option Addr) (osl : Array (Option Value)) (N : List Str) (fi : FnI),
    g.fns[f]? = some fi ∧ K.lookup fa = some ⟨oc, od, .func (PySem.W.fnOf name qual params body scope dV kV doc pm an cdv ct), osl⟩ ∧ PySem.W.codeIn K cdv qual = true ∧ FnScope N (N.take fi.np) scope ∧ fi.np ≤ N.length ∧ fi.ns = N.length ∧
      Binds K (PySem.W.fnOf name qual params body scope dV kV doc pm an cdv ct) (N.take fi.np) [] ∧ (∀ sh ∈ S.shp, sh.1 = f → ShpOk K (PySem.W.fnOf name qual params body scope dV kV doc pm an cdv ct) (N.take fi.np) sh.2.1 sh.2.2.1 sh.2.2.2) ∧ chkSs ⟨S, scope, N, true⟩ fi.body body = true
/-- what does not hang on the level -/
structure TFS (S : Nm) (g : Glob) (K : PySem.W.Frag) (mg : Str → Option Value) (L : Lay) : Prop where
  blt : ∀ x ∈ S.blts, mg x = none
  att : L.attrs = S.attrs ∧ S.attrs.Nodup
  fn : ∀ (f : Nat) (x : Str), S.fnN[f]? = some (some x) → ∃ a, L.fns[f]? = some a ∧ mg x = some (.ref a) ∧ PySem.W.keepIn K (.ref a) = true
  fnt : ∀ (f : Nat) (a : Addr), L.fns[f]? = some a → FnT S g K f a
  mak : ∀ (c : Nat) (x : Str) (f : Nat), S.clsN[c]? = some x → g.init c = some f → ∃ C a, L.clss[c]? = some C ∧ mg x = some (.ref C) ∧ L.fns[f]? = some a ∧ Mk K C a
  ini : ∀ (k : Nat) (x : Str), S.clsN[k]? = some x → g.init k ≠ none
  cls : ∀ (c : Nat) (C : Addr), L.clss[c]? = some C → Cls K C ∧ (∀ x ∈ S.attrs, NoAttr K C x)
  mth : ∀ (c : Nat) (C : Addr) (m : Nat) (nm : Str) (f : Nat), L.clss[c]? = some C → S.mths[m]? = some nm → g.meth c m = some f → ∃ a, L.fns[f]? = some a ∧ Meth K C nm a
  mna : ∀ (m : Nat) (nm : Str), S.mths[m]? = some nm → nm ∉ S.attrs
  mks : ∀ e ∈ S.mks, ∀ c f, g.meth c e.1 = some f → (f, e.2.1 + 1, e.2.2.1, 0 :: e.2.2.2.map (· + 1)) ∈ S.shp
  exc : ∀ (k : Nat) (x : Str) (f : Nat), S.excN[k]? = some (x, f) → ∃ C nm, L.exs[k]? = some C ∧ mg x = some (.ref C) ∧ S.attrs[f]? = some nm ∧ ∃ fI fd ps, OexC K C ∧ PySem.W.findIn K (.ref C) "__init__" = some (some (.ref fI)) ∧ PySem.W.typeIn K (.ref fI) = some (.type "function") ∧ Binds K fd ps [] ∧ ∀ P w base, FnOk P w K mg base (L2.CX P w) 1 fI fd ps (spX K C nm)
  exf : ∀ (k : Nat) (C : Addr), L.exs[k]? = some C → ExF K S.attrs C
  exm : ∀ p ∈ S.exm, ∃ R, mg p.1 = some (.ref R) ∧ ∀ (k : Nat) (C : Addr) (b : Bool), L.exs[k]? = some C → p.2[k]? = some b → PySem.W.exmOne K (.ref C) (.ref R) = some b ∧ PySem.W.kitOne K (.ref C) (.ref R) = some b
  con : ∀ (k : Nat) (x : Str), S.constN[k]? = some x → ∃ d u v, g.consts[k]? = some d ∧ mg x = some u ∧ RelV v u ∧ ∀ ρ H, RD K L ρ H d v

section
variable {S : Nm} {g : Glob} {P : Program} {w : World} {K : PySem.W.Frag} {mg : Str → Option Value} {base : Heap} {L : Lay}
theorem spI_len {n f : Nat} {fi : FnI} {N : List Str} (hf : g.fns[f]? = some fi) (hnp : fi.np ≤ N.length) {vs : List V} {H : Hp} {Q : VK} {E : XK} (h : spI K L g n f vs H Q E) : vs.length = (N.take fi.np).length := by
  obtain ⟨ρ, hp, ds, r, rd, h⟩ := h
  cases n with
  | zero => exact False.elim h
  | succ n =>
    unfold wCall at h
    simp only [hf] at h
    rw [← rd.len, h.1, List.length_take, Nat.min_eq_left hnp]
/-- the context of a body is good -/
theorem good_cx {n : Nat} (T : TF S g P w K mg base L n) {N : List Str} {qual : Str} {scope : Scope} {f : Addr} {cd : Value} {A : Around} {outer : List PySem.Env} {s : Shared} {H : Hp} {E : XK} (nd : N.Nodup) (hk : scope.kind = .function) (hg : A.guards = some []) (hr : Room (2 * n + 3) (A.deeper (envOfC qual scope s.heap.objs.size f cd))) :
    Good S g L n (cxOf (L2.CX P w) P w K mg base N qual scope f cd A outer s H E) ⟨S, scope, N, true⟩ (fun cls d _ H' => E cls d H') where
  nm := rfl
  sc := rfl
  N := rfl
  nd := nd
  fn := fun _ _ => rfl
  calm := rfl
  gd := hg
  room := hr
  tk := takes_of (X := cxOf (L2.CX P w) P w K mg base N qual scope f cd A outer s H E) rfl rfl rfl rfl
  po := passes_of (X := cxOf (L2.CX P w) P w K mg base N qual scope f cd A outer s H E) rfl
  kind := hk
  tf := T
  tp := fun _ => ⟨rfl, rfl, rfl⟩
theorem fnG_of {n f : Nat} {fa : Addr} {name qual : Str} {params : Arguments} {body : List Stmt} {scope : Scope} {dV kV doc pm cdv ct oc : Value} {an od : Option Addr} {osl : Array (Option Value)} {N : List Str} {fi : FnI} (T : TF S g P w K mg base L n)
    (hf : g.fns[f]? = some fi) (lk : K.lookup fa = some ⟨oc, od, .func (PySem.W.fnOf name qual params body scope dV kV doc pm an cdv ct), osl⟩) (hcd : PySem.W.codeIn K cdv qual = true) (SC : FnScope N (N.take fi.np) scope) (hnp : fi.np ≤ N.length) (hns : fi.ns = N.length)
    (hchk : chkSs ⟨S, scope, N, true⟩ fi.body body = true) : FnG P w K mg base (2 * (n + 1) + 2) fa (PySem.W.fnOf name qual params body scope dV kV doc pm an cdv ct) (N.take fi.np) (spI K L g (n + 1) f) := by
  refine ⟨fun vs H Q E h => spI_len hf hnp h, fun A outer s H args us vs Q E hr hg e0 hb rv hsp => ?_⟩
  have hl := spI_len hf hnp hsp
  have hKs : K.In s.heap := e0.mod.kin.keeps fun b o e => (e0.bs b o e).1
  have lim : s.heap.NoLimit := e0.mod.nolimit.keeps fun b o e => (e0.bs b o e).1
  have kinds : ∀ y ∈ (N.take fi.np).zip us, scope.names.lookup y.1 = some .local ∨ (scope.names.lookup y.1 = some .cell ∧ ((cellsFrom (s.heap.objs.size + 1) scope.names []).lookup y.1).isSome = true) := fun y hy => by
    rcases SC.par y.1 (List.of_mem_zip (show (y.1, y.2) ∈ _ from hy)).1 with q | q
    · exact .inl q
    · exact .inr ⟨q, PySem.W.cellsFrom_some _ _ _ (.inl q)⟩
  have hrd : Room (2 * n + 3) (A.deeper (envOfC qual scope s.heap.objs.size fa cdv)) := (show Room ((2 * n + 3) + 1) A from hr).deeper _
  refine codeAny_call_function hr.depth (hKs _ _ lk) rfl SC.co SC.gen rfl (PySem.W.codeRec_of hKs hcd) (hb _ _ _ _ ?_)
  refine wpAny_newFunctionEnv_cells SC.kind kinds fun env he s1 x => ?_
  subst he
  refine ⟨lim.keeps x.toInCall.keep, codeAny_func ?_⟩
  have G := good_cx (N := N) (qual := qual) (f := fa) (cd := cdv) (outer := outer) (H := H) (E := E) T SC.nd SC.kind hg hrd
  have hps := okSs fi.body G hchk
  have I : Inv (cxOf (L2.CX P w) P w K mg base N qual scope fa cdv A outer s H E) [] (L2.start N vs) H s1 := inv_start SC hr.hd e0 hl rv x
  obtain ⟨ρ, hp, ds, r, rd, h⟩ := hsp
  unfold wCall at h
  simp only [hf] at h
  obtain ⟨hdl, h⟩ := h
  have hrt : tSs K L g (wCall g n) (fun cls d _ H' => E cls d H') fi.body { nx := fun _ H' => Q .non H', rt := Q } (L2.start N vs) H := by
    refine ⟨ρ, hp, _, r, ⟨?_, fun i d hd => ?_⟩, wSs_mono (wCall_mono g n) fi.body _ hp { nx := fun _ hp => KQ K L ρ H Q .non hp, bk := fun _ _ => False, ct := fun _ _ => False, rt := KQ K L ρ H Q, ex := fun c i _ hp => KE K L ρ H E c i hp } _ ⟨fun env' hp' q => ?_, fun _ _ q => False.elim q, fun _ _ q => False.elim q, fun _ _ q => q, fun c i env' hp' q => ?_⟩ h⟩
    · unfold L2.start
      rw [List.length_append, List.length_append, List.length_map, List.length_map, List.length_replicate, List.length_replicate, ← rd.len, hdl, hns]
    · have hi : i < ds.length := by
        by_cases hi : i < ds.length
        · exact hi
        · rw [List.getElem?_append_right (by simpa using hi), List.getElem?_replicate] at hd
          split at hd <;> cases hd
      rw [List.getElem?_append_left (by simpa using hi), List.getElem?_map] at hd
      cases e : ds[i]? with
      | none => rw [e] at hd; cases hd
      | some d' =>
        rw [e] at hd
        cases hd
        obtain ⟨v, h1, h2⟩ := rd.get e
        refine ⟨v, ?_, h2⟩
        unfold L2.start
        rw [List.getElem?_append_left (by rw [List.length_map, ← rd.len]; exact hi), List.getElem?_map, h1]
        rfl
    · intro ρ' H' σ' e' r' _
      exact q ρ' H' .non e' r' .non
    · intro ρ' H' σ' a C e' r' _ h1 h2
      exact q ρ' H' a C e' r' h1 h2
  refine wpAny_mono (hps.run [] s1 (L2.start N vs) H _ I hrt) (fun fl s' hs => ?_) fun e s' hs => hs
  cases fl with
  | ret u =>
    obtain ⟨v, σ', H', J, rv', q⟩ := hs
    exact ⟨v, H', J.os, J.bare, J.base, J.hok, rv', q⟩
  | next =>
    obtain ⟨σ', H', J, q⟩ := hs
    exact ⟨.non, H', J.os, J.bare, J.base, J.hok, rfl, q⟩
  | brk =>
    obtain ⟨_, _, _, q⟩ := hs
    exact False.elim q
  | cont =>
    obtain ⟨_, _, _, q⟩ := hs
    exact False.elim q
theorem tf_of (T : TFS S g K mg L) (P : Program) (w : World) (base : Heap) : ∀ n, TF S g P w K mg base L n := by
  intro n
  induction n with
  | zero =>
    refine ⟨T.blt, T.att, T.fn, fun f a ha => ?_, T.mks, T.mak, T.ini, T.cls, T.mth, T.mna, fun k x f h => let ⟨C, nm, h1, h2, h3, fI, fd, ps, h4, h5, h6, h7, h8⟩ := T.exc k x f h; ⟨C, nm, h1, h2, h3, fI, fd, ps, h4, h5, h6, h7, h8 P w base⟩, T.exf, T.exm, T.con⟩
    obtain ⟨name, qual, params, body, scope, dV, kV, doc, pm, cdv, ct, oc, an, od, osl, N, fi, hf, lk, hcd, SC, hnp, hns, hb, hsh, hchk⟩ := (T.fnt f a ha).ex
    refine ⟨_, N.take fi.np, hb, hsh, fun vs H Q E h => spI_len hf hnp h, fun A outer s H args us vs Q E hr hg e0 hb rv hsp => ?_⟩
    obtain ⟨ρ, hp, ds, r, rd, h⟩ := hsp
    exact False.elim h
  | succ n ih =>
    refine ⟨T.blt, T.att, T.fn, fun f a ha => ?_, T.mks, T.mak, T.ini, T.cls, T.mth, T.mna, fun k x f h => let ⟨C, nm, h1, h2, h3, fI, fd, ps, h4, h5, h6, h7, h8⟩ := T.exc k x f h; ⟨C, nm, h1, h2, h3, fI, fd, ps, h4, h5, h6, h7, h8 P w base⟩, T.exf, T.exm, T.con⟩
    obtain ⟨name, qual, params, body, scope, dV, kV, doc, pm, cdv, ct, oc, an, od, osl, N, fi, hf, lk, hcd, SC, hnp, hns, hb, hsh, hchk⟩ := (T.fnt f a ha).ex
    exact ⟨_, _, hb, hsh, fnG_of ih hf lk hcd SC hnp hns hchk⟩

/-! ### the end: the law is called with the script -/
/-- nothing is tracked but the script, if it is none of the written part -/
def hS (K : PySem.W.Frag) (a : Addr) (vs : List Value) (ns : List Int) : Hp := fun b => if b = a ∧ K.lookup a = none then some (.frz { cls := .type "list", data := .seq vs.toArray } (.lst (ns.map V.int))) else none
theorem hS_some {a b : Addr} {vs : List Value} {ns : List Int} {u : HO} (h : hS K a vs ns b = some u) : b = a ∧ K.lookup a = none ∧ u = .frz { cls := .type "list", data := .seq vs.toArray } (.lst (ns.map V.int)) := by
  unfold hS at h
  split at h
  · rename_i q
    exact ⟨q.1, q.2, (Option.some.inj h).symm⟩
  · cases h
theorem end_call {mb : Str → Option Value} {k : Nat} {fa a : Addr} {sp : Sp} {s₁ : Shared} {vs : List Value} {ns : List Int}
    (hK : K.In s₁.heap) (hmg : s₁.heap.Ns mainGlobals mg) (hmb : s₁.heap.Ns builtinsNs mb) (hbb : ∀ x : Str, x ≠ "__name__" → mb x = bootBuiltins x) (hlim : s₁.heap.NoLimit) (hgn : s₁.gens = #[])
    (ha : s₁.heap.get? a = some { cls := .type "list", data := .seq vs.toArray }) (hi : IntsAre vs ns) (hl : ns.length ≤ sizeLine) (hr : Room k callerA)
    (F : ∀ base : Heap, ∃ fd ps, Binds K fd ps [] ∧ FnG P w K mg base k fa fd ps sp)
    (hsp : KlL K (hS K a vs ns) a (ns.map V.int) → sp [.ref a] (hS K a vs ns) (fun v _ => v = .bl true) fun _ _ _ => False) :
    codeAny (model P w) callerA (.call (.ref fa) ⟨[.ref a], []⟩) (fun r s' => r = .ok (.ret (.bool true)) ∧ OldK s₁.heap s'.heap ∧ s'.os = s₁.os ∧ AllBare s'.gens) s₁ := by
  have rv := vals_ints hi
  generalize hH : hS K a vs ns = H at hsp
  have hsome : ∀ {b : Addr} {u : HO}, H b = some u → b = a ∧ K.lookup a = none ∧ u = .frz { cls := .type "list", data := .seq vs.toArray } (.lst (ns.map V.int)) := fun {b u} h => hS_some (by rw [hH]; exact h)
  -- what is not the script is not tracked
  have hnone : ∀ {b : Addr} {o : Obj}, s₁.heap.get? b = some o → (∀ vs n, o.data ≠ .seq vs n) → H b = none := fun {b o} e hd => by
    cases q : H b with
    | none => rfl
    | some u =>
      obtain ⟨rfl, _, _⟩ := hsome q
      rw [ha] at e
      cases e
      exact absurd rfl (hd _ _)
  have ns2 : ∀ {b : Addr} {m : Str → Option Value}, s₁.heap.Ns b m → (hidT s₁.heap H).Ns b m := fun {b m} ⟨o, es, ep, e, d, r⟩ => ⟨o, es, ep, hidT_get e (hnone e fun _ _ z => by rw [d] at z; cases z), d, r⟩
  have hKb : K.In (hidT s₁.heap H) := fun b o e => hidT_get (hK b o e) (by
    cases q : H b with
    | none => rfl
    | some u =>
      obtain ⟨rfl, q2, _⟩ := hsome q
      rw [q2] at e
      cases e)
  have hM : Mod K mg (hidT s₁.heap H) := ⟨hKb, ns2 hmg, ⟨mb, ns2 hmb, hbb⟩, let ⟨mc, h1, h2⟩ := hlim; ⟨mc, ns2 h1, h2⟩⟩
  have hok : HOk P w H s₁.heap := fun b u e => by
    obtain ⟨rfl, _, rfl⟩ := hsome e
    exact ⟨ha, by rw [List.length_map]; exact hl, vs, _, rv, ha⟩
  have e0 : Env0 P w K mg (hidT s₁.heap H) callerA [] s₁ H := ⟨rfl, hM, fun b o e => of_hidT e, Nat.le_of_eq (hidT_size _ _), trivial, fun b hb => absurd (show b ∈ ([] : List Addr) from hb) (by simp), hok, .of_eq hgn⟩
  have hkl : KlL K H a (ns.map V.int) := by
    cases q : K.lookup a with
    | none =>
      left
      refine ⟨{ cls := .type "list", data := .seq vs.toArray }, ?_⟩
      rw [← hH]
      exact if_pos ⟨rfl, q⟩
    | some o =>
      right
      have e := hK a o q
      rw [ha] at e
      cases e
      exact ⟨_, vs.toArray, _, q, rfl, rfl, rfl, by rw [List.size_toArray, hi.length]; exact hl, by simpa using rv⟩
  obtain ⟨fd, ps, hbind, F⟩ := F (hidT s₁.heap H)
  have hsp := hsp hkl
  have hln := F.len _ _ _ _ hsp
  have hbd : BindsTo s₁ fd ⟨[.ref a], []⟩ (ps.zip [.ref a]) := by
    have q := hbind s₁ [.ref a] hK hln
    rw [List.append_nil] at q
    exact q
  refine codeAny_mono (F.run callerA [] s₁ H ⟨[.ref a], []⟩ [.ref a] [.ref a] _ _ hr rfl e0 hbd (.cons rfl .nil) hsp) fun r s' h => ?_
  cases r with
  | error e =>
    -- no exception is let out
    exfalso
    obtain ⟨_, _, _, _, _, _, _, _, _, _, _, _, z⟩ := h
    exact z
  | ok fl =>
    cases fl with
    | next => exact False.elim h
    | brk => exact False.elim h
    | cont => exact False.elim h
    | ret u =>
      obtain ⟨v, H', os, bare, un, hok', rv', q⟩ := h
      have q' : v = .bl true := q
      subst q'
      obtain rfl : u = Value.bool true := rv'
      refine ⟨rfl, OldK.of_keep fun b o e => ?_, os, bare⟩
      cases q : H b with
      | none => exact un.keep b o e q (by intro z; exact absurd (show b ∈ ([] : List Addr) from z) (by simp)) (by simp)
      | some u =>
        obtain ⟨rfl, _, rfl⟩ := hsome q
        have z2 := un.frzs b _ _ q
        obtain ⟨e1, _⟩ := hok b _ q
        obtain ⟨e2, _⟩ := hok' b _ z2
        rw [e] at e1
        cases e1
        exact e2
end
theorem rds_ints {K : PySem.W.Frag} {L : Lay} {ρ : List Addr} {H : Hp} : ∀ ns : List Int, RDs K L ρ H (ns.map D.int) (ns.map V.int)
  | [] => .nil
  | n :: r => .cons (.int n) (rds_ints r)
/-- the promise of the law, from its run in the small language -/
theorem law_run {K : PySem.W.Frag} {L : Lay} {g : Glob} {N lf : Nat} {a : Addr} {H : Hp} {ns : List Int} (h : wCall g N lf [.kl (ns.map D.int)] [] (fun d _ => d = .bl true) fun _ _ _ => False) (hk : KlL K H a (ns.map V.int)) :
    spI K L g N lf [.ref a] H (fun v _ => v = .bl true) fun _ _ _ => False := by
  refine ⟨[], [], [.kl (ns.map D.int)], ⟨List.nodup_nil, rfl, fun i o h => by simp at h⟩, .cons (.kl hk (rds_ints ns)) .nil, wCall_mono g N lf _ _ _ _ _ _ (fun d hp q => ?_) (fun _ _ _ z => False.elim z) h⟩
  intro ρ' H' v _ _ rd
  subst q
  cases rd
  rfl
theorem walk_mi {l : PySem.W.OpenLaw} {n N : Nat} {q : Program} {loose : List Str} {XP : (Str → Option Value) → Heap → Prop} {YP : World → Heap → Prop} {d : DefRec} {K : Params → PySem.W.Frag} {S : Nm} {g : Glob} {lf : Nat}
    (hn : l.most = some n) (hn2 : n ≤ sizeLine) (hdf : d.params.defaults = []) (hr : Room (2 * N + 2) callerA)
    (hY : ∀ (w : World) (h : Heap), YP w h → (K w.params).In h)
    (F : ∀ (w : World) (mg : Str → Option Value) (fa : Addr) (h : Heap), (K w.params).In h → h.Ns mainGlobals mg → mg d.name = some (.ref fa) → ∃ L : Lay, TFS S g (K w.params) mg L ∧ L.fns[lf]? = some fa)
    (run : ∀ ns : List Int, ns.length ≤ n → wCall g N lf [.kl (ns.map D.int)] [] (fun d _ => d = .bl true) fun _ _ _ => False) :
    PySem.W.WalkO q loose XP YP l.row.toRowW d [] (fun f vs => PySem.call f vs) := by
  refine Att.attach_call hn hdf fun w s₀ s₁ mg mb fa o pm cd doc a vs ns G Y ho hd hcd hmg hobj hints hlen hg => ?_
  have hK := hY w _ Y
  obtain ⟨L, T, hL⟩ := F w mg fa _ hK G.T.g hmg
  exact end_call (sp := spI (K w.params) L g N lf) hK G.T.g G.T.b G.T.builtins G.T.nolimit hg hobj hints (Nat.le_trans hlen hn2) hr (fun base => let ⟨fd, ps, hb, _, F⟩ := (tf_of T l.prog w base N).call lf fa hL; ⟨fd, ps, hb, F⟩) fun hk => law_run (run ns hlen) hk
/-- .. where no int of the script is above 2^1048576 or so -/
theorem walk_miB {l : PySem.W.OpenLaw} {n N : Nat} {q : Program} {loose : List Str} {XP : (Str → Option Value) → Heap → Prop} {YP : World → Heap → Prop} {d : DefRec} {K : Params → PySem.W.Frag} {S : Nm} {g : Glob} {lf : Nat}
    (hn : l.most = some n) (hn2 : n ≤ sizeLine) (hdf : d.params.defaults = []) (hr : Room (2 * N + 2) callerA)
    (hY : ∀ (w : World) (h : Heap), YP w h → (K w.params).In h)
    (F : ∀ (w : World) (mg : Str → Option Value) (fa : Addr) (h : Heap), (K w.params).In h → h.Ns mainGlobals mg → mg d.name = some (.ref fa) → ∃ L : Lay, TFS S g (K w.params) mg L ∧ L.fns[lf]? = some fa)
    (run : ∀ ns : List Int, ns.length ≤ n → (∀ k ∈ ns, Builtin.Int.intBits k ≤ 1048576) → wCall g N lf [.kl (ns.map D.int)] [] (fun d _ => d = .bl true) fun _ _ _ => False) :
    PySem.W.WalkO q loose XP YP l.row.toRowW d [] (fun f vs => PySem.call f vs) := by
  refine Att.attach_callB hn hdf fun w s₀ s₁ mg mb fa o pm cd doc a vs ns G Y ho hd hcd hmg hobj hints hlen hbits hg => ?_
  have hK := hY w _ Y
  obtain ⟨L, T, hL⟩ := F w mg fa _ hK G.T.g hmg
  exact end_call (sp := spI (K w.params) L g N lf) hK G.T.g G.T.b G.T.builtins G.T.nolimit hg hobj hints (Nat.le_trans hlen hn2) hr (fun base => let ⟨fd, ps, hb, _, F⟩ := (tf_of T l.prog w base N).call lf fa hL; ⟨fd, ps, hb, F⟩) fun hk => law_run (run ns hlen hbits) hk
end MI
set_option maxHeartbeats 2000000
/-! MI, exceptions 4: the __init__ of an own class with one field. -/
namespace MI
open PySem PySem.Spec PyProof.Rows L2
/-- the text of such an __init__ -/
def xinB (c : Ck) (b f : Str) (body : List Stmt) : Bool := match body with
  | [.Expr (.Call (.Attribute (.Name b1 _) i p2) [.Name s1 _, .Constant (.str _) _ _] [] p5) _, .Assign [.Attribute (.Name s2 _) f1 _] (.Name y _) _] =>
    decide (b1 = b) && decide (i = "__init__") && decide (f1 = f) && decide (s1 = s2) && decide (c.N = [s1, y]) && c.glob b1 && c.vis s1 && c.vis y && (p2.endLine == p5.line)
  | _ => false
section
variable {K : PySem.W.Frag} {mg : Str → Option Value} {C R fI : Addr} {f b : Str} {mc : Value} {N : List Str}
theorem visB {c : Ck} {x : Str} (h : c.vis x = true) : Vis c.sc x ∧ (x == ("__debug__" : Str)) = false ∧ (x == ("__classdict__" : Str)) = false := by
  unfold Ck.vis at h
  simp only [Bool.and_eq_true, Bool.not_eq_true'] at h
  refine ⟨?_, h.1.2, h.2⟩
  have h1 := h.1.1
  split at h1
  · rename_i e; exact .inl e
  · rename_i e; exact .inr (.inl e)
  · rename_i e; exact .inr (.inr e)
  · cases h1
theorem globB {c : Ck} {x : Str} (h : c.glob x = true) : c.sc.names.lookup x = some .globalImplicit ∧ (x == ("__debug__" : Str)) = false := by
  unfold Ck.glob at h
  simp only [Bool.and_eq_true, Bool.not_eq_true', decide_eq_true_eq] at h
  exact ⟨h.1.1.1, h.1.1.2⟩
theorem exk_of {name qual : Str} {params : Arguments} {body : List Stmt} {scope : Scope} {dV kV doc pm cdv ct oc : Value} {an od : Option Addr} {osl : Array (Option Value)} (T : OexC K C) (hno : PySem.W.findIn K (.ref C) f = some none)
    (gR : mg b = some (.ref R)) (r : ClX.CRead K R mc) (at_ : PySem.W.findCls K (.ref R) mc "__init__" = some (.val (.builtin "ValueError.__init__")))
    (iC : PySem.W.findIn K (.ref C) "__init__" = some (some (.ref fI))) (tI : PySem.W.typeIn K (.ref fI) = some (.type "function"))
    (lk : K.lookup fI = some ⟨oc, od, .func (PySem.W.fnOf name qual params body scope dV kV doc pm an cdv ct), osl⟩) (hcd : PySem.W.codeIn K cdv qual = true) (hsc : fnScopeB N 2 scope = true) (hb : Binds K (PySem.W.fnOf name qual params body scope dV kV doc pm an cdv ct) (N.take 2) [])
    (hx : xinB ⟨{ fnN := [], clsN := [], constN := [], attrs := [], mths := [], blts := [] }, scope, N, true⟩ b f body = true) : ∃ fI fd ps, OexC K C ∧ PySem.W.findIn K (.ref C) "__init__" = some (some (.ref fI)) ∧ PySem.W.typeIn K (.ref fI) = some (.type "function") ∧ Binds K fd ps [] ∧ ∀ P w base, FnOk P w K mg base (L2.CX P w) 1 fI fd ps (spX K C f) := by
  have SC := fnScope_by hsc
  refine ⟨fI, _, N.take 2, T, iC, tI, hb, fun P w base => ?_⟩
  unfold xinB at hx
  split at hx
  · rename_i b1 p1 i p2 s1 p3 t1 j1 p4 p5 p6 s2 p7 f1 p8 y p9 p10
    simp only [Bool.and_eq_true, decide_eq_true_eq] at hx
    obtain ⟨⟨⟨⟨⟨⟨⟨⟨rfl, rfl⟩, rfl⟩, rfl⟩, hN⟩, hg⟩, hv1⟩, hv2⟩, hli⟩ := hx
    have hN : N = [s1, y] := hN
    subst hN
    refine fn_of lk hcd SC (fun vs H Q E h => ?_) fun A outer s H vs Q E hr h => ?_
    · obtain ⟨a, z, rfl, _⟩ := h
      rfl
    · obtain ⟨a, z, rfl, ha, h⟩ := h
      have V1 := visB hv1
      have V2 := visB hv2
      have G1 := globB hg
      have n0 : ([s1, y] : List Str)[0]? = some s1 := rfl
      have n1 : ([s1, y] : List Str)[1]? = some y := rfl
      refine ⟨_, pss_cons (ps_expr (pe_rinit (X := cxOf (L2.CX P w) P w K mg base [s1, y] qual scope fI cdv A outer s H E) G1.1 gR r at_ (pa_cons (pe_var n0 V1.1 V1.2.1 V1.2.2) (pa_cons pe_str pa_nil)) G1.2 hli rfl rfl rfl))
        (pss_cons (ps_ost (pe_var n0 V1.1 V1.2.1 V1.2.2) (pe_var n1 V2.1 V2.2.1 V2.2.2)) pss_nil), ?_⟩
      refine ⟨.ref a, rfl, a, C, [.str t1], rfl, (show 1 ≤ 1000 by decide), T, ha, z, rfl, .ref a, rfl, a, C, rfl, T, hno, .inl ⟨ha, fun dx n ne => ?_⟩⟩
      exact h dx n ne
  · cases hx
end
end MI
/-! MI, part 20: the head's facts, gathered. -/
namespace MI
open PySem PySem.Spec PyProof.Rows L2

inductive AllM {α : Type} (P : α → Prop) : List α → Prop
  | nil : AllM P []
  | cons {a : α} {l : List α} : P a → AllM P l → AllM P (a :: l)
theorem all_mem {α : Type} {P : α → Prop} : ∀ {l : List α}, AllM P l → ∀ x ∈ l, P x
  | _, .cons h t, x, hx => by
    rcases List.mem_cons.mp hx with e | e
    · subst e; exact h
    · exact all_mem t x e
inductive AllI {α : Type} (P : Nat → α → Prop) : Nat → List α → Prop
  | nil {n : Nat} : AllI P n []
  | cons {n : Nat} {a : α} {l : List α} : P n a → AllI P (n + 1) l → AllI P n (a :: l)
theorem all_ix0 {α : Type} {P : Nat → α → Prop} : ∀ {l : List α} {n : Nat}, AllI P n l → ∀ i a, l[i]? = some a → P (n + i) a
  | _, n, .nil, i, a, h => by simp at h
  | _, n, .cons p t, 0, a, h => by
    have h : some _ = some a := h
    cases h
    exact p
  | _, n, .cons p t, i + 1, a, h => by
    have := all_ix0 t i a (by simpa using h)
    rw [show n + (i + 1) = n + 1 + i by omega]
    exact this
theorem all_ix {α : Type} {P : Nat → α → Prop} {l : List α} (h : AllI P 0 l) : ∀ i a, l[i]? = some a → P i a := fun i a e => by
  have := all_ix0 h i a e
  rwa [Nat.zero_add] at this
section
variable {S : Nm} {g : Glob} {K : PySem.W.Frag} {mg : Str → Option Value} {L : Lay}
inductive AllF (K : PySem.W.Frag) (mg : Str → Option Value) (fns : List Addr) : Nat → List (Option Str) → Prop
  | nil {n : Nat} : AllF K mg fns n []
  | none {n : Nat} {l : List (Option Str)} : AllF K mg fns (n + 1) l → AllF K mg fns n (.none :: l)
  | some {n : Nat} {x : Str} {a : Addr} {l : List (Option Str)} : fns[n]? = .some a → mg x = .some (.ref a) → PySem.W.keepIn K (.ref a) = true → AllF K mg fns (n + 1) l → AllF K mg fns n (.some x :: l)
theorem all_fn0 {fns : List Addr} : ∀ {l : List (Option Str)} {n : Nat}, AllF K mg fns n l → ∀ (f : Nat) (x : Str), l[f]? = some (some x) → ∃ a, fns[n + f]? = some a ∧ mg x = some (.ref a) ∧ PySem.W.keepIn K (.ref a) = true
  | _, n, .nil, f, x, h => by simp at h
  | _, n, .none t, 0, x, h => by simp at h
  | _, n, .none t, f + 1, x, h => by
    have := all_fn0 t f x (by simpa using h)
    rwa [show n + (f + 1) = n + 1 + f by omega]
  | _, n, .some a b c t, 0, x, h => by
    have h : some (some _) = some (some x) := h
    cases h
    exact ⟨_, a, b, c⟩
  | _, n, .some a b c t, f + 1, x, h => by
    have := all_fn0 t f x (by simpa using h)
    rwa [show n + (f + 1) = n + 1 + f by omega]
theorem all_fn {fns : List Addr} {l : List (Option Str)} (h : AllF K mg fns 0 l) (f : Nat) (x : Str) (e : l[f]? = some (some x)) : ∃ a, fns[f]? = some a ∧ mg x = some (.ref a) ∧ PySem.W.keepIn K (.ref a) = true := by
  have := all_fn0 h f x e
  rwa [Nat.zero_add] at this
theorem fnt_mk {f : Nat} {fi : FnI} {N : List Str} {a : Addr} {name qual : Str} {params : Arguments} {body : List Stmt} {scope : Scope} {dV kV doc pm cdv ct oc : Value} {an od : Option Addr} {osl : Array (Option Value)} (hf : g.fns[f]? = some fi)
    (l : K.lookup a = some ⟨oc, od, .func (PySem.W.fnOf name qual params body scope dV kV doc pm an cdv ct), osl⟩) (c : PySem.W.codeIn K cdv qual = true) (hsc : fnScopeB N fi.np scope = true) (hns : fi.ns = N.length)
    (hchk : chkSs ⟨S, scope, N, true⟩ fi.body body = true) (hb : Binds K (PySem.W.fnOf name qual params body scope dV kV doc pm an cdv ct) (N.take fi.np) []) (hsh : ∀ sh ∈ S.shp, sh.1 = f → ShpOk K (PySem.W.fnOf name qual params body scope dV kV doc pm an cdv ct) (N.take fi.np) sh.2.1 sh.2.2.1 sh.2.2.2) : FnT S g K f a := by
  have hnp : fi.np ≤ N.length := by
    unfold fnScopeB at hsc
    simp only [Bool.and_eq_true, decide_eq_true_eq] at hsc
    exact hsc.1.1.2
  exact ⟨name, qual, params, body, scope, dV, kV, doc, pm, cdv, ct, oc, an, od, osl, N, fi, hf, l, c, fnScope_by hsc, hnp, hns, hb, hsh, hchk⟩
theorem all_mak (h : AllI (fun c x => ∃ f C a, g.init c = some f ∧ L.clss[c]? = some C ∧ mg x = some (.ref C) ∧ L.fns[f]? = some a ∧ Mk K C a) 0 S.clsN) (c : Nat) (x : Str) (f : Nat) (e : S.clsN[c]? = some x) (e2 : g.init c = some f) :
    ∃ C a, L.clss[c]? = some C ∧ mg x = some (.ref C) ∧ L.fns[f]? = some a ∧ Mk K C a := by
  obtain ⟨f', C, a, h1, h2, h3, h4, h5⟩ := all_ix h c x e
  rw [e2] at h1
  cases h1
  exact ⟨C, a, h2, h3, h4, h5⟩
theorem all_ini (h : ((List.range S.clsN.length).all fun k => (g.init k).isSome) = true) (k : Nat) (x : Str) (e : S.clsN[k]? = some x) : g.init k ≠ none := by
  have hl := (List.getElem?_eq_some_iff.mp e).1
  have := List.all_eq_true.mp h k (List.mem_range.mpr hl)
  intro z
  rw [z] at this
  cases this
theorem nfind_mem : ∀ {l : List (Nat × Nat)} {m f : Nat}, nfind l m = some f → (m, f) ∈ l
  | [], m, f, h => by cases h
  | (k, v) :: r, m, f, h => by
    unfold nfind at h
    split at h
    · rename_i e
      cases h
      subst e
      exact List.mem_cons_self
    · exact List.mem_cons_of_mem _ (nfind_mem h)
theorem all_mth (h : AllI (fun c C => ∃ ci, g.clss[c]? = some ci ∧ AllM (fun p : Nat × Nat => ∃ nm a, S.mths[p.1]? = some nm ∧ L.fns[p.2]? = some a ∧ Meth K C nm a) ci.meths) 0 L.clss) (c : Nat) (C : Addr) (m : Nat) (nm : Str) (f : Nat)
    (e : L.clss[c]? = some C) (e1 : S.mths[m]? = some nm) (e2 : g.meth c m = some f) : ∃ a, L.fns[f]? = some a ∧ Meth K C nm a := by
  obtain ⟨ci, h1, h2⟩ := all_ix h c C e
  unfold Glob.meth at e2
  simp only [h1] at e2
  obtain ⟨nm', a, h3, h4, h5⟩ := all_mem h2 _ (nfind_mem e2)
  have h3 : S.mths[m]? = some nm' := h3
  rw [e1] at h3
  cases h3
  exact ⟨a, h4, h5⟩
theorem all_mna (h : (S.mths.all fun nm => !S.attrs.contains nm) = true) (m : Nat) (nm : Str) (e : S.mths[m]? = some nm) : nm ∉ S.attrs := by
  have := List.all_eq_true.mp h nm (List.mem_of_getElem? e)
  simpa using this
def mksB (S : Nm) (g : Glob) : Bool := S.mks.all fun e => (List.range g.clss.length).all fun c =>
  match g.meth c e.1 with
  | some f => decide ((f, e.2.1 + 1, e.2.2.1, 0 :: e.2.2.2.map (· + 1)) ∈ S.shp)
  | none => true
theorem all_mks (h : mksB S g = true) : ∀ e ∈ S.mks, ∀ c f, g.meth c e.1 = some f → (f, e.2.1 + 1, e.2.2.1, 0 :: e.2.2.2.map (· + 1)) ∈ S.shp := fun e he c f hm => by
  have h1 := List.all_eq_true.mp h e he
  have hc : c < g.clss.length := by
    unfold Glob.meth at hm
    cases hg : g.clss[c]? with
    | none => rw [hg] at hm; cases hm
    | some _ => exact (List.getElem?_eq_some_iff.mp hg).1
  have h2 := List.all_eq_true.mp h1 c (List.mem_range.mpr hc)
  rw [hm] at h2
  exact of_decide_eq_true h2
theorem all_con (h : AllI (fun k x => ∃ d u v, g.consts[k]? = some d ∧ mg x = some u ∧ RelV v u ∧ ∀ ρ H, RD K L ρ H d v) 0 S.constN) (k : Nat) (x : Str) (e : S.constN[k]? = some x) : ∃ d u v, g.consts[k]? = some d ∧ mg x = some u ∧ RelV v u ∧ ∀ ρ H, RD K L ρ H d v := all_ix h k x e
theorem all_exc (h : AllI (fun k p => ∃ C nm, L.exs[k]? = some C ∧ mg p.1 = some (.ref C) ∧ S.attrs[p.2]? = some nm ∧ ∃ fI fd ps, OexC K C ∧ PySem.W.findIn K (.ref C) "__init__" = some (some (.ref fI)) ∧ PySem.W.typeIn K (.ref fI) = some (.type "function") ∧ Binds K fd ps [] ∧ ∀ P w base, FnOk P w K mg base (L2.CX P w) 1 fI fd ps (spX K C nm)) 0 S.excN) (k : Nat) (x : Str) (f : Nat) (e : S.excN[k]? = some (x, f)) :
    ∃ C nm, L.exs[k]? = some C ∧ mg x = some (.ref C) ∧ S.attrs[f]? = some nm ∧ ∃ fI fd ps, OexC K C ∧ PySem.W.findIn K (.ref C) "__init__" = some (some (.ref fI)) ∧ PySem.W.typeIn K (.ref fI) = some (.type "function") ∧ Binds K fd ps [] ∧ ∀ P w base, FnOk P w K mg base (L2.CX P w) 1 fI fd ps (spX K C nm) := all_ix h k (x, f) e
inductive AllZ {α β : Type} (P : α → β → Prop) : List α → List β → Prop
  | nil : AllZ P [] []
  | cons {a : α} {b : β} {as : List α} {bs : List β} : P a b → AllZ P as bs → AllZ P (a :: as) (b :: bs)
theorem all_z {α β : Type} {P : α → β → Prop} : ∀ {as : List α} {bs : List β}, AllZ P as bs → ∀ (k : Nat) (a : α) (b : β), as[k]? = some a → bs[k]? = some b → P a b
  | _, _, .nil, k, a, b, h, _ => by simp at h
  | _, _, .cons p t, 0, a, b, h1, h2 => by
    simp at h1 h2
    subst h1 h2
    exact p
  | _, _, .cons p t, k + 1, a, b, h1, h2 => all_z t k a b (by simpa using h1) (by simpa using h2)
theorem kit_ref {C R : Addr} {b : Bool} (h4 : PySem.W.subIn K (.ref C) (.ref R) = some b) (hs : PySem.W.subIn K (.ref C) (.ref C) = some true) (hd : PySem.W.hasDictIn K R = true) (ht : PySem.W.typeIn K (.ref R) = some (.type "type")) : PySem.W.kitOne K (.ref C) (.ref R) = some b := by
  unfold PySem.W.kitOne
  by_cases e : C = R
  · subst e
    rw [h4] at hs
    cases hs
    rw [if_pos (by simp)]
  · rw [if_neg (by simpa using e)]
    obtain ⟨cd, hc, _⟩ := PySem.W.any_some hd
    show (if ((PySem.W.clsIn K R).isSome && PySem.W.typeIn K (.ref R) == some (.type "type")) = true then PySem.W.subIn K (.ref C) (.ref R) else none) = some b
    rw [if_pos (by rw [hc, ht] <;> rfl)]
    exact h4
theorem exm_of {C R : Addr} {b : Bool} (h1 : PySem.W.subIn K (.ref R) (.type "BaseException") = some true) (hd : PySem.W.hasDictIn K R = true) (ht : PySem.W.typeIn K (.ref R) = some (.type "type")) (hs : PySem.W.subIn K (.ref C) (.ref C) = some true) (h4 : PySem.W.subIn K (.ref C) (.ref R) = some b) :
    PySem.W.exmOne K (.ref C) (.ref R) = some b ∧ PySem.W.kitOne K (.ref C) (.ref R) = some b := ⟨PySem.W.exm_ref h1 hd ht h4, kit_ref h4 hs hd ht⟩
theorem exf_of {C : Addr} {as : List Str} (g1 : PySem.W.findIn K (.ref C) "__getattribute__" = some (some (.builtin "BaseException.__getattribute__"))) (g2 : PySem.W.findIn K (.ref C) "__getattr__" = some none) (g3 : PySem.W.subIn K (.ref C) (.type "BaseException") = some true) (g4 : PySem.W.hasDictIn K C = true)
    (g5 : PySem.W.findIn K (.ref C) "__class__" = some (some (.builtin "object.__class__"))) (g6 : PySem.W.specialIn K (.builtin "object.__class__") "__get__" = some (some (.builtin "getset_descriptor.__get__"))) (g7 : PySem.W.takesIn K (.builtin "object.__class__") = some true) (g8 : PySem.W.mroIn K C (.type "object") = some true)
    (no : AllM (fun x => PySem.W.findIn K (.ref C) x = some none) as) : ExF K as C := ⟨⟨g1, g2, g3, g4, g5, g6, g7, g8⟩, ⟨g1, g2, g3, g4⟩, all_mem no⟩
end
end MI
/-! MI, part 21: running the small language by hand. -/
namespace MI
open PySem L2

/-- a loop, by what holds ahead of each turn -/
theorem for_run {nx : Nat → Hq → Option (Option D)} {body : D → Env → Hq → (Env → Hq → Prop) → Prop} {k : Env → Hq → Prop} (M : Nat) (Inv : Nat → Env → Hq → Prop)
    (step : ∀ j env hp kn, j < M → Inv j env hp → (∀ env' hp', Inv (j + 1) env' hp' → kn env' hp') → ∃ d, nx j hp = some (some d) ∧ body d env hp kn)
    (fin : ∀ env hp, Inv M env hp → nx M hp = some none ∧ k env hp) {env : Env} {hp : Hq} (h0 : Inv 0 env hp) : ∃ N, forLoop nx body N 0 env hp k := by
  have go : ∀ m j env hp, m + j = M → Inv j env hp → forLoop nx body (m + 1) j env hp k := by
    intro m
    induction m with
    | zero =>
      intro j env hp e h
      have e : j = M := by omega
      subst e
      obtain ⟨h1, h2⟩ := fin env hp h
      unfold forLoop
      rw [h1]
      exact h2
    | succ m ih =>
      intro j env hp e h
      unfold forLoop
      obtain ⟨d, h1, h2⟩ := step j env hp (fun env' hp' => forLoop nx body (m + 1) (j + 1) env' hp' k) (by omega) h fun env' hp' h' => ih (j + 1) env' hp' (by omega) h'
      rw [h1]
      exact h2
  exact ⟨M + 1, go M 0 env hp (by omega) h0⟩
/-- a comprehension, likewise: acc is what stands so far -/
theorem lc_run {nx : Nat → Hq → Option (Option D)} {body : D → Hq → (Option D → Hq → Prop) → Prop} {k : List D → Hq → Prop} (M : Nat) (Inv : Nat → List D → Hq → Prop)
    (step : ∀ j acc hp kn, j < M → Inv j acc hp → (∀ hp', Inv (j + 1) acc hp' → kn none hp') → (∀ y hp', Inv (j + 1) (acc ++ [y]) hp' → kn (some y) hp') → ∃ d, nx j hp = some (some d) ∧ body d hp kn)
    (small : ∀ j acc hp, Inv j acc hp → acc.length < SZ)
    (fin : ∀ acc hp, Inv M acc hp → nx M hp = some none ∧ k acc hp) {hp : Hq} (h0 : Inv 0 [] hp) : ∃ N, lcLoop nx body N 0 [] hp k := by
  have go : ∀ m j acc hp, m + j = M → Inv j acc hp → lcLoop nx body (m + 1) j acc hp k := by
    intro m
    induction m with
    | zero =>
      intro j acc hp e h
      have e : j = M := by omega
      subst e
      obtain ⟨h1, h2⟩ := fin acc hp h
      unfold lcLoop
      rw [h1]
      exact h2
    | succ m ih =>
      intro j acc hp e h
      unfold lcLoop
      obtain ⟨d, h1, h2⟩ := step j acc hp (fun r hp' => match r with
        | none => lcLoop nx body (m + 1) (j + 1) acc hp' k
        | some y => acc.length < SZ ∧ lcLoop nx body (m + 1) (j + 1) (acc ++ [y]) hp' k) (by omega) h (fun hp' h' => ih (j + 1) acc hp' (by omega) h') fun y hp' h' => ⟨small j acc hp h, ih (j + 1) (acc ++ [y]) hp' (by omega) h'⟩
      rw [h1]
      exact h2
  exact ⟨M + 1, go M 0 [] hp (by omega) h0⟩
theorem set_same {hp : Hq} {i : Nat} {o o' : O} (h : hp[i]? = some o) : (hp.set i o')[i]? = some o' := List.getElem?_set_self (List.getElem?_eq_some_iff.mp h).1
theorem set_other {hp : Hq} {i j : Nat} {o' : O} (h : i ≠ j) : (hp.set i o')[j]? = hp[j]? := List.getElem?_set_ne h
theorem app_old {hp : Hq} {i : Nat} {o : O} {l : List O} (h : hp[i]? = some o) : (hp ++ l)[i]? = some o := by
  rw [List.getElem?_append_left (List.getElem?_eq_some_iff.mp h).1]
  exact h
theorem lt_of {hp : Hq} {i : Nat} {o : O} (h : hp[i]? = some o) : i < hp.length := (List.getElem?_eq_some_iff.mp h).1
/-! ### steps -/
section
variable {hp : Hq} {Q : QD} {k : Bool → Prop} {kh : Hq → Prop} {i j : Int} {x y : Str} {a b : Bool} {n : Nat} {d e : D} {xs ys : List D} {C : Prop}
theorem a_ok : (OutD.ok d hp).app Q = Q d hp := rfl
theorem a_cd : (OutD.cd C d hp).app Q = (C ∧ Q d hp) := rfl
theorem a_no : OutD.no.app Q = False := rfl
theorem ab_okB : (OutB.ok a).app k = k a := rfl
theorem ab_cd : (OutB.cd C a).app k = (C ∧ k a) := rfl
theorem ah_ok : (OutH.ok hp).app kh = kh hp := rfl
theorem ah_cd : (OutH.cd C hp).app kh = (C ∧ kh hp) := rfl
theorem o_add : oBin .add (.int i) (.int j) hp = .ok (.int (i + j)) hp := rfl
theorem o_addt : oBin .add (.tup xs) (.tup ys) hp = .cd (xs.length + ys.length ≤ SZ) (.tup (xs ++ ys)) hp := rfl
theorem o_adds : oBin .add (.str x) (.str y) hp = .cd (x.length + y.length ≤ SZ) (.str (x ++ y)) hp := rfl
theorem o_addl {p q : Nat} : oBin .add (.ref p) (.ref q) hp = (match gtL hp p, gtL hp q with
    | some xs, some ys => .cd (xs.length + ys.length ≤ SZ) (.ref hp.length) (hp ++ [.lst (xs ++ ys)])
    | _, _ => .no) := rfl
theorem o_mull {p : Nat} : oBin .mul (.ref p) (.int i) hp = (match gtL hp p with
    | some xs => .cd (-(2 ^ 63) ≤ i ∧ i < 2 ^ 63 ∧ xs.length * i.toNat ≤ SZ) (.ref hp.length) (hp ++ [.lst (List.replicate i.toNat xs).flatten])
    | none => .no) := rfl
theorem o_sub : oBin .sub (.int i) (.int j) hp = .ok (.int (i - j)) hp := rfl
theorem o_mul : oBin .mul (.int i) (.int j) hp = .cd ((-(2 ^ 64) < i ∧ i < 2 ^ 64) ∨ (-(2 ^ 64) < j ∧ j < 2 ^ 64)) (.int (i * j)) hp := rfl
theorem o_fdiv : oBin .fdiv (.int i) (.int j) hp = .cd (0 < j ∧ j < 1073741824) (.int (i / j)) hp := rfl
theorem o_mod : oBin .mod (.int i) (.int j) hp = .cd (0 < j) (.int (i % j)) hp := rfl
theorem o_pow : oBin .pow (.int i) (.int j) hp = .cd (0 ≤ j ∧ j ≤ 1000000 ∧ i.natAbs < 2 ^ 64) (.int (i ^ j.toNat)) hp := rfl
theorem t_non : oTru .non hp = .ok false := rfl
theorem t_bl : oTru (.bl a) hp = .ok a := rfl
theorem t_int : oTru (.int i) hp = .ok (i != 0) := rfl
theorem t_tup : oTru (.tup xs) hp = .ok (!xs.isEmpty) := rfl
theorem c_eqi : oCmp .eq (.int i) (.int j) hp = .ok (.bl (decide (i = j))) hp := rfl
theorem c_eqs : oCmp .eq (.str x) (.str y) hp = .ok (.bl (decide (x = y))) hp := rfl
theorem c_eqb : oCmp .eq (.bl a) (.bl b) hp = .ok (.bl (decide (a = b))) hp := rfl
theorem c_nei : oCmp .ne (.int i) (.int j) hp = .ok (.bl (!decide (i = j))) hp := rfl
theorem c_nes : oCmp .ne (.str x) (.str y) hp = .ok (.bl (!decide (x = y))) hp := rfl
theorem c_eqt : oCmp .eq (.tup xs) d hp = (oEqG (.tup xs) d hp).val false hp := by cases d <;> rfl
theorem c_net : oCmp .ne (.tup xs) d hp = (oEqG (.tup xs) d hp).val true hp := by cases d <;> rfl
theorem c_eqr : oCmp .eq (.ref n) d hp = (oEqG (.ref n) d hp).val false hp := by cases d <;> rfl
theorem c_ner : oCmp .ne (.ref n) d hp = (oEqG (.ref n) d hp).val true hp := by cases d <;> rfl
theorem c_lt : oCmp .lt (.int i) (.int j) hp = .ok (.bl (decide (i < j))) hp := rfl
theorem c_le : oCmp .le (.int i) (.int j) hp = .ok (.bl (decide (i ≤ j))) hp := rfl
theorem c_gt : oCmp .gt (.int i) (.int j) hp = .ok (.bl (decide (j < i))) hp := rfl
theorem c_ge : oCmp .ge (.int i) (.int j) hp = .ok (.bl (decide (j ≤ i))) hp := rfl
theorem c_is : oCmp .is d .non hp = .ok (.bl (isNon d)) hp := by cases d <;> rfl
theorem c_nis : oCmp .nis d .non hp = .ok (.bl (!isNon d)) hp := by cases d <;> rfl
theorem c_in : oCmp .isin d e hp = (oIn d e hp).val false hp := rfl
theorem c_nin : oCmp .nin d e hp = (oIn d e hp).val true hp := rfl
theorem v_ok {neg : Bool} : (OutB.ok a).val neg hp = .ok (.bl (if neg then !a else a)) hp := rfl
theorem v_cd {neg : Bool} : (OutB.cd C a).val neg hp = .cd C (.bl (if neg then !a else a)) hp := rfl
theorem x_tup : oIx (.tup xs) (.int i) hp = oAtI xs i hp := rfl
theorem x_kl : oIx (.kl xs) (.int i) hp = oAtI xs i hp := rfl
theorem x_refi {p : Nat} : oIx (.ref p) (.int i) hp = (match hp[p]? with
    | some (.dic kvs) => oAtK kvs (.int i) hp
    | some (.fdic kvs) => oAtK kvs (.int i) hp
    | some (.lst xs) => oAtI xs i hp
    | _ => .no) := rfl
theorem x_refs {p : Nat} : oIx (.ref p) (.str x) hp = (match hp[p]? with
    | some (.dic kvs) => oAtK kvs (.str x) hp
    | some (.fdic kvs) => oAtK kvs (.str x) hp
    | _ => .no) := by
  show (match hp[p]? with
    | some (.dic kvs) => oAtK kvs (.str x) hp
    | some (.fdic kvs) => oAtK kvs (.str x) hp
    | some (.lst xs) => OutD.no
    | _ => .no) = _
  rcases hp[p]? with _ | (_ | _ | _ | _ | _) <;> rfl
theorem s_refi {p : Nat} : oSet (.ref p) (.int i) d hp = (match hp[p]? with
    | some (.dic kvs) => .cd (kvs.length < SZ) (hp.set p (.dic (dput kvs (.inl i) d)))
    | some (.lst xs) => (match L2.ixN xs.length i with
        | some j => .ok (hp.set p (.lst (xs.set j d)))
        | none => .no)
    | _ => .no) := by
  show (match hp[p]? with
    | some (.dic kvs) => _
    | some (.lst xs) => _
    | _ => _) = _
  rcases hp[p]? with _ | (_ | _ | _ | _ | _) <;> rfl
theorem s_refs {p : Nat} : oSet (.ref p) (.str x) d hp = (match hp[p]? with
    | some (.dic kvs) => .cd (kvs.length < SZ) (hp.set p (.dic (dput kvs (.inr x) d)))
    | _ => .no) := by
  show (match hp[p]? with
    | some (.dic kvs) => _
    | some (.lst xs) => OutH.no
    | _ => _) = _
  rcases hp[p]? with _ | (_ | _ | _ | _ | _) <;> rfl
theorem f_ref {p f : Nat} : oGetF (.ref p) f hp = (match gtI hp p with
    | some (_, fs) => (match fget fs f with
      | some d => .ok d hp
      | none => .no)
    | none => .no) := rfl
theorem sf_ref {p f : Nat} : oSetF (.ref p) f d hp = (match gtI hp p with
    | some (c, fs) => .cd (fs.length < 900) (hp.set p (.ins c (fput fs f d)))
    | none => .no) := rfl
theorem atI_nat {α : Type} (xs : List α) (k : Nat) : L2.atI xs (k : Int) = xs[k]? := by
  unfold L2.atI L2.ixN
  by_cases h : k < xs.length
  · rw [if_pos (Int.natCast_nonneg k), if_pos (by exact_mod_cast h)]
    simp
  · rw [if_pos (Int.natCast_nonneg k), if_neg (by omega)]
    rw [List.getElem?_eq_none (Nat.le_of_not_lt h)]
    rfl
theorem oAt_nat (k : Nat) : oAtI xs (k : Int) hp = (match xs[k]? with | some d => .ok d hp | none => .no) := by
  unfold oAtI
  rw [atI_nat]
  all_goals (cases xs[k]? <;> rfl)
theorem at_0 {x : D} : oAtI (x :: xs) 0 hp = .ok x hp := oAt_nat 0
theorem at_1 {x y : D} : oAtI (x :: y :: xs) 1 hp = .ok y hp := oAt_nat 1
theorem at_2 {x y z : D} : oAtI (x :: y :: z :: xs) 2 hp = .ok z hp := oAt_nat 2
theorem ixN_nat {n k : Nat} (h : k < n) : L2.ixN n (k : Int) = some k := by
  unfold L2.ixN
  rw [if_pos (Int.natCast_nonneg k), if_pos (by exact_mod_cast h)]
  simp
theorem ixN_0 {n : Nat} : L2.ixN (n + 1) 0 = some 0 := ixN_nat (k := 0) (Nat.succ_pos n)
theorem ixN_1 {n : Nat} : L2.ixN (n + 1 + 1) 1 = some 1 := ixN_nat (k := 1) (by omega)
theorem atI_m1 {α : Type} (xs : List α) (h : xs ≠ []) : L2.atI xs (-1) = xs.getLast? := by
  have hl : 0 < xs.length := List.length_pos_iff.mpr h
  unfold L2.atI L2.ixN
  rw [if_neg (by decide), if_pos (by omega)]
  show xs[((-1 : Int) + (xs.length : Int)).toNat]? = _
  rw [List.getLast?_eq_getElem?]
  congr 1
  omega
theorem sl_lst {p : Nat} {l h : Option Int} (e : hp[p]? = some (.lst xs)) : oSl (.ref p) l h hp = .ok (.ref hp.length) (hp ++ [.lst (cutD xs l h)]) := by
  show (match gtL hp p with | some xs => oNew hp (.lst (cutD xs l h)) | none => OutD.no) = _
  unfold gtL
  rw [e]
  rfl
theorem sl_tup {l h : Option Int} : oSl (.tup xs) l h hp = .ok (.tup (cutD xs l h)) hp := rfl
theorem list_l {p : Nat} (e : hp[p]? = some (.lst xs)) : oBF .list1 [.ref p] hp = .ok (.ref hp.length) (hp ++ [.lst xs]) := by
  show (match gtL hp p with | some xs => oNew hp (.lst xs) | none => OutD.no) = _
  unfold gtL
  rw [e]
  rfl
theorem seq_lst {p : Nat} (h : hp[p]? = some (.lst xs)) : itSeq hp (.ref p) = some (itLst p, hp) := by
  unfold itSeq
  simp only [h]
theorem app_k {p : Nat} (e : hp[p]? = some (.lst xs)) : bmK .append (.ref p) hp = some .lst := by
  unfold bmK
  simp only [e]
theorem app_l {p : Nat} (e : hp[p]? = some (.lst xs)) : oBM .append .lst (.ref p) [d] hp = .cd (xs.length < SZ) .non (hp.set p (.lst (xs ++ [d]))) := by
  show (match gtL hp p with | some xs => OutD.cd (xs.length < SZ) .non (hp.set p (.lst (xs ++ [d]))) | none => .no) = _
  unfold gtL
  rw [e]
theorem mapO_map {α β γ : Type} {f : β → Option γ} {u : α → β} {v : α → γ} : ∀ xs : List α, (∀ x ∈ xs, f (u x) = some (v x)) → mapO f (xs.map u) = some (xs.map v)
  | [], _ => rfl
  | k :: r, h => by
    rw [List.map_cons]
    unfold mapO
    rw [h k List.mem_cons_self, mapO_map r fun x hx => h x (List.mem_cons_of_mem _ hx)]
    rfl
theorem mapO_ints (n : Nat) (hp : Hq) (ns : List Int) : mapO (toP (n + 1) hp) (ns.map D.int) = some (ns.map PyData.int) := mapO_map ns fun _ _ => rfl
theorem sh_ints (ns : List Int) : SeqAt.shaped (.list (ns.map PyData.int)) = true := by
  have h1 : ∀ ns : List Int, PyData.canLayAll0 (ns.map PyData.int) = true := by
    intro ns
    induction ns with
    | nil => rfl
    | cons k r ih => simp [PyData.canLayAll0, PyData.canLay0, ih]
  have h2 := depth_ints ns
  have h3 : (PyData.list (ns.map PyData.int)).depth ≤ 64 := by
    simp only [PyData.depth]
    omega
  unfold SeqAt.shaped
  rw [Bool.and_eq_true]
  exact ⟨by simpa [PyData.canLay0] using h1 ns, decide_eq_true h3⟩
theorem sh_int (n : Int) : SeqAt.shaped (.int n) = true := by
  unfold SeqAt.shaped
  simp [PyData.canLay0, PyData.depth]
theorem any_ints (n : Int) : ∀ ns : List Int, ((ns.map PyData.int).any fun b => PyData.eqv b (.int n)) = decide (n ∈ ns)
  | [] => rfl
  | k :: r => by
    rw [List.map_cons, List.any_cons, any_ints n r]
    simp only [PyData.eqv, List.mem_cons]
    by_cases h : k = n
    · subst h; simp
    · simp [h, Ne.symm h]
theorem in_ints {p : Nat} {ns : List Int} (e : hp[p]? = some (.lst (ns.map D.int))) : oIn (.int i) (.ref p) hp = .cd (SeqAt.shaped (.int i) = true ∧ SeqAt.shaped (.list (ns.map PyData.int)) = true) (decide (i ∈ ns)) := by
  have h : oIn (.int i) (.ref p) hp = oInS (.int i) (ns.map D.int) hp := by
    unfold oIn
    simp only [e]
  rw [h]
  unfold oInS
  rw [mapO_ints 39 hp ns, show toP 40 hp (.int i) = some (.int i) from rfl]
  simp only [any_ints]
theorem isi_tt : oBF .isi [.tup xs, .ty "tuple"] hp = .ok (.bl true) hp := by
  show (if tyAll.contains "tuple" then OutD.ok (.bl (isiB "tuple" "tuple")) hp else .no) = _
  rw [if_pos (by decide +kernel), show isiB "tuple" "tuple" = true by decide +kernel]
theorem isi_ss : oBF .isi [.str x, .ty "str"] hp = .ok (.bl true) hp := by
  show (if tyAll.contains "str" then OutD.ok (.bl (isiB "str" "str")) hp else .no) = _
  rw [if_pos (by decide +kernel), show isiB "str" "str" = true by decide +kernel]
theorem isi_ii : oBF .isi [.int i, .ty "int"] hp = .ok (.bl true) hp := by
  show (if tyAll.contains "int" then OutD.ok (.bl (isiB "int" "int")) hp else .no) = _
  rw [if_pos (by decide +kernel), show isiB "int" "int" = true by decide +kernel]
theorem isi_ib : oBF .isi [.int i, .ty "bool"] hp = .ok (.bl false) hp := by
  show (if tyAll.contains "bool" then OutD.ok (.bl (isiB "int" "bool")) hp else .no) = _
  rw [if_pos (by decide +kernel), show isiB "int" "bool" = false by decide +kernel]
theorem isi_ll {p : Nat} (h : hp[p]? = some (.lst xs)) : oBF .isi [.ref p, .ty "list"] hp = .ok (.bl true) hp := by
  show (match tyOf hp (.ref p) with | some a => if tyAll.contains "list" then OutD.ok (.bl (isiB a "list")) hp else .no | none => .no) = _
  have : tyOf hp (.ref p) = some "list" := by simp only [tyOf, h]
  rw [this]
  show (if tyAll.contains "list" then OutD.ok (.bl (isiB "list" "list")) hp else .no) = _
  rw [if_pos (by decide +kernel), show isiB "list" "list" = true by decide +kernel]
theorem len_t : oBF .len [.tup xs] hp = .ok (.int xs.length) hp := rfl
theorem len_t0 : oBF .len [.tup []] hp = .ok (.int 0) hp := rfl
theorem len_t1 : oBF .len [.tup [d]] hp = .ok (.int 1) hp := rfl
theorem len_t2 : oBF .len [.tup [d, e]] hp = .ok (.int 2) hp := rfl
theorem len_k : oBF .len [.kl xs] hp = .ok (.int xs.length) hp := rfl
theorem max_2 : oBF .max2 [.int i, .int j] hp = .ok (.int (if j > i then j else i)) hp := rfl
theorem min_2 : oBF .min2 [.int i, .int j] hp = .ok (.int (if j < i then j else i)) hp := rfl
theorem int_b : oBF .int1 [.bl a] hp = .ok (.int (if a then 1 else 0)) hp := rfl
theorem gtL_of {p : Nat} (h : hp[p]? = some (.lst xs)) : gtL hp p = some xs := by unfold gtL; rw [h]
theorem gtI_of {p c : Nat} {fs : List (Nat × D)} (h : hp[p]? = some (.ins c fs)) : gtI hp p = some (c, fs) := by unfold gtI; rw [h]
theorem gtD_of {p : Nat} {kvs : List (L2.Key × D)} (h : hp[p]? = some (.dic kvs)) : gtD hp p = some kvs := by unfold gtD; rw [h]
end
/-- old places stay, but some -/
structure Keep (P : Nat → Prop) (hp hp' : Hq) : Prop where
  len : hp.length ≤ hp'.length
  at_ : ∀ i, i < hp.length → ¬ P i → hp'[i]? = hp[i]?
theorem Keep.refl (P : Nat → Prop) (hp : Hq) : Keep P hp hp := ⟨Nat.le_refl _, fun _ _ _ => rfl⟩
theorem Keep.trans {P : Nat → Prop} {a b c : Hq} (h1 : Keep P a b) (h2 : Keep P b c) : Keep P a c :=
  ⟨Nat.le_trans h1.len h2.len, fun i hi hp => (h2.at_ i (Nat.lt_of_lt_of_le hi h1.len) hp).trans (h1.at_ i hi hp)⟩
theorem Keep.set {P : Nat → Prop} {hp : Hq} {i : Nat} {o : O} (h : P i) : Keep P hp (hp.set i o) := ⟨by simp, fun j _ hj => List.getElem?_set_ne (fun e : i = j => hj (by rw [← e]; exact h))⟩
theorem Keep.app {P : Nat → Prop} {hp : Hq} {l : List O} : Keep P hp (hp ++ l) := ⟨by simp, fun j hj _ => List.getElem?_append_left hj⟩
theorem Keep.get {P : Nat → Prop} {a b : Hq} (h : Keep P a b) {i : Nat} {o : O} (e : a[i]? = some o) (hn : ¬ P i) : b[i]? = some o := (h.at_ i (lt_of e) hn).trans e
theorem Keep.mono {P Q : Nat → Prop} {a b : Hq} (h : Keep P a b) (hq : ∀ i, i < a.length → P i → Q i) : Keep Q a b := ⟨h.len, fun i hi hn => h.at_ i hi fun p => hn (hq i hi p)⟩
end MI
set_option maxHeartbeats 4000000
/-! MI, part 22: how a law draws its numbers. -/
local macro_rules | `(tactic| walk_at "mi") => `(tactic| simp (disch := (first | assumption | omega | (simp only [List.length_append, List.length_cons, List.length_nil, List.length_set]; omega))) only [*, MI.wSs, MI.wS, MI.wE, MI.wEs, MI.wEo, MI.wTg, MI.wTgs, MI.a_ok, MI.a_cd, MI.a_no, MI.ab_okB, MI.ab_cd, MI.ah_ok, MI.ah_cd, MI.o_add, MI.o_addt, MI.o_adds, MI.o_addl, MI.o_mull, MI.o_sub, MI.o_mul, MI.o_fdiv, MI.o_mod, MI.o_pow, MI.t_non, MI.t_bl, MI.t_int, MI.t_tup, MI.c_eqi, MI.c_eqs, MI.c_eqb, MI.c_nei, MI.c_nes, MI.c_eqt, MI.c_net, MI.c_eqr, MI.c_ner, MI.c_lt, MI.c_le, MI.c_gt, MI.c_ge, MI.c_is, MI.c_nis, MI.c_in, MI.c_nin, MI.v_ok, MI.v_cd, MI.x_tup, MI.x_kl, MI.x_refi, MI.x_refs, MI.s_refi, MI.s_refs, MI.f_ref, MI.sf_ref, MI.at_0, MI.at_1, MI.at_2, MI.ixN_0, MI.ixN_1, List.getElem?_cons_zero, List.getElem?_cons_succ, List.set_cons_zero, List.set_cons_succ, List.map_cons, List.map_nil, List.cons_append, List.nil_append, List.replicate, Option.getD_some, Option.getD_none, Bool.false_eq_true, if_true, if_false, List.length_cons, List.length_nil, List.getElem?_set_self', Option.map_eq_map, Option.map_some, Function.const_apply, List.set_set, decide_eq_true_eq, true_and, and_true])
namespace MI
open PySem L2

def bCell : Sts :=
  (.cons (.ifs (.cmp .lt (.var 1) (.blt .len (.cons (.var 0) .nil))) (.cons (.ret (.so (.ix (.var 0) (.var 1)))) .nil) .nil) (.cons (.ret (.so (.lit (.int 0)))) .nil))
def bPool (f : Nat) : Sts :=
  (.cons (.asg (.nm 2) (.call f (.cons (.var 0) (.cons (.var 1) .nil)))) (.cons (.asg (.nm 3) (.bin .mod (.bin .mul (.bin .add (.bin .add (.bin .mod (.var 2) (.lit (.int 2147483629))) (.bin .mul (.bin .mul (.lit (.int 7919)) (.var 1)) (.var 1))) (.lit (.int 1))) (.lit (.int 48271))) (.lit (.int 2147483647)))) (.cons (.ifs (.cmp .lt (.var 2) (.bin .pow (.lit (.int 10)) (.lit (.int 18)))) (.cons (.asg (.nm 2) (.lit (.int 0))) .nil) .nil) (.cons (.ret (.so (.lst (.cons (.var 2) (.cons (.bin .mod (.bin .mul (.var 3) (.var 3)) (.lit (.int 2147483629))) .nil))))) .nil))))
def bTake : Sts :=
  (.cons (.ifs (.cmp .gt (.ix (.var 0) (.lit (.int 0))) (.lit (.int 0))) (.cons (.asg (.nm 2) (.bin .mod (.ix (.var 0) (.lit (.int 0))) (.var 1))) (.cons (.asg (.sb (.var 0) (.lit (.int 0))) (.bin .fdiv (.ix (.var 0) (.lit (.int 0))) (.var 1))) (.cons (.ret (.so (.var 2))) .nil))) .nil) (.cons (.asg (.sb (.var 0) (.lit (.int 1))) (.bin .mod (.bin .add (.bin .mul (.ix (.var 0) (.lit (.int 1))) (.lit (.int 48271))) (.lit (.int 11))) (.lit (.int 2147483647)))) (.cons (.ret (.so (.bin .mod (.bin .fdiv (.bin .mod (.bin .mul (.ix (.var 0) (.lit (.int 1))) (.ix (.var 0) (.lit (.int 1)))) (.lit (.int 2147483629))) (.lit (.int 64))) (.var 1)))) .nil)))
theorem call_of {g : Glob} {f np ns : Nat} {b : Sts} (h : g.fns[f]? = some ⟨np, ns, b⟩) (n : Nat) (ds : List D) (hp : Hq) (Q : QD) (E : QX) :
    wCall g (n + 1) f ds hp Q E = (ds.length = np ∧ wSs g (wCall g n) b (ds.map some ++ List.replicate (ns - np) none) hp { nx := fun _ hp => Q .non hp, bk := fun _ _ => False, ct := fun _ _ => False, rt := Q, ex := fun c i _ hp => E c i hp }) := by
  show (match g.fns[f]? with | none => False | some fi => _) = _
  rw [h]
section
variable {g : Glob} {f n : Nat} {hp : Hq} {Q : QD} {E : QX}
/-- the pool: what is left of the cell, a seed -/
def PoolAt (hp : Hq) (i : Nat) : Prop := ∃ c s : Int, hp[i]? = some (.lst [.int c, .int s]) ∧ 0 ≤ c ∧ 0 ≤ s ∧ s < 2147483647
theorem take_run (hf : g.fns[f]? = some ⟨2, 3, bTake⟩) {i : Nat} {m : Int} (h : PoolAt hp i) (hm : 0 < m) (hm2 : m < 1073741824)
    (k : ∀ (r : Int) hp', 0 ≤ r → r < m → Keep (· = i) hp hp' → hp'.length = hp.length → PoolAt hp' i → Q (.int r) hp') : wCall g (n + 1) f [.ref i, .int m] hp Q E := by
  obtain ⟨c, s, h, hc, hs, hs2⟩ := h
  have fin : ∀ r c' s' : Int, 0 ≤ r → r < m → 0 ≤ c' → 0 ≤ s' → s' < 2147483647 → Q (.int r) (hp.set i (.lst [.int c', .int s'])) := fun r c' s' h1 h2 h3 h4 h5 =>
    k r _ h1 h2 (Keep.set rfl) (by simp) ⟨c', s', set_same h, h3, h4, h5⟩
  clear k
  rw [call_of hf]
  refine ⟨rfl, ?_⟩
  unfold bTake
  revert fin
  walk_at "mi"
  intro fin
  split
  · exact fin _ _ _ (Int.emod_nonneg _ (by omega)) (Int.emod_lt_of_pos _ hm) (Int.ediv_nonneg hc (by omega)) hs hs2
  · have q1 := Int.emod_nonneg (s * 48271 + 11) (b := 2147483647) (by decide)
    have q2 := Int.emod_lt_of_pos (s * 48271 + 11) (b := 2147483647) (by decide)
    refine ⟨.inr ⟨by decide, by decide⟩, by decide, .inl ⟨by omega, by omega⟩, by decide, ⟨by decide, by decide⟩, fin _ _ _ (Int.emod_nonneg _ (by omega)) (Int.emod_lt_of_pos _ hm) hc q1 q2⟩
theorem cell_run (hf : g.fns[f]? = some ⟨2, 2, bCell⟩) {ns : List Int} {j : Nat} (k : ∀ c : Int, Q (.int c) hp) : wCall g (n + 1) f [.kl (ns.map D.int), .int j] hp Q E := by
  rw [call_of hf]
  refine ⟨rfl, ?_⟩
  unfold bCell
  by_cases h : j < ns.length
  · have e : L2.atI (ns.map D.int) (j : Int) = some (.int ns[j]) := by rw [atI_nat]; simp [h]
    have h' : (j : Int) < ((ns.map D.int).length : Int) := by simpa using h
    simp only [wSs, wS, wE, wEs, wEo, a_ok, ab_okB, oBF, c_lt, t_bl, x_kl, oAtI, e, List.map_cons, List.map_nil, List.cons_append, List.nil_append, List.replicate, List.getElem?_cons_zero, List.getElem?_cons_succ, Option.getD_some, h', decide_true, if_true]
    exact k _
  · have h' : ¬ (j : Int) < ((ns.map D.int).length : Int) := by simpa using h
    simp only [wSs, wS, wE, wEs, wEo, a_ok, ab_okB, oBF, c_lt, t_bl, x_kl, oAtI, List.map_cons, List.map_nil, List.cons_append, List.nil_append, List.replicate, List.getElem?_cons_zero, List.getElem?_cons_succ, Option.getD_some, h', decide_false, if_false, Bool.false_eq_true]
    exact k _
theorem pool_run {fc : Nat} (hf : g.fns[f]? = some ⟨2, 4, bPool fc⟩) (hc : g.fns[fc]? = some ⟨2, 2, bCell⟩) {ns : List Int} {j : Nat} (hj : j < 1000)
    (k : ∀ hp', hp' = hp ++ [hp'.getD hp.length (.lst [])] → PoolAt hp' hp.length → Q (.ref hp.length) hp') : wCall g (n + 2) f [.kl (ns.map D.int), .int j] hp Q E := by
  have fin : ∀ c s : Int, 0 ≤ c → 0 ≤ s → s < 2147483647 → Q (.ref hp.length) (hp ++ [.lst [.int c, .int s]]) := fun c s h1 h2 h3 => k _ (by simp) ⟨c, s, by simp, h1, h2, h3⟩
  clear k
  rw [call_of hf]
  refine ⟨rfl, ?_⟩
  unfold bPool
  simp only [wSs, wS, wE, wEs, wTg, List.map_cons, List.map_nil, List.cons_append, List.nil_append, List.replicate, List.getElem?_cons_zero, List.getElem?_cons_succ]
  refine cell_run hc fun c => ?_
  have sd : ∀ x : Int, 0 ≤ x % 2147483629 ∧ x % 2147483629 < 2147483629 := fun x => ⟨Int.emod_nonneg _ (by decide), Int.emod_lt_of_pos _ (by decide)⟩
  have sd2 : ∀ x : Int, 0 ≤ x % 2147483647 ∧ x % 2147483647 < 2147483647 := fun x => ⟨Int.emod_nonneg _ (by decide), Int.emod_lt_of_pos _ (by decide)⟩
  have p18 : (10 : Int) ^ (18 : Int).toNat = 1000000000000000000 := by decide
  simp only [wEs, wEo, wE, a_ok, a_cd, ab_okB, o_add, o_mul, o_mod, o_pow, c_lt, t_bl, p18, List.set_cons_zero, List.set_cons_succ, List.getElem?_cons_zero, List.getElem?_cons_succ]
  refine ⟨by decide, .inl ⟨by decide, by decide⟩, .inr ⟨by omega, by omega⟩, .inr ⟨by decide, by decide⟩, by decide, by decide, ?_⟩
  have q := sd2 ((c % 2147483629 + 7919 * (j : Int) * (j : Int) + 1) * 48271)
  generalize (c % 2147483629 + 7919 * (j : Int) * (j : Int) + 1) * 48271 % 2147483647 = s at q ⊢
  by_cases h : c < 1000000000000000000
  · simp only [h, decide_true, if_true]
    refine ⟨.inl ⟨by omega, by omega⟩, by decide, fin 0 _ (by decide) (sd _).1 ?_⟩
    have := (sd (s * s)).2
    omega
  · simp only [h, decide_false, if_false, Bool.false_eq_true]
    refine ⟨.inl ⟨by omega, by omega⟩, by decide, fin c _ (by omega) (sd _).1 ?_⟩
    have := (sd (s * s)).2
    omega
end
end MI
set_option maxHeartbeats 4000000
/-! MI, part 23: repr of small data. -/
namespace MI
open PySem L2
mutual
def smal : PyData → Bool
  | .none => true
  | .bool _ => true
  | .int i => decide (-999999999999 ≤ i) && decide (i ≤ 999999999999)
  | .str x => PyData.strOk x && x.cps.toList.all fun c => decide (c < 16 ^ 8)
  | .list xs => smalAll xs
  | .tuple xs => smalAll xs
  | .dict _ => false
def smalAll : List PyData → Bool
  | [] => true
  | x :: xs => smal x && smalAll xs
end
theorem log2_small {i : Int} (h1 : -999999999999 ≤ i) (h2 : i ≤ 999999999999) : i.natAbs.log2 < 1920 := by
  have h : i.natAbs ≤ 999999999999 := by omega
  by_cases z : i.natAbs = 0
  · rw [z]; decide
  · have : i.natAbs.log2 < 40 := (Nat.log2_lt z).mpr (by omega)
    omega
mutual
theorem smal_ok : ∀ d : PyData, smal d = true → d.leavesShort 13 = true ∧ d.showable = true ∧ d.canLay0 = true
  | .none, _ => by simp [PyData.leavesShort, PyData.showable, PyData.canLay0]
  | .bool b, _ => by simp [PyData.leavesShort, PyData.showable, PyData.canLay0]
  | .int i, h => by
    have h' : -999999999999 ≤ i ∧ i ≤ 999999999999 := by simpa [smal] using h
    refine ⟨?_, ?_, by simp [PyData.canLay0]⟩
    · simp only [PyData.leavesShort, decide_eq_true_eq]
      exact PyData.shown_int_le2 h'.1 h'.2
    · simp only [PyData.showable, decide_eq_true_eq]
      exact log2_small h'.1 h'.2
  | .str x, h => by
    unfold smal at h
    rw [Bool.and_eq_true] at h
    refine ⟨?_, by simp [PyData.showable], ?_⟩
    · unfold PyData.leavesShort; exact h.2
    · unfold PyData.canLay0; exact h.1
  | .list xs, h => by
    have q := smalAll_ok xs (by simpa [smal] using h)
    simpa [PyData.leavesShort, PyData.showable, PyData.canLay0] using q
  | .tuple xs, h => by
    have q := smalAll_ok xs (by simpa [smal] using h)
    simpa [PyData.leavesShort, PyData.showable, PyData.canLay0] using q
  | .dict kvs, h => by simp [smal] at h
theorem smalAll_ok : ∀ xs : List PyData, smalAll xs = true → PyData.leavesShortAll 13 xs = true ∧ PyData.showableAll xs = true ∧ PyData.canLayAll0 xs = true
  | [], _ => by simp [PyData.leavesShortAll, PyData.showableAll, PyData.canLayAll0]
  | x :: xs, h => by
    have h' : smal x = true ∧ smalAll xs = true := by simpa [smalAll] using h
    have q1 := smal_ok x h'.1
    have q2 := smalAll_ok xs h'.2
    simp [PyData.leavesShortAll, PyData.showableAll, PyData.canLayAll0, q1, q2]
end
def RpOk (a : PyData) : Prop := SeqAt.shaped a = true ∧ a.showable = true ∧ a.shown.length ≤ SZ
theorem rp_of {a : PyData} (h : smal a = true) (hd : a.depth ≤ 64) (hb : a.bulk ≤ 100000) : RpOk a := by
  obtain ⟨h1, h2, h3⟩ := smal_ok a h
  refine ⟨?_, h2, ?_⟩
  · unfold SeqAt.shaped
    rw [Bool.and_eq_true]
    exact ⟨h3, decide_eq_true hd⟩
  · have := PyData.shown_le_bulk 13 (by decide) a h1
    show _ ≤ 16777216
    omega
theorem repr_at {x : D} {a : PyData} {hp : Hq} (h : toP 40 hp x = some a) : oBF .repr [x] hp = .cd (RpOk a) (.str a.shown) hp := by
  show (match toP 40 hp x with | some a => OutD.cd (SeqAt.shaped a = true ∧ a.showable = true ∧ a.shown.length ≤ SZ) (.str a.shown) hp | none => .no) = _
  rw [h]
  rfl
theorem smal_ints : ∀ ns : List Int, (∀ n ∈ ns, -999999999999 ≤ n ∧ n ≤ 999999999999) → smalAll (ns.map .int) = true
  | [], _ => by simp [smalAll]
  | n :: r, h => by
    have q := h n List.mem_cons_self
    have q2 := smal_ints r fun x hx => h x (List.mem_cons_of_mem _ hx)
    simp [smalAll, smal, q, q2]
theorem bulk_ints : ∀ ns : List Int, PyData.bulkAll (ns.map .int) = ns.length
  | [] => rfl
  | n :: r => by
    have := bulk_ints r
    simp only [List.map_cons, PyData.bulkAll, PyData.bulk, List.length_cons]
    omega
end MI
set_option maxHeartbeats 4000000
/-! MI, part 24: dicts by their keys. -/
namespace MI
open PySem L2
section
variable {α β : Type}
theorem dget_map (k : Key) (f : Key × α → β) : ∀ kvs : List (Key × α), dget (kvs.map fun kv => (kv.1, f kv)) k = (dget kvs k).map fun v => f (k, v)
  | [] => rfl
  | (k', v) :: r => by
    show (if k' = k then some (f (k', v)) else dget (r.map fun kv => (kv.1, f kv)) k) = (if k' = k then some v else dget r k).map _
    by_cases h : k' = k
    · rw [if_pos h, if_pos h, h]; rfl
    · rw [if_neg h, if_neg h]; exact dget_map k f r
theorem dget_mem {k : Key} {v : α} : ∀ {kvs : List (Key × α)}, dget kvs k = some v → (k, v) ∈ kvs
  | (k', v') :: r, h => by
    have h : (if k' = k then some v' else dget r k) = some v := h
    by_cases e : k' = k
    · rw [if_pos e] at h; cases h; rw [e]; exact List.mem_cons_self
    · rw [if_neg e] at h; exact List.mem_cons_of_mem _ (dget_mem h)
theorem dget_none {k : Key} : ∀ {kvs : List (Key × α)}, (∀ kv ∈ kvs, kv.1 ≠ k) → dget kvs k = none
  | [], _ => rfl
  | (k', v') :: r, h => by
    show (if k' = k then some v' else dget r k) = none
    rw [if_neg (h (k', v') List.mem_cons_self)]
    exact dget_none fun kv hk => h kv (List.mem_cons_of_mem _ hk)
theorem dget_of_mem {k : Key} {v : α} : ∀ {kvs : List (Key × α)}, (kvs.map (·.1)).Nodup → (k, v) ∈ kvs → dget kvs k = some v
  | (k', v') :: r, hn, h => by
    have hn' := List.nodup_cons.mp hn
    show (if k' = k then some v' else dget r k) = some v
    rcases List.mem_cons.mp h with e | e
    · cases e; rw [if_pos rfl]
    · rw [if_neg fun z => hn'.1 (List.mem_map.mpr ⟨_, e, z.symm⟩)]
      exact dget_of_mem hn'.2 e
theorem dget_app {k : Key} : ∀ (a b : List (Key × α)), dget (a ++ b) k = match dget a k with | some v => some v | none => dget b k
  | [], b => rfl
  | (k', v') :: r, b => by
    show (if k' = k then some v' else dget (r ++ b) k) = match (if k' = k then some v' else dget r k) with | some v => some v | none => dget b k
    by_cases e : k' = k
    · simp only [if_pos e]
    · simp only [if_neg e]; exact dget_app r b
theorem any_key {k : Key} {kvs : List (Key × α)} : ((kvs.any fun kv => decide (kv.1 = k)) = true) ↔ k ∈ kvs.map (·.1) := by
  simp only [List.any_eq_true, decide_eq_true_eq, List.mem_map]
theorem dput_new {k : Key} {v : α} {kvs : List (Key × α)} (h : k ∉ kvs.map (·.1)) : dput kvs k v = kvs ++ [(k, v)] := by
  unfold dput
  rw [if_neg fun z => h (any_key.mp z)]
theorem dput_keys {k : Key} {v : α} {kvs : List (Key × α)} (hn : (kvs.map (·.1)).Nodup) : ((dput kvs k v).map (·.1)).Nodup ∧ ∀ kv ∈ dput kvs k v, kv.1 = k ∨ kv.1 ∈ kvs.map (·.1) := by
  by_cases h : k ∈ kvs.map (·.1)
  · have e : (dput kvs k v).map (·.1) = kvs.map (·.1) := by
      unfold dput
      rw [if_pos (any_key.mpr h), List.map_map]
      exact List.map_congr_left fun kv _ => by
        show (if kv.1 = k then (kv.1, v) else kv).1 = kv.1
        split <;> rfl
    refine ⟨e ▸ hn, fun kv hk => .inr ?_⟩
    rw [← e]
    exact List.mem_map.mpr ⟨kv, hk, rfl⟩
  · rw [dput_new h]
    refine ⟨?_, fun kv hk => ?_⟩
    · rw [List.map_append, List.nodup_append]
      refine ⟨hn, by simp, fun a ha b hb => ?_⟩
      have : b = k := by simpa using hb
      intro e
      exact h (by rw [← this, ← e]; exact ha)
    · rcases List.mem_append.mp hk with z | z
      · exact .inr (List.mem_map.mpr ⟨kv, z, rfl⟩)
      · have : kv = (k, v) := by simpa using z
        exact .inl (by rw [this])
theorem dget_put_map {k k' : Key} {v : α} : ∀ kvs : List (Key × α), dget (kvs.map fun kv => if kv.1 = k then (kv.1, v) else kv) k' = if k = k' then (dget kvs k').map fun _ => v else dget kvs k'
  | [] => by simp [dget]
  | (k1, v1) :: r => by
    have ih := dget_put_map (k := k) (k' := k') (v := v) r
    rw [List.map_cons]
    by_cases h1 : k1 = k
    · subst h1
      simp only [if_true]
      show (if k1 = k' then some v else _) = if k1 = k' then (if k1 = k' then some v1 else dget r k').map _ else if k1 = k' then some v1 else dget r k'
      by_cases h2 : k1 = k'
      · simp [h2]
      · simp only [if_neg h2] at ih ⊢; exact ih
    · simp only [if_neg h1]
      show (if k1 = k' then some v1 else _) = if k = k' then (if k1 = k' then some v1 else dget r k').map _ else if k1 = k' then some v1 else dget r k'
      by_cases h2 : k1 = k'
      · have h3 : k ≠ k' := fun z => h1 (h2.trans z.symm)
        simp only [if_pos h2, if_neg h3]
      · simp only [if_neg h2]; exact ih
theorem dget_dput {k k' : Key} {v : α} {kvs : List (Key × α)} : dget (dput kvs k v) k' = if k = k' then some v else dget kvs k' := by
  by_cases h : k ∈ kvs.map (·.1)
  · unfold dput
    rw [if_pos (any_key.mpr h), dget_put_map]
    by_cases e : k = k'
    · subst e
      rw [if_pos rfl, if_pos rfl]
      cases z : dget kvs k with
      | some w => rfl
      | none =>
        exfalso
        obtain ⟨kv, h1, h2⟩ := List.mem_map.mp h
        clear h
        induction kvs with
        | nil => cases h1
        | cons a r ih =>
          have z : (if a.1 = k then some a.2 else dget r k) = none := z
          by_cases q : a.1 = k
          · rw [if_pos q] at z; cases z
          · rw [if_neg q] at z
            rcases List.mem_cons.mp h1 with w | w
            · subst w; exact q h2
            · exact ih z w
    · rw [if_neg e, if_neg e]
  · rw [dput_new h, dget_app]
    by_cases e : k = k'
    · subst e
      rw [if_pos rfl, dget_none fun kv hk z => h (List.mem_map.mpr ⟨kv, hk, z⟩)]
      show (if k = k then some v else none) = some v
      rw [if_pos rfl]
    · rw [if_neg e]
      cases dget kvs k' with
      | some w => rfl
      | none =>
        show (if k = k' then some v else none) = none
        rw [if_neg e]
theorem dget_ddrop {k k' : Key} : ∀ kvs : List (Key × α), dget (ddrop kvs k) k' = if k = k' then none else dget kvs k'
  | [] => by simp [ddrop, dget]
  | (k1, v1) :: r => by
    have ih := dget_ddrop (k := k) (k' := k') r
    unfold ddrop at ih ⊢
    by_cases h1 : k1 = k
    · subst h1
      rw [List.filter_cons_of_neg (by simp), ih]
      show _ = if k1 = k' then none else if k1 = k' then some v1 else dget r k'
      by_cases h2 : k1 = k'
      · rw [if_pos h2, if_pos h2]
      · rw [if_neg h2, if_neg h2, if_neg h2]
    · rw [List.filter_cons_of_pos (by simpa using h1)]
      show (if k1 = k' then some v1 else _) = if k = k' then none else if k1 = k' then some v1 else dget r k'
      by_cases h2 : k1 = k'
      · have h3 : k ≠ k' := fun z => h1 (h2.trans z.symm)
        simp only [if_pos h2, if_neg h3]
      · simp only [if_neg h2]; exact ih
theorem ddrop_sub {k : Key} {kvs : List (Key × α)} : (ddrop kvs k).Sublist kvs := List.filter_sublist
/-- a fold of puts over new keys hangs them on -/
theorem fold_put : ∀ (l acc : List (Key × α)), ((acc ++ l).map (·.1)).Nodup → l.foldl (fun a kv => dput a kv.1 kv.2) acc = acc ++ l
  | [], acc, _ => by simp
  | (k, v) :: r, acc, h => by
    show r.foldl _ (dput acc k v) = _
    have hk : k ∉ acc.map (·.1) := by
      intro z
      rw [List.map_append, List.nodup_append] at h
      exact h.2.2 k z k (by simp) rfl
    rw [dput_new hk, fold_put r _ (by simpa using h)]
    simp
end
/-- the keys are 0 .. n-1, each once -/
structure Kys {α : Type} (n : Nat) (kvs : List (Key × α)) : Prop where
  nd : (kvs.map (·.1)).Nodup
  lt : ∀ kv ∈ kvs, ∃ j : Nat, j < n ∧ kv.1 = .inl (j : Int)
section
variable {α : Type} {n : Nat} {kvs : List (Key × α)}
theorem Kys.nil : Kys n ([] : List (Key × α)) := ⟨by simp, fun _ h => by cases h⟩
theorem Kys.put (h : Kys n kvs) {j : Nat} (hj : j < n) (v : α) : Kys n (dput kvs (.inl (j : Int)) v) :=
  ⟨(dput_keys h.nd).1, fun kv hk => by
    rcases (dput_keys h.nd).2 kv hk with e | e
    · exact ⟨j, hj, e⟩
    · obtain ⟨w, h1, h2⟩ := List.mem_map.mp e
      obtain ⟨i, h3, h4⟩ := h.lt w h1
      exact ⟨i, h3, h2 ▸ h4⟩⟩
theorem Kys.drop (h : Kys n kvs) (k : Key) : Kys n (ddrop kvs k) :=
  ⟨(ddrop_sub.map _).nodup h.nd, fun kv hk => h.lt kv (ddrop_sub.subset hk)⟩
theorem Kys.big (h : Kys n kvs) {j : Nat} (hj : n ≤ j) : dget kvs (.inl (j : Int)) = none := dget_none fun kv hk e => by
  obtain ⟨i, h1, h2⟩ := h.lt kv hk
  rw [h2] at e
  have : (i : Int) = j := by injection e
  omega
def wsum (w : Key → α → Nat) (kvs : List (Key × α)) : Nat → Nat
  | 0 => 0
  | n + 1 => wsum w kvs n + (match dget kvs (.inl (n : Int)) with | some v => w (.inl (n : Int)) v | none => 0)
theorem wsum_cons {w : Key → α → Nat} {j : Nat} {v : α} (hk : (.inl (j : Int)) ∉ kvs.map (·.1)) : ∀ n, wsum w ((.inl (j : Int), v) :: kvs) n = wsum w kvs n + (if j < n then w (.inl (j : Int)) v else 0)
  | 0 => by simp [wsum]
  | n + 1 => by
    have ih := wsum_cons (w := w) (v := v) hk n
    show wsum w _ n + (match (if (Sum.inl (j : Int) : Key) = .inl (n : Int) then some v else dget kvs (.inl (n : Int))) with | some v => w (.inl (n : Int)) v | none => 0) = wsum w kvs n + (match dget kvs (.inl (n : Int)) with | some v => w (.inl (n : Int)) v | none => 0) + _
    rw [ih]
    by_cases e : j = n
    · subst e
      rw [dget_none (kvs := kvs) fun kv h z => hk (List.mem_map.mpr ⟨kv, h, z⟩)]
      simp
    · have e' : ¬ (Sum.inl (j : Int) : Key) = .inl (n : Int) := fun z => e (by injection z with z; omega)
      rw [if_neg e']
      by_cases l : j < n
      · rw [if_pos l, if_pos (by omega)]; omega
      · rw [if_neg l, if_neg (show ¬ j < n + 1 by omega)]; simp only [Nat.add_zero]
theorem sum_keys {w : Key → α → Nat} : ∀ {kvs : List (Key × α)}, Kys n kvs → (kvs.map fun kv => w kv.1 kv.2).sum = wsum w kvs n
  | [], hz => by
    clear hz
    show 0 = _
    induction n with
    | zero => rfl
    | succ n ih => show 0 = wsum w [] n + 0; exact ih
  | (k, v) :: r, h => by
    have hn := List.nodup_cons.mp h.nd
    obtain ⟨j, hj, e⟩ := h.lt (k, v) List.mem_cons_self
    have e : k = .inl (j : Int) := e
    subst e
    rw [wsum_cons hn.1, List.map_cons, List.sum_cons, sum_keys (kvs := r) ⟨hn.2, fun kv hk => h.lt kv (List.mem_cons_of_mem _ hk)⟩, if_pos hj]
    exact Nat.add_comm _ _
theorem wsum_congr {β : Type} {w : Key → α → Nat} {w' : Key → β → Nat} {ls : List (Key × β)} : ∀ n, (∀ j : Nat, j < n → (match dget kvs (.inl (j : Int)) with | some v => w (.inl (j : Int)) v | none => 0) = (match dget ls (.inl (j : Int)) with | some v => w' (.inl (j : Int)) v | none => 0)) → wsum w kvs n = wsum w' ls n
  | 0, _ => rfl
  | n + 1, h => by
    show wsum w kvs n + _ = wsum w' ls n + _
    rw [wsum_congr n fun j hj => h j (by omega), h n (by omega)]
theorem Kys.len (h : Kys n kvs) : kvs.length ≤ n := by
  have h1 : kvs.length = (kvs.map fun kv => (fun (_ : Key) (_ : α) => 1) kv.1 kv.2).sum := by
    clear h
    induction kvs with
    | nil => rfl
    | cons a r ih => rw [List.length_cons, List.map_cons, List.sum_cons, ih]; exact Nat.add_comm _ _
  rw [h1, sum_keys (w := fun _ _ => 1) h]
  clear h1 h
  induction n with
  | zero => exact Nat.le_refl _
  | succ n ih =>
    show wsum _ kvs n + _ ≤ n + 1
    have : (match dget kvs (.inl (n : Int)) with | some v => (fun (_ : Key) (_ : α) => 1) (.inl (n : Int)) v | none => 0) ≤ 1 := by split <;> simp
    omega
end
end MI
set_option maxHeartbeats 4000000
/-! ### the text, as tables (written by gen.py) -/
namespace MI
open PySem PySem.Spec PyProof.Rows L2 MI
namespace T
def top (i : Nat) : Stmt := PySem.Challenge.pw_rowstold_k59_what_are_no_steps.main.body.getD i (.Pass ⟨0, 0, 0, 0⟩)
abbrev s_is_whole : Stmt := top 1
/- slots: 0 thing -/
def b_is_whole : Sts :=
  (.cons (.ret (.so (.and (.blt .isi (.cons (.var 0) (.cons (.bty "int") .nil))) (.not (.blt .isi (.cons (.var 0) (.cons (.bty "bool") .nil))))))) .nil)
def n_is_whole : List Str := ["thing"]
def i_is_whole : FnI := ⟨1, 1, b_is_whole⟩
abbrev s_is_step : Stmt := top 9
/- slots: 0 thing -/
def b_is_step : Sts :=
  (.cons (.ifs (.or (.not (.blt .isi (.cons (.var 0) (.cons (.bty "tuple") .nil)))) (.or (.cmp .eq (.var 0) (.tup .nil)) (.not (.blt .isi (.cons (.ix (.var 0) (.lit (.int 0))) (.cons (.bty "str") .nil)))))) (.cons (.ret (.so (.lit (.bl false)))) .nil) .nil) (.cons (.ifs (.cmp .eq (.ix (.var 0) (.lit (.int 0))) (.lit (.str "hear"))) (.cons (.ret (.so (.and (.cmp .eq (.blt .len (.cons (.var 0) .nil)) (.lit (.int 2))) (.and (.call 0 (.cons (.ix (.var 0) (.lit (.int 1))) .nil)) (.cmp .ge (.ix (.var 0) (.lit (.int 1))) (.lit (.int 1))))))) .nil) .nil) (.cons (.ret (.so (.and (.cmp .isin (.ix (.var 0) (.lit (.int 0))) (.glob 0)) (.cmp .eq (.blt .len (.cons (.var 0) .nil)) (.lit (.int 1)))))) .nil)))
def n_is_step : List Str := ["thing"]
def i_is_step : FnI := ⟨1, 1, b_is_step⟩
abbrev s_look_at_steps : Stmt := top 10
/- slots: 0 thing, 1 number, 2 step -/
def b_look_at_steps : Sts :=
  (.cons (.ifs (.not (.blt .isi (.cons (.var 0) (.cons (.bty "list") .nil)))) (.cons (.raise 1 5 (.lit .non)) .nil) .nil) (.cons (.for_ (.tp (.cons (.nm 1) (.cons (.nm 2) .nil))) (.enum (.var 0)) (.cons (.ifs (.not (.call 1 (.cons (.var 2) .nil))) (.cons (.raise 1 5 (.var 1)) .nil) .nil) .nil)) .nil))
def n_look_at_steps : List Str := ["thing", "number", "step"]
def i_look_at_steps : FnI := ⟨1, 3, b_look_at_steps⟩
abbrev s_Memory___init__ : Stmt := inClass (top 11) 0
/- slots: 0 self, 1 places -/
def b_Memory___init__ : Sts :=
  (.cons (.asg (.at (.var 0) 0) (.blt .list1 (.cons (.var 1) .nil))) (.cons (.asg (.at (.var 0) 1) (.lst .nil)) (.cons (.asg (.at (.var 0) 2) (.lst .nil)) (.cons (.asg (.at (.var 0) 3) (.neg (.lit (.int 1)))) (.cons (.asg (.at (.var 0) 4) (.neg (.lit (.int 1)))) .nil)))))
def n_Memory___init__ : List Str := ["self", "places"]
def i_Memory___init__ : FnI := ⟨2, 2, b_Memory___init__⟩
abbrev s_Memory_hear : Stmt := inClass (top 11) 1
/- slots: 0 self, 1 many, 2 twice, 3 place -/
def b_Memory_hear : Sts :=
  (.cons (.asg (.nm 2) (.lit .non)) (.cons (.for_ (.nm 3) (.vl (.sl (.lc [3] (.nm 3) (.vl (.fld (.var 0) 0)) (.so (.cmp .gt (.var 3) (.blt .max2 (.cons (.fld (.var 0) 4) (.cons (.fld (.var 0) 3) .nil))))) (.var 3)) .no (.so (.var 1)))) (.cons (.ifs (.and (.cmp .isin (.var 3) (.fld (.var 0) 1)) (.cmp .is (.var 2) (.lit .non))) (.cons (.asg (.nm 2) (.var 3)) .nil) .nil) (.cons (.expr (.bm .append (.fld (.var 0) 1) (.cons (.var 3) .nil))) (.cons (.asg (.at (.var 0) 4) (.var 3)) .nil)))) (.cons (.ret (.so (.var 2))) .nil)))
def n_Memory_hear : List Str := ["self", "many", "twice", "place"]
def i_Memory_hear : FnI := ⟨2, 4, b_Memory_hear⟩
abbrev s_Memory_stop : Stmt := inClass (top 11) 2
/- slots: 0 self, 1 gone, 2 place -/
def b_Memory_stop : Sts :=
  (.cons (.asg (.nm 1) (.lc [2] (.nm 2) (.vl (.fld (.var 0) 1)) (.so (.and (.cmp .nin (.var 2) (.fld (.var 0) 2)) (.cmp .le (.var 2) (.fld (.var 0) 3)))) (.var 2))) (.cons (.asg (.at (.var 0) 1) (.blt .list1 (.cons (.fld (.var 0) 2) .nil))) (.cons (.asg (.at (.var 0) 4) (.fld (.var 0) 3)) (.cons (.ret (.so (.mmd false (.var 1) (.lit .non)))) .nil))))
def n_Memory_stop : List Str := ["self", "gone", "place"]
def i_Memory_stop : FnI := ⟨1, 3, b_Memory_stop⟩
abbrev s_step_done : Stmt := top 12
/- slots: 0 memory, 1 step, 2 twice, 3 lost -/
def b_step_done : Sts :=
  (.cons (.ifs (.cmp .eq (.ix (.var 1) (.lit (.int 0))) (.lit (.str "hear"))) (.cons (.asg (.nm 2) (.meth (.var 0) 0 (.cons (.ix (.var 1) (.lit (.int 1))) .nil))) (.cons (.ret (.so (.ite (.cmp .is (.var 2) (.lit .non)) (.lit .non) (.tup (.cons (.lit (.str "twice")) (.cons (.var 2) .nil)))))) .nil)) .nil) (.cons (.ifs (.cmp .eq (.ix (.var 1) (.lit (.int 0))) (.lit (.str "stop"))) (.cons (.asg (.nm 3) (.meth (.var 0) 1 .nil)) (.cons (.ret (.so (.ite (.cmp .is (.var 3) (.lit .non)) (.lit .non) (.tup (.cons (.lit (.str "lost")) (.cons (.var 3) .nil)))))) .nil)) .nil) (.cons (.ifs (.cmp .eq (.ix (.var 1) (.lit (.int 0))) (.lit (.str "save"))) (.cons (.asg (.at (.var 0) 2) (.blt .list1 (.cons (.fld (.var 0) 1) .nil))) .nil) (.cons (.ifs (.cmp .ne (.fld (.var 0) 1) (.lst .nil)) (.cons (.asg (.at (.var 0) 3) (.blt .max2 (.cons (.fld (.var 0) 3) (.cons (.ix (.fld (.var 0) 1) (.neg (.lit (.int 1)))) .nil)))) .nil) .nil) .nil)) (.cons (.ret (.so (.lit .non))) .nil))))
def n_step_done : List Str := ["memory", "step", "twice", "lost"]
def i_step_done : FnI := ⟨2, 4, b_step_done⟩
abbrev s_judged : Stmt := top 13
/- slots: 0 places, 1 steps, 2 memory, 3 number, 4 step, 5 wrong -/
def b_judged : Sts :=
  (.cons (.expr (.call 2 (.cons (.var 1) .nil))) (.cons (.asg (.nm 2) (.make 0 (.cons (.var 0) .nil))) (.cons (.for_ (.tp (.cons (.nm 3) (.cons (.nm 4) .nil))) (.enum (.var 1)) (.cons (.asg (.nm 5) (.call 6 (.cons (.var 2) (.cons (.var 4) .nil)))) (.cons (.ifs (.cmp .nis (.var 5) (.lit .non)) (.cons (.ret (.so (.bin .add (.var 5) (.tup (.cons (.var 3) .nil))))) .nil) .nil) .nil))) (.cons (.ret (.so (.tup (.cons (.lit (.str "once")) (.cons (.fld (.var 2) 1) .nil))))) .nil))))
def n_judged : List Str := ["places", "steps", "memory", "number", "step", "wrong"]
def i_judged : FnI := ⟨2, 6, b_judged⟩
abbrev s__law_cell_at : Stmt := top 15
/- slots: 0 _law_script, 1 _law_k -/
def b__law_cell_at : Sts :=
  (.cons (.ifs (.cmp .lt (.var 1) (.blt .len (.cons (.var 0) .nil))) (.cons (.ret (.so (.ix (.var 0) (.var 1)))) .nil) .nil) (.cons (.ret (.so (.lit (.int 0)))) .nil))
def n__law_cell_at : List Str := ["_law_script", "_law_k"]
def i__law_cell_at : FnI := ⟨2, 2, b__law_cell_at⟩
abbrev s__law_pool : Stmt := top 16
/- slots: 0 _law_script, 1 _law_k, 2 _law_cell, 3 _law_seed -/
def b__law_pool : Sts :=
  (.cons (.asg (.nm 2) (.call 8 (.cons (.var 0) (.cons (.var 1) .nil)))) (.cons (.asg (.nm 3) (.bin .mod (.bin .mul (.bin .add (.bin .add (.bin .mod (.var 2) (.lit (.int 2147483629))) (.bin .mul (.bin .mul (.lit (.int 7919)) (.var 1)) (.var 1))) (.lit (.int 1))) (.lit (.int 48271))) (.lit (.int 2147483647)))) (.cons (.ifs (.cmp .lt (.var 2) (.bin .pow (.lit (.int 10)) (.lit (.int 18)))) (.cons (.asg (.nm 2) (.lit (.int 0))) .nil) .nil) (.cons (.ret (.so (.lst (.cons (.var 2) (.cons (.bin .mod (.bin .mul (.var 3) (.var 3)) (.lit (.int 2147483629))) .nil))))) .nil))))
def n__law_pool : List Str := ["_law_script", "_law_k", "_law_cell", "_law_seed"]
def i__law_pool : FnI := ⟨2, 4, b__law_pool⟩
abbrev s__law_take : Stmt := top 17
/- slots: 0 _law_pool_here, 1 _law_many, 2 _law_found -/
def b__law_take : Sts :=
  (.cons (.ifs (.cmp .gt (.ix (.var 0) (.lit (.int 0))) (.lit (.int 0))) (.cons (.asg (.nm 2) (.bin .mod (.ix (.var 0) (.lit (.int 0))) (.var 1))) (.cons (.asg (.sb (.var 0) (.lit (.int 0))) (.bin .fdiv (.ix (.var 0) (.lit (.int 0))) (.var 1))) (.cons (.ret (.so (.var 2))) .nil))) .nil) (.cons (.asg (.sb (.var 0) (.lit (.int 1))) (.bin .mod (.bin .add (.bin .mul (.ix (.var 0) (.lit (.int 1))) (.lit (.int 48271))) (.lit (.int 11))) (.lit (.int 2147483647)))) (.cons (.ret (.so (.bin .mod (.bin .fdiv (.bin .mod (.bin .mul (.ix (.var 0) (.lit (.int 1))) (.ix (.var 0) (.lit (.int 1)))) (.lit (.int 2147483629))) (.lit (.int 64))) (.var 1)))) .nil)))
def n__law_take : List Str := ["_law_pool_here", "_law_many", "_law_found"]
def i__law_take : FnI := ⟨2, 3, b__law_take⟩
abbrev s__law_told : Stmt := top 18
/- slots: 0 _law_item, 1 _law_kept, 2 e -/
def b__law_told : Sts :=
  (.cons (.asg (.nm 1) (.lit .non)) (.cons (.tryK (.cons (.expr (.call 7 (.cons (.lst (.cons (.lit (.int 1)) (.cons (.lit (.int 5)) (.cons (.lit (.int 9)) .nil)))) (.cons (.var 0) .nil)))) .nil) [true, true, true] 2 1) (.cons (.ifs (.cmp .is (.var 1) (.lit .non)) (.cons (.ret (.so (.lit (.str "told")))) .nil) .nil) (.cons (.ifs (.or (.not (.isx (.var 1) [false, true, false])) (.isx (.var 1) [true, false, true])) (.cons (.ret (.so (.lit (.str "odd")))) .nil) .nil) (.cons (.ret (.so (.lst (.cons (.xfd (.var 1) 5) .nil)))) .nil)))))
def n__law_told : List Str := ["_law_item", "_law_kept", "e"]
def i__law_told : FnI := ⟨1, 3, b__law_told⟩
abbrev s_law : Stmt := top 19
/- slots: 0 _law_script, 1 _law_item, 2 _law_k, 3 _law_pool_here, 4 _law_some, 5 _law_steps, 6 _law_turn, 7 _law_odd, 8 _law_at, 9 _law_one, 10 _law_other, 11 _law_kept, 12 _law_bent -/
def b_law : Sts :=
  (.cons (.for_ (.nm 1) (.vl (.lst (.cons (.lit .non) (.cons (.tup .nil) (.cons (.dic .nil) (.cons (.lit (.str "hear")) (.cons (.lit (.int 5)) (.cons (.tup (.cons (.tup (.cons (.lit (.str "save")) .nil)) .nil)) (.cons (.lit (.bl true)) .nil))))))))) (.cons (.ifs (.cmp .ne (.call 11 (.cons (.var 1) .nil)) (.lst (.cons (.lit .non) .nil))) (.cons (.ret (.so (.lit (.bl false)))) .nil) .nil) .nil)) (.cons (.for_ (.nm 2) (.rng1 (.blt .max2 (.cons (.lit (.int 1)) (.cons (.blt .min2 (.cons (.blt .len (.cons (.var 0) .nil)) (.cons (.lit (.int 10)) .nil))) .nil)))) (.cons (.asg (.nm 3) (.call 9 (.cons (.var 0) (.cons (.var 2) .nil)))) (.cons (.asg (.nm 4) (.lst (.cons (.tup (.cons (.lit (.str "hear")) (.cons (.bin .add (.lit (.int 1)) (.call 10 (.cons (.var 3) (.cons (.lit (.int 9)) .nil)))) .nil))) (.cons (.tup (.cons (.lit (.str "save")) .nil)) (.cons (.tup (.cons (.lit (.str "confirm")) .nil)) (.cons (.tup (.cons (.lit (.str "stop")) .nil)) (.cons (.tup (.cons (.lit (.str "hear")) (.cons (.bin .pow (.lit (.int 10)) (.lit (.int 30))) .nil))) .nil))))))) (.cons (.asg (.nm 5) (.lc [6] (.nm 6) (.rng1 (.bin .add (.lit (.int 1)) (.call 10 (.cons (.var 3) (.cons (.lit (.int 9)) .nil))))) .no (.ix (.var 4) (.call 10 (.cons (.var 3) (.cons (.lit (.int 5)) .nil)))))) (.cons (.asg (.nm 7) (.lst (.cons (.lit .non) (.cons (.lit (.str "save")) (.cons (.tup .nil) (.cons (.tup (.cons (.lit (.str "hear")) .nil)) (.cons (.tup (.cons (.lit (.str "hear")) (.cons (.lit (.int 0)) .nil))) (.cons (.tup (.cons (.lit (.str "hear")) (.cons (.neg (.lit (.int 1))) .nil))) (.cons (.tup (.cons (.lit (.str "hear")) (.cons (.lit (.bl true)) .nil))) (.cons (.tup (.cons (.lit (.str "hear")) (.cons (.lit (.str "1")) .nil))) (.cons (.tup (.cons (.lit (.str "save")) (.cons (.lit (.int 1)) .nil))) .nil))))))))))) (.cons (.asg (.nm 7) (.bin .add (.var 7) (.lst (.cons (.tup (.cons (.lit (.str "stop")) (.cons (.lit .non) .nil))) (.cons (.lst (.cons (.lit (.str "save")) .nil)) (.cons (.tup (.cons (.lit (.str "Hear")) (.cons (.lit (.int 1)) .nil))) (.cons (.tup (.cons (.lit (.int 5)) .nil)) (.cons (.tup (.cons (.lit (.str "hear")) (.cons (.lit (.int 1)) (.cons (.lit (.int 1)) .nil)))) (.cons (.dic .nil) (.cons (.tup (.cons (.lit (.str "")) (.cons (.lit (.int 1)) .nil))) (.cons (.tup (.cons (.tup (.cons (.lit (.str "hear")) (.cons (.lit (.int 1)) .nil))) .nil)) (.cons (.tup (.cons (.lst .nil) (.cons (.lit (.int 1)) .nil))) .nil)))))))))))) (.cons (.asg (.nm 8) (.call 10 (.cons (.var 3) (.cons (.bin .add (.blt .len (.cons (.var 5) .nil)) (.lit (.int 1))) .nil)))) (.cons (.asg (.nm 9) (.ix (.var 7) (.call 10 (.cons (.var 3) (.cons (.lit (.int 18)) .nil))))) (.cons (.asg (.nm 10) (.ix (.var 7) (.call 10 (.cons (.var 3) (.cons (.lit (.int 18)) .nil))))) (.cons (.asg (.nm 11) (.blt .repr (.cons (.var 5) .nil))) (.cons (.for_ (.nm 12) (.vl (.lst (.cons (.bin .add (.bin .add (.sl (.var 5) .no (.so (.var 8))) (.lst (.cons (.var 9) .nil))) (.sl (.var 5) (.so (.var 8)) .no)) (.cons (.bin .add (.bin .add (.sl (.var 5) .no (.so (.var 8))) (.lst (.cons (.var 9) (.cons (.var 10) .nil)))) (.sl (.var 5) (.so (.var 8)) .no)) (.cons (.bin .add (.sl (.var 5) .no (.so (.var 8))) (.lst (.cons (.var 9) .nil))) .nil))))) (.cons (.ifs (.cmp .ne (.call 11 (.cons (.var 12) .nil)) (.lst (.cons (.var 8) .nil))) (.cons (.ret (.so (.lit (.bl false)))) .nil) .nil) .nil)) (.cons (.ifs (.or (.cmp .ne (.call 11 (.cons (.var 5) .nil)) (.lit (.str "told"))) (.cmp .ne (.blt .repr (.cons (.var 5) .nil)) (.var 11))) (.cons (.ret (.so (.lit (.bl false)))) .nil) .nil) .nil)))))))))))) (.cons (.ret (.so (.lit (.bl true)))) .nil)))
def n_law : List Str := ["_law_script", "_law_item", "_law_k", "_law_pool_here", "_law_some", "_law_steps", "_law_turn", "_law_odd", "_law_at", "_law_one", "_law_other", "_law_kept", "_law_bent"]
def i_law : FnI := ⟨1, 13, b_law⟩
/- defs: 0 is_whole, 1 is_step, 2 look_at_steps, 3 Memory.__init__, 4 Memory.hear, 5 Memory.stop, 6 step_done, 7 judged, 8 _law_cell_at, 9 _law_pool, 10 _law_take, 11 _law_told, 12 law -/
/- attributes: 0 places, 1 had, 2 saved, 3 own_confirmed, 4 far, 5 number, 6 row -/
/- methods: 0 hear, 1 stop -/
def g : Glob := ⟨[i_is_whole, i_is_step, i_look_at_steps, i_Memory___init__, i_Memory_hear, i_Memory_stop, i_step_done, i_judged, i__law_cell_at, i__law_pool, i__law_take, i__law_told, i_law], [⟨3, [(0, 4), (1, 5)]⟩], [(.tup [(.str "save"), (.str "confirm"), (.str "stop")])]⟩
def S : Nm where
  fnN := [some "is_whole", some "is_step", some "look_at_steps", none, none, none, some "step_done", some "judged", some "_law_cell_at", some "_law_pool", some "_law_take", some "_law_told", some "law"]
  clsN := ["Memory"]
  constN := ["PLAIN"]
  attrs := ["places", "had", "saved", "own_confirmed", "far", "number", "row"]
  mths := ["hear", "stop"]
  blts := ["isinstance", "int", "bool", "tuple", "str", "len", "list", "enumerate", "max", "min", "range", "repr"]
  shp := []
  mks := []
  excN := [("NoLog", 5), ("NoSteps", 5), ("NoText", 6)]
  exm := [("RowsError", [true, true, true]), ("NoSteps", [false, true, false]), ("NoLog", [true, false, false]), ("NoText", [false, false, true])]
abbrev s_NoLog___init__ : Stmt := inClass (top 4) 0
def n_NoLog___init__ : List Str := ["self", "number"]
theorem q_NoLog___init__ : fnScopeB n_NoLog___init__ 2 (defScope s_NoLog___init__) = true := by decide +kernel
theorem x_NoLog___init__ : xinB ⟨{ fnN := [], clsN := [], constN := [], attrs := [], mths := [], blts := [] }, defScope s_NoLog___init__, n_NoLog___init__, true⟩ "RowsError" "number" (defBody s_NoLog___init__) = true := by decide +kernel
abbrev s_NoSteps___init__ : Stmt := inClass (top 5) 0
def n_NoSteps___init__ : List Str := ["self", "number"]
theorem q_NoSteps___init__ : fnScopeB n_NoSteps___init__ 2 (defScope s_NoSteps___init__) = true := by decide +kernel
theorem x_NoSteps___init__ : xinB ⟨{ fnN := [], clsN := [], constN := [], attrs := [], mths := [], blts := [] }, defScope s_NoSteps___init__, n_NoSteps___init__, true⟩ "RowsError" "number" (defBody s_NoSteps___init__) = true := by decide +kernel
abbrev s_NoText___init__ : Stmt := inClass (top 6) 0
def n_NoText___init__ : List Str := ["self", "row"]
theorem q_NoText___init__ : fnScopeB n_NoText___init__ 2 (defScope s_NoText___init__) = true := by decide +kernel
theorem x_NoText___init__ : xinB ⟨{ fnN := [], clsN := [], constN := [], attrs := [], mths := [], blts := [] }, defScope s_NoText___init__, n_NoText___init__, true⟩ "RowsError" "row" (defBody s_NoText___init__) = true := by decide +kernel
theorem k_is_whole : chkSs ⟨S, defScope s_is_whole, n_is_whole, true⟩ b_is_whole (defBody s_is_whole) = true := by decide +kernel
theorem q_is_whole : fnScopeB n_is_whole 1 (defScope s_is_whole) = true := by decide +kernel
theorem k_is_step : chkSs ⟨S, defScope s_is_step, n_is_step, true⟩ b_is_step (defBody s_is_step) = true := by decide +kernel
theorem q_is_step : fnScopeB n_is_step 1 (defScope s_is_step) = true := by decide +kernel
theorem k_look_at_steps : chkSs ⟨S, defScope s_look_at_steps, n_look_at_steps, true⟩ b_look_at_steps (defBody s_look_at_steps) = true := by decide +kernel
theorem q_look_at_steps : fnScopeB n_look_at_steps 1 (defScope s_look_at_steps) = true := by decide +kernel
theorem k_Memory___init__ : chkSs ⟨S, defScope s_Memory___init__, n_Memory___init__, true⟩ b_Memory___init__ (defBody s_Memory___init__) = true := by decide +kernel
theorem q_Memory___init__ : fnScopeB n_Memory___init__ 2 (defScope s_Memory___init__) = true := by decide +kernel
theorem k_Memory_hear : chkSs ⟨S, defScope s_Memory_hear, n_Memory_hear, true⟩ b_Memory_hear (defBody s_Memory_hear) = true := by decide +kernel
theorem q_Memory_hear : fnScopeB n_Memory_hear 2 (defScope s_Memory_hear) = true := by decide +kernel
theorem k_Memory_stop : chkSs ⟨S, defScope s_Memory_stop, n_Memory_stop, true⟩ b_Memory_stop (defBody s_Memory_stop) = true := by decide +kernel
theorem q_Memory_stop : fnScopeB n_Memory_stop 1 (defScope s_Memory_stop) = true := by decide +kernel
theorem k_step_done : chkSs ⟨S, defScope s_step_done, n_step_done, true⟩ b_step_done (defBody s_step_done) = true := by decide +kernel
theorem q_step_done : fnScopeB n_step_done 2 (defScope s_step_done) = true := by decide +kernel
theorem k_judged : chkSs ⟨S, defScope s_judged, n_judged, true⟩ b_judged (defBody s_judged) = true := by decide +kernel
theorem q_judged : fnScopeB n_judged 2 (defScope s_judged) = true := by decide +kernel
theorem k__law_cell_at : chkSs ⟨S, defScope s__law_cell_at, n__law_cell_at, true⟩ b__law_cell_at (defBody s__law_cell_at) = true := by decide +kernel
theorem q__law_cell_at : fnScopeB n__law_cell_at 2 (defScope s__law_cell_at) = true := by decide +kernel
theorem k__law_pool : chkSs ⟨S, defScope s__law_pool, n__law_pool, true⟩ b__law_pool (defBody s__law_pool) = true := by decide +kernel
theorem q__law_pool : fnScopeB n__law_pool 2 (defScope s__law_pool) = true := by decide +kernel
theorem k__law_take : chkSs ⟨S, defScope s__law_take, n__law_take, true⟩ b__law_take (defBody s__law_take) = true := by decide +kernel
theorem q__law_take : fnScopeB n__law_take 2 (defScope s__law_take) = true := by decide +kernel
theorem k__law_told : chkSs ⟨S, defScope s__law_told, n__law_told, true⟩ b__law_told (defBody s__law_told) = true := by decide +kernel
theorem q__law_told : fnScopeB n__law_told 1 (defScope s__law_told) = true := by decide +kernel
theorem k_law : chkSs ⟨S, defScope s_law, n_law, true⟩ b_law (defBody s_law) = true := by decide +kernel
theorem q_law : fnScopeB n_law 1 (defScope s_law) = true := by decide +kernel
section
variable {w : World} {K : PySem.W.Frag} {h : Heap} {mg : Str → Option Value}
theorem t_is_whole {a : Addr} {od an : Option Addr} {sl : Array (Option Value)} {oc kV dc pm cd ct : Value} (l : K.lookup a = some ⟨oc, od, .func (PySem.W.fnOf "is_whole" "is_whole" (defArgs s_is_whole) (defBody s_is_whole) (defScope s_is_whole) .none kV dc pm an cd ct), sl⟩) (c : PySem.W.codeIn K cd "is_whole" = true) : FnT S g K 0 a :=
  by
    refine fnt_mk (fi := i_is_whole) rfl l c q_is_whole rfl k_is_whole (Binds.all fun us hl => match us, hl with | [_], _ => rfl) (fun sh h e => ?_)
    cases h
theorem t_is_step {a : Addr} {od an : Option Addr} {sl : Array (Option Value)} {oc kV dc pm cd ct : Value} (l : K.lookup a = some ⟨oc, od, .func (PySem.W.fnOf "is_step" "is_step" (defArgs s_is_step) (defBody s_is_step) (defScope s_is_step) .none kV dc pm an cd ct), sl⟩) (c : PySem.W.codeIn K cd "is_step" = true) : FnT S g K 1 a :=
  by
    refine fnt_mk (fi := i_is_step) rfl l c q_is_step rfl k_is_step (Binds.all fun us hl => match us, hl with | [_], _ => rfl) (fun sh h e => ?_)
    cases h
theorem t_look_at_steps {a : Addr} {od an : Option Addr} {sl : Array (Option Value)} {oc kV dc pm cd ct : Value} (l : K.lookup a = some ⟨oc, od, .func (PySem.W.fnOf "look_at_steps" "look_at_steps" (defArgs s_look_at_steps) (defBody s_look_at_steps) (defScope s_look_at_steps) .none kV dc pm an cd ct), sl⟩) (c : PySem.W.codeIn K cd "look_at_steps" = true) : FnT S g K 2 a :=
  by
    refine fnt_mk (fi := i_look_at_steps) rfl l c q_look_at_steps rfl k_look_at_steps (Binds.all fun us hl => match us, hl with | [_], _ => rfl) (fun sh h e => ?_)
    cases h
theorem t_Memory___init__ {a : Addr} {od an : Option Addr} {sl : Array (Option Value)} {oc kV dc pm cd ct : Value} (l : K.lookup a = some ⟨oc, od, .func (PySem.W.fnOf "__init__" "Memory.__init__" (defArgs s_Memory___init__) (defBody s_Memory___init__) (defScope s_Memory___init__) .none kV dc pm an cd ct), sl⟩) (c : PySem.W.codeIn K cd "Memory.__init__" = true) : FnT S g K 3 a :=
  by
    refine fnt_mk (fi := i_Memory___init__) rfl l c q_Memory___init__ rfl k_Memory___init__ (Binds.all fun us hl => match us, hl with | [_, _], _ => rfl) (fun sh h e => ?_)
    cases h
theorem t_Memory_hear {a : Addr} {od an : Option Addr} {sl : Array (Option Value)} {oc kV dc pm cd ct : Value} (l : K.lookup a = some ⟨oc, od, .func (PySem.W.fnOf "hear" "Memory.hear" (defArgs s_Memory_hear) (defBody s_Memory_hear) (defScope s_Memory_hear) .none kV dc pm an cd ct), sl⟩) (c : PySem.W.codeIn K cd "Memory.hear" = true) : FnT S g K 4 a :=
  by
    refine fnt_mk (fi := i_Memory_hear) rfl l c q_Memory_hear rfl k_Memory_hear (Binds.all fun us hl => match us, hl with | [_, _], _ => rfl) (fun sh h e => ?_)
    cases h
theorem t_Memory_stop {a : Addr} {od an : Option Addr} {sl : Array (Option Value)} {oc kV dc pm cd ct : Value} (l : K.lookup a = some ⟨oc, od, .func (PySem.W.fnOf "stop" "Memory.stop" (defArgs s_Memory_stop) (defBody s_Memory_stop) (defScope s_Memory_stop) .none kV dc pm an cd ct), sl⟩) (c : PySem.W.codeIn K cd "Memory.stop" = true) : FnT S g K 5 a :=
  by
    refine fnt_mk (fi := i_Memory_stop) rfl l c q_Memory_stop rfl k_Memory_stop (Binds.all fun us hl => match us, hl with | [_], _ => rfl) (fun sh h e => ?_)
    cases h
theorem t_step_done {a : Addr} {od an : Option Addr} {sl : Array (Option Value)} {oc kV dc pm cd ct : Value} (l : K.lookup a = some ⟨oc, od, .func (PySem.W.fnOf "step_done" "step_done" (defArgs s_step_done) (defBody s_step_done) (defScope s_step_done) .none kV dc pm an cd ct), sl⟩) (c : PySem.W.codeIn K cd "step_done" = true) : FnT S g K 6 a :=
  by
    refine fnt_mk (fi := i_step_done) rfl l c q_step_done rfl k_step_done (Binds.all fun us hl => match us, hl with | [_, _], _ => rfl) (fun sh h e => ?_)
    cases h
theorem t_judged {a : Addr} {od an : Option Addr} {sl : Array (Option Value)} {oc kV dc pm cd ct : Value} (l : K.lookup a = some ⟨oc, od, .func (PySem.W.fnOf "judged" "judged" (defArgs s_judged) (defBody s_judged) (defScope s_judged) .none kV dc pm an cd ct), sl⟩) (c : PySem.W.codeIn K cd "judged" = true) : FnT S g K 7 a :=
  by
    refine fnt_mk (fi := i_judged) rfl l c q_judged rfl k_judged (Binds.all fun us hl => match us, hl with | [_, _], _ => rfl) (fun sh h e => ?_)
    cases h
theorem t__law_cell_at {a : Addr} {od an : Option Addr} {sl : Array (Option Value)} {oc kV dc pm cd ct : Value} (l : K.lookup a = some ⟨oc, od, .func (PySem.W.fnOf "_law_cell_at" "_law_cell_at" (defArgs s__law_cell_at) (defBody s__law_cell_at) (defScope s__law_cell_at) .none kV dc pm an cd ct), sl⟩) (c : PySem.W.codeIn K cd "_law_cell_at" = true) : FnT S g K 8 a :=
  by
    refine fnt_mk (fi := i__law_cell_at) rfl l c q__law_cell_at rfl k__law_cell_at (Binds.all fun us hl => match us, hl with | [_, _], _ => rfl) (fun sh h e => ?_)
    cases h
theorem t__law_pool {a : Addr} {od an : Option Addr} {sl : Array (Option Value)} {oc kV dc pm cd ct : Value} (l : K.lookup a = some ⟨oc, od, .func (PySem.W.fnOf "_law_pool" "_law_pool" (defArgs s__law_pool) (defBody s__law_pool) (defScope s__law_pool) .none kV dc pm an cd ct), sl⟩) (c : PySem.W.codeIn K cd "_law_pool" = true) : FnT S g K 9 a :=
  by
    refine fnt_mk (fi := i__law_pool) rfl l c q__law_pool rfl k__law_pool (Binds.all fun us hl => match us, hl with | [_, _], _ => rfl) (fun sh h e => ?_)
    cases h
theorem t__law_take {a : Addr} {od an : Option Addr} {sl : Array (Option Value)} {oc kV dc pm cd ct : Value} (l : K.lookup a = some ⟨oc, od, .func (PySem.W.fnOf "_law_take" "_law_take" (defArgs s__law_take) (defBody s__law_take) (defScope s__law_take) .none kV dc pm an cd ct), sl⟩) (c : PySem.W.codeIn K cd "_law_take" = true) : FnT S g K 10 a :=
  by
    refine fnt_mk (fi := i__law_take) rfl l c q__law_take rfl k__law_take (Binds.all fun us hl => match us, hl with | [_, _], _ => rfl) (fun sh h e => ?_)
    cases h
theorem t__law_told {a : Addr} {od an : Option Addr} {sl : Array (Option Value)} {oc kV dc pm cd ct : Value} (l : K.lookup a = some ⟨oc, od, .func (PySem.W.fnOf "_law_told" "_law_told" (defArgs s__law_told) (defBody s__law_told) (defScope s__law_told) .none kV dc pm an cd ct), sl⟩) (c : PySem.W.codeIn K cd "_law_told" = true) : FnT S g K 11 a :=
  by
    refine fnt_mk (fi := i__law_told) rfl l c q__law_told rfl k__law_told (Binds.all fun us hl => match us, hl with | [_], _ => rfl) (fun sh h e => ?_)
    cases h
theorem t_law {a : Addr} {od an : Option Addr} {sl : Array (Option Value)} {oc kV dc pm cd ct : Value} (l : K.lookup a = some ⟨oc, od, .func (PySem.W.fnOf "law" "law" (defArgs s_law) (defBody s_law) (defScope s_law) .none kV dc pm an cd ct), sl⟩) (c : PySem.W.codeIn K cd "law" = true) : FnT S g K 12 a :=
  by
    refine fnt_mk (fi := i_law) rfl l c q_law rfl k_law (Binds.all fun us hl => match us, hl with | [_], _ => rfl) (fun sh h e => ?_)
    cases h
theorem tfs {fa : Addr} {f0 f1 f2 f3 f4 f5 f6 f7 f8 f9 f10 f11 f12 C0 : Addr} (X : K.In h) (G : h.Ns mainGlobals mg) (hfa : mg "law" = some (.ref fa))
    {X0 F0 X1 F1 X2 F2 Y0 : Addr}
    {od0 an0 : Option Addr} {sl0 : Array (Option Value)} {oc0 kV0 dc0 pm0 cd0 ct0 : Value}
    {od1 an1 : Option Addr} {sl1 : Array (Option Value)} {oc1 kV1 dc1 pm1 cd1 ct1 : Value}
    {od2 an2 : Option Addr} {sl2 : Array (Option Value)} {oc2 kV2 dc2 pm2 cd2 ct2 : Value}
    {od3 an3 : Option Addr} {sl3 : Array (Option Value)} {oc3 kV3 dc3 pm3 cd3 ct3 : Value}
    {od4 an4 : Option Addr} {sl4 : Array (Option Value)} {oc4 kV4 dc4 pm4 cd4 ct4 : Value}
    {od5 an5 : Option Addr} {sl5 : Array (Option Value)} {oc5 kV5 dc5 pm5 cd5 ct5 : Value}
    {od6 an6 : Option Addr} {sl6 : Array (Option Value)} {oc6 kV6 dc6 pm6 cd6 ct6 : Value}
    {od7 an7 : Option Addr} {sl7 : Array (Option Value)} {oc7 kV7 dc7 pm7 cd7 ct7 : Value}
    {od8 an8 : Option Addr} {sl8 : Array (Option Value)} {oc8 kV8 dc8 pm8 cd8 ct8 : Value}
    {od9 an9 : Option Addr} {sl9 : Array (Option Value)} {oc9 kV9 dc9 pm9 cd9 ct9 : Value}
    {od10 an10 : Option Addr} {sl10 : Array (Option Value)} {oc10 kV10 dc10 pm10 cd10 ct10 : Value}
    {od11 an11 : Option Addr} {sl11 : Array (Option Value)} {oc11 kV11 dc11 pm11 cd11 ct11 : Value}
    {od12 an12 : Option Addr} {sl12 : Array (Option Value)} {oc12 kV12 dc12 pm12 cd12 ct12 : Value}
    {xa0 xb0 : Str} {xN0 : Addr} {xs0 xm0 xu0 : List Value} {xt0 : List Str} {xc0 : Bool} {xe0 : Option Bool} {xd0 : Option Addr} {xk0 xl0 xo0 xp0 xq0 : Option Value}
    {xod0 xan0 : Option Addr} {xsl0 : Array (Option Value)} {xoc0 xkV0 xdc0 xpm0 xcd0 xct0 : Value}
    {xa1 xb1 : Str} {xN1 : Addr} {xs1 xm1 xu1 : List Value} {xt1 : List Str} {xc1 : Bool} {xe1 : Option Bool} {xd1 : Option Addr} {xk1 xl1 xo1 xp1 xq1 : Option Value}
    {xod1 xan1 : Option Addr} {xsl1 : Array (Option Value)} {xoc1 xkV1 xdc1 xpm1 xcd1 xct1 : Value}
    {xa2 xb2 : Str} {xN2 : Addr} {xs2 xm2 xu2 : List Value} {xt2 : List Str} {xc2 : Bool} {xe2 : Option Bool} {xd2 : Option Addr} {xk2 xl2 xo2 xp2 xq2 : Option Value}
    {xod2 xan2 : Option Addr} {xsl2 : Array (Option Value)} {xoc2 xkV2 xdc2 xpm2 xcd2 xct2 : Value}
    {p0 : Addr} {pd0 : Option Addr} {pn0 : Nat} {ps0 : Array (Option Value)} {t0_0 t0_1 t0_2 : Tok}
    (A0 : PySem.W.nsIn K mainGlobals "Memory" = some (some (.ref C0)))
    (a0 : PySem.W.nsIn K mainGlobals "is_whole" = some (some (.ref f0)))
    (l0 : K.lookup f0 = some ⟨oc0, od0, .func (PySem.W.fnOf "is_whole" "is_whole" (defArgs s_is_whole) (defBody s_is_whole) (defScope s_is_whole) .none kV0 dc0 pm0 an0 cd0 ct0), sl0⟩)
    (c0 : PySem.W.codeIn K cd0 "is_whole" = true)
    (k0 : PySem.W.keepIn K (.ref f0) = true)
    (a1 : PySem.W.nsIn K mainGlobals "is_step" = some (some (.ref f1)))
    (l1 : K.lookup f1 = some ⟨oc1, od1, .func (PySem.W.fnOf "is_step" "is_step" (defArgs s_is_step) (defBody s_is_step) (defScope s_is_step) .none kV1 dc1 pm1 an1 cd1 ct1), sl1⟩)
    (c1 : PySem.W.codeIn K cd1 "is_step" = true)
    (k1 : PySem.W.keepIn K (.ref f1) = true)
    (a2 : PySem.W.nsIn K mainGlobals "look_at_steps" = some (some (.ref f2)))
    (l2 : K.lookup f2 = some ⟨oc2, od2, .func (PySem.W.fnOf "look_at_steps" "look_at_steps" (defArgs s_look_at_steps) (defBody s_look_at_steps) (defScope s_look_at_steps) .none kV2 dc2 pm2 an2 cd2 ct2), sl2⟩)
    (c2 : PySem.W.codeIn K cd2 "look_at_steps" = true)
    (k2 : PySem.W.keepIn K (.ref f2) = true)
    (a3 : PySem.W.findIn K (.ref C0) "__init__" = some (some (.ref f3)))
    (i3 : PySem.W.isFn K (.ref f3) = true)
    (l3 : K.lookup f3 = some ⟨oc3, od3, .func (PySem.W.fnOf "__init__" "Memory.__init__" (defArgs s_Memory___init__) (defBody s_Memory___init__) (defScope s_Memory___init__) .none kV3 dc3 pm3 an3 cd3 ct3), sl3⟩)
    (c3 : PySem.W.codeIn K cd3 "Memory.__init__" = true)
    (k3 : PySem.W.keepIn K (.ref f3) = true)
    (a4 : PySem.W.findIn K (.ref C0) "hear" = some (some (.ref f4)))
    (i4 : PySem.W.isFn K (.ref f4) = true)
    (l4 : K.lookup f4 = some ⟨oc4, od4, .func (PySem.W.fnOf "hear" "Memory.hear" (defArgs s_Memory_hear) (defBody s_Memory_hear) (defScope s_Memory_hear) .none kV4 dc4 pm4 an4 cd4 ct4), sl4⟩)
    (c4 : PySem.W.codeIn K cd4 "Memory.hear" = true)
    (k4 : PySem.W.keepIn K (.ref f4) = true)
    (a5 : PySem.W.findIn K (.ref C0) "stop" = some (some (.ref f5)))
    (i5 : PySem.W.isFn K (.ref f5) = true)
    (l5 : K.lookup f5 = some ⟨oc5, od5, .func (PySem.W.fnOf "stop" "Memory.stop" (defArgs s_Memory_stop) (defBody s_Memory_stop) (defScope s_Memory_stop) .none kV5 dc5 pm5 an5 cd5 ct5), sl5⟩)
    (c5 : PySem.W.codeIn K cd5 "Memory.stop" = true)
    (k5 : PySem.W.keepIn K (.ref f5) = true)
    (a6 : PySem.W.nsIn K mainGlobals "step_done" = some (some (.ref f6)))
    (l6 : K.lookup f6 = some ⟨oc6, od6, .func (PySem.W.fnOf "step_done" "step_done" (defArgs s_step_done) (defBody s_step_done) (defScope s_step_done) .none kV6 dc6 pm6 an6 cd6 ct6), sl6⟩)
    (c6 : PySem.W.codeIn K cd6 "step_done" = true)
    (k6 : PySem.W.keepIn K (.ref f6) = true)
    (a7 : PySem.W.nsIn K mainGlobals "judged" = some (some (.ref f7)))
    (l7 : K.lookup f7 = some ⟨oc7, od7, .func (PySem.W.fnOf "judged" "judged" (defArgs s_judged) (defBody s_judged) (defScope s_judged) .none kV7 dc7 pm7 an7 cd7 ct7), sl7⟩)
    (c7 : PySem.W.codeIn K cd7 "judged" = true)
    (k7 : PySem.W.keepIn K (.ref f7) = true)
    (a8 : PySem.W.nsIn K mainGlobals "_law_cell_at" = some (some (.ref f8)))
    (l8 : K.lookup f8 = some ⟨oc8, od8, .func (PySem.W.fnOf "_law_cell_at" "_law_cell_at" (defArgs s__law_cell_at) (defBody s__law_cell_at) (defScope s__law_cell_at) .none kV8 dc8 pm8 an8 cd8 ct8), sl8⟩)
    (c8 : PySem.W.codeIn K cd8 "_law_cell_at" = true)
    (k8 : PySem.W.keepIn K (.ref f8) = true)
    (a9 : PySem.W.nsIn K mainGlobals "_law_pool" = some (some (.ref f9)))
    (l9 : K.lookup f9 = some ⟨oc9, od9, .func (PySem.W.fnOf "_law_pool" "_law_pool" (defArgs s__law_pool) (defBody s__law_pool) (defScope s__law_pool) .none kV9 dc9 pm9 an9 cd9 ct9), sl9⟩)
    (c9 : PySem.W.codeIn K cd9 "_law_pool" = true)
    (k9 : PySem.W.keepIn K (.ref f9) = true)
    (a10 : PySem.W.nsIn K mainGlobals "_law_take" = some (some (.ref f10)))
    (l10 : K.lookup f10 = some ⟨oc10, od10, .func (PySem.W.fnOf "_law_take" "_law_take" (defArgs s__law_take) (defBody s__law_take) (defScope s__law_take) .none kV10 dc10 pm10 an10 cd10 ct10), sl10⟩)
    (c10 : PySem.W.codeIn K cd10 "_law_take" = true)
    (k10 : PySem.W.keepIn K (.ref f10) = true)
    (a11 : PySem.W.nsIn K mainGlobals "_law_told" = some (some (.ref f11)))
    (l11 : K.lookup f11 = some ⟨oc11, od11, .func (PySem.W.fnOf "_law_told" "_law_told" (defArgs s__law_told) (defBody s__law_told) (defScope s__law_told) .none kV11 dc11 pm11 an11 cd11 ct11), sl11⟩)
    (c11 : PySem.W.codeIn K cd11 "_law_told" = true)
    (k11 : PySem.W.keepIn K (.ref f11) = true)
    (a12 : PySem.W.nsIn K mainGlobals "law" = some (some (.ref f12)))
    (l12 : K.lookup f12 = some ⟨oc12, od12, .func (PySem.W.fnOf "law" "law" (defArgs s_law) (defBody s_law) (defScope s_law) .none kV12 dc12 pm12 an12 cd12 ct12), sl12⟩)
    (c12 : PySem.W.codeIn K cd12 "law" = true)
    (k12 : PySem.W.keepIn K (.ref f12) = true)
    (pg0 : PySem.W.plainGet K C0 Str.empty = true)
    (hd0 : PySem.W.hasDictIn K C0 = true)
    (po0 : PySem.W.plainOver K C0 = true)
    (sa0 : PySem.W.findIn K (.ref C0) "__setattr__" = some (some (.builtin "object.__setattr__")))
    (mk0 : PySem.W.makesIn K C0 = true)
    (kc0 : PySem.W.keepIn K (.ref C0) = true)
    (n0_0 : PySem.W.findIn K (.ref C0) "places" = some none)
    (n0_1 : PySem.W.findIn K (.ref C0) "had" = some none)
    (n0_2 : PySem.W.findIn K (.ref C0) "saved" = some none)
    (n0_3 : PySem.W.findIn K (.ref C0) "own_confirmed" = some none)
    (n0_4 : PySem.W.findIn K (.ref C0) "far" = some none)
    (n0_5 : PySem.W.findIn K (.ref C0) "number" = some none)
    (n0_6 : PySem.W.findIn K (.ref C0) "row" = some none)
    (xA0 : PySem.W.nsIn K mainGlobals "NoLog" = some (some (.ref X0)))
    (xO0 : K.lookup X0 = some (excClassObj xa0 xb0 X0 xN0 xs0 xm0 true xt0 xu0 xc0 xe0 xd0 xk0 xl0 xo0 xp0 xq0 "ValueError.__new__"))
    (xV0 : PySem.HandSPX.refsVE xm0 = true)
    (xS0 : PySem.W.findIn K (.ref X0) "__setattr__" = some (some (.builtin "object.__setattr__")))
    (xE0 : PySem.W.subIn K (.ref X0) (.type "BaseException") = some true)
    (xT0 : PySem.W.typeIn K (.ref X0) = some (.type "type"))
    (xK0 : PySem.W.keepIn K (.ref X0) = true)
    (xD0 : PySem.W.hasDictIn K X0 = true)
    (xG0 : PySem.W.findIn K (.ref X0) "__getattribute__" = some (some (.builtin "BaseException.__getattribute__")))
    (xH0 : PySem.W.findIn K (.ref X0) "__getattr__" = some none)
    (xC0 : PySem.W.findIn K (.ref X0) "__class__" = some (some (.builtin "object.__class__")))
    (xM0 : PySem.W.mroIn K X0 (.type "object") = some true)
    (xZ0 : PySem.W.subIn K (.ref X0) (.ref X0) = some true)
    (xI0 : PySem.W.findIn K (.ref X0) "__init__" = some (some (.ref F0)))
    (xJ0 : PySem.W.typeIn K (.ref F0) = some (.type "function"))
    (xL0 : K.lookup F0 = some ⟨xoc0, xod0, .func (PySem.W.fnOf "__init__" "NoLog.__init__" (defArgs s_NoLog___init__) (defBody s_NoLog___init__) (defScope s_NoLog___init__) .none xkV0 xdc0 xpm0 xan0 xcd0 xct0), xsl0⟩)
    (xR0 : PySem.W.codeIn K xcd0 "NoLog.__init__" = true)
    (xn0_0 : PySem.W.findIn K (.ref X0) "places" = some none)
    (xn0_1 : PySem.W.findIn K (.ref X0) "had" = some none)
    (xn0_2 : PySem.W.findIn K (.ref X0) "saved" = some none)
    (xn0_3 : PySem.W.findIn K (.ref X0) "own_confirmed" = some none)
    (xn0_4 : PySem.W.findIn K (.ref X0) "far" = some none)
    (xn0_5 : PySem.W.findIn K (.ref X0) "number" = some none)
    (xn0_6 : PySem.W.findIn K (.ref X0) "row" = some none)
    (xA1 : PySem.W.nsIn K mainGlobals "NoSteps" = some (some (.ref X1)))
    (xO1 : K.lookup X1 = some (excClassObj xa1 xb1 X1 xN1 xs1 xm1 true xt1 xu1 xc1 xe1 xd1 xk1 xl1 xo1 xp1 xq1 "ValueError.__new__"))
    (xV1 : PySem.HandSPX.refsVE xm1 = true)
    (xS1 : PySem.W.findIn K (.ref X1) "__setattr__" = some (some (.builtin "object.__setattr__")))
    (xE1 : PySem.W.subIn K (.ref X1) (.type "BaseException") = some true)
    (xT1 : PySem.W.typeIn K (.ref X1) = some (.type "type"))
    (xK1 : PySem.W.keepIn K (.ref X1) = true)
    (xD1 : PySem.W.hasDictIn K X1 = true)
    (xG1 : PySem.W.findIn K (.ref X1) "__getattribute__" = some (some (.builtin "BaseException.__getattribute__")))
    (xH1 : PySem.W.findIn K (.ref X1) "__getattr__" = some none)
    (xC1 : PySem.W.findIn K (.ref X1) "__class__" = some (some (.builtin "object.__class__")))
    (xM1 : PySem.W.mroIn K X1 (.type "object") = some true)
    (xZ1 : PySem.W.subIn K (.ref X1) (.ref X1) = some true)
    (xI1 : PySem.W.findIn K (.ref X1) "__init__" = some (some (.ref F1)))
    (xJ1 : PySem.W.typeIn K (.ref F1) = some (.type "function"))
    (xL1 : K.lookup F1 = some ⟨xoc1, xod1, .func (PySem.W.fnOf "__init__" "NoSteps.__init__" (defArgs s_NoSteps___init__) (defBody s_NoSteps___init__) (defScope s_NoSteps___init__) .none xkV1 xdc1 xpm1 xan1 xcd1 xct1), xsl1⟩)
    (xR1 : PySem.W.codeIn K xcd1 "NoSteps.__init__" = true)
    (xn1_0 : PySem.W.findIn K (.ref X1) "places" = some none)
    (xn1_1 : PySem.W.findIn K (.ref X1) "had" = some none)
    (xn1_2 : PySem.W.findIn K (.ref X1) "saved" = some none)
    (xn1_3 : PySem.W.findIn K (.ref X1) "own_confirmed" = some none)
    (xn1_4 : PySem.W.findIn K (.ref X1) "far" = some none)
    (xn1_5 : PySem.W.findIn K (.ref X1) "number" = some none)
    (xn1_6 : PySem.W.findIn K (.ref X1) "row" = some none)
    (xA2 : PySem.W.nsIn K mainGlobals "NoText" = some (some (.ref X2)))
    (xO2 : K.lookup X2 = some (excClassObj xa2 xb2 X2 xN2 xs2 xm2 true xt2 xu2 xc2 xe2 xd2 xk2 xl2 xo2 xp2 xq2 "ValueError.__new__"))
    (xV2 : PySem.HandSPX.refsVE xm2 = true)
    (xS2 : PySem.W.findIn K (.ref X2) "__setattr__" = some (some (.builtin "object.__setattr__")))
    (xE2 : PySem.W.subIn K (.ref X2) (.type "BaseException") = some true)
    (xT2 : PySem.W.typeIn K (.ref X2) = some (.type "type"))
    (xK2 : PySem.W.keepIn K (.ref X2) = true)
    (xD2 : PySem.W.hasDictIn K X2 = true)
    (xG2 : PySem.W.findIn K (.ref X2) "__getattribute__" = some (some (.builtin "BaseException.__getattribute__")))
    (xH2 : PySem.W.findIn K (.ref X2) "__getattr__" = some none)
    (xC2 : PySem.W.findIn K (.ref X2) "__class__" = some (some (.builtin "object.__class__")))
    (xM2 : PySem.W.mroIn K X2 (.type "object") = some true)
    (xZ2 : PySem.W.subIn K (.ref X2) (.ref X2) = some true)
    (xI2 : PySem.W.findIn K (.ref X2) "__init__" = some (some (.ref F2)))
    (xJ2 : PySem.W.typeIn K (.ref F2) = some (.type "function"))
    (xL2 : K.lookup F2 = some ⟨xoc2, xod2, .func (PySem.W.fnOf "__init__" "NoText.__init__" (defArgs s_NoText___init__) (defBody s_NoText___init__) (defScope s_NoText___init__) .none xkV2 xdc2 xpm2 xan2 xcd2 xct2), xsl2⟩)
    (xR2 : PySem.W.codeIn K xcd2 "NoText.__init__" = true)
    (xn2_0 : PySem.W.findIn K (.ref X2) "places" = some none)
    (xn2_1 : PySem.W.findIn K (.ref X2) "had" = some none)
    (xn2_2 : PySem.W.findIn K (.ref X2) "saved" = some none)
    (xn2_3 : PySem.W.findIn K (.ref X2) "own_confirmed" = some none)
    (xn2_4 : PySem.W.findIn K (.ref X2) "far" = some none)
    (xn2_5 : PySem.W.findIn K (.ref X2) "number" = some none)
    (xn2_6 : PySem.W.findIn K (.ref X2) "row" = some none)
    (yA0q : PySem.W.nsIn K mainGlobals "RowsError" = some (some (.ref Y0)))
    (yE0q : PySem.W.subIn K (.ref Y0) (.type "BaseException") = some true)
    (yD0q : PySem.W.hasDictIn K Y0 = true)
    (yT0q : PySem.W.typeIn K (.ref Y0) = some (.type "type"))
    (xw0 : PySem.W.readsIn K Y0 (.type "type") = true)
    (xx0 : PySem.W.specialIn K (.ref Y0) "__getattribute__" = some (some (.builtin "type.__getattribute__")))
    (xy0 : PySem.W.findCls K (.ref Y0) (.type "type") "__init__" = some (.val (.builtin "ValueError.__init__")))
    (xQ0_0 : PySem.W.subIn K (.ref X0) (.ref Y0) = some true)
    (xQ0_1 : PySem.W.subIn K (.ref X1) (.ref Y0) = some true)
    (xQ0_2 : PySem.W.subIn K (.ref X2) (.ref Y0) = some true)
    (xQ1_0 : PySem.W.subIn K (.ref X0) (.ref X1) = some false)
    (xQ1_1 : PySem.W.subIn K (.ref X1) (.ref X1) = some true)
    (xQ1_2 : PySem.W.subIn K (.ref X2) (.ref X1) = some false)
    (xQ2_0 : PySem.W.subIn K (.ref X0) (.ref X0) = some true)
    (xQ2_1 : PySem.W.subIn K (.ref X1) (.ref X0) = some false)
    (xQ2_2 : PySem.W.subIn K (.ref X2) (.ref X0) = some false)
    (xQ3_0 : PySem.W.subIn K (.ref X0) (.ref X2) = some false)
    (xQ3_1 : PySem.W.subIn K (.ref X1) (.ref X2) = some false)
    (xQ3_2 : PySem.W.subIn K (.ref X2) (.ref X2) = some true)
    (xz0 : PySem.W.specialIn K (.builtin "object.__class__") "__get__" = some (some (.builtin "getset_descriptor.__get__")))
    (xz1 : PySem.W.takesIn K (.builtin "object.__class__") = some true)
    (z0 : PySem.W.nsIn K mainGlobals "isinstance" = some none)
    (z1 : PySem.W.nsIn K mainGlobals "int" = some none)
    (z2 : PySem.W.nsIn K mainGlobals "bool" = some none)
    (z3 : PySem.W.nsIn K mainGlobals "tuple" = some none)
    (z4 : PySem.W.nsIn K mainGlobals "str" = some none)
    (z5 : PySem.W.nsIn K mainGlobals "len" = some none)
    (z6 : PySem.W.nsIn K mainGlobals "list" = some none)
    (z7 : PySem.W.nsIn K mainGlobals "enumerate" = some none)
    (z8 : PySem.W.nsIn K mainGlobals "max" = some none)
    (z9 : PySem.W.nsIn K mainGlobals "min" = some none)
    (z10 : PySem.W.nsIn K mainGlobals "range" = some none)
    (z11 : PySem.W.nsIn K mainGlobals "repr" = some none)
    (g0 : PySem.W.nsIn K mainGlobals "PLAIN" = some (some (.ref p0)))
    (h0 : K.lookup p0 = some ⟨.type "tuple", pd0, .seq #[.str "save" t0_0, .str "confirm" t0_1, .str "stop" t0_2] pn0, ps0⟩)
    : ∃ L : Lay, TFS S g K mg L ∧ L.fns[12]? = some fa := by
  have e : f12 = fa := by
    have z := (PySem.W.mg_of X G a12).symm.trans hfa
    cases z
    rfl
  refine ⟨⟨[f0, f1, f2, f3, f4, f5, f6, f7, f8, f9, f10, f11, f12], [C0], [X0, X1, X2], [], S.attrs⟩, ⟨?_, ⟨rfl, by decide +kernel⟩, ?_, ?_, ?_, ?_, ?_, ?_, ?_, ?_, ?_, ?_, ?_, ?_⟩, show some f12 = some fa by rw [e]⟩
  · exact all_mem (.cons (PySem.W.mg_none_of X G z0) (.cons (PySem.W.mg_none_of X G z1) (.cons (PySem.W.mg_none_of X G z2) (.cons (PySem.W.mg_none_of X G z3) (.cons (PySem.W.mg_none_of X G z4) (.cons (PySem.W.mg_none_of X G z5) (.cons (PySem.W.mg_none_of X G z6) (.cons (PySem.W.mg_none_of X G z7) (.cons (PySem.W.mg_none_of X G z8) (.cons (PySem.W.mg_none_of X G z9) (.cons (PySem.W.mg_none_of X G z10) (.cons (PySem.W.mg_none_of X G z11) (.nil)))))))))))))
  · exact all_fn (.some rfl (PySem.W.mg_of X G a0) k0 (.some rfl (PySem.W.mg_of X G a1) k1 (.some rfl (PySem.W.mg_of X G a2) k2 (.none (.none (.none (.some rfl (PySem.W.mg_of X G a6) k6 (.some rfl (PySem.W.mg_of X G a7) k7 (.some rfl (PySem.W.mg_of X G a8) k8 (.some rfl (PySem.W.mg_of X G a9) k9 (.some rfl (PySem.W.mg_of X G a10) k10 (.some rfl (PySem.W.mg_of X G a11) k11 (.some rfl (PySem.W.mg_of X G a12) k12 (.nil))))))))))))))
  · exact all_ix (.cons (t_is_whole l0 c0) (.cons (t_is_step l1 c1) (.cons (t_look_at_steps l2 c2) (.cons (t_Memory___init__ l3 c3) (.cons (t_Memory_hear l4 c4) (.cons (t_Memory_stop l5 c5) (.cons (t_step_done l6 c6) (.cons (t_judged l7 c7) (.cons (t__law_cell_at l8 c8) (.cons (t__law_pool l9 c9) (.cons (t__law_take l10 c10) (.cons (t__law_told l11 c11) (.cons (t_law l12 c12) (.nil))))))))))))))
  · exact all_mak (.cons (⟨3, C0, f3, rfl, rfl, PySem.W.mg_of X G A0, rfl, ⟨mk0, a3, i3, kc0⟩⟩) (.nil))
  · exact all_ini (by decide +kernel)
  · exact all_ix (P := fun _ C => Cls K C ∧ ∀ x ∈ S.attrs, NoAttr K C x) (.cons (⟨⟨pg0, hd0, po0, sa0⟩, all_mem (.cons (n0_0) (.cons (n0_1) (.cons (n0_2) (.cons (n0_3) (.cons (n0_4) (.cons (n0_5) (.cons (n0_6) (.nil))))))))⟩) (.nil))
  · exact all_mth (g := g) (.cons (⟨_, rfl, .cons (⟨_, f4, rfl, rfl, ⟨a4, i4, k4⟩⟩) (.cons (⟨_, f5, rfl, rfl, ⟨a5, i5, k5⟩⟩) (.nil))⟩) (.nil))
  · exact all_mna (by decide +kernel)
  · exact all_mks (by decide +kernel)
  · exact all_exc (.cons (⟨X0, "number", rfl, PySem.W.mg_of X G xA0, rfl, exk_of ⟨⟨_, _, _, _, _, _, _, _, _, _, _, _, _, _, _, xO0, xV0⟩, xS0, xE0, xT0, xK0⟩ xn0_5 (PySem.W.mg_of X G yA0q) ⟨xw0, xx0⟩ xy0 xI0 xJ0 xL0 xR0 q_NoLog___init__ (Binds.all fun us hl => match us, hl with | [_, _], _ => rfl) x_NoLog___init__⟩) (.cons (⟨X1, "number", rfl, PySem.W.mg_of X G xA1, rfl, exk_of ⟨⟨_, _, _, _, _, _, _, _, _, _, _, _, _, _, _, xO1, xV1⟩, xS1, xE1, xT1, xK1⟩ xn1_5 (PySem.W.mg_of X G yA0q) ⟨xw0, xx0⟩ xy0 xI1 xJ1 xL1 xR1 q_NoSteps___init__ (Binds.all fun us hl => match us, hl with | [_, _], _ => rfl) x_NoSteps___init__⟩) (.cons (⟨X2, "row", rfl, PySem.W.mg_of X G xA2, rfl, exk_of ⟨⟨_, _, _, _, _, _, _, _, _, _, _, _, _, _, _, xO2, xV2⟩, xS2, xE2, xT2, xK2⟩ xn2_6 (PySem.W.mg_of X G yA0q) ⟨xw0, xx0⟩ xy0 xI2 xJ2 xL2 xR2 q_NoText___init__ (Binds.all fun us hl => match us, hl with | [_, _], _ => rfl) x_NoText___init__⟩) (.nil))))
  · exact all_ix (P := fun _ C => ExF K S.attrs C) (.cons (exf_of xG0 xH0 xE0 xD0 xC0 xz0 xz1 xM0 (.cons (xn0_0) (.cons (xn0_1) (.cons (xn0_2) (.cons (xn0_3) (.cons (xn0_4) (.cons (xn0_5) (.cons (xn0_6) (.nil))))))))) (.cons (exf_of xG1 xH1 xE1 xD1 xC1 xz0 xz1 xM1 (.cons (xn1_0) (.cons (xn1_1) (.cons (xn1_2) (.cons (xn1_3) (.cons (xn1_4) (.cons (xn1_5) (.cons (xn1_6) (.nil))))))))) (.cons (exf_of xG2 xH2 xE2 xD2 xC2 xz0 xz1 xM2 (.cons (xn2_0) (.cons (xn2_1) (.cons (xn2_2) (.cons (xn2_3) (.cons (xn2_4) (.cons (xn2_5) (.cons (xn2_6) (.nil))))))))) (.nil))))
  · exact all_mem (.cons (⟨Y0, PySem.W.mg_of X G yA0q, all_z (.cons (exm_of yE0q yD0q yT0q xZ0 xQ0_0) (.cons (exm_of yE0q yD0q yT0q xZ1 xQ0_1) (.cons (exm_of yE0q yD0q yT0q xZ2 xQ0_2) (.nil))))⟩) (.cons (⟨X1, PySem.W.mg_of X G xA1, all_z (.cons (exm_of xE1 xD1 xT1 xZ0 xQ1_0) (.cons (exm_of xE1 xD1 xT1 xZ1 xQ1_1) (.cons (exm_of xE1 xD1 xT1 xZ2 xQ1_2) (.nil))))⟩) (.cons (⟨X0, PySem.W.mg_of X G xA0, all_z (.cons (exm_of xE0 xD0 xT0 xZ0 xQ2_0) (.cons (exm_of xE0 xD0 xT0 xZ1 xQ2_1) (.cons (exm_of xE0 xD0 xT0 xZ2 xQ2_2) (.nil))))⟩) (.cons (⟨X2, PySem.W.mg_of X G xA2, all_z (.cons (exm_of xE2 xD2 xT2 xZ0 xQ3_0) (.cons (exm_of xE2 xD2 xT2 xZ1 xQ3_1) (.cons (exm_of xE2 xD2 xT2 xZ2 xQ3_2) (.nil))))⟩) (.nil)))))
  · exact all_con (.cons (⟨_, _, .ref p0, rfl, PySem.W.mg_of X G g0, rfl, fun _ _ => .tup (.inr ⟨_, _, _, h0, rfl, rfl, show 3 ≤ sizeLine by decide, (.cons (show RelV (V.str "save") _ from ⟨t0_0, rfl⟩) (.cons (show RelV (V.str "confirm") _ from ⟨t0_1, rfl⟩) (.cons (show RelV (V.str "stop") _ from ⟨t0_2, rfl⟩) .nil)))⟩) (.cons (.str _) (.cons (.str _) (.cons (.str _) .nil)))⟩) (.nil))
end
theorem call_is_whole (n : Nat) (ds : List D) (hp : Hq) (Q : QD) (E : QX) : wCall g (n + 1) 0 ds hp Q E = (ds.length = 1 ∧ wSs g (wCall g n) b_is_whole (ds.map some ++ List.replicate 0 none) hp { nx := fun _ hp => Q .non hp, bk := fun _ _ => False, ct := fun _ _ => False, rt := Q, ex := fun c i _ hp => E c i hp }) := rfl
theorem call_is_step (n : Nat) (ds : List D) (hp : Hq) (Q : QD) (E : QX) : wCall g (n + 1) 1 ds hp Q E = (ds.length = 1 ∧ wSs g (wCall g n) b_is_step (ds.map some ++ List.replicate 0 none) hp { nx := fun _ hp => Q .non hp, bk := fun _ _ => False, ct := fun _ _ => False, rt := Q, ex := fun c i _ hp => E c i hp }) := rfl
theorem call_look_at_steps (n : Nat) (ds : List D) (hp : Hq) (Q : QD) (E : QX) : wCall g (n + 1) 2 ds hp Q E = (ds.length = 1 ∧ wSs g (wCall g n) b_look_at_steps (ds.map some ++ List.replicate 2 none) hp { nx := fun _ hp => Q .non hp, bk := fun _ _ => False, ct := fun _ _ => False, rt := Q, ex := fun c i _ hp => E c i hp }) := rfl
theorem call_Memory___init__ (n : Nat) (ds : List D) (hp : Hq) (Q : QD) (E : QX) : wCall g (n + 1) 3 ds hp Q E = (ds.length = 2 ∧ wSs g (wCall g n) b_Memory___init__ (ds.map some ++ List.replicate 0 none) hp { nx := fun _ hp => Q .non hp, bk := fun _ _ => False, ct := fun _ _ => False, rt := Q, ex := fun c i _ hp => E c i hp }) := rfl
theorem call_Memory_hear (n : Nat) (ds : List D) (hp : Hq) (Q : QD) (E : QX) : wCall g (n + 1) 4 ds hp Q E = (ds.length = 2 ∧ wSs g (wCall g n) b_Memory_hear (ds.map some ++ List.replicate 2 none) hp { nx := fun _ hp => Q .non hp, bk := fun _ _ => False, ct := fun _ _ => False, rt := Q, ex := fun c i _ hp => E c i hp }) := rfl
theorem call_Memory_stop (n : Nat) (ds : List D) (hp : Hq) (Q : QD) (E : QX) : wCall g (n + 1) 5 ds hp Q E = (ds.length = 1 ∧ wSs g (wCall g n) b_Memory_stop (ds.map some ++ List.replicate 2 none) hp { nx := fun _ hp => Q .non hp, bk := fun _ _ => False, ct := fun _ _ => False, rt := Q, ex := fun c i _ hp => E c i hp }) := rfl
theorem call_step_done (n : Nat) (ds : List D) (hp : Hq) (Q : QD) (E : QX) : wCall g (n + 1) 6 ds hp Q E = (ds.length = 2 ∧ wSs g (wCall g n) b_step_done (ds.map some ++ List.replicate 2 none) hp { nx := fun _ hp => Q .non hp, bk := fun _ _ => False, ct := fun _ _ => False, rt := Q, ex := fun c i _ hp => E c i hp }) := rfl
theorem call_judged (n : Nat) (ds : List D) (hp : Hq) (Q : QD) (E : QX) : wCall g (n + 1) 7 ds hp Q E = (ds.length = 2 ∧ wSs g (wCall g n) b_judged (ds.map some ++ List.replicate 4 none) hp { nx := fun _ hp => Q .non hp, bk := fun _ _ => False, ct := fun _ _ => False, rt := Q, ex := fun c i _ hp => E c i hp }) := rfl
theorem call__law_cell_at (n : Nat) (ds : List D) (hp : Hq) (Q : QD) (E : QX) : wCall g (n + 1) 8 ds hp Q E = (ds.length = 2 ∧ wSs g (wCall g n) b__law_cell_at (ds.map some ++ List.replicate 0 none) hp { nx := fun _ hp => Q .non hp, bk := fun _ _ => False, ct := fun _ _ => False, rt := Q, ex := fun c i _ hp => E c i hp }) := rfl
theorem call__law_pool (n : Nat) (ds : List D) (hp : Hq) (Q : QD) (E : QX) : wCall g (n + 1) 9 ds hp Q E = (ds.length = 2 ∧ wSs g (wCall g n) b__law_pool (ds.map some ++ List.replicate 2 none) hp { nx := fun _ hp => Q .non hp, bk := fun _ _ => False, ct := fun _ _ => False, rt := Q, ex := fun c i _ hp => E c i hp }) := rfl
theorem call__law_take (n : Nat) (ds : List D) (hp : Hq) (Q : QD) (E : QX) : wCall g (n + 1) 10 ds hp Q E = (ds.length = 2 ∧ wSs g (wCall g n) b__law_take (ds.map some ++ List.replicate 1 none) hp { nx := fun _ hp => Q .non hp, bk := fun _ _ => False, ct := fun _ _ => False, rt := Q, ex := fun c i _ hp => E c i hp }) := rfl
theorem call__law_told (n : Nat) (ds : List D) (hp : Hq) (Q : QD) (E : QX) : wCall g (n + 1) 11 ds hp Q E = (ds.length = 1 ∧ wSs g (wCall g n) b__law_told (ds.map some ++ List.replicate 2 none) hp { nx := fun _ hp => Q .non hp, bk := fun _ _ => False, ct := fun _ _ => False, rt := Q, ex := fun c i _ hp => E c i hp }) := rfl
theorem call_law (n : Nat) (ds : List D) (hp : Hq) (Q : QD) (E : QX) : wCall g (n + 1) 12 ds hp Q E = (ds.length = 1 ∧ wSs g (wCall g n) b_law (ds.map some ++ List.replicate 12 none) hp { nx := fun _ hp => Q .non hp, bk := fun _ _ => False, ct := fun _ _ => False, rt := Q, ex := fun c i _ hp => E c i hp }) := rfl
end T
end MI
set_option maxHeartbeats 4000000
local macro_rules | `(tactic| walk_at "mi") => `(tactic| simp (config := { decide := false }) (disch := (first | assumption | omega | (simp only [List.length_append, List.length_cons, List.length_nil, List.length_set]; omega))) only [*, MI.wSs, MI.wS, MI.wE, MI.wEs, MI.wEo, MI.wTg, MI.wTgs, MI.a_ok, MI.a_cd, MI.a_no, MI.ab_okB, MI.ab_cd, MI.ah_ok, MI.ah_cd, MI.o_add, MI.o_addt, MI.o_adds, MI.o_addl, MI.o_mull, MI.o_sub, MI.o_mul, MI.o_fdiv, MI.o_mod, MI.o_pow, MI.t_non, MI.t_bl, MI.t_int, MI.t_tup, MI.c_eqi, MI.c_eqs, MI.c_eqb, MI.c_nei, MI.c_nes, MI.c_eqt, MI.c_net, MI.c_eqr, MI.c_ner, MI.c_lt, MI.c_le, MI.c_gt, MI.c_ge, MI.c_is, MI.c_nis, MI.c_in, MI.c_nin, MI.v_ok, MI.v_cd, MI.x_tup, MI.x_kl, MI.x_refi, MI.x_refs, MI.s_refi, MI.s_refs, MI.f_ref, MI.sf_ref, MI.at_0, MI.at_1, MI.at_2, MI.ixN_0, MI.ixN_1, List.getElem?_cons_zero, List.getElem?_cons_succ, List.set_cons_zero, List.set_cons_succ, List.map_cons, List.map_nil, List.cons_append, List.nil_append, List.replicate, Option.getD_some, Option.getD_none, Bool.false_eq_true, if_true, if_false, List.length_cons, List.length_nil, List.getElem?_set_self', Option.map_eq_map, Option.map_some, Function.const_apply, List.set_set, decide_eq_true_eq, true_and, and_true, MI.isi_tt, MI.isi_ss, MI.isi_ii, MI.isi_ib, MI.len_t0, MI.len_t1, MI.len_t2, MI.len_k, MI.max_2, MI.min_2, MI.int_b, Bool.not_true, Bool.not_false, decide_true, decide_false])
namespace MI.T
open PySem L2 MI
inductive Stp | hear (n : Int) | save | confirm | stop
def Stp.d : Stp → D
  | .hear n => .tup [.str "hear", .int n]
  | .save => .tup [.str "save"]
  | .confirm => .tup [.str "confirm"]
  | .stop => .tup [.str "stop"]
def Stp.ok : Stp → Prop
  | .hear n => 1 ≤ n
  | _ => True
theorem not_empty {x : D} {xs : List D} {a : PyData} {as : List PyData} {hp : Hq} (h : mapO (toP 39 hp) (x :: xs) = some (a :: as)) (hs : SeqAt.shaped (.tuple (a :: as)) = true) : oEqG (.tup (x :: xs)) (.tup []) hp = .cd (SeqAt.shaped (.tuple (a :: as)) = true ∧ SeqAt.shaped (.tuple []) = true) false := by
  show oEqP (.tup (x :: xs)) (.tup []) hp = _
  unfold oEqP
  have e1 : toP 40 hp (.tup (x :: xs)) = some (.tuple (a :: as)) := by
    show (mapO (toP 39 hp) (x :: xs)).map PyData.tuple = _
    rw [h]
    rfl
  have e2 : toP 40 hp (.tup []) = some (.tuple []) := rfl
  rw [e1, e2]
  simp only [PyData.eqv, PyData.eqvAll]
theorem sh_e : SeqAt.shaped (.tuple []) = true := by decide +kernel
theorem sh_h (n : Int) : SeqAt.shaped (.tuple [.str "hear", .int n]) = true := by
  unfold SeqAt.shaped
  have h : PyData.strOk ("hear" : Str) = true := by decide +kernel
  simp [PyData.canLay0, PyData.canLayAll0, PyData.depth, PyData.depthAll, h]
theorem is_whole_run {n : Nat} {i : Int} {hp : Hq} {Q : QD} {E : QX} (k : Q (.bl true) hp) : wCall g (n + 1) 0 [.int i] hp Q E := by
  rw [call_is_whole]
  refine ⟨rfl, ?_⟩
  unfold b_is_whole
  walk_at "mi"
theorem hear_ne : (("hear" : Str) = "hear") = True := by simp
theorem is_step_hear {n : Nat} {i : Int} {hp : Hq} {Q : QD} {E : QX} (hi : 1 ≤ i) (k : Q (.bl true) hp) : wCall g (n + 2) 1 [.tup [.str "hear", .int i]] hp Q E := by
  rw [call_is_step]
  refine ⟨rfl, ?_⟩
  unfold b_is_step
  have e := not_empty (hp := hp) (x := .str "hear") (xs := [.int i]) (a := .str "hear") (as := [.int i]) rfl (sh_h i)
  have s1 := sh_h i
  have s2 := sh_e
  have nz : ((2 : Int) = 2) = True := by simp
  walk_at "mi"
  refine is_whole_run ?_
  have h1 : (1 ≤ i) = True := by simp [hi]
  walk_at "mi"
theorem sh_1 {x : Str} (h : PyData.strOk x = true) : SeqAt.shaped (.tuple [.str x]) = true := by
  unfold SeqAt.shaped
  simp [PyData.canLay0, PyData.canLayAll0, PyData.depth, PyData.depthAll, h]
theorem in_plain {x : Str} {hp : Hq} (h : PyData.strOk x = true) : oIn (.str x) (.tup [.str "save", .str "confirm", .str "stop"]) hp = .cd (SeqAt.shaped (.str x) = true ∧ SeqAt.shaped (.list [.str "save", .str "confirm", .str "stop"]) = true) ((("save" : Str) == x) || ((("confirm" : Str) == x) || (("stop" : Str) == x))) := by
  show (match toP 40 hp (.str x), mapO (toP 40 hp) [.str "save", .str "confirm", .str "stop"] with
    | some a, some bs => OutB.cd (SeqAt.shaped a = true ∧ SeqAt.shaped (.list bs) = true) (bs.any fun b => PyData.eqv b a)
    | _, _ => .no) = _
  have e1 : toP 40 hp (.str x) = some (.str x) := rfl
  have e2 : mapO (toP 40 hp) [.str "save", .str "confirm", .str "stop"] = some [.str "save", .str "confirm", .str "stop"] := rfl
  rw [e1, e2]
  simp only [List.any_cons, List.any_nil, PyData.eqv, Bool.or_false]
theorem is_step_word {n : Nat} {x : Str} {hp : Hq} {Q : QD} {E : QX} (h : PyData.strOk x = true) (hh : x ≠ "hear") (hx : ((("save" : Str) == x) || ((("confirm" : Str) == x) || (("stop" : Str) == x))) = true) (k : Q (.bl true) hp) : wCall g (n + 2) 1 [.tup [.str x]] hp Q E := by
  rw [call_is_step]
  refine ⟨rfl, ?_⟩
  unfold b_is_step
  have e := not_empty (hp := hp) (x := .str x) (xs := []) (a := .str x) (as := []) rfl (sh_1 h)
  have s1 := sh_1 h
  have s2 := sh_e
  have e3 := in_plain (hp := hp) h
  rw [hx] at e3
  have s3 : SeqAt.shaped (.str x) = true := by
    unfold SeqAt.shaped
    simp [PyData.canLay0, PyData.depth, h]
  have s4 : SeqAt.shaped (.list [.str "save", .str "confirm", .str "stop"]) = true := by decide +kernel
  have hg : g.consts[0]? = some (.tup [.str "save", .str "confirm", .str "stop"]) := rfl
  have hh' : (x = ("hear" : Str)) = False := by simp [hh]
  have nz : ((1 : Int) = 1) = True := by simp
  clear hx
  walk_at "mi"
theorem is_step_run {n : Nat} {s : Stp} {hp : Hq} {Q : QD} {E : QX} (hs : s.ok) (k : Q (.bl true) hp) : wCall g (n + 2) 1 [s.d] hp Q E := by
  cases s with
  | hear i => exact is_step_hear hs k
  | save => exact is_step_word (by decide +kernel) (by decide +kernel) (by decide +kernel) k
  | confirm => exact is_step_word (by decide +kernel) (by decide +kernel) (by decide +kernel) k
  | stop => exact is_step_word (by decide +kernel) (by decide +kernel) (by decide +kernel) k
end MI.T
set_option maxHeartbeats 4000000
local macro_rules | `(tactic| walk_at "mi") => `(tactic| simp (config := { decide := false }) (disch := (first | assumption | omega | (simp only [List.length_append, List.length_cons, List.length_nil, List.length_set]; omega))) only [*, MI.wSs, MI.wS, MI.wE, MI.wEs, MI.wEo, MI.wTg, MI.wTgs, MI.a_ok, MI.a_cd, MI.a_no, MI.ab_okB, MI.ab_cd, MI.ah_ok, MI.ah_cd, MI.o_add, MI.o_addt, MI.o_adds, MI.o_addl, MI.o_mull, MI.o_sub, MI.o_mul, MI.o_fdiv, MI.o_mod, MI.o_pow, MI.t_non, MI.t_bl, MI.t_int, MI.t_tup, MI.c_eqi, MI.c_eqs, MI.c_eqb, MI.c_nei, MI.c_nes, MI.c_eqt, MI.c_net, MI.c_eqr, MI.c_ner, MI.c_lt, MI.c_le, MI.c_gt, MI.c_ge, MI.c_is, MI.c_nis, MI.c_in, MI.c_nin, MI.v_ok, MI.v_cd, MI.x_tup, MI.x_kl, MI.x_refi, MI.x_refs, MI.s_refi, MI.s_refs, MI.f_ref, MI.sf_ref, MI.at_0, MI.at_1, MI.at_2, MI.ixN_0, MI.ixN_1, List.getElem?_cons_zero, List.getElem?_cons_succ, List.set_cons_zero, List.set_cons_succ, List.map_cons, List.map_nil, List.cons_append, List.nil_append, List.replicate, Option.getD_some, Option.getD_none, Bool.false_eq_true, if_true, if_false, List.length_cons, List.length_nil, List.getElem?_set_self', Option.map_eq_map, Option.map_some, Function.const_apply, List.set_set, decide_eq_true_eq, true_and, and_true, MI.isi_tt, MI.isi_ss, MI.isi_ii, MI.isi_ib, MI.len_t0, MI.len_t1, MI.len_t2, MI.len_k, MI.max_2, MI.min_2, MI.int_b, Bool.not_true, Bool.not_false, decide_true, decide_false])namespace MI.T
open PySem L2 MI
theorem enum_nx {i j : Nat} {hp : Hq} {xs : List D} {d : D} (h : hp[i]? = some (.lst xs)) (hj : xs[j]? = some d) : (itEnum i).nx j hp = some (some (.tup [.int j, d])) := by
  show (gtL hp i).map (fun xs => (xs[j]?).map fun d => D.tup [.int j, d]) = _
  rw [gtL_of h]
  simp [hj]
theorem enum_end {i : Nat} {hp : Hq} {xs : List D} (h : hp[i]? = some (.lst xs)) : (itEnum i).nx xs.length hp = some none := by
  show (gtL hp i).map (fun ys => (ys[xs.length]?).map fun d => D.tup [.int xs.length, d]) = _
  rw [gtL_of h]
  simp
theorem lst_nx {i j : Nat} {hp : Hq} {xs : List D} {d : D} (h : hp[i]? = some (.lst xs)) (hj : xs[j]? = some d) : (itLst i).nx j hp = some (some d) := by
  show (gtL hp i).map (fun xs => xs[j]?) = _
  rw [gtL_of h]
  simp [hj]
theorem lst_end {i : Nat} {hp : Hq} {xs : List D} (h : hp[i]? = some (.lst xs)) : (itLst i).nx xs.length hp = some none := by
  show (gtL hp i).map (fun ys => ys[xs.length]?) = _
  rw [gtL_of h]
  simp
theorem look_run {n i : Nat} {steps : List Stp} {hp : Hq} {Q : QD} {E : QX} (h : hp[i]? = some (.lst (steps.map Stp.d))) (ok : ∀ s ∈ steps, s.ok) (k : Q .non hp) : wCall g (n + 3) 2 [.ref i] hp Q E := by
  rw [call_look_at_steps]
  refine ⟨rfl, ?_⟩
  unfold b_look_at_steps
  have e1 := isi_ll h
  have e2 := gtL_of h
  revert ok
  simp only [wSs, wS, wE, wEs, wIt, e1, e2, a_ok, ab_okB, t_bl, Bool.not_true, Bool.false_eq_true, if_false, List.map_cons, List.map_nil, List.cons_append, List.nil_append, List.replicate, List.getElem?_cons_zero]
  intro ok
  refine for_run steps.length (fun j env hp' => hp' = hp ∧ ∃ a b, env = [some (.ref i), a, b]) (fun j env hp' kn hj hI hk => ?_) (fun env hp' hI => ?_) ⟨rfl, none, none, rfl⟩
  · obtain ⟨rfl, a, b, rfl⟩ := hI
    have hj' : (steps.map Stp.d)[j]? = some (steps[j].d) := by simp [hj]
    refine ⟨_, enum_nx h hj', ?_⟩
    simp only [wTg, wTgs, wSs, wS, wE, wEs, List.set_cons_zero, List.set_cons_succ, List.getElem?_cons_zero, List.getElem?_cons_succ]
    refine ⟨rfl, is_step_run (ok _ (List.getElem_mem hj)) ?_⟩
    simp only [a_ok, ab_okB, t_bl, Bool.not_true, Bool.false_eq_true, if_false]
    exact hk _ _ ⟨rfl, _, _, rfl⟩
  · obtain ⟨rfl, a, b, rfl⟩ := hI
    refine ⟨?_, k⟩
    have := enum_end h
    rwa [List.length_map] at this
end MI.T
set_option maxHeartbeats 4000000
local macro_rules | `(tactic| walk_at "mi") => `(tactic| simp (config := { decide := false }) (disch := (first | assumption | omega | (simp only [List.length_append, List.length_cons, List.length_nil, List.length_set]; omega))) only [*, MI.wSs, MI.wS, MI.wE, MI.wEs, MI.wEo, MI.wTg, MI.wTgs, MI.a_ok, MI.a_cd, MI.a_no, MI.ab_okB, MI.ab_cd, MI.ah_ok, MI.ah_cd, MI.o_add, MI.o_addt, MI.o_adds, MI.o_addl, MI.o_mull, MI.o_sub, MI.o_mul, MI.o_fdiv, MI.o_mod, MI.o_pow, MI.t_non, MI.t_bl, MI.t_int, MI.t_tup, MI.c_eqi, MI.c_eqs, MI.c_eqb, MI.c_nei, MI.c_nes, MI.c_eqt, MI.c_net, MI.c_eqr, MI.c_ner, MI.c_lt, MI.c_le, MI.c_gt, MI.c_ge, MI.c_is, MI.c_nis, MI.c_in, MI.c_nin, MI.v_ok, MI.v_cd, MI.x_tup, MI.x_kl, MI.x_refi, MI.x_refs, MI.s_refi, MI.s_refs, MI.f_ref, MI.sf_ref, MI.at_0, MI.at_1, MI.at_2, MI.ixN_0, MI.ixN_1, List.getElem?_cons_zero, List.getElem?_cons_succ, List.set_cons_zero, List.set_cons_succ, List.map_cons, List.map_nil, List.cons_append, List.nil_append, List.replicate, Option.getD_some, Option.getD_none, Bool.false_eq_true, if_true, if_false, List.length_cons, List.length_nil, List.getElem?_set_self', Option.map_eq_map, Option.map_some, Function.const_apply, List.set_set, decide_eq_true_eq, true_and, and_true, MI.isi_tt, MI.isi_ss, MI.isi_ii, MI.isi_ib, MI.len_t0, MI.len_t1, MI.len_t2, MI.len_k, MI.max_2, MI.min_2, MI.int_b, MI.gtI, MI.gtL, MI.gtD, MI.fput, MI.fget, MI.oNew, List.length_set, List.length_append, List.getElem?_append_left, List.getElem?_concat_length, List.set_append_left, List.append_assoc, Nat.reduceEqDiff, Nat.add_assoc, if_neg, Bool.not_true, Bool.not_false, decide_true, decide_false])
namespace MI.T
open PySem L2 MI
structure Mem where
  had : List Int
  saved : List Int
  conf : Int
  far : Int
/-- a Memory at p, its lists at pl, hd, sv -/
structure MemIs (hp : Hq) (p pl hd sv : Nat) (places : List Int) (m : Mem) : Prop where
  ob : hp[p]? = some (.ins 0 [(0, .ref pl), (1, .ref hd), (2, .ref sv), (3, .int m.conf), (4, .int m.far)])
  lp : hp[pl]? = some (.lst (places.map D.int))
  lh : hp[hd]? = some (.lst (m.had.map D.int))
  ls : hp[sv]? = some (.lst (m.saved.map D.int))
  n1 : hd ≠ pl
  n2 : hd ≠ sv
/-- all its own things at b or behind -/
def MemAt (hp : Hq) (b p : Nat) (places : List Int) (m : Mem) : Prop := ∃ pl hd sv, MemIs hp p pl hd sv places m ∧ b ≤ p ∧ b ≤ pl ∧ b ≤ hd ∧ b ≤ sv
theorem init_run {n p sp : Nat} {xs : List D} {hp : Hq} {Q : QD} {E : QX} (hs : hp[sp]? = some (.lst xs)) (h : hp[p]? = some (.ins 0 []))
    (k : ∀ hp', hp' = hp.set p (.ins 0 [(0, .ref hp.length), (1, .ref (hp.length + 1)), (2, .ref (hp.length + 2)), (3, .int (-1)), (4, .int (-1))]) ++ [.lst xs, .lst [], .lst []] → Q .non hp') : wCall g (n + 1) 3 [.ref p, .ref sp] hp Q E := by
  rw [call_Memory___init__]
  refine ⟨rfl, ?_⟩
  unfold b_Memory___init__
  have hl : p < hp.length := lt_of h
  have e1 : oBF .list1 [.ref sp] hp = .ok (.ref hp.length) (hp ++ [.lst xs]) := by
    show (match sqOf hp (.ref sp) with | some xs => oNew hp (.lst xs) | none => .no) = _
    have : sqOf hp (.ref sp) = some xs := gtL_of hs
    rw [this]
    rfl
  revert k
  walk_at "mi"
  intro k
  exact ⟨by decide, by decide, by decide, by decide, by decide, k _ rfl⟩
theorem cut_to {α : Type} (xs : List α) {many : Int} (h : 0 ≤ many) : cutD xs none (some many) = xs.take many.toNat := by
  unfold cutD HT.sIx
  simp
  rw [if_neg (by omega)]
  omega
def top2 (a b : Int) : Int := if b > a then b else a
def Mem.new (m : Mem) (places : List Int) (many : Int) : List Int := (places.filter fun x => decide (top2 m.far m.conf < x)).take many.toNat
def hearGo (m : Mem) (tw : Option Int) : List Int → Mem × Option Int
  | [] => (m, tw)
  | x :: r => hearGo { m with had := m.had ++ [x], far := x } (if x ∈ m.had ∧ tw = none then some x else tw) r
def twD : Option Int → D
  | none => .non
  | some x => .int x
end MI.T
set_option maxHeartbeats 4000000
local macro_rules | `(tactic| walk_at "mi") => `(tactic| simp (config := { decide := false }) (disch := (first | assumption | omega | (simp only [List.length_append, List.length_cons, List.length_nil, List.length_set]; omega))) only [*, MI.wSs, MI.wS, MI.wE, MI.wEs, MI.wEo, MI.wTg, MI.wTgs, MI.a_ok, MI.a_cd, MI.a_no, MI.ab_okB, MI.ab_cd, MI.ah_ok, MI.ah_cd, MI.o_add, MI.o_addt, MI.o_adds, MI.o_addl, MI.o_mull, MI.o_sub, MI.o_mul, MI.o_fdiv, MI.o_mod, MI.o_pow, MI.t_non, MI.t_bl, MI.t_int, MI.t_tup, MI.c_eqi, MI.c_eqs, MI.c_eqb, MI.c_nei, MI.c_nes, MI.c_eqt, MI.c_net, MI.c_eqr, MI.c_ner, MI.c_lt, MI.c_le, MI.c_gt, MI.c_ge, MI.c_is, MI.c_nis, MI.c_in, MI.c_nin, MI.v_ok, MI.v_cd, MI.x_tup, MI.x_kl, MI.x_refi, MI.x_refs, MI.s_refi, MI.s_refs, MI.f_ref, MI.sf_ref, MI.at_0, MI.at_1, MI.at_2, MI.ixN_0, MI.ixN_1, List.getElem?_cons_zero, List.getElem?_cons_succ, List.set_cons_zero, List.set_cons_succ, List.map_cons, List.map_nil, List.cons_append, List.nil_append, List.replicate, Option.getD_some, Option.getD_none, Bool.false_eq_true, if_true, if_false, List.length_cons, List.length_nil, List.getElem?_set_self', Option.map_eq_map, Option.map_some, Function.const_apply, List.set_set, decide_eq_true_eq, true_and, and_true, MI.isi_tt, MI.isi_ss, MI.isi_ii, MI.isi_ib, MI.len_t0, MI.len_t1, MI.len_t2, MI.len_k, MI.max_2, MI.min_2, MI.int_b, MI.gtI, MI.gtL, MI.gtD, MI.fput, MI.fget, MI.oNew, List.length_set, List.length_append, List.getElem?_append_left, List.getElem?_concat_length, List.set_append_left, List.append_assoc, Nat.reduceEqDiff, Nat.add_assoc, if_neg, Bool.not_true, Bool.not_false, decide_true, decide_false])
namespace MI.T
open PySem L2 MI
theorem take_succ_filter {P : Int → Bool} {xs : List Int} {j : Nat} (hj : j < xs.length) : (xs.take (j + 1)).filter P = if P xs[j] = true then (xs.take j).filter P ++ [xs[j]] else (xs.take j).filter P := by
  rw [List.take_add_one, List.getElem?_eq_getElem hj, Option.toList_some, List.filter_append]
  by_cases h : P xs[j] = true
  · simp [h]
  · simp [h]
theorem hearGo_app : ∀ (l : List Int) (m : Mem) (tw : Option Int) (x : Int), hearGo m tw (l ++ [x]) = ({ (hearGo m tw l).1 with had := (hearGo m tw l).1.had ++ [x], far := x }, if x ∈ (hearGo m tw l).1.had ∧ (hearGo m tw l).2 = none then some x else (hearGo m tw l).2)
  | [], m, tw, x => rfl
  | y :: l, m, tw, x => by
    show hearGo _ _ (l ++ [x]) = _
    rw [hearGo_app l]
    rfl
theorem hearGo_had : ∀ (l : List Int) (m : Mem) (tw : Option Int), (hearGo m tw l).1.had = m.had ++ l
  | [], m, tw => by simp [hearGo]
  | y :: l, m, tw => by
    show (hearGo _ _ l).1.had = _
    rw [hearGo_had l]
    simp
/-- one turn of hear's loop -/
theorem hear_turn {p pl hd sv : Nat} {places : List Int} {m : Mem} {x : Int} {hp : Hq} (h : MemIs hp p pl hd sv places m) (hh : m.had.length < 16777216) : MemIs ((hp.set hd (.lst ((m.had ++ [x]).map D.int))).set p (.ins 0 [(0, .ref pl), (1, .ref hd), (2, .ref sv), (3, .int m.conf), (4, .int x)])) p pl hd sv places { m with had := m.had ++ [x], far := x } := by
  obtain ⟨ob, lp, lh, ls, n1, n2⟩ := h
  have d1 : p ≠ hd := fun z => by subst z; rw [ob] at lh; cases lh
  have d2 : p ≠ pl := fun z => by subst z; rw [ob] at lp; cases lp
  have d3 : p ≠ sv := fun z => by subst z; rw [ob] at ls; cases ls
  have hob : (hp.set hd (.lst ((m.had ++ [x]).map D.int)))[p]? = some (.ins 0 [(0, .ref pl), (1, .ref hd), (2, .ref sv), (3, .int m.conf), (4, .int m.far)]) := by rw [set_other (Ne.symm d1)]; exact ob
  exact ⟨set_same hob, by rw [set_other d2, set_other n1]; exact lp, by rw [set_other d1]; exact set_same lh, by rw [set_other d3, set_other n2]; exact ls, n1, n2⟩
theorem hear_run {n p pl hd sv : Nat} {places : List Int} {m : Mem} {many : Int} {hp : Hq} {Q : QD} {E : QX} (h : MemIs hp p pl hd sv places m) (hm : 0 ≤ many) (hB : m.had.length + places.length < 10000)
    (k : ∀ hp', Keep (fun i => i = p ∨ i = hd) hp hp' → MemIs hp' p pl hd sv places (hearGo m none (m.new places many)).1 → Q (twD (hearGo m none (m.new places many)).2) hp') : wCall g (n + 1) 4 [.ref p, .int many] hp Q E := by
  rw [call_Memory_hear]
  refine ⟨rfl, ?_⟩
  unfold b_Memory_hear
  obtain ⟨ob, lp, lh, ls, n1, n2⟩ := id h
  simp only [wSs, wS, wE, wEo, wEs, wTg, wIt, List.map_cons, List.map_nil, List.cons_append, List.nil_append, List.replicate, List.getElem?_cons_zero, List.getElem?_cons_succ, List.set_cons_zero, List.set_cons_succ, f_ref, gtI_of ob, fget, a_ok, seq_lst lp, if_true, bnd]
  refine lc_run places.length (fun j acc hp' => hp' = hp ∧ acc = ((places.take j).filter fun x => decide (top2 m.far m.conf < x)).map D.int) (fun j acc hp' kn hj hI k1 k2 => ?_) (fun j acc hp' hI => ?_) (fun acc hp' hI => ?_) ⟨rfl, by simp⟩
  · obtain ⟨rfl, rfl⟩ := hI
    refine ⟨.int places[j], lst_nx lp (by simp [hj]), ?_⟩
    have tc : (if m.conf > m.far then m.conf else m.far) = top2 m.far m.conf := rfl
    have e := take_succ_filter (P := fun x => decide (top2 m.far m.conf < x)) hj
    clear k h ls lh lp
    revert k1 k2 e
    simp only [wipeE]
    walk_at "mi"
    intro k1 k2 e
    split at e
    · rename_i hc
      rw [if_pos hc]
      exact k2 _ _ ⟨rfl, by rw [e, List.map_append]; rfl⟩
    · rename_i hc
      rw [if_neg hc]
      exact k1 _ ⟨rfl, by rw [e]⟩
  · obtain ⟨rfl, rfl⟩ := hI
    have h1 := List.length_filter_le (fun x => decide (top2 m.far m.conf < x)) (places.take j)
    rw [List.length_map]
    rw [List.length_take] at h1
    show _ < 16777216
    omega
  · obtain ⟨rfl, rfl⟩ := hI
    have e0 := lst_end lp
    rw [List.length_map] at e0
    refine ⟨e0, ?_⟩
    rw [List.take_length]
    show (oSl (.ref hp'.length) none (some many) (hp' ++ [O.lst ((places.filter fun x => decide (top2 m.far m.conf < x)).map D.int)])).app _
    have e1 : oSl (.ref hp'.length) none (some many) (hp' ++ [O.lst ((places.filter fun x => decide (top2 m.far m.conf < x)).map D.int)]) = .ok (.ref (hp'.length + 1)) (hp' ++ [O.lst ((places.filter fun x => decide (top2 m.far m.conf < x)).map D.int)] ++ [.lst ((m.new places many).map D.int)]) := by
      rw [sl_lst (show (hp' ++ [O.lst ((places.filter fun x => decide (top2 m.far m.conf < x)).map D.int)])[hp'.length]? = some (.lst ((places.filter fun x => decide (top2 m.far m.conf < x)).map D.int)) by simp), cut_to _ hm, ← List.map_take]
      simp [Mem.new]
    rw [e1, a_ok]
    generalize hA : O.lst ((places.filter fun x => decide (top2 m.far m.conf < x)).map D.int) = A
    have hnew : (hp' ++ [A] ++ [O.lst ((m.new places many).map D.int)])[hp'.length + 1]? = some (.lst ((m.new places many).map D.int)) := by
      rw [show hp'.length + 1 = (hp' ++ [A]).length by simp]
      simp
    rw [seq_lst hnew]
    have hlen : (m.new places many).length ≤ places.length := by
      unfold Mem.new
      rw [List.length_take]
      have := List.length_filter_le (fun x => decide (top2 m.far m.conf < x)) places
      omega
    have hin := lt_of lh
    have hip := lt_of ob
    have hil := lt_of lp
    have his := lt_of ls
    refine for_run (m.new places many).length (fun j env hp2 => Keep (fun i => i = p ∨ i = hd) hp' hp2 ∧ hp2[hp'.length + 1]? = some (.lst ((m.new places many).map D.int)) ∧ MemIs hp2 p pl hd sv places (hearGo m none ((m.new places many).take j)).1 ∧ ∃ a, env = [some (.ref p), some (.int many), some (twD (hearGo m none ((m.new places many).take j)).2), a]) (fun j env hp2 kn hj hI hk => ?_) (fun env hp2 hI => ?_) ⟨Keep.app.trans Keep.app, hnew, ⟨app_old (app_old ob), app_old (app_old lp), app_old (app_old lh), app_old (app_old ls), n1, n2⟩, none, rfl⟩
    · obtain ⟨kp, hn, mi, a, rfl⟩ := hI
      have hj' : ((m.new places many).map D.int)[j]? = some (.int (m.new places many)[j]) := by simp [hj]
      refine ⟨_, lst_nx hn hj', ?_⟩
      have hadl : (hearGo m none ((m.new places many).take j)).1.had.length < 16777216 := by
        rw [hearGo_had, List.length_append, List.length_take]
        omega
      have et : (m.new places many).take (j + 1) = (m.new places many).take j ++ [(m.new places many)[j]] := by
        rw [List.take_add_one, List.getElem?_eq_getElem hj, Option.toList_some]
      rw [et, hearGo_app] at hk
      generalize hearGo m none ((m.new places many).take j) = M at mi hk hadl ⊢
      generalize (m.new places many)[j] = x at hk ⊢
      obtain ⟨m1, tw⟩ := M
      have mt := hear_turn (x := x) mi hadl
      have e2 := in_ints (i := x) mi.lh
      have s1 := sh_int x
      have s2 := sh_ints m1.had
      have dph : p ≠ hd := fun z => by have q1 := mi.ob; have q2 := mi.lh; subst z; rw [q1] at q2; cases q2
      have dpn : p ≠ hp'.length + 1 := by omega
      have dhn : hd ≠ hp'.length + 1 := by omega
      have hob2 : (hp2.set hd (.lst (m1.had.map D.int ++ [.int x])))[p]? = some (.ins 0 [(0, .ref pl), (1, .ref hd), (2, .ref sv), (3, .int m1.conf), (4, .int m1.far)]) := by rw [set_other (Ne.symm dph)]; exact mi.ob
      have kp2 : Keep (fun i => i = p ∨ i = hd) hp' ((hp2.set hd (.lst ((m1.had ++ [x]).map D.int))).set p (.ins 0 [(0, .ref pl), (1, .ref hd), (2, .ref sv), (3, .int m1.conf), (4, .int x)])) := (kp.trans (Keep.set (.inr rfl))).trans (Keep.set (.inl rfl))
      have hn2 : ((hp2.set hd (.lst ((m1.had ++ [x]).map D.int))).set p (.ins 0 [(0, .ref pl), (1, .ref hd), (2, .ref sv), (3, .int m1.conf), (4, .int x)]))[hp'.length + 1]? = some (.lst ((m.new places many).map D.int)) := by rw [set_other dpn, set_other dhn]; exact hn
      have szl : (m1.had.map D.int).length < SZ := by rw [List.length_map]; exact hadl
      have fin : ∀ tw' a', tw' = (if x ∈ m1.had ∧ tw = none then some x else tw) → kn [some (.ref p), some (.int many), some (twD tw'), a'] ((hp2.set hd (.lst (m1.had.map D.int ++ [.int x]))).set p (.ins 0 [(0, .ref pl), (1, .ref hd), (2, .ref sv), (3, .int m1.conf), (4, .int x)])) := fun tw' a' htw => by
        have q := hk [some (.ref p), some (.int many), some (twD tw'), a'] _ ⟨kp2, hn2, mt, a', by rw [htw]⟩
        rw [List.map_append] at q
        exact q
      by_cases hx : x ∈ m1.had
      · cases tw with
        | none =>
          have q := fin (some x) (some (.int x)) (by simp [hx])
          simp (config := { decide := true }) only [if_false, Bool.false_eq_true, List.set_cons_zero, List.set_cons_succ, List.getElem?_cons_zero, List.getElem?_cons_succ, f_ref, gtI_of mi.ob, fget, a_ok, a_cd, ab_okB, c_in, e2, v_cd, t_bl, hx, decide_true, if_true, c_is, twD, isNon, app_k mi.lh, app_l mi.lh, sf_ref, gtI_of hob2, fput, ah_cd]
          exact ⟨⟨s1, s2⟩, szl, show 5 < 900 by decide, q⟩
        | some z =>
          have q := fin (some z) (some (.int x)) (by simp)
          simp (config := { decide := true }) only [if_false, Bool.false_eq_true, List.set_cons_zero, List.set_cons_succ, List.getElem?_cons_zero, List.getElem?_cons_succ, f_ref, gtI_of mi.ob, fget, a_ok, a_cd, ab_okB, c_in, e2, v_cd, t_bl, hx, decide_true, if_true, c_is, twD, isNon, app_k mi.lh, app_l mi.lh, sf_ref, gtI_of hob2, fput, ah_cd]
          exact ⟨⟨s1, s2⟩, szl, show 5 < 900 by decide, q⟩
      · have q := fin tw (some (.int x)) (by simp [hx])
        simp (config := { decide := true }) only [if_false, Bool.false_eq_true, List.set_cons_zero, List.set_cons_succ, List.getElem?_cons_zero, List.getElem?_cons_succ, f_ref, gtI_of mi.ob, fget, a_ok, a_cd, ab_okB, c_in, e2, v_cd, t_bl, hx, decide_false, if_true, c_is, isNon, app_k mi.lh, app_l mi.lh, sf_ref, gtI_of hob2, fput, ah_cd]
        exact ⟨⟨s1, s2⟩, szl, show 5 < 900 by decide, q⟩
    · obtain ⟨kp, hn, mi, a, rfl⟩ := hI
      have := lst_end hn
      rw [List.length_map] at this
      rw [List.take_length] at mi ⊢
      exact ⟨this, k _ kp mi⟩
end MI.T
set_option maxHeartbeats 4000000
namespace MI.T
open PySem L2 MI
def minO : List Int → Option Int
  | [] => none
  | n :: ns => some (imin n ns)
def Mem.gone (m : Mem) : List Int := m.had.filter fun x => decide (x ∉ m.saved) && decide (x ≤ m.conf)
def Mem.stopped (m : Mem) : Mem := { m with had := m.saved, far := m.conf }
theorem intsOf_ints : ∀ ns : List Int, intsOf (ns.map D.int) = some ns
  | [] => rfl
  | n :: r => by
    rw [List.map_cons]
    unfold intsOf
    rw [intsOf_ints r]
theorem mmd_ints {a : Nat} {ns : List Int} {hp : Hq} (h : hp[a]? = some (.lst (ns.map D.int))) : oMmd false (.ref a) .non hp = .ok (twD (minO ns)) hp := by
  unfold oMmd
  show (match (gtL hp a).bind intsOf with
    | some [] => OutD.ok .non hp
    | some (n :: ns) => .ok (.int (if false = true then imax n ns else imin n ns)) hp
    | none => .no) = _
  rw [gtL_of h]
  show (match intsOf (ns.map D.int) with
    | some [] => OutD.ok .non hp
    | some (n :: ns) => .ok (.int (if false = true then imax n ns else imin n ns)) hp
    | none => .no) = _
  rw [intsOf_ints]
  cases ns <;> rfl
theorem take_filter {P : Int → Bool} {xs : List Int} {j : Nat} (hj : j < xs.length) : (xs.take (j + 1)).filter P = if P xs[j] = true then (xs.take j).filter P ++ [xs[j]] else (xs.take j).filter P := take_succ_filter hj
theorem stop_run {n p pl hd sv : Nat} {places : List Int} {m : Mem} {hp : Hq} {Q : QD} {E : QX} (h : MemIs hp p pl hd sv places m) (hB : m.had.length < 16777216)
    (k : ∀ hp', Keep (fun i => i = p) hp hp' → MemIs hp' p pl (hp.length + 1) sv places m.stopped → Q (twD (minO m.gone)) hp') : wCall g (n + 1) 5 [.ref p] hp Q E := by
  rw [call_Memory_stop]
  refine ⟨rfl, ?_⟩
  unfold b_Memory_stop
  obtain ⟨ob, lp, lh, ls, n1, n2⟩ := id h
  simp only [wSs, wS, wE, wEo, wEs, wTg, wIt, List.map_cons, List.map_nil, List.cons_append, List.nil_append, List.replicate, List.getElem?_cons_zero, List.getElem?_cons_succ, List.set_cons_zero, List.set_cons_succ, f_ref, gtI_of ob]
  have g1 : fget [(0, D.ref pl), (1, D.ref hd), (2, D.ref sv), (3, D.int m.conf), (4, D.int m.far)] 1 = some (.ref hd) := rfl
  simp only [g1, a_ok, seq_lst lh]
  refine lc_run m.had.length (fun j acc hp' => hp' = hp ∧ acc = ((m.had.take j).filter fun x => decide (x ∉ m.saved) && decide (x ≤ m.conf)).map D.int) (fun j acc hp' kn hj hI k1 k2 => ?_) (fun j acc hp' hI => ?_) (fun acc hp' hI => ?_) ⟨rfl, by simp⟩
  · obtain ⟨rfl, rfl⟩ := hI
    refine ⟨.int m.had[j], lst_nx lh (by simp [hj]), ?_⟩
    have e := take_filter (P := fun x => decide (x ∉ m.saved) && decide (x ≤ m.conf)) hj
    have e2 := in_ints (i := m.had[j]) ls
    have s1 := sh_int m.had[j]
    have s2 := sh_ints m.saved
    have g2 : fget [(0, D.ref pl), (1, D.ref hd), (2, D.ref sv), (3, D.int m.conf), (4, D.int m.far)] 2 = some (.ref sv) := rfl
    have g3 : fget [(0, D.ref pl), (1, D.ref hd), (2, D.ref sv), (3, D.int m.conf), (4, D.int m.far)] 3 = some (.int m.conf) := rfl
    simp only [wipeE, List.set_cons_zero, List.set_cons_succ, List.getElem?_cons_zero, List.getElem?_cons_succ, f_ref, gtI_of ob, g2, g3, a_ok, a_cd, ab_okB, c_nin, e2, v_cd, t_bl, c_le, if_true]
    refine ⟨⟨s1, s2⟩, ?_⟩
    by_cases hx : m.had[j] ∈ m.saved
    · simp only [hx, decide_true, Bool.not_true, Bool.false_eq_true, if_false]
      refine k1 _ ⟨rfl, ?_⟩
      rw [e, if_neg (by simp [hx])]
    · by_cases hy : m.had[j] ≤ m.conf
      · simp only [hx, hy, decide_true, decide_false, Bool.not_false, if_true]
        refine k2 _ _ ⟨rfl, ?_⟩
        rw [e, if_pos (by simp [hx, hy]), List.map_append]
        rfl
      · simp only [hx, hy, decide_true, decide_false, Bool.not_false, if_true, Bool.false_eq_true, if_false]
        refine k1 _ ⟨rfl, ?_⟩
        rw [e, if_neg (by simp [hy])]
  · obtain ⟨rfl, rfl⟩ := hI
    have h1 := List.length_filter_le (fun x => decide (x ∉ m.saved) && decide (x ≤ m.conf)) (m.had.take j)
    rw [List.length_map]
    rw [List.length_take] at h1
    show _ < 16777216
    omega
  · obtain ⟨rfl, rfl⟩ := hI
    have e0 := lst_end lh
    rw [List.length_map] at e0
    refine ⟨e0, ?_⟩
    rw [List.take_length]
    have hu : (itLst hd).un hp' = hp' := rfl
    rw [hu]
    have hA : O.lst ((m.had.filter fun x => decide (x ∉ m.saved) && decide (x ≤ m.conf)).map D.int) = .lst (m.gone.map D.int) := rfl
    rw [hA]
    generalize hG : m.gone = gs
    have ls2 : (hp' ++ [O.lst (gs.map D.int)])[sv]? = some (.lst (m.saved.map D.int)) := app_old ls
    have ob2 : (hp' ++ [O.lst (gs.map D.int)])[p]? = _ := app_old ob
    have ob3 : (hp' ++ [O.lst (gs.map D.int)] ++ [O.lst (m.saved.map D.int)])[p]? = _ := app_old ob2
    have g2 : fget [(0, D.ref pl), (1, D.ref hd), (2, D.ref sv), (3, D.int m.conf), (4, D.int m.far)] 2 = some (.ref sv) := rfl
    have hlen : (hp' ++ [O.lst (gs.map D.int)]).length = hp'.length + 1 := by simp
    have p1 : fput [(0, D.ref pl), (1, D.ref hd), (2, D.ref sv), (3, D.int m.conf), (4, D.int m.far)] 1 (.ref (hp'.length + 1)) = [(0, .ref pl), (1, .ref (hp'.length + 1)), (2, .ref sv), (3, .int m.conf), (4, .int m.far)] := rfl
    simp only [List.set_cons_zero, List.set_cons_succ, List.getElem?_cons_zero, List.getElem?_cons_succ, gtI_of ob2, g2, a_ok, list_l ls2, sf_ref, gtI_of ob3, hlen, p1, ah_cd]
    refine ⟨show 5 < 900 by decide, ?_⟩
    have ob4 : ((hp' ++ [O.lst (gs.map D.int)] ++ [O.lst (m.saved.map D.int)]).set p (.ins 0 [(0, .ref pl), (1, .ref (hp'.length + 1)), (2, .ref sv), (3, .int m.conf), (4, .int m.far)]))[p]? = _ := set_same ob3
    have g3 : fget [(0, D.ref pl), (1, D.ref (hp'.length + 1)), (2, D.ref sv), (3, D.int m.conf), (4, D.int m.far)] 3 = some (.int m.conf) := rfl
    have p2 : fput [(0, D.ref pl), (1, D.ref (hp'.length + 1)), (2, D.ref sv), (3, D.int m.conf), (4, D.int m.far)] 4 (.int m.conf) = [(0, .ref pl), (1, .ref (hp'.length + 1)), (2, .ref sv), (3, .int m.conf), (4, .int m.conf)] := rfl
    simp only [gtI_of ob4, g3, a_ok, p2]
    refine ⟨show 5 < 900 by decide, ?_⟩
    rw [List.set_set]
    have hpl := lt_of ob
    have dpl : p ≠ pl := fun z => by subst z; rw [ob] at lp; cases lp
    have dps : p ≠ sv := fun z => by subst z; rw [ob] at ls; cases ls
    have dpn : p ≠ hp'.length := by omega
    have dpn1 : p ≠ hp'.length + 1 := by omega
    have hpn := lt_of lp
    have hsn := lt_of ls
    have eg : ((hp' ++ [O.lst (gs.map D.int)] ++ [O.lst (m.saved.map D.int)]).set p (.ins 0 [(0, .ref pl), (1, .ref (hp'.length + 1)), (2, .ref sv), (3, .int m.conf), (4, .int m.conf)]))[hp'.length]? = some (.lst (gs.map D.int)) := by
      rw [set_other dpn, List.getElem?_append_left (by simp)]
      simp
    show (oMmd false (.ref hp'.length) .non _).app _
    rw [mmd_ints eg, a_ok]
    rw [← hG]
    rw [← hG] at ob3
    refine k _ (((Keep.app (l := [O.lst (m.gone.map D.int)])).trans (Keep.app (l := [O.lst (m.saved.map D.int)]))).trans (Keep.set rfl)) ⟨set_same ob3, ?_, ?_, ?_, by omega, by omega⟩
    · rw [set_other dpl]; exact app_old (app_old lp)
    · rw [set_other dpn1, show hp'.length + 1 = (hp' ++ [O.lst (m.gone.map D.int)]).length by simp]; simp [Mem.stopped]
    · rw [set_other dps]; exact app_old (app_old ls)
end MI.T
set_option maxHeartbeats 4000000
namespace MI.T
open PySem L2 MI
def Mem.step (pl : List Int) (m : Mem) : Stp → Mem × Option (Bool × Int)
  | .hear n => ((hearGo m none (m.new pl n)).1, (hearGo m none (m.new pl n)).2.map fun x => (true, x))
  | .stop => (m.stopped, (minO m.gone).map fun x => (false, x))
  | .save => ({ m with saved := m.had }, none)
  | .confirm => (match m.had.getLast? with
    | none => m
    | some x => { m with conf := top2 m.conf x }, none)
def wrD : Option (Bool × Int) → D
  | none => .non
  | some (true, x) => .tup [.str "twice", .int x]
  | some (false, x) => .tup [.str "lost", .int x]
theorem hm0 : g.meth 0 0 = some 4 := rfl
theorem hm1 : g.meth 0 1 = some 5 := rfl
theorem step_hear {n p b : Nat} {places : List Int} {m : Mem} {i : Int} {hp : Hq} {Q : QD} {E : QX} (h : MemAt hp b p places m) (hi : 0 ≤ i) (hB : m.had.length + places.length < 10000)
    (k : ∀ hp', Keep (b ≤ ·) hp hp' → MemAt hp' b p places (m.step places (.hear i)).1 → Q (wrD (m.step places (.hear i)).2) hp') : wCall g (n + 2) 6 [.ref p, .tup [.str "hear", .int i]] hp Q E := by
  obtain ⟨pl, hd, sv, mi, b1, b2, b3, b4⟩ := h
  rw [call_step_done]
  refine ⟨rfl, ?_⟩
  unfold b_step_done
  have ee : (("hear" : Str) = ("hear" : Str)) = True := by simp
  simp only [wSs, wS, wE, wEo, wEs, wTg, List.map_cons, List.map_nil, List.cons_append, List.nil_append, List.replicate, List.getElem?_cons_zero, List.getElem?_cons_succ, List.set_cons_zero, List.set_cons_succ, x_tup, at_0, at_1, a_ok, c_eqs, ab_okB, t_bl, decide_true, if_true, gtI_of mi.ob, hm0]
  refine hear_run mi hi hB fun hp' kp mi' => ?_
  have q := k hp' (kp.mono fun j _ hj => by rcases hj with rfl | rfl <;> assumption) ⟨pl, hd, sv, mi', b1, b2, b3, b4⟩
  revert q
  show Q (wrD ((hearGo m none (m.new places i)).2.map fun x => (true, x))) hp' → _
  cases (hearGo m none (m.new places i)).2 with
  | none =>
    intro q
    simp only [List.getElem?_cons_zero, List.getElem?_cons_succ, twD, c_is, isNon, a_ok, ab_okB, t_bl, if_true, Option.getD_some]
    exact q
  | some x =>
    intro q
    simp only [List.getElem?_cons_zero, List.getElem?_cons_succ, twD, c_is, isNon, a_ok, ab_okB, t_bl, Bool.false_eq_true, if_false, Option.getD_some]
    exact q
theorem ne_hs : decide (("stop" : Str) = ("hear" : Str)) = false := by decide +kernel
theorem step_stop {n p b : Nat} {places : List Int} {m : Mem} {hp : Hq} {Q : QD} {E : QX} (h : MemAt hp b p places m) (hB : m.had.length < 16777216)
    (k : ∀ hp', Keep (b ≤ ·) hp hp' → MemAt hp' b p places (m.step places .stop).1 → Q (wrD (m.step places .stop).2) hp') : wCall g (n + 2) 6 [.ref p, .tup [.str "stop"]] hp Q E := by
  obtain ⟨pl, hd, sv, mi, b1, b2, b3, b4⟩ := h
  have hpl := lt_of mi.ob
  rw [call_step_done]
  refine ⟨rfl, ?_⟩
  unfold b_step_done
  simp only [wSs, wS, wE, wEo, wEs, wTg, List.map_cons, List.map_nil, List.cons_append, List.nil_append, List.replicate, List.getElem?_cons_zero, List.getElem?_cons_succ, List.set_cons_zero, List.set_cons_succ, x_tup, at_0, a_ok, c_eqs, ab_okB, t_bl, ne_hs, decide_true, if_true, Bool.false_eq_true, if_false, gtI_of mi.ob, hm1]
  refine stop_run mi hB fun hp' kp mi' => ?_
  have q := k hp' (kp.mono fun j _ hj => by subst hj; exact b1) ⟨pl, hp.length + 1, sv, mi', b1, b2, by omega, b4⟩
  revert q
  show Q (wrD ((minO m.gone).map fun x => (false, x))) hp' → _
  cases minO m.gone with
  | none =>
    intro q
    simp only [List.getElem?_cons_zero, List.getElem?_cons_succ, twD, c_is, isNon, a_ok, ab_okB, t_bl, if_true, Option.getD_some]
    exact q
  | some x =>
    intro q
    simp only [List.getElem?_cons_zero, List.getElem?_cons_succ, twD, c_is, isNon, a_ok, ab_okB, t_bl, Bool.false_eq_true, if_false, Option.getD_some]
    exact q
theorem ne_vh : decide (("save" : Str) = ("hear" : Str)) = false := by decide +kernel
theorem ne_vs : decide (("save" : Str) = ("stop" : Str)) = false := by decide +kernel
theorem step_save {n p b : Nat} {places : List Int} {m : Mem} {hp : Hq} {Q : QD} {E : QX} (h : MemAt hp b p places m)
    (k : ∀ hp', Keep (b ≤ ·) hp hp' → MemAt hp' b p places (m.step places .save).1 → Q .non hp') : wCall g (n + 2) 6 [.ref p, .tup [.str "save"]] hp Q E := by
  obtain ⟨pl, hd, sv, ⟨ob, lp, lh, ls, n1, n2⟩, b1, b2, b3, b4⟩ := h
  have hpl := lt_of ob
  have ob2 : (hp ++ [O.lst (m.had.map D.int)])[p]? = _ := app_old ob
  have g1 : fget [(0, D.ref pl), (1, D.ref hd), (2, D.ref sv), (3, D.int m.conf), (4, D.int m.far)] 1 = some (.ref hd) := rfl
  have p1 : fput [(0, D.ref pl), (1, D.ref hd), (2, D.ref sv), (3, D.int m.conf), (4, D.int m.far)] 2 (.ref hp.length) = [(0, .ref pl), (1, .ref hd), (2, .ref hp.length), (3, .int m.conf), (4, .int m.far)] := rfl
  rw [call_step_done]
  refine ⟨rfl, ?_⟩
  unfold b_step_done
  simp only [wSs, wS, wE, wEo, wEs, wTg, List.map_cons, List.map_nil, List.cons_append, List.nil_append, List.replicate, List.getElem?_cons_zero, List.getElem?_cons_succ, List.set_cons_zero, List.set_cons_succ, x_tup, at_0, a_ok, c_eqs, ab_okB, t_bl, ne_vh, ne_vs, decide_true, if_true, Bool.false_eq_true, if_false, f_ref, gtI_of ob, g1, list_l lh, sf_ref, gtI_of ob2, p1, ah_cd]
  refine ⟨show 5 < 900 by decide, ?_⟩
  have dpl : p ≠ pl := fun z => by subst z; rw [ob] at lp; cases lp
  have dph : p ≠ hd := fun z => by subst z; rw [ob] at lh; cases lh
  have dpn : p ≠ hp.length := by omega
  have hh := lt_of lh
  have q := k _ ((Keep.app (l := [O.lst (m.had.map D.int)])).trans (Keep.set (i := p) (o := .ins 0 [(0, .ref pl), (1, .ref hd), (2, .ref hp.length), (3, .int m.conf), (4, .int m.far)]) b1)) ⟨pl, hd, hp.length, ⟨set_same ob2, by rw [set_other dpl]; exact app_old lp, by rw [set_other dph]; exact app_old lh, by rw [set_other dpn]; simp [Mem.step], n1, by omega⟩, b1, b2, b3, by omega⟩
  exact q
end MI.T
set_option maxHeartbeats 4000000
namespace MI.T
open PySem L2 MI
theorem toP_ints {a n : Nat} {hp : Hq} {ns : List Int} (h : hp[a]? = some (.lst (ns.map D.int))) : toP (n + 2) hp (.ref a) = some (.list (ns.map PyData.int)) := by
  show (match gtL hp a with | some ds => (mapO (toP (n + 1) hp) ds).map PyData.list | none => none) = _
  rw [gtL_of h]
  show (mapO (toP (n + 1) hp) (ns.map D.int)).map PyData.list = _
  rw [mapO_ints]
  rfl
theorem eq_nil {a e : Nat} {hp : Hq} {ns : List Int} (h : hp[a]? = some (.lst (ns.map D.int))) (h2 : hp[e]? = some (.lst [])) : oEqG (.ref a) (.ref e) hp = .cd (SeqAt.shaped (.list (ns.map PyData.int)) = true ∧ SeqAt.shaped (.list []) = true) ns.isEmpty := by
  have h3 : hp[e]? = some (.lst (([] : List Int).map D.int)) := h2
  rw [show oEqG (.ref a) (.ref e) hp = oEqP (.ref a) (.ref e) hp from by
    show (match gtD hp a, gtD hp e with | some ks, some ls => oEqK ks ls | _, _ => oEqP (.ref a) (.ref e) hp) = _
    rw [show gtD hp a = none from by unfold gtD; rw [h]]]
  unfold oEqP
  rw [toP_ints (n := 38) h, toP_ints (n := 38) h3]
  cases ns with
  | nil => simp only [List.map_nil, PyData.eqv, PyData.eqvAll, List.isEmpty_nil]
  | cons x r => simp only [List.map_nil, List.map_cons, PyData.eqv, PyData.eqvAll, List.isEmpty_cons]
theorem sh_nil : SeqAt.shaped (.list []) = true := by decide +kernel
theorem ne_ch : decide (("confirm" : Str) = ("hear" : Str)) = false := by decide +kernel
theorem ne_cs : decide (("confirm" : Str) = ("stop" : Str)) = false := by decide +kernel
theorem ne_cv : decide (("confirm" : Str) = ("save" : Str)) = false := by decide +kernel
theorem step_confirm {n p b : Nat} {places : List Int} {m : Mem} {hp : Hq} {Q : QD} {E : QX} (h : MemAt hp b p places m)
    (k : ∀ hp', Keep (b ≤ ·) hp hp' → MemAt hp' b p places (m.step places .confirm).1 → Q .non hp') : wCall g (n + 2) 6 [.ref p, .tup [.str "confirm"]] hp Q E := by
  obtain ⟨pl, hd, sv, ⟨ob, lp, lh, ls, n1, n2⟩, b1, b2, b3, b4⟩ := h
  have hpl := lt_of ob
  have ob2 : (hp ++ [O.lst []])[p]? = _ := app_old ob
  have lh2 : (hp ++ [O.lst []])[hd]? = _ := app_old lh
  have hn : (hp ++ [O.lst []])[hp.length]? = some (.lst []) := by simp
  have g1 : fget [(0, D.ref pl), (1, D.ref hd), (2, D.ref sv), (3, D.int m.conf), (4, D.int m.far)] 1 = some (.ref hd) := rfl
  have g3 : fget [(0, D.ref pl), (1, D.ref hd), (2, D.ref sv), (3, D.int m.conf), (4, D.int m.far)] 3 = some (.int m.conf) := rfl
  rw [call_step_done]
  refine ⟨rfl, ?_⟩
  unfold b_step_done
  simp only [wSs, wS, wE, wEo, wEs, wTg, List.map_cons, List.map_nil, List.cons_append, List.nil_append, List.replicate, List.getElem?_cons_zero, List.getElem?_cons_succ, List.set_cons_zero, List.set_cons_succ, x_tup, at_0, a_ok, a_cd, c_eqs, ab_okB, t_bl, ne_ch, ne_cs, ne_cv, decide_true, if_true, Bool.false_eq_true, if_false, f_ref, gtI_of ob, g1, c_ner, eq_nil lh2 hn, v_cd]
  refine ⟨⟨sh_ints _, sh_nil⟩, ?_⟩
  cases hh : m.had with
  | nil =>
    simp only [List.isEmpty_nil, Bool.not_true, Bool.false_eq_true, if_false]
    have q := k _ (Keep.app (l := [O.lst []])) ⟨pl, hd, sv, ⟨by simpa [Mem.step, hh] using ob2, by exact app_old lp, by simpa [Mem.step, hh] using lh2, by simpa [Mem.step, hh] using app_old (l := [O.lst []]) ls, n1, n2⟩, b1, b2, b3, b4⟩
    exact q
  | cons x r =>
    have hne : (m.had.map D.int) ≠ [] := by rw [hh]; simp
    have hl : m.had.getLast? = some ((x :: r).getLast (by simp)) := by rw [hh, List.getLast?_eq_some_getLast]
    have hat : L2.atI (m.had.map D.int) (-1) = some (.int ((x :: r).getLast (by simp))) := by
      rw [atI_m1 _ hne, List.getLast?_map, hl]
      rfl
    rw [hh] at lh2 hat
    have hix : oIx (.ref hd) (.int (-1)) (hp ++ [O.lst []]) = .ok (.int ((x :: r).getLast (by simp))) (hp ++ [O.lst []]) := by
      rw [x_refi, lh2]
      show (match L2.atI ((x :: r).map D.int) (-1) with | some d => OutD.ok d _ | none => .no) = _
      rw [hat]
    generalize (x :: r).getLast (by simp) = y at hl hix
    have p1 : fput [(0, D.ref pl), (1, D.ref hd), (2, D.ref sv), (3, D.int m.conf), (4, D.int m.far)] 3 (.int (top2 m.conf y)) = [(0, .ref pl), (1, .ref hd), (2, .ref sv), (3, .int (top2 m.conf y)), (4, .int m.far)] := rfl
    have tt : (if y > m.conf then y else m.conf) = top2 m.conf y := rfl
    simp only [List.isEmpty_cons, Bool.not_false, if_true, gtI_of ob2, g1, g3, a_ok, hix, max_2, tt, sf_ref, p1, ah_cd]
    refine ⟨show 5 < 900 by decide, ?_⟩
    have dpl : p ≠ pl := fun z => by subst z; rw [ob] at lp; cases lp
    have dph : p ≠ hd := fun z => by subst z; rw [ob] at lh; cases lh
    have dps : p ≠ sv := fun z => by subst z; rw [ob] at ls; cases ls
    have q := k _ ((Keep.app (l := [O.lst []])).trans (Keep.set (i := p) (o := .ins 0 [(0, .ref pl), (1, .ref hd), (2, .ref sv), (3, .int (top2 m.conf y)), (4, .int m.far)]) b1)) ⟨pl, hd, sv, ⟨by simpa [Mem.step, hl] using set_same ob2, by rw [set_other dpl]; exact app_old lp, by rw [set_other dph]; simpa [Mem.step, hl] using app_old (l := [O.lst []]) lh, by rw [set_other dps]; simpa [Mem.step, hl] using app_old (l := [O.lst []]) ls, n1, n2⟩, b1, b2, b3, b4⟩
    exact q
theorem step_run {n p b : Nat} {places : List Int} {m : Mem} {s : Stp} {hp : Hq} {Q : QD} {E : QX} (h : MemAt hp b p places m) (hs : s.ok) (hB : m.had.length + places.length < 10000)
    (k : ∀ hp', Keep (b ≤ ·) hp hp' → MemAt hp' b p places (m.step places s).1 → Q (wrD (m.step places s).2) hp') : wCall g (n + 2) 6 [.ref p, s.d] hp Q E := by
  cases s with
  | hear i => exact step_hear h (by have h1 : 1 ≤ i := hs; omega) hB k
  | stop => exact step_stop h (by omega) k
  | save => exact step_save h k
  | confirm => exact step_confirm h k
end MI.T
set_option maxHeartbeats 4000000
namespace MI.T
open PySem L2 MI
def runJ (pl : List Int) (m : Mem) (j : Nat) : List Stp → Mem × Option (Bool × Int × Nat)
  | [] => (m, none)
  | s :: r => match m.step pl s with
    | (m', none) => runJ pl m' (j + 1) r
    | (m', some (t, x)) => (m', some (t, x, j))
def mem0 : Mem := ⟨[], [], -1, -1⟩
theorem new_len (m : Mem) (pl : List Int) (i : Int) : (m.new pl i).length ≤ pl.length := by
  unfold Mem.new
  rw [List.length_take]
  have := List.length_filter_le (fun x => decide (top2 m.far m.conf < x)) pl
  omega
theorem hearGo_saved : ∀ (l : List Int) (m : Mem) (tw : Option Int), (hearGo m tw l).1.saved = m.saved
  | [], m, tw => rfl
  | y :: l, m, tw => by
    show (hearGo _ _ l).1.saved = _
    rw [hearGo_saved l]
theorem step_len {m : Mem} {pl : List Int} {s : Stp} {B : Nat} (h1 : m.had.length ≤ B) (h2 : m.saved.length ≤ B) : (m.step pl s).1.had.length ≤ B + pl.length ∧ (m.step pl s).1.saved.length ≤ B + pl.length := by
  cases s with
  | hear i =>
    show (hearGo m none (m.new pl i)).1.had.length ≤ _ ∧ (hearGo m none (m.new pl i)).1.saved.length ≤ _
    rw [hearGo_had, hearGo_saved, List.length_append]
    have := new_len m pl i
    omega
  | save => exact ⟨by show m.had.length ≤ _; omega, by show m.had.length ≤ _; omega⟩
  | stop => exact ⟨by show m.saved.length ≤ _; omega, by show m.saved.length ≤ _; omega⟩
  | confirm =>
    show (match m.had.getLast? with | none => m | some x => { m with conf := top2 m.conf x }).had.length ≤ _ ∧ (match m.had.getLast? with | none => m | some x => { m with conf := top2 m.conf x }).saved.length ≤ _
    cases m.had.getLast? <;> exact ⟨by show m.had.length ≤ _; omega, by show m.saved.length ≤ _; omega⟩
/-- what judged hands on -/
def JPost (hp' : Hq) (b : Nat) (d : D) : Mem × Option (Bool × Int × Nat) → Prop
  | (m, none) => ∃ hd, d = .tup [.str "once", .ref hd] ∧ hp'[hd]? = some (.lst (m.had.map D.int)) ∧ b ≤ hd
  | (_, some (true, x, j)) => d = .tup [.str "twice", .int x, .int j]
  | (_, some (false, x, j)) => d = .tup [.str "lost", .int x, .int j]
theorem judged_run {n sp st : Nat} {places : List Int} {steps : List Stp} {hp : Hq} {Q : QD} {E : QX} (h1 : hp[sp]? = some (.lst (places.map D.int))) (h2 : hp[st]? = some (.lst (steps.map Stp.d))) (ok : ∀ s ∈ steps, s.ok) (hP : places.length ≤ 50) (hS : steps.length ≤ 100)
    (k : ∀ d hp', Keep (hp.length ≤ ·) hp hp' → JPost hp' hp.length d (runJ places mem0 0 steps) → Q d hp') : wCall g (n + 4) 7 [.ref sp, .ref st] hp Q E := by
  rw [call_judged]
  refine ⟨rfl, ?_⟩
  unfold b_judged
  simp only [wSs, wS, wE, wEo, wEs, wTg, wIt, List.map_cons, List.map_nil, List.cons_append, List.nil_append, List.replicate, List.getElem?_cons_zero, List.getElem?_cons_succ]
  refine look_run h2 ok ?_
  have hi : g.init 0 = some 3 := rfl
  simp only [List.getElem?_cons_zero, List.getElem?_cons_succ, hi]
  have h1' : (hp ++ [O.ins 0 []])[sp]? = _ := app_old h1
  refine init_run (n := n + 2) (p := hp.length) h1' (by simp) fun hp2 e2 => ?_
  have hl1 : (hp ++ [O.ins 0 []]).length = hp.length + 1 := by simp
  rw [hl1] at e2
  have kp2 : Keep (hp.length ≤ ·) hp hp2 := by
    rw [e2]
    exact (Keep.app.trans (Keep.set (Nat.le_refl _))).trans Keep.app
  have st2 : hp2[st]? = _ := kp2.get h2 (by have := lt_of h2; omega)
  have mi : MemAt hp2 hp.length hp.length places mem0 := by
    have es : ∀ o : O, (hp ++ [O.ins 0 []]).set hp.length o = hp ++ [o] := fun o => by simp
    rw [es] at e2
    refine ⟨hp.length + 1, hp.length + 2, hp.length + 3, ⟨?_, ?_, ?_, ?_, by omega, by omega⟩, by omega, by omega, by omega, by omega⟩
    all_goals
      rw [e2]
      simp [mem0]
  simp only [List.set_cons_zero, List.set_cons_succ, List.getElem?_cons_zero, List.getElem?_cons_succ, gtL_of st2]
  refine for_run steps.length (fun j env hp' => Keep (hp.length ≤ ·) hp hp' ∧ ∃ m a b c, env = [some (.ref sp), some (.ref st), some (.ref hp.length), a, b, c] ∧ MemAt hp' hp.length hp.length places m ∧ m.had.length ≤ j * places.length ∧ m.saved.length ≤ j * places.length ∧ runJ places mem0 0 steps = runJ places m j (steps.drop j)) (fun j env hp' kn hj hI hk => ?_) (fun env hp' hI => ?_) ⟨kp2, mem0, none, none, none, rfl, mi, Nat.zero_le _, Nat.zero_le _, rfl⟩
  · obtain ⟨kp, m, a, b, c, rfl, ma, l1, l2, er⟩ := hI
    have st3 : hp'[st]? = _ := kp.get h2 (by have := lt_of h2; omega)
    have hj' : (steps.map Stp.d)[j]? = some (steps[j].d) := by simp [hj]
    refine ⟨_, enum_nx st3 hj', ?_⟩
    have jb : j * places.length ≤ 100 * 50 := Nat.mul_le_mul (by omega) hP
    simp only [wTgs, wTg, List.set_cons_zero, List.set_cons_succ, List.getElem?_cons_zero, List.getElem?_cons_succ]
    refine ⟨rfl, step_run (n := n + 1) ma (ok _ (List.getElem_mem hj)) (by omega) fun hp3 kp3 ma3 => ?_⟩
    have er2 : steps.drop j = steps[j] :: steps.drop (j + 1) := List.drop_eq_getElem_cons hj
    rw [er2] at er
    have sl := step_len (s := steps[j]) (pl := places) l1 l2
    have er3 : runJ places mem0 0 steps = match m.step places steps[j] with | (m', none) => runJ places m' (j + 1) (steps.drop (j + 1)) | (m', some (t, x)) => (m', some (t, x, j)) := er
    generalize m.step places steps[j] = R at ma3 sl er3 ⊢
    obtain ⟨m', o⟩ := R
    have jm : (j + 1) * places.length = j * places.length + places.length := Nat.succ_mul _ _
    cases o with
    | none =>
      simp only [wrD, List.getElem?_cons_zero, List.getElem?_cons_succ, c_nis, isNon, a_ok, ab_okB, t_bl, Bool.not_true, Bool.false_eq_true, if_false]
      exact hk _ _ ⟨kp.trans kp3, m', _, _, _, rfl, ma3, by rw [jm]; exact sl.1, by rw [jm]; exact sl.2, er3⟩
    | some tx =>
      obtain ⟨t, x⟩ := tx
      have key : ∀ w : Str, wrD (some (t, x)) = .tup [.str w, .int x] → JPost hp3 hp.length (.tup [.str w, .int x, .int j]) (runJ places mem0 0 steps) → Q (.tup [.str w, .int x, .int j]) hp3 := fun w _ hq => k _ _ (kp.trans kp3) hq
      cases t with
      | true =>
        simp only [wrD, List.getElem?_cons_zero, List.getElem?_cons_succ, c_nis, isNon, a_ok, a_cd, ab_okB, t_bl, Bool.not_false, if_true, o_addt, Option.getD_some]
        exact ⟨show 2 + 1 ≤ 16777216 by decide, key "twice" rfl (by rw [er3]; rfl)⟩
      | false =>
        simp only [wrD, List.getElem?_cons_zero, List.getElem?_cons_succ, c_nis, isNon, a_ok, a_cd, ab_okB, t_bl, Bool.not_false, if_true, o_addt, Option.getD_some]
        exact ⟨show 2 + 1 ≤ 16777216 by decide, key "lost" rfl (by rw [er3]; rfl)⟩
  · obtain ⟨kp, m, a, b, c, rfl, ma, l1, l2, er⟩ := hI
    have st3 : hp'[st]? = _ := kp.get h2 (by have := lt_of h2; omega)
    have e0 := enum_end st3
    rw [List.length_map] at e0
    refine ⟨e0, ?_⟩
    obtain ⟨pl, hd, sv, mi3, b1, b2, b3, b4⟩ := ma
    have g1 : fget [(0, D.ref pl), (1, D.ref hd), (2, D.ref sv), (3, D.int m.conf), (4, D.int m.far)] 1 = some (.ref hd) := rfl
    have hu : (itEnum st).un hp' = hp' := rfl
    simp only [hu, List.getElem?_cons_zero, List.getElem?_cons_succ, f_ref, gtI_of mi3.ob, g1, a_ok, Option.getD_some]
    refine k _ _ kp ?_
    rw [er, List.drop_length]
    exact ⟨hd, rfl, mi3.lh, b3⟩
end MI.T
set_option maxHeartbeats 4000000
namespace MI.T
open PySem L2 MI
section
variable {hp : Hq} {n : Nat} {Q : QD} {E : QX} {d : D} {xs : List D} {x : Str}
theorem whole_no (h : ∀ i : Int, d ≠ .int i) (t : String) (ht : tyOf hp d = some t) (hb : isiB t "int" = true → isiB t "bool" = true) (k : Q (.bl false) hp) : wCall g (n + 1) 0 [d] hp Q E := by
  rw [call_is_whole]
  refine ⟨rfl, ?_⟩
  unfold b_is_whole
  have e1 : oBF .isi [d, .ty "int"] hp = .ok (.bl (isiB t "int")) hp := by
    show (match tyOf hp d with | some a => if tyAll.contains "int" then OutD.ok (.bl (isiB a "int")) hp else .no | none => .no) = _
    rw [ht]; rfl
  have e2 : oBF .isi [d, .ty "bool"] hp = .ok (.bl (isiB t "bool")) hp := by
    show (match tyOf hp d with | some a => if tyAll.contains "bool" then OutD.ok (.bl (isiB a "bool")) hp else .no | none => .no) = _
    rw [ht]; rfl
  simp only [wSs, wS, wE, wEs, wEo, e1, e2, a_ok, ab_okB, t_bl, List.map_cons, List.map_nil, List.cons_append, List.nil_append, List.replicate, List.getElem?_cons_zero]
  cases z : isiB t "int" with
  | false => exact k
  | true =>
    rw [hb z]
    exact k
/-- no tuple -/
theorem step_nt (t : String) (ht : tyOf hp d = some t) (hb : isiB t "tuple" = false) (k : Q (.bl false) hp) : wCall g (n + 2) 1 [d] hp Q E := by
  rw [call_is_step]
  refine ⟨rfl, ?_⟩
  unfold b_is_step
  have e1 : oBF .isi [d, .ty "tuple"] hp = .ok (.bl (isiB t "tuple")) hp := by
    show (match tyOf hp d with | some a => if tyAll.contains "tuple" then OutD.ok (.bl (isiB a "tuple")) hp else .no | none => .no) = _
    rw [ht]; rfl
  simp only [wSs, wS, wE, wEs, wEo, e1, hb, a_ok, ab_okB, t_bl, Bool.not_false, if_true, Option.getD_some, List.map_cons, List.map_nil, List.cons_append, List.nil_append, List.replicate, List.getElem?_cons_zero]
  exact k
theorem step_0 (k : Q (.bl false) hp) : wCall g (n + 2) 1 [.tup []] hp Q E := by
  rw [call_is_step]
  refine ⟨rfl, ?_⟩
  unfold b_is_step
  have e2 : oEqG (.tup []) (.tup []) hp = .cd (SeqAt.shaped (.tuple []) = true ∧ SeqAt.shaped (.tuple []) = true) true := by
    show oEqP (.tup []) (.tup []) hp = _
    unfold oEqP
    rw [show toP 40 hp (.tup []) = some (.tuple []) from rfl]
    simp only [PyData.eqv, PyData.eqvAll]
  simp only [wSs, wS, wE, wEs, wEo, isi_tt, e2, c_eqt, v_cd, a_ok, a_cd, ab_okB, t_bl, Bool.not_true, Bool.false_eq_true, if_false, if_true, Option.getD_some, List.map_cons, List.map_nil, List.cons_append, List.nil_append, List.replicate, List.getElem?_cons_zero]
  exact ⟨⟨sh_e, sh_e⟩, k⟩
/-- a tuple whose first is no text -/
theorem step_ns {a : PyData} {as : List PyData} (hm : mapO (toP 39 hp) (d :: xs) = some (a :: as)) (hs : SeqAt.shaped (.tuple (a :: as)) = true) (t : String) (ht : tyOf hp d = some t) (hb : isiB t "str" = false) (k : Q (.bl false) hp) : wCall g (n + 2) 1 [.tup (d :: xs)] hp Q E := by
  rw [call_is_step]
  refine ⟨rfl, ?_⟩
  unfold b_is_step
  have e1 : oBF .isi [d, .ty "str"] hp = .ok (.bl (isiB t "str")) hp := by
    show (match tyOf hp d with | some a => if tyAll.contains "str" then OutD.ok (.bl (isiB a "str")) hp else .no | none => .no) = _
    rw [ht]; rfl
  have e2 := not_empty hm hs
  simp only [wSs, wS, wE, wEs, wEo, isi_tt, e1, e2, hb, c_eqt, v_cd, x_tup, at_0, a_ok, a_cd, ab_okB, t_bl, Bool.not_true, Bool.not_false, decide_true, Bool.false_eq_true, if_false, if_true, Option.getD_some, List.map_cons, List.map_nil, List.cons_append, List.nil_append, List.replicate, List.getElem?_cons_zero]
  exact ⟨⟨hs, sh_e⟩, k⟩
/-- ('hear', ..) of another length than two -/
theorem step_hl {a : PyData} {as : List PyData} (hm : mapO (toP 39 hp) (.str "hear" :: xs) = some (a :: as)) (hs : SeqAt.shaped (.tuple (a :: as)) = true) (hl : ¬ ((xs.length + 1 : Nat) : Int) = 2) (k : Q (.bl false) hp) : wCall g (n + 2) 1 [.tup (.str "hear" :: xs)] hp Q E := by
  rw [call_is_step]
  refine ⟨rfl, ?_⟩
  unfold b_is_step
  have e2 := not_empty hm hs
  have e3 : decide (("hear" : Str) = "hear") = true := by decide +kernel
  have e4 : decide (((xs.length + 1 : Nat) : Int) = 2) = false := decide_eq_false hl
  simp only [wSs, wS, wE, wEs, wEo, isi_tt, isi_ss, e2, e3, e4, len_t, List.length_cons, c_eqt, c_eqs, c_eqi, v_cd, x_tup, at_0, a_ok, a_cd, ab_okB, t_bl, Bool.not_true, Bool.not_false, decide_true, Bool.false_eq_true, if_false, if_true, Option.getD_some, List.map_cons, List.map_nil, List.cons_append, List.nil_append, List.replicate, List.getElem?_cons_zero]
  exact ⟨⟨hs, sh_e⟩, k⟩
/-- ('hear', d), d no number from 1 on -/
theorem step_h2 {a : PyData} {as : List PyData} (hm : mapO (toP 39 hp) [.str "hear", d] = some (a :: as)) (hs : SeqAt.shaped (.tuple (a :: as)) = true) (hw : ∀ (Q : QD) (E : QX), Q (.bl false) hp → wCall g (n + 1) 0 [d] hp Q E) (k : Q (.bl false) hp) : wCall g (n + 2) 1 [.tup [.str "hear", d]] hp Q E := by
  rw [call_is_step]
  refine ⟨rfl, ?_⟩
  unfold b_is_step
  have e2 := not_empty hm hs
  have e3 : decide (("hear" : Str) = "hear") = true := by decide +kernel
  have e4 : decide ((2 : Int) = 2) = true := rfl
  simp only [wSs, wS, wE, wEs, wEo, isi_tt, isi_ss, e2, e3, e4, len_t2, at_1, c_eqt, c_eqs, c_eqi, v_cd, x_tup, at_0, a_ok, a_cd, ab_okB, t_bl, Bool.not_true, Bool.not_false, decide_true, Bool.false_eq_true, if_false, if_true, Option.getD_some, List.map_cons, List.map_nil, List.cons_append, List.nil_append, List.replicate, List.getElem?_cons_zero]
  refine ⟨⟨hs, sh_e⟩, hw _ _ ?_⟩
  simp only [t_bl, ab_okB, Bool.false_eq_true, if_false]
  exact k
theorem step_hi {i : Int} {a : PyData} {as : List PyData} (hm : mapO (toP 39 hp) [.str "hear", .int i] = some (a :: as)) (hs : SeqAt.shaped (.tuple (a :: as)) = true) (hi : ¬ 1 ≤ i) (k : Q (.bl false) hp) : wCall g (n + 2) 1 [.tup [.str "hear", .int i]] hp Q E := by
  rw [call_is_step]
  refine ⟨rfl, ?_⟩
  unfold b_is_step
  have e2 := not_empty hm hs
  have e3 : decide (("hear" : Str) = "hear") = true := by decide +kernel
  have e4 : decide ((2 : Int) = 2) = true := rfl
  have e5 : decide (1 ≤ i) = false := decide_eq_false hi
  simp only [wSs, wS, wE, wEs, wEo, isi_tt, isi_ss, e2, e3, e4, len_t2, at_1, c_eqt, c_eqs, c_eqi, v_cd, x_tup, at_0, a_ok, a_cd, ab_okB, t_bl, Bool.not_true, Bool.not_false, decide_true, Bool.false_eq_true, if_false, if_true, Option.getD_some, List.map_cons, List.map_nil, List.cons_append, List.nil_append, List.replicate, List.getElem?_cons_zero]
  refine ⟨⟨hs, sh_e⟩, is_whole_run ?_⟩
  simp only [t_bl, ab_okB, if_true, c_ge, e5, a_ok]
  exact k
/-- another word, not of the three, or of another length than one -/
theorem step_w {a : PyData} {as : List PyData} (h : PyData.strOk x = true) (hm : mapO (toP 39 hp) (.str x :: xs) = some (a :: as)) (hs : SeqAt.shaped (.tuple (a :: as)) = true) (hx : x ≠ "hear") (hl : ((("save" : Str) == x) || ((("confirm" : Str) == x) || (("stop" : Str) == x))) = true → ¬ ((xs.length + 1 : Nat) : Int) = 1) (k : Q (.bl false) hp) :
    wCall g (n + 2) 1 [.tup (.str x :: xs)] hp Q E := by
  rw [call_is_step]
  refine ⟨rfl, ?_⟩
  unfold b_is_step
  have e2 := not_empty hm hs
  have e3 : decide (x = "hear") = false := decide_eq_false hx
  have hg : g.consts[0]? = some (.tup [.str "save", .str "confirm", .str "stop"]) := rfl
  have e5 := in_plain (hp := hp) h
  have s3 : SeqAt.shaped (.str x) = true := by
    unfold SeqAt.shaped
    simp [PyData.canLay0, PyData.depth, h]
  have s4 : SeqAt.shaped (.list [.str "save", .str "confirm", .str "stop"]) = true := by decide +kernel
  simp only [wSs, wS, wE, wEs, wEo, isi_tt, isi_ss, e2, e3, e5, hg, len_t, List.length_cons, c_eqt, c_eqs, c_eqi, c_in, v_cd, x_tup, at_0, a_ok, a_cd, ab_okB, t_bl, Bool.not_true, Bool.not_false, decide_true, Bool.false_eq_true, if_false, if_true, Option.getD_some, List.map_cons, List.map_nil, List.cons_append, List.nil_append, List.replicate, List.getElem?_cons_zero]
  refine ⟨⟨hs, sh_e⟩, ⟨s3, s4⟩, ?_⟩
  cases z : ((("save" : Str) == x) || ((("confirm" : Str) == x) || (("stop" : Str) == x))) with
  | false => exact k
  | true =>
    rw [decide_eq_false (hl z)]
    exact k
end
end MI.T
set_option maxHeartbeats 4000000
namespace MI.T
open PySem L2 MI
def Bad (pl : Nat) (hp : Hq) (d : D) : Prop := ∀ hp', Keep (· = pl) hp hp' → ∀ n (Q : QD) (E : QX), Q (.bl false) hp' → wCall g (n + 2) 1 [d] hp' Q E
theorem Bad.keep {pl : Nat} {hp hp' : Hq} {d : D} (h : Bad pl hp d) (k : Keep (· = pl) hp hp') : Bad pl hp' d := fun h2 k2 => h h2 (k.trans k2)
section
variable {hp : Hq} {n pl : Nat} {Q : QD} {E : QX} {d v : D} {xs : List D}
theorem look_bad {i : Nat} {good : List Stp} (h : hp[i]? = some (.lst (good.map Stp.d ++ d :: xs))) (ok : ∀ s ∈ good, s.ok) (hb : Bad pl hp d) (k : E 1 hp.length (hp ++ [.xd 1 [(5, .int (good.length : Nat))]])) : wCall g (n + 3) 2 [.ref i] hp Q E := by
  rw [call_look_at_steps]
  refine ⟨rfl, ?_⟩
  unfold b_look_at_steps
  have e1 := isi_ll h
  have e2 := gtL_of h
  revert ok
  simp only [wSs, wS, wE, wEs, wIt, e1, e2, a_ok, ab_okB, t_bl, Bool.not_true, Bool.false_eq_true, if_false, List.map_cons, List.map_nil, List.cons_append, List.nil_append, List.replicate, List.getElem?_cons_zero]
  intro ok
  refine for_run (good.length + 1) (fun j env hp' => j ≤ good.length ∧ hp' = hp ∧ ∃ a b, env = [some (.ref i), a, b]) (fun j env hp' kn hj hI hk => ?_) (fun env hp' hI => ?_) ⟨Nat.zero_le _, rfl, none, none, rfl⟩
  · obtain ⟨hj2, rfl, a, b, rfl⟩ := hI
    by_cases hg : j < good.length
    · have hj' : (good.map Stp.d ++ d :: xs)[j]? = some (good[j].d) := by
        rw [List.getElem?_append_left (by simpa using hg)]
        simp [hg]
      refine ⟨_, enum_nx h hj', ?_⟩
      simp only [wTg, wTgs, wSs, wS, wE, wEs, List.set_cons_zero, List.set_cons_succ, List.getElem?_cons_zero, List.getElem?_cons_succ]
      refine ⟨rfl, is_step_run (ok _ (List.getElem_mem hg)) ?_⟩
      simp only [a_ok, ab_okB, t_bl, Bool.not_true, Bool.false_eq_true, if_false]
      exact hk _ _ ⟨hg, rfl, _, _, rfl⟩
    · have ej : j = good.length := by omega
      subst ej
      have hj' : (good.map Stp.d ++ d :: xs)[good.length]? = some d := by
        rw [List.getElem?_append_right (by simp)]
        simp
      refine ⟨_, enum_nx h hj', ?_⟩
      simp only [wTg, wTgs, wSs, wS, wE, wEs, List.set_cons_zero, List.set_cons_succ, List.getElem?_cons_zero, List.getElem?_cons_succ]
      refine ⟨rfl, hb _ (Keep.refl _ _) _ _ _ ?_⟩
      simp only [a_ok, ab_okB, t_bl, Bool.not_false, if_true, wSs, wS, wE, List.getElem?_cons_zero, List.getElem?_cons_succ]
      exact k
  · have := hI.1
    omega
theorem look_no (t : String) (ht : tyOf hp d = some t) (hb : isiB t "list" = false) (k : E 1 hp.length (hp ++ [.xd 1 [(5, .non)]])) : wCall g (n + 3) 2 [d] hp Q E := by
  rw [call_look_at_steps]
  refine ⟨rfl, ?_⟩
  unfold b_look_at_steps
  have e1 : oBF .isi [d, .ty "list"] hp = .ok (.bl (isiB t "list")) hp := by
    show (match tyOf hp d with | some a => if tyAll.contains "list" then OutD.ok (.bl (isiB a "list")) hp else .no | none => .no) = _
    rw [ht]; rfl
  simp only [wSs, wS, wE, wEs, e1, hb, a_ok, ab_okB, t_bl, Bool.not_false, if_true, List.map_cons, List.map_nil, List.cons_append, List.nil_append, List.replicate, List.getElem?_cons_zero]
  exact k
theorem told_x (hl : ∀ hp' (Q : QD) (E : QX), Keep (fun _ => False) hp hp' → E 1 hp'.length (hp' ++ [.xd 1 [(5, v)]]) → wCall g (n + 3) 2 [d] hp' Q E) (k : ∀ r hp', Keep (fun _ => False) hp hp' → hp'[r]? = some (.lst [v]) → Q (.ref r) hp') : wCall g (n + 5) 11 [d] hp Q E := by
  rw [call__law_told]
  refine ⟨rfl, ?_⟩
  unfold b__law_told
  simp only [wSs, wS, wE, wEs, wTg, List.map_cons, List.map_nil, List.cons_append, List.nil_append, List.replicate, List.set_cons_zero, List.set_cons_succ, List.getElem?_cons_zero, List.getElem?_cons_succ]
  have k1 : Keep (fun _ => False) hp (hp ++ [O.lst [.int 1, .int 5, .int 9]]) := Keep.app
  generalize hp ++ [O.lst [.int 1, .int 5, .int 9]] = hp1 at k1 ⊢
  rw [call_judged]
  refine ⟨rfl, ?_⟩
  unfold b_judged
  simp only [wSs, wS, wE, wEs, List.map_cons, List.map_nil, List.cons_append, List.nil_append, List.replicate, List.getElem?_cons_zero, List.getElem?_cons_succ]
  refine hl _ _ _ k1 ?_
  have k2 : Keep (fun _ => False) hp (hp1 ++ [O.xd 1 [(5, v)]]) := k1.trans Keep.app
  have x2 : (hp1 ++ [O.xd 1 [(5, v)]])[hp1.length]? = some (.xd 1 [(5, v)]) := by simp
  generalize hp1 ++ [O.xd 1 [(5, v)]] = hp2 at k2 x2 ⊢
  have k3 : Keep (fun _ => False) hp (hp2 ++ [O.xob 1 hp2.length hp1.length]) := k2.trans Keep.app
  have g3 : gtX (hp2 ++ [O.xob 1 hp2.length hp1.length]) hp2.length = some (1, hp1.length) := by
    unfold gtX
    rw [show (hp2 ++ [O.xob 1 hp2.length hp1.length])[hp2.length]? = some (.xob 1 hp2.length hp1.length) by simp]
    simp
  have x3 : (hp2 ++ [O.xob 1 hp2.length hp1.length])[hp1.length]? = some (.xd 1 [(5, v)]) := app_old x2
  have i1 : oIsX [false, true, false] (.ref hp2.length) (hp2 ++ [O.xob 1 hp2.length hp1.length]) = .ok (.bl true) (hp2 ++ [O.xob 1 hp2.length hp1.length]) := by
    unfold oIsX
    simp only [g3, x3]
    rfl
  have i2 : oIsX [true, false, true] (.ref hp2.length) (hp2 ++ [O.xob 1 hp2.length hp1.length]) = .ok (.bl false) (hp2 ++ [O.xob 1 hp2.length hp1.length]) := by
    unfold oIsX
    simp only [g3, x3]
    rfl
  have i3 : oXF (.ref hp2.length) 5 (hp2 ++ [O.xob 1 hp2.length hp1.length]) = .ok v (hp2 ++ [O.xob 1 hp2.length hp1.length]) := by
    unfold oXF
    simp only [g3, x3]
    rfl
  simp only [List.getElem?_cons_zero, List.getElem?_cons_succ, List.set_cons_zero, List.set_cons_succ, c_is, isNon, a_ok, t_bl, ab_okB, Bool.false_eq_true, if_false]
  generalize hp2 ++ [O.xob 1 hp2.length hp1.length] = hp3 at k3 i1 i2 i3 ⊢
  simp only [wE, wEs, wEo, wS, wSs, i1, i2, i3, a_ok, t_bl, ab_okB, Bool.not_true, Bool.false_eq_true, if_false, List.getElem?_cons_zero, List.getElem?_cons_succ, Option.getD_some]
  exact k _ _ (k3.trans Keep.app) (by simp)
theorem told_ok {i : Nat} {steps : List Stp} (h : hp[i]? = some (.lst (steps.map Stp.d))) (ok : ∀ s ∈ steps, s.ok) (hS : steps.length ≤ 100) (k : ∀ hp', Keep (fun _ => False) hp hp' → Q (.str "told") hp') : wCall g (n + 5) 11 [.ref i] hp Q E := by
  rw [call__law_told]
  refine ⟨rfl, ?_⟩
  unfold b__law_told
  simp only [wSs, wS, wE, wEs, wTg, List.map_cons, List.map_nil, List.cons_append, List.nil_append, List.replicate, List.set_cons_zero, List.set_cons_succ, List.getElem?_cons_zero, List.getElem?_cons_succ]
  refine judged_run (places := [1, 5, 9]) (by simp) (app_old h) ok (by decide) hS fun d1 hp1 k1 _ => ?_
  simp only [wE, wEs, wEo, wS, wSs, c_is, isNon, a_ok, t_bl, ab_okB, if_true, List.getElem?_cons_zero, List.getElem?_cons_succ, Option.getD_some]
  refine k _ ⟨Nat.le_trans (by simp) k1.len, fun j hj _ => ?_⟩
  rw [k1.at_ j (by simp; omega) (by simp; omega), List.getElem?_append_left hj]
end
end MI.T
set_option maxHeartbeats 4000000
namespace MI.T
open PySem L2 MI
theorem cut_from {α : Type} (xs : List α) (k : Nat) : cutD xs (some (k : Int)) none = xs.drop k := by
  unfold cutD
  rw [HT.sIx_none, HT.sIx_nat]
  by_cases h : k ≤ xs.length
  · rw [Nat.min_eq_left h, List.take_of_length_le (by rw [List.length_drop]; omega)]
  · rw [Nat.min_eq_right (by omega), List.drop_of_length_le (Nat.le_refl _), List.drop_of_length_le (by omega)]
    simp
/-- a list of one, compared with its like -/
theorem ne1 {hp : Hq} {r q : Nat} {v : D} {a : PyData} {C : QD} (h1 : hp[r]? = some (.lst [v])) (h2 : hp[q]? = some (.lst [v])) (ha : toP 39 hp v = some a) (hs : SeqAt.shaped (.list [a]) = true) (he : PyData.eqv a a = true) (k : C (.bl false) hp) : (oCmp .ne (.ref r) (.ref q) hp).app C := by
  have one : ∀ p, hp[p]? = some (.lst [v]) → toP 40 hp (.ref p) = some (.list [a]) := fun p h => by
    show (match gtL hp p with | some ds => (mapO (toP 39 hp) ds).map PyData.list | none => none) = _
    rw [gtL_of h]
    show (mapO (toP 39 hp) [v]).map PyData.list = _
    rw [show mapO (toP 39 hp) [v] = some [a] from by simp only [mapO, ha]]
    rfl
  have e : oEqG (.ref r) (.ref q) hp = .cd (SeqAt.shaped (.list [a]) = true ∧ SeqAt.shaped (.list [a]) = true) true := by
    have e0 : oEqG (.ref r) (.ref q) hp = oEqP (.ref r) (.ref q) hp := by
      show (match gtD hp r, gtD hp q with | some ks, some ls => oEqK ks ls | _, _ => oEqP (.ref r) (.ref q) hp) = _
      rw [show gtD hp r = none from by unfold gtD; rw [h1]]
    rw [e0]
    unfold oEqP
    rw [one r h1, one q h2]
    simp only [PyData.eqv, PyData.eqvAll, he, Bool.and_self]
  rw [c_ner, e, v_cd, a_cd]
  exact ⟨⟨hs, hs⟩, k⟩
theorem sh1_int (n : Int) : SeqAt.shaped (.list [.int n]) = true := by
  have := sh_ints [n]
  simpa using this
def dat : Stp → PyData
  | .hear n => .tuple [.str "hear", .int n]
  | .save => .tuple [.str "save"]
  | .confirm => .tuple [.str "confirm"]
  | .stop => .tuple [.str "stop"]
theorem dat_p (n : Nat) (hp : Hq) (s : Stp) : toP (n + 2) hp s.d = some (dat s) := by cases s <;> rfl
/-- a drawn step -/
def Drw (s : Stp) : Prop := (∃ n : Int, s = .hear n ∧ 1 ≤ n ∧ n < 10) ∨ s = .save ∨ s = .confirm ∨ s = .stop ∨ s = .hear ((10 : Int) ^ (30 : Int).toNat)
theorem Drw.ok {s : Stp} (h : Drw s) : s.ok := by
  rcases h with ⟨n, rfl, h1, _⟩ | rfl | rfl | rfl | rfl
  · exact h1
  · trivial
  · trivial
  · trivial
  · show (1 : Int) ≤ _
    decide
def gd (a : PyData) : Bool := a.leavesShort 40 && a.showable && a.canLay0 && decide (a.depth ≤ 1) && decide (a.bulk ≤ 10)
theorem Drw.gd {s : Stp} (h : Drw s) : gd (dat s) = true := by
  rcases h with ⟨n, rfl, h1, h2⟩ | rfl | rfl | rfl | rfl
  · have : n = 1 ∨ n = 2 ∨ n = 3 ∨ n = 4 ∨ n = 5 ∨ n = 6 ∨ n = 7 ∨ n = 8 ∨ n = 9 := by omega
    rcases this with rfl | rfl | rfl | rfl | rfl | rfl | rfl | rfl | rfl <;> decide +kernel
  · decide +kernel
  · decide +kernel
  · decide +kernel
  · decide +kernel
theorem gds : ∀ ss : List Stp, (∀ s ∈ ss, Drw s) → PyData.leavesShortAll 40 (ss.map dat) = true ∧ PyData.showableAll (ss.map dat) = true ∧ PyData.canLayAll0 (ss.map dat) = true ∧ PyData.depthAll (ss.map dat) ≤ 1 ∧ PyData.bulkAll (ss.map dat) ≤ 11 * ss.length
  | [], _ => ⟨rfl, rfl, rfl, by decide, by decide⟩
  | s :: r, h => by
    have q := (h s List.mem_cons_self).gd
    unfold T.gd at q
    simp only [Bool.and_eq_true, decide_eq_true_eq] at q
    obtain ⟨⟨⟨⟨q1, q2⟩, q3⟩, q4⟩, q5⟩ := q
    obtain ⟨p1, p2, p3, p4, p5⟩ := gds r fun x hx => h x (List.mem_cons_of_mem _ hx)
    refine ⟨?_, ?_, ?_, ?_, ?_⟩
    · simp [PyData.leavesShortAll, q1, p1]
    · simp [PyData.showableAll, q2, p2]
    · simp [PyData.canLayAll0, q3, p3]
    · simp only [List.map_cons, PyData.depthAll]; omega
    · simp only [List.map_cons, PyData.bulkAll, List.length_cons]; omega
theorem steps_rp {ss : List Stp} (h : ∀ s ∈ ss, Drw s) (hl : ss.length ≤ 100) : RpOk (.list (ss.map dat)) := by
  obtain ⟨p1, p2, p3, p4, p5⟩ := gds ss h
  refine ⟨?_, by simpa [PyData.showable] using p2, ?_⟩
  · unfold SeqAt.shaped
    rw [Bool.and_eq_true]
    refine ⟨by simpa [PyData.canLay0] using p3, decide_eq_true ?_⟩
    simp only [PyData.depth]; omega
  · have := PyData.shown_le_bulk 40 (by decide) (.list (ss.map dat)) (by simpa [PyData.leavesShort] using p1)
    have hb : (PyData.list (ss.map dat)).bulk = PyData.bulkAll (ss.map dat) := by simp only [PyData.bulk]
    show _ ≤ 16777216
    rw [hb] at this
    omega
theorem steps_p {hp : Hq} {i : Nat} {ss : List Stp} (h : hp[i]? = some (.lst (ss.map Stp.d))) : toP 40 hp (.ref i) = some (.list (ss.map dat)) := by
  show (match gtL hp i with | some ds => (mapO (toP 39 hp) ds).map PyData.list | none => none) = _
  rw [gtL_of h]
  show (mapO (toP 39 hp) (ss.map Stp.d)).map PyData.list = _
  rw [mapO_map ss fun s _ => dat_p 37 hp s]
  rfl
end MI.T
set_option maxHeartbeats 4000000
namespace MI.T
open PySem L2 MI
abbrev oddA : List D := [.non, .str "save", .tup [], .tup [.str "hear"], .tup [.str "hear", .int 0], .tup [.str "hear", .int (-1)], .tup [.str "hear", .bl true], .tup [.str "hear", .str "1"], .tup [.str "save", .int 1]]
abbrev oddB (p1 p2 p3 : Nat) : List D := [.tup [.str "stop", .non], .ref p1, .tup [.str "Hear", .int 1], .tup [.int 5], .tup [.str "hear", .int 1, .int 1], .ref p2, .tup [.str "", .int 1], .tup [.tup [.str "hear", .int 1]], .tup [.ref p3, .int 1]]
section
variable {pl : Nat} {hp : Hq} {p1 p2 p3 : Nat}
theorem oddA_bad : ∀ d ∈ oddA, Bad pl hp d := by
  intro d hd hp' k n Q E h
  simp only [oddA, List.mem_cons, List.not_mem_nil, or_false] at hd
  rcases hd with rfl | rfl | rfl | rfl | rfl | rfl | rfl | rfl | rfl
  · exact step_nt "NoneType" rfl (by decide) h
  · exact step_nt "str" rfl (by decide) h
  · exact step_0 h
  · exact step_hl (a := .str "hear") (as := []) rfl (by decide +kernel) (by decide) h
  · exact step_hi (a := .str "hear") (as := [.int 0]) rfl (by decide +kernel) (by decide) h
  · exact step_hi (a := .str "hear") (as := [.int (-1)]) rfl (by decide +kernel) (by decide) h
  · exact step_h2 (a := .str "hear") (as := [.bool true]) rfl (by decide +kernel) (fun Q E q => whole_no (fun i z => nomatch z) "bool" rfl (by decide) q) h
  · exact step_h2 (a := .str "hear") (as := [.str "1"]) rfl (by decide +kernel) (fun Q E q => whole_no (fun i z => nomatch z) "str" rfl (by decide) q) h
  · exact step_w (a := .str "save") (as := [.int 1]) (by decide +kernel) rfl (by decide +kernel) (by decide +kernel) (fun _ => by decide) h
theorem oddB_bad (h1 : hp[p1]? = some (.lst [.str "save"])) (n1 : p1 ≠ pl) (h2 : hp[p2]? = some (.dic [])) (n2 : p2 ≠ pl) (h3 : hp[p3]? = some (.lst [])) (n3 : p3 ≠ pl) : ∀ d ∈ oddB p1 p2 p3, Bad pl hp d := by
  intro d hd hp' k n Q E h
  have t1 : tyOf hp' (.ref p1) = some "list" := by
    show (match hp'[p1]? with | some (.lst _) => some "list" | some (.dic _) => some "dict" | some (.fdic _) => some "dict" | _ => none) = _
    rw [k.get h1 n1]
  have t2 : tyOf hp' (.ref p2) = some "dict" := by
    show (match hp'[p2]? with | some (.lst _) => some "list" | some (.dic _) => some "dict" | some (.fdic _) => some "dict" | _ => none) = _
    rw [k.get h2 n2]
  have t3 : tyOf hp' (.ref p3) = some "list" := by
    show (match hp'[p3]? with | some (.lst _) => some "list" | some (.dic _) => some "dict" | some (.fdic _) => some "dict" | _ => none) = _
    rw [k.get h3 n3]
  have q3 : toP 39 hp' (.ref p3) = some (.list []) := by
    show (match gtL hp' p3 with | some ds => (mapO (toP 38 hp') ds).map PyData.list | none => none) = _
    rw [gtL_of (k.get h3 n3)]
    rfl
  simp only [oddB, List.mem_cons, List.not_mem_nil, or_false] at hd
  rcases hd with rfl | rfl | rfl | rfl | rfl | rfl | rfl | rfl | rfl
  · exact step_w (a := .str "stop") (as := [.none]) (by decide +kernel) rfl (by decide +kernel) (by decide +kernel) (fun _ => by decide) h
  · exact step_nt "list" t1 (by decide) h
  · exact step_w (a := .str "Hear") (as := [.int 1]) (by decide +kernel) rfl (by decide +kernel) (by decide +kernel) (fun _ => by decide) h
  · exact step_ns (a := .int 5) (as := []) rfl (by decide +kernel) "int" rfl (by decide) h
  · exact step_hl (a := .str "hear") (as := [.int 1, .int 1]) rfl (by decide +kernel) (by decide) h
  · exact step_nt "dict" t2 (by decide) h
  · exact step_w (a := .str "") (as := [.int 1]) (by decide +kernel) rfl (by decide +kernel) (by decide +kernel) (fun _ => by decide) h
  · exact step_ns (a := .tuple [.str "hear", .int 1]) (as := []) rfl (by decide +kernel) "tuple" rfl (by decide) h
  · exact step_ns (a := .list []) (as := [.int 1]) (by simp only [mapO, q3]; rfl) (by decide +kernel) "list" t3 (by decide) h
end
theorem hf_take : g.fns[10]? = some ⟨2, 3, bTake⟩ := rfl
theorem hf_pool : g.fns[9]? = some ⟨2, 4, bPool 8⟩ := rfl
theorem hf_cell : g.fns[8]? = some ⟨2, 2, bCell⟩ := rfl
theorem itRng_nx {n : Int} {m : Nat} {j : Nat} {hp : Hq} (e : n = (m : Int)) (hj : j < m) : (itRng 0 n).nx j hp = some (some (.int j)) := by
  show some (if (j : Int) < n - 0 then some (D.int (0 + j)) else none) = _
  rw [if_pos (by omega), Int.zero_add]
theorem itRng_end {n : Int} {m : Nat} {hp : Hq} (e : n = (m : Int)) : (itRng 0 n).nx m hp = some none := by
  show some (if (m : Int) < n - 0 then some (D.int (0 + m)) else none) = _
  rw [if_neg (by omega)]
theorem kpool {P : Nat → Prop} {a b : Hq} (h : Keep P a b) {i : Nat} (hn : ¬ P i) (p : PoolAt a i) : PoolAt b i := by
  obtain ⟨c, s, e, z⟩ := p
  exact ⟨c, s, h.get e hn, z⟩
theorem pool_lt {hp : Hq} {i : Nat} (p : PoolAt hp i) : i < hp.length := by
  obtain ⟨c, s, e, _⟩ := p
  exact lt_of e
/-! ### a cell, by its statements -/
abbrev S4 : MI.St := .asg (.nm 4) (.lst (.cons (.tup (.cons (.lit (.str "hear")) (.cons (.bin .add (.lit (.int 1)) (.call 10 (.cons (.var 3) (.cons (.lit (.int 9)) .nil)))) .nil))) (.cons (.tup (.cons (.lit (.str "save")) .nil)) (.cons (.tup (.cons (.lit (.str "confirm")) .nil)) (.cons (.tup (.cons (.lit (.str "stop")) .nil)) (.cons (.tup (.cons (.lit (.str "hear")) (.cons (.bin .pow (.lit (.int 10)) (.lit (.int 30))) .nil))) .nil))))))
abbrev S5 : MI.St := .asg (.nm 5) (.lc [6] (.nm 6) (.rng1 (.bin .add (.lit (.int 1)) (.call 10 (.cons (.var 3) (.cons (.lit (.int 9)) .nil))))) .no (.ix (.var 4) (.call 10 (.cons (.var 3) (.cons (.lit (.int 5)) .nil)))))
abbrev S7 : MI.St := .asg (.nm 7) (.lst (.cons (.lit .non) (.cons (.lit (.str "save")) (.cons (.tup .nil) (.cons (.tup (.cons (.lit (.str "hear")) .nil)) (.cons (.tup (.cons (.lit (.str "hear")) (.cons (.lit (.int 0)) .nil))) (.cons (.tup (.cons (.lit (.str "hear")) (.cons (.neg (.lit (.int 1))) .nil))) (.cons (.tup (.cons (.lit (.str "hear")) (.cons (.lit (.bl true)) .nil))) (.cons (.tup (.cons (.lit (.str "hear")) (.cons (.lit (.str "1")) .nil))) (.cons (.tup (.cons (.lit (.str "save")) (.cons (.lit (.int 1)) .nil))) .nil))))))))))
abbrev S7b : MI.St := .asg (.nm 7) (.bin .add (.var 7) (.lst (.cons (.tup (.cons (.lit (.str "stop")) (.cons (.lit .non) .nil))) (.cons (.lst (.cons (.lit (.str "save")) .nil)) (.cons (.tup (.cons (.lit (.str "Hear")) (.cons (.lit (.int 1)) .nil))) (.cons (.tup (.cons (.lit (.int 5)) .nil)) (.cons (.tup (.cons (.lit (.str "hear")) (.cons (.lit (.int 1)) (.cons (.lit (.int 1)) .nil)))) (.cons (.dic .nil) (.cons (.tup (.cons (.lit (.str "")) (.cons (.lit (.int 1)) .nil))) (.cons (.tup (.cons (.tup (.cons (.lit (.str "hear")) (.cons (.lit (.int 1)) .nil))) .nil)) (.cons (.tup (.cons (.lst .nil) (.cons (.lit (.int 1)) .nil))) .nil)))))))))))
section
variable {pl n : Nat} {hp : Hq} {K : KS} {e0 e1 e2 e4 e5 e6 e7 e8 e9 e10 e11 e12 : Option D}
abbrev kf : Nat → Prop := fun _ => False
theorem kp0 {a b : Hq} (h : Keep kf a b) : Keep (· = pl) a b := h.mono fun _ _ z => z.elim
theorem s4_run (p : PoolAt hp pl) (k : ∀ hp' sm (ss : List Stp), Keep (· = pl) hp hp' → PoolAt hp' pl → sm ≠ pl → hp'[sm]? = some (.lst (ss.map Stp.d)) → ss.length = 5 → (∀ s ∈ ss, Drw s) → K.nx [e0, e1, e2, some (.ref pl), some (.ref sm), e5, e6, e7, e8, e9, e10, e11, e12] hp') :
    wS g (wCall g (n + 2)) S4 [e0, e1, e2, some (.ref pl), e4, e5, e6, e7, e8, e9, e10, e11, e12] hp K := by
  unfold S4
  simp only [wS, wE, wEs, wTg, List.getElem?_cons_zero, List.getElem?_cons_succ]
  refine take_run hf_take p (by decide) (by decide) fun r hp1 r0 r9 kp lp p1 => ?_
  simp only [o_add, o_pow, a_ok, a_cd, List.set_cons_zero, List.set_cons_succ]
  refine ⟨⟨by decide, by decide, by decide⟩, ?_⟩
  have l1 := pool_lt p1
  refine k _ hp1.length [.hear (1 + r), .save, .confirm, .stop, .hear ((10 : Int) ^ (30 : Int).toNat)] (kp.trans Keep.app) (kpool Keep.app (P := kf) (fun z => z) p1) (by omega) (by simp [Stp.d]) rfl fun s hs => ?_
  simp only [List.mem_cons, List.not_mem_nil, or_false] at hs
  rcases hs with rfl | rfl | rfl | rfl | rfl
  · exact .inl ⟨_, rfl, by omega, by omega⟩
  · exact .inr (.inl rfl)
  · exact .inr (.inr (.inl rfl))
  · exact .inr (.inr (.inr (.inl rfl)))
  · exact .inr (.inr (.inr (.inr rfl)))
theorem s5_run {sm : Nat} {ss : List Stp} (p : PoolAt hp pl) (hn : sm ≠ pl) (hm : hp[sm]? = some (.lst (ss.map Stp.d))) (hl : ss.length = 5) (hd : ∀ s ∈ ss, Drw s)
    (k : ∀ hp' st (ts : List Stp), Keep (· = pl) hp hp' → PoolAt hp' pl → st ≠ pl → hp'[st]? = some (.lst (ts.map Stp.d)) → ts.length ≤ 9 → (∀ s ∈ ts, Drw s) → K.nx [e0, e1, e2, some (.ref pl), some (.ref sm), some (.ref st), e6, e7, e8, e9, e10, e11, e12] hp') :
    wS g (wCall g (n + 2)) S5 [e0, e1, e2, some (.ref pl), some (.ref sm), e5, e6, e7, e8, e9, e10, e11, e12] hp K := by
  unfold S5
  simp only [wS, wE, wEs, wEo, wIt, wTg, List.getElem?_cons_zero, List.getElem?_cons_succ]
  refine take_run hf_take p (by decide) (by decide) fun r hp1 r0 r9 kp lp p1 => ?_
  simp only [o_add, a_ok]
  obtain ⟨R, hR, hR2⟩ : ∃ R : Nat, 1 + r = (R : Int) ∧ R ≤ 9 := ⟨(1 + r).toNat, by omega, by omega⟩
  rw [hR]
  refine ⟨⟨by omega, by omega⟩, ?_⟩
  refine lc_run R (fun j acc hp' => j ≤ R ∧ Keep (· = pl) hp hp' ∧ PoolAt hp' pl ∧ ∃ ts : List Stp, acc = ts.map Stp.d ∧ ts.length = j ∧ ∀ s ∈ ts, Drw s) (fun j acc hp' kn hj hI _ hk2 => ?_) (fun j acc hp' hI => ?_) (fun acc hp' hI => ?_) ⟨Nat.zero_le _, kp, p1, [], rfl, rfl, nofun⟩
  · obtain ⟨_, k1, p2, ts, rfl, hts, hdt⟩ := hI
    refine ⟨_, itRng_nx rfl hj, ?_⟩
    simp only [wipeE, List.set_cons_zero, List.set_cons_succ, List.getElem?_cons_zero, List.getElem?_cons_succ]
    refine take_run hf_take p2 (by decide) (by decide) fun r2 hp2 r20 r25 kp2 lp2 p3 => ?_
    obtain ⟨q, rfl⟩ : ∃ q : Nat, r2 = (q : Int) := ⟨r2.toNat, by omega⟩
    have hq : q < ss.length := by omega
    have hm2 := (k1.trans kp2).get hm hn
    rw [x_refi, hm2]
    show (oAtI (ss.map Stp.d) (q : Int) hp2).app _
    rw [oAt_nat, List.getElem?_map, List.getElem?_eq_getElem hq]
    refine hk2 _ _ ⟨hj, k1.trans kp2, p3, ts ++ [ss[q]], by simp, by simp [hts], fun s hs => ?_⟩
    rcases List.mem_append.mp hs with z | z
    · exact hdt s z
    · have : s = ss[q] := by simpa using z
      rw [this]
      exact hd _ (List.getElem_mem hq)
  · obtain ⟨h, _, _, ts, rfl, hts, _⟩ := hI
    rw [List.length_map]
    show _ < 16777216
    omega
  · obtain ⟨_, k1, p2, ts, rfl, hts, hdt⟩ := hI
    refine ⟨itRng_end rfl, ?_⟩
    have l2 := pool_lt p2
    show K.nx ([e0, e1, e2, some (.ref pl), some (.ref sm), e5, e6, e7, e8, e9, e10, e11, e12].set 5 (some (.ref hp'.length))) (hp' ++ [O.lst (ts.map Stp.d)])
    simp only [List.set_cons_zero, List.set_cons_succ]
    exact k _ hp'.length ts (k1.trans Keep.app) (kpool Keep.app (P := kf) (fun z => z) p2) (by omega) (by simp) (by omega) hdt
theorem s7_run (p : PoolAt hp pl) (k : ∀ hp' o, Keep kf hp hp' → PoolAt hp' pl → hp'[o]? = some (.lst oddA) → K.nx [e0, e1, e2, some (.ref pl), e4, e5, e6, some (.ref o), e8, e9, e10, e11, e12] hp') :
    wS g (wCall g (n + 2)) S7 [e0, e1, e2, some (.ref pl), e4, e5, e6, e7, e8, e9, e10, e11, e12] hp K := by
  unfold S7
  simp only [wS, wE, wEs, wTg, List.set_cons_zero, List.set_cons_succ]
  exact k _ hp.length Keep.app (kpool Keep.app (P := kf) (fun z => z) p) (by simp)
theorem s7b_run {o : Nat} (p : PoolAt hp pl) (ho : hp[o]? = some (.lst oddA)) (k : ∀ hp' od (L : List D), Keep kf hp hp' → PoolAt hp' pl → hp'[od]? = some (.lst L) → od ≠ pl → L.length = 18 → (∀ d ∈ L, Bad pl hp' d) → K.nx [e0, e1, e2, some (.ref pl), e4, e5, e6, some (.ref od), e8, e9, e10, e11, e12] hp') :
    wS g (wCall g (n + 2)) S7b [e0, e1, e2, some (.ref pl), e4, e5, e6, some (.ref o), e8, e9, e10, e11, e12] hp K := by
  unfold S7b
  have p0 : pairsOf [] = some [] := rfl
  simp only [wS, wE, wEs, wTg, p0, List.foldl_nil, List.getElem?_cons_zero, List.getElem?_cons_succ]
  have k1 : Keep kf hp (hp ++ [O.lst [.str "save"]] ++ [O.dic []] ++ [O.lst []]) := (Keep.app.trans Keep.app).trans Keep.app
  have a1 : (hp ++ [O.lst [.str "save"]] ++ [O.dic []] ++ [O.lst []])[hp.length]? = some (.lst [.str "save"]) := app_old (app_old (by simp))
  have a2 : (hp ++ [O.lst [.str "save"]] ++ [O.dic []] ++ [O.lst []])[(hp ++ [O.lst [.str "save"]]).length]? = some (.dic []) := app_old (by simp)
  have a3 : (hp ++ [O.lst [.str "save"]] ++ [O.dic []] ++ [O.lst []])[(hp ++ [O.lst [.str "save"]] ++ [O.dic []]).length]? = some (.lst []) := by simp
  have l1 : (hp ++ [O.lst [.str "save"]]).length = hp.length + 1 := by simp
  have l2 : (hp ++ [O.lst [.str "save"]] ++ [O.dic []]).length = hp.length + 2 := by simp
  rw [l1] at a2 ⊢
  rw [l2] at a3 ⊢
  generalize hp ++ [O.lst [.str "save"]] ++ [O.dic []] ++ [O.lst []] = hp1 at k1 a1 a2 a3 ⊢
  have lp := pool_lt p
  have o1 : gtL (hp1 ++ [O.lst (oddB hp.length (hp.length + 1) (hp.length + 2))]) o = some oddA := gtL_of (app_old (k1.get ho fun z => z))
  have o2 : gtL (hp1 ++ [O.lst (oddB hp.length (hp.length + 1) (hp.length + 2))]) hp1.length = some (oddB hp.length (hp.length + 1) (hp.length + 2)) := gtL_of (by simp)
  show (oBin .add (.ref o) (.ref hp1.length) (hp1 ++ [O.lst (oddB hp.length (hp.length + 1) (hp.length + 2))])).app _
  rw [o_addl, o1, o2]
  refine ⟨by show 18 ≤ 16777216; decide, ?_⟩
  simp only [List.set_cons_zero, List.set_cons_succ]
  have k2 : Keep kf hp1 (hp1 ++ [O.lst (oddB hp.length (hp.length + 1) (hp.length + 2))] ++ [O.lst (oddA ++ oddB hp.length (hp.length + 1) (hp.length + 2))]) := Keep.app.trans Keep.app
  have hl := (k1.trans (Keep.app (l := [O.lst (oddB hp.length (hp.length + 1) (hp.length + 2))]))).len
  refine k _ _ (oddA ++ oddB hp.length (hp.length + 1) (hp.length + 2)) (k1.trans k2) (kpool (k1.trans k2) (fun z => z) p) (by simp) (by omega) rfl fun d hd => ?_
  rcases List.mem_append.mp hd with z | z
  · exact oddA_bad d z
  · exact oddB_bad (k2.get a1 fun z => z) (by omega) (k2.get a2 fun z => z) (by omega) (k2.get a3 fun z => z) (by omega) d z
end
end MI.T
set_option maxHeartbeats 4000000
namespace MI.T
open PySem L2 MI
abbrev S8 : MI.St := .asg (.nm 8) (.call 10 (.cons (.var 3) (.cons (.bin .add (.blt .len (.cons (.var 5) .nil)) (.lit (.int 1))) .nil)))
abbrev S9 : MI.St := .asg (.nm 9) (.ix (.var 7) (.call 10 (.cons (.var 3) (.cons (.lit (.int 18)) .nil))))
abbrev S10 : MI.St := .asg (.nm 10) (.ix (.var 7) (.call 10 (.cons (.var 3) (.cons (.lit (.int 18)) .nil))))
abbrev S11 : MI.St := .asg (.nm 11) (.blt .repr (.cons (.var 5) .nil))
abbrev insE (es : Exs) : Ex := .bin .add (.bin .add (.sl (.var 5) .no (.so (.var 8))) (.lst es)) (.sl (.var 5) (.so (.var 8)) .no)
abbrev bBent : Sts := (.cons (.ifs (.cmp .ne (.call 11 (.cons (.var 12) .nil)) (.lst (.cons (.var 8) .nil))) (.cons (.ret (.so (.lit (.bl false)))) .nil) .nil) .nil)
abbrev S12 : MI.St := .for_ (.nm 12) (.vl (.lst (.cons (insE (.cons (.var 9) .nil)) (.cons (insE (.cons (.var 9) (.cons (.var 10) .nil))) (.cons (.bin .add (.sl (.var 5) .no (.so (.var 8))) (.lst (.cons (.var 9) .nil))) .nil))))) bBent
abbrev S13 : MI.St := .ifs (.or (.cmp .ne (.call 11 (.cons (.var 5) .nil)) (.lit (.str "told"))) (.cmp .ne (.blt .repr (.cons (.var 5) .nil)) (.var 11))) (.cons (.ret (.so (.lit (.bl false)))) .nil) .nil
section
variable {pl n : Nat} {hp : Hq} {K : KS} {e0 e1 e2 e4 e5 e6 e7 e8 e9 e10 e11 e12 : Option D}
theorem len_r {p : Nat} {xs : List D} (e : hp[p]? = some (.lst xs)) : oBF .len [.ref p] hp = .ok (.int xs.length) hp := by
  show (match hp[p]? with
    | some (.lst xs) => OutD.ok (.int xs.length) hp
    | some (.dic kvs) => .ok (.int kvs.length) hp
    | some (.fdic kvs) => .ok (.int kvs.length) hp
    | _ => .no) = _
  rw [e]
theorem s8_run {st : Nat} {ts : List Stp} (p : PoolAt hp pl) (hm : hp[st]? = some (.lst (ts.map Stp.d))) (hl : ts.length ≤ 9)
    (k : ∀ hp' (a : Nat), Keep (· = pl) hp hp' → PoolAt hp' pl → a ≤ ts.length → K.nx [e0, e1, e2, some (.ref pl), e4, some (.ref st), e6, e7, some (.int (a : Int)), e9, e10, e11, e12] hp') :
    wS g (wCall g (n + 2)) S8 [e0, e1, e2, some (.ref pl), e4, some (.ref st), e6, e7, e8, e9, e10, e11, e12] hp K := by
  unfold S8
  simp only [wS, wE, wEs, wTg, len_r hm, o_add, a_ok, List.length_map, List.getElem?_cons_zero, List.getElem?_cons_succ]
  refine take_run hf_take p (by omega) (by omega) fun r hp1 r0 r9 kp lp p1 => ?_
  obtain ⟨a, rfl⟩ : ∃ a : Nat, r = (a : Int) := ⟨r.toNat, by omega⟩
  simp only [List.set_cons_zero, List.set_cons_succ]
  exact k _ a kp p1 (by omega)
theorem s9_run {od : Nat} {L : List D} (p : PoolAt hp pl) (ho : hp[od]? = some (.lst L)) (hn : od ≠ pl) (hl : L.length = 18)
    (k : ∀ hp' d, Keep (· = pl) hp hp' → PoolAt hp' pl → d ∈ L → K.nx [e0, e1, e2, some (.ref pl), e4, e5, e6, some (.ref od), e8, some d, e10, e11, e12] hp') :
    wS g (wCall g (n + 2)) S9 [e0, e1, e2, some (.ref pl), e4, e5, e6, some (.ref od), e8, e9, e10, e11, e12] hp K := by
  unfold S9
  simp only [wS, wE, wEs, wTg, List.getElem?_cons_zero, List.getElem?_cons_succ]
  refine take_run hf_take p (by decide) (by decide) fun r hp1 r0 r9 kp lp p1 => ?_
  obtain ⟨a, rfl⟩ : ∃ a : Nat, r = (a : Int) := ⟨r.toNat, by omega⟩
  have ha : a < L.length := by omega
  rw [x_refi, kp.get ho hn]
  show (oAtI L (a : Int) hp1).app _
  rw [oAt_nat, List.getElem?_eq_getElem ha, a_ok]
  simp only [List.set_cons_zero, List.set_cons_succ]
  exact k _ _ kp p1 (List.getElem_mem ha)
theorem s10_run {od : Nat} {L : List D} (p : PoolAt hp pl) (ho : hp[od]? = some (.lst L)) (hn : od ≠ pl) (hl : L.length = 18)
    (k : ∀ hp' d, Keep (· = pl) hp hp' → PoolAt hp' pl → d ∈ L → K.nx [e0, e1, e2, some (.ref pl), e4, e5, e6, some (.ref od), e8, e9, some d, e11, e12] hp') :
    wS g (wCall g (n + 2)) S10 [e0, e1, e2, some (.ref pl), e4, e5, e6, some (.ref od), e8, e9, e10, e11, e12] hp K := by
  unfold S10
  simp only [wS, wE, wEs, wTg, List.getElem?_cons_zero, List.getElem?_cons_succ]
  refine take_run hf_take p (by decide) (by decide) fun r hp1 r0 r9 kp lp p1 => ?_
  obtain ⟨a, rfl⟩ : ∃ a : Nat, r = (a : Int) := ⟨r.toNat, by omega⟩
  have ha : a < L.length := by omega
  rw [x_refi, kp.get ho hn]
  show (oAtI L (a : Int) hp1).app _
  rw [oAt_nat, List.getElem?_eq_getElem ha, a_ok]
  simp only [List.set_cons_zero, List.set_cons_succ]
  exact k _ _ kp p1 (List.getElem_mem ha)
theorem s11_run {st : Nat} {e3 : Option D} {ts : List Stp} (hm : hp[st]? = some (.lst (ts.map Stp.d))) (hl : ts.length ≤ 9) (hd : ∀ s ∈ ts, Drw s)
    (k : K.nx [e0, e1, e2, e3, e4, some (.ref st), e6, e7, e8, e9, e10, some (.str (PyData.list (ts.map dat)).shown), e12] hp) :
    wS g (wCall g (n + 2)) S11 [e0, e1, e2, e3, e4, some (.ref st), e6, e7, e8, e9, e10, e11, e12] hp K := by
  unfold S11
  simp only [wS, wE, wEs, wTg, repr_at (steps_p hm), a_cd, List.getElem?_cons_zero, List.getElem?_cons_succ, List.set_cons_zero, List.set_cons_succ]
  exact ⟨steps_rp hd (by omega), k⟩
theorem sl_run {cl : Cl} {env : Env} {st : Nat} {a : Nat} {xs : List D} {Q : QD} {E : QX} (h5 : env[5]? = some (some (.ref st))) (h8 : env[8]? = some (some (.int (a : Int)))) (hm : hp[st]? = some (.lst xs)) (k : Q (.ref hp.length) (hp ++ [.lst (xs.take a)])) : wE g cl (.sl (.var 5) .no (.so (.var 8))) env hp Q E := by
  simp only [wE, wEo, h5, h8, bnd, sl_lst hm, a_ok, cut_to xs (show (0 : Int) ≤ (a : Int) by omega), Int.toNat_natCast]
  exact k
theorem sl2_run {cl : Cl} {env : Env} {st : Nat} {a : Nat} {xs : List D} {Q : QD} {E : QX} (h5 : env[5]? = some (some (.ref st))) (h8 : env[8]? = some (some (.int (a : Int)))) (hm : hp[st]? = some (.lst xs)) (k : Q (.ref hp.length) (hp ++ [.lst (xs.drop a)])) : wE g cl (.sl (.var 5) (.so (.var 8)) .no) env hp Q E := by
  simp only [wE, wEo, h5, h8, bnd, sl_lst hm, a_ok, cut_from]
  exact k
theorem add_l {p q : Nat} {xs ys : List D} {Q : QD} (h1 : hp[p]? = some (.lst xs)) (h2 : hp[q]? = some (.lst ys)) (hl : xs.length + ys.length ≤ 1000) (k : Q (.ref hp.length) (hp ++ [.lst (xs ++ ys)])) : (oBin .add (.ref p) (.ref q) hp).app Q := by
  rw [o_addl, gtL_of h1, gtL_of h2]
  exact ⟨by show _ ≤ 16777216; omega, k⟩
/-- steps[:at] + ones -/
theorem pre_run {cl : Cl} {env : Env} {st a : Nat} {xs ones : List D} {es : Exs} {Q : QD} {E : QX} (h5 : env[5]? = some (some (.ref st))) (h8 : env[8]? = some (some (.int (a : Int)))) (hm : hp[st]? = some (.lst xs)) (hl : xs.length ≤ 100) (ho : ones.length ≤ 5) (he : ∀ hp (Q : List D → Hq → Prop), Q ones hp → wEs g cl es env hp Q E)
    (k : ∀ r hp', Keep kf hp hp' → hp'[r]? = some (.lst (xs.take a ++ ones)) → Q (.ref r) hp') : wE g cl (.bin .add (.sl (.var 5) .no (.so (.var 8))) (.lst es)) env hp Q E := by
  unfold wE
  refine sl_run h5 h8 hm ?_
  unfold wE
  refine he _ _ ?_
  have k1 : Keep kf hp (hp ++ [O.lst (xs.take a)] ++ [O.lst ones]) := Keep.app.trans Keep.app
  have a1 : (hp ++ [O.lst (xs.take a)] ++ [O.lst ones])[hp.length]? = some (.lst (xs.take a)) := app_old (by simp)
  have a2 : (hp ++ [O.lst (xs.take a)] ++ [O.lst ones])[(hp ++ [O.lst (xs.take a)]).length]? = some (.lst ones) := by simp
  refine add_l a1 a2 ?_ ?_
  · have := List.length_take (i := a) (l := xs)
    omega
  · exact k _ _ (k1.trans Keep.app) (by simp)
theorem ins_run {cl : Cl} {env : Env} {st a : Nat} {xs ones : List D} {es : Exs} {Q : QD} {E : QX} (h5 : env[5]? = some (some (.ref st))) (h8 : env[8]? = some (some (.int (a : Int)))) (hm : hp[st]? = some (.lst xs)) (hl : xs.length ≤ 100) (ho : ones.length ≤ 5) (he : ∀ hp (Q : List D → Hq → Prop), Q ones hp → wEs g cl es env hp Q E)
    (k : ∀ r hp', Keep kf hp hp' → hp'[r]? = some (.lst (xs.take a ++ ones ++ xs.drop a)) → Q (.ref r) hp') : wE g cl (insE es) env hp Q E := by
  unfold insE
  unfold wE
  refine pre_run h5 h8 hm hl ho he fun r hp1 k1 r1 => ?_
  refine sl2_run h5 h8 (k1.get hm fun z => z) ?_
  refine add_l (xs := xs.take a ++ ones) (ys := xs.drop a) (app_old r1) (by simp) ?_ ?_
  · have := List.length_take (i := a) (l := xs)
    have := List.length_drop (i := a) (l := xs)
    rw [List.length_append]
    omega
  · exact k _ _ ((k1.trans Keep.app).trans Keep.app) (by simp)
theorem bent_run {e3 : Option D} {r a : Nat} {one : D} {ts : List Stp} {rest : List D} (hm : hp[r]? = some (.lst ((ts.take a).map Stp.d ++ one :: rest))) (ha : a ≤ ts.length) (hd : ∀ s ∈ ts, Drw s) (hb : Bad pl hp one)
    (k : ∀ hp', Keep kf hp hp' → K.nx [e0, e1, e2, e3, e4, e5, e6, e7, some (.int (a : Int)), e9, e10, e11, some (.ref r)] hp') :
    wSs g (wCall g (n + 5)) bBent [e0, e1, e2, e3, e4, e5, e6, e7, some (.int (a : Int)), e9, e10, e11, some (.ref r)] hp K := by
  unfold bBent
  simp only [wSs, wS, wE, wEs, List.getElem?_cons_zero, List.getElem?_cons_succ]
  have la : (ts.take a).length = a := by rw [List.length_take]; omega
  refine told_x (v := .int (a : Int)) (fun hp' Q E kk h => look_bad (pl := pl) (good := ts.take a) (kk.get hm fun z => z) (fun s hs => (hd s (List.mem_of_mem_take hs)).ok) (hb.keep (kp0 kk)) (by rw [la]; exact h)) fun q hp1 k1 q1 => ?_
  refine ne1 (v := .int (a : Int)) (a := .int (a : Int)) (app_old q1) (by simp) rfl (sh1_int _) (by simp [PyData.eqv]) ?_
  simp only [t_bl, ab_okB, Bool.false_eq_true, if_false]
  exact k _ (k1.trans Keep.app)
theorem s12_run {e3 : Option D} {st a : Nat} {one other : D} {ts : List Stp} (hm : hp[st]? = some (.lst (ts.map Stp.d))) (hl : ts.length ≤ 9) (ha : a ≤ ts.length) (hd : ∀ s ∈ ts, Drw s) (hb : Bad pl hp one)
    (k : ∀ hp' x, Keep kf hp hp' → K.nx [e0, e1, e2, e3, e4, some (.ref st), e6, e7, some (.int (a : Int)), some one, some other, e11, x] hp') :
    wS g (wCall g (n + 5)) S12 [e0, e1, e2, e3, e4, some (.ref st), e6, e7, some (.int (a : Int)), some one, some other, e11, e12] hp K := by
  unfold S12
  generalize hB : bBent = B
  unfold wS wIt wE wEs
  have lm : (ts.map Stp.d).length ≤ 100 := by rw [List.length_map]; omega
  refine ins_run (a := a) (ones := [one]) rfl rfl hm lm (show 1 ≤ 5 by decide) (fun hp Q q => by simp only [wEs, wE, List.getElem?_cons_zero, List.getElem?_cons_succ]; exact q) fun r1 hp1 k1 q1 => ?_
  unfold wEs
  refine ins_run (a := a) (ones := [one, other]) rfl rfl (k1.get hm fun z => z) lm (show 2 ≤ 5 by decide) (fun hp Q q => by simp only [wEs, wE, List.getElem?_cons_zero, List.getElem?_cons_succ]; exact q) fun r2 hp2 k2 q2 => ?_
  unfold wEs
  refine pre_run (a := a) (ones := [one]) rfl rfl ((k1.trans k2).get hm fun z => z) lm (show 1 ≤ 5 by decide) (fun hp Q q => by simp only [wEs, wE, List.getElem?_cons_zero, List.getElem?_cons_succ]; exact q) fun r3 hp3 k3 q3 => ?_
  simp only [wEs]
  have q0 : (hp3 ++ [O.lst [.ref r1, .ref r2, .ref r3]])[hp3.length]? = some (.lst [.ref r1, .ref r2, .ref r3]) := by simp
  have k4 : Keep kf hp3 (hp3 ++ [O.lst [.ref r1, .ref r2, .ref r3]]) := Keep.app
  have q1 := (k2.trans (k3.trans k4)).get q1 fun z => z
  have q2 := (k3.trans k4).get q2 fun z => z
  have q3 := k4.get q3 fun z => z
  have kk := k1.trans (k2.trans (k3.trans k4))
  rw [seq_lst q0]
  generalize hp3 ++ [O.lst [.ref r1, .ref r2, .ref r3]] = hp4 at q0 q1 q2 q3 kk ⊢
  have tk : (ts.map Stp.d).take a = (ts.take a).map Stp.d := List.map_take.symm
  rw [tk] at q1 q2 q3
  refine for_run 3 (fun j env hp' => Keep kf hp4 hp' ∧ ∃ x, env = [e0, e1, e2, e3, e4, some (.ref st), e6, e7, some (.int (a : Int)), some one, some other, e11, x]) (fun j env hp' kn hj hI hk => ?_) (fun env hp' hI => ?_) ⟨Keep.refl _ _, _, rfl⟩
  · obtain ⟨k5, x, rfl⟩ := hI
    have go : ∀ r rest, hp4[r]? = some (.lst ((ts.take a).map Stp.d ++ one :: rest)) → ([D.ref r1, .ref r2, .ref r3] : List D)[j]? = some (.ref r) → ∃ d, (itLst hp3.length).nx j hp' = some (some d) ∧ wTg g (wCall g (n + 5)) (.nm 12) d [e0, e1, e2, e3, e4, some (.ref st), e6, e7, some (.int (a : Int)), some one, some other, e11, x] hp' fun env hp => wSs g (wCall g (n + 5)) B env hp { nx := kn, ct := kn, bk := fun env hp => K.nx env hp, rt := fun d hp => K.rt d hp, ex := K.ex } := fun r rest hr hjr => by
      refine ⟨_, lst_nx (k5.get q0 fun z => z) hjr, ?_⟩
      simp only [wTg, List.set_cons_zero, List.set_cons_succ]
      rw [← hB]
      exact bent_run (pl := pl) (k5.get hr fun z => z) ha hd (hb.keep (kp0 (kk.trans k5))) fun hp6 k6 => hk _ _ ⟨k5.trans k6, _, rfl⟩
    have : j = 0 ∨ j = 1 ∨ j = 2 := by omega
    rcases this with rfl | rfl | rfl
    · exact go r1 ((ts.map Stp.d).drop a) (by rw [q1]; simp) rfl
    · exact go r2 (other :: (ts.map Stp.d).drop a) (by rw [q2]; simp) rfl
    · exact go r3 [] q3 rfl
  · obtain ⟨k5, x, rfl⟩ := hI
    exact ⟨lst_end (k5.get q0 fun z => z), k _ _ (kk.trans k5)⟩
theorem s13_run {e3 : Option D} {st : Nat} {ts : List Stp} (hm : hp[st]? = some (.lst (ts.map Stp.d))) (hl : ts.length ≤ 9) (hd : ∀ s ∈ ts, Drw s)
    (k : ∀ hp', Keep kf hp hp' → K.nx [e0, e1, e2, e3, e4, some (.ref st), e6, e7, e8, e9, e10, some (.str (PyData.list (ts.map dat)).shown), e12] hp') :
    wS g (wCall g (n + 5)) S13 [e0, e1, e2, e3, e4, some (.ref st), e6, e7, e8, e9, e10, some (.str (PyData.list (ts.map dat)).shown), e12] hp K := by
  unfold S13
  simp only [wS, wE, wEs, List.getElem?_cons_zero, List.getElem?_cons_succ]
  refine told_ok hm (fun s hs => (hd s hs).ok) (by omega) fun hp1 k1 => ?_
  simp only [c_nes, a_ok, t_bl, ab_okB, decide_true, Bool.not_true, Bool.false_eq_true, if_false, repr_at (steps_p (k1.get hm fun z => z)), a_cd, wSs]
  exact ⟨steps_rp hd (by omega), k _ k1⟩
end
end MI.T
set_option maxHeartbeats 4000000
namespace MI.T
open PySem L2 MI
abbrev bItem : Sts := (.cons (.ifs (.cmp .ne (.call 11 (.cons (.var 1) .nil)) (.lst (.cons (.lit .non) .nil))) (.cons (.ret (.so (.lit (.bl false)))) .nil) .nil) .nil)
abbrev S0 : MI.St := .for_ (.nm 1) (.vl (.lst (.cons (.lit .non) (.cons (.tup .nil) (.cons (.dic .nil) (.cons (.lit (.str "hear")) (.cons (.lit (.int 5)) (.cons (.tup (.cons (.tup (.cons (.lit (.str "save")) .nil)) .nil)) (.cons (.lit (.bl true)) .nil))))))))) bItem
abbrev S3 : MI.St := .asg (.nm 3) (.call 9 (.cons (.var 0) (.cons (.var 2) .nil)))
abbrev bCellL : Sts := .cons S3 (.cons S4 (.cons S5 (.cons S7 (.cons S7b (.cons S8 (.cons S9 (.cons S10 (.cons S11 (.cons S12 (.cons S13 .nil))))))))))
abbrev S1 : MI.St := .for_ (.nm 2) (.rng1 (.blt .max2 (.cons (.lit (.int 1)) (.cons (.blt .min2 (.cons (.blt .len (.cons (.var 0) .nil)) (.cons (.lit (.int 10)) .nil))) .nil)))) bCellL
theorem b_law_eq : b_law = .cons S0 (.cons S1 (.cons (.ret (.so (.lit (.bl true)))) .nil)) := rfl
section
variable {n : Nat} {hp : Hq} {K : KS} {e0 e1 e2 e3 e4 e5 e6 e7 e8 e9 e10 e11 e12 : Option D}
theorem s0_run (k : ∀ hp' x, K.nx [e0, x, e2, e3, e4, e5, e6, e7, e8, e9, e10, e11, e12] hp') : wS g (wCall g (n + 5)) S0 [e0, e1, e2, e3, e4, e5, e6, e7, e8, e9, e10, e11, e12] hp K := by
  unfold S0
  generalize hB : bItem = B
  have p0 : pairsOf [] = some [] := rfl
  simp only [wS, wIt, wE, wEs, p0, List.foldl_nil]
  have a1 : (hp ++ [O.dic []] ++ [O.lst [.non, .tup [], .ref hp.length, .str "hear", .int 5, .tup [.tup [.str "save"]], .bl true]])[hp.length]? = some (.dic []) := app_old (by simp)
  have a2 : (hp ++ [O.dic []] ++ [O.lst [.non, .tup [], .ref hp.length, .str "hear", .int 5, .tup [.tup [.str "save"]], .bl true]])[(hp ++ [O.dic []]).length]? = some (.lst [.non, .tup [], .ref hp.length, .str "hear", .int 5, .tup [.tup [.str "save"]], .bl true]) := by simp
  rw [seq_lst a2]
  generalize (hp ++ [O.dic []]).length = q at a2 ⊢
  generalize hp ++ [O.dic []] ++ [O.lst [.non, .tup [], .ref hp.length, .str "hear", .int 5, .tup [.tup [.str "save"]], .bl true]] = hp1 at a1 a2 ⊢
  refine for_run 7 (fun j env hp' => Keep kf hp1 hp' ∧ ∃ x, env = [e0, x, e2, e3, e4, e5, e6, e7, e8, e9, e10, e11, e12]) (fun j env hp' kn hj hI hk => ?_) (fun env hp' hI => ?_) ⟨Keep.refl _ _, _, rfl⟩
  · obtain ⟨k1, x, rfl⟩ := hI
    have go : ∀ d t, ([.non, .tup [], .ref hp.length, .str "hear", .int 5, .tup [.tup [.str "save"]], .bl true] : List D)[j]? = some d → (∀ h2, Keep kf hp1 h2 → tyOf h2 d = some t) → isiB t "list" = false → ∃ d, (itLst q).nx j hp' = some (some d) ∧ wTg g (wCall g (n + 5)) (.nm 1) d [e0, x, e2, e3, e4, e5, e6, e7, e8, e9, e10, e11, e12] hp' fun env hp => wSs g (wCall g (n + 5)) B env hp { nx := kn, ct := kn, bk := fun env hp => K.nx env hp, rt := fun d hp => K.rt d hp, ex := K.ex } := fun d t hd ht hb => by
      refine ⟨d, lst_nx (k1.get a2 fun z => z) hd, ?_⟩
      simp only [wTg, List.set_cons_zero, List.set_cons_succ]
      rw [← hB]
      simp only [bItem, wSs, wS, wE, wEs, List.getElem?_cons_zero, List.getElem?_cons_succ]
      refine told_x (v := .non) (fun h2 Q E k2 h => look_no t (ht h2 (k1.trans k2)) hb h) fun r hp2 k2 r2 => ?_
      refine ne1 (v := .non) (a := .none) (app_old r2) (by simp) rfl (by decide +kernel) rfl ?_
      simp only [t_bl, ab_okB, Bool.false_eq_true, if_false]
      exact hk _ _ ⟨(k1.trans k2).trans Keep.app, _, rfl⟩
    have : j = 0 ∨ j = 1 ∨ j = 2 ∨ j = 3 ∨ j = 4 ∨ j = 5 ∨ j = 6 := by omega
    rcases this with rfl | rfl | rfl | rfl | rfl | rfl | rfl
    · exact go _ "NoneType" rfl (fun _ _ => rfl) (by decide)
    · exact go _ "tuple" rfl (fun _ _ => rfl) (by decide)
    · refine go _ "dict" rfl (fun h2 k2 => ?_) (by decide)
      show (match h2[hp.length]? with | some (.lst _) => some "list" | some (.dic _) => some "dict" | some (.fdic _) => some "dict" | _ => none) = _
      rw [k2.get a1 fun z => z]
    · exact go _ "str" rfl (fun _ _ => rfl) (by decide)
    · exact go _ "int" rfl (fun _ _ => rfl) (by decide)
    · exact go _ "tuple" rfl (fun _ _ => rfl) (by decide)
    · exact go _ "bool" rfl (fun _ _ => rfl) (by decide)
  · obtain ⟨k1, x, rfl⟩ := hI
    exact ⟨lst_end (k1.get a2 fun z => z), k _ _⟩
theorem cell_all {ns : List Int} {j : Nat} (hj : j < 1000) (k : ∀ hp' x3 x4 x5 x6 x7 x8 x9 x10 x11 x12, K.nx [some (.kl (ns.map D.int)), e1, some (.int (j : Int)), x3, x4, x5, x6, x7, x8, x9, x10, x11, x12] hp') :
    wSs g (wCall g (n + 5)) bCellL [some (.kl (ns.map D.int)), e1, some (.int (j : Int)), e3, e4, e5, e6, e7, e8, e9, e10, e11, e12] hp K := by
  unfold bCellL
  generalize h4 : S4 = s4
  generalize h5 : S5 = s5
  generalize h7 : S7 = s7
  generalize h7b : S7b = s7b
  generalize h8 : S8 = s8
  generalize h9 : S9 = s9
  generalize h10 : S10 = s10
  generalize h11 : S11 = s11
  generalize h12 : S12 = s12
  generalize h13 : S13 = s13
  simp only [wSs]
  simp only [S3, wS, wE, wEs, wTg, List.getElem?_cons_zero, List.getElem?_cons_succ]
  refine pool_run hf_pool hf_cell hj fun hp1 eh pp => ?_
  have pl1 := pool_lt pp
  generalize hp.length = pl at pp pl1 ⊢
  clear eh
  simp only [List.set_cons_zero, List.set_cons_succ]
  rw [← h4]
  refine s4_run pp fun hp2 sm ss k2 p2 n2 m2 l2 d2 => ?_
  show wS _ _ _ _ _ _
  rw [← h5]
  refine s5_run p2 n2 m2 l2 d2 fun hp3 st ts k3 p3 n3 m3 l3 d3 => ?_
  show wS _ _ _ _ _ _
  rw [← h7]
  refine s7_run p3 fun hp4 o k4 p4 m4 => ?_
  show wS _ _ _ _ _ _
  rw [← h7b]
  refine s7b_run p4 m4 fun hp5 od L k5 p5 m5 n5 l5 b5 => ?_
  show wS _ _ _ _ _ _
  rw [← h8]
  have st5 := (k4.trans k5).get m3 fun z => z
  refine s8_run p5 st5 l3 fun hp6 a k6 p6 ha => ?_
  show wS _ _ _ _ _ _
  rw [← h9]
  refine s9_run p6 (k6.get m5 n5) n5 l5 fun hp7 one k7 p7 b7 => ?_
  show wS _ _ _ _ _ _
  rw [← h10]
  refine s10_run p7 ((k6.trans k7).get m5 n5) n5 l5 fun hp8 other k8 p8 b8 => ?_
  show wS _ _ _ _ _ _
  rw [← h11]
  have st8 := ((k6.trans k7).trans k8).get st5 n3
  have bad8 := (b5 one b7).keep ((k6.trans k7).trans k8)
  refine s11_run st8 l3 d3 ?_
  show wS _ _ _ _ _ _
  rw [← h12]
  refine s12_run st8 l3 ha d3 bad8 fun hp9 x k9 => ?_
  show wS _ _ _ _ _ _
  rw [← h13]
  exact s13_run (k9.get st8 fun z => z) l3 d3 fun hp10 k10 => k _ _ _ _ _ _ _ _ _ _ _
end
theorem law_run : ∀ ns : List Int, ns.length ≤ 63 → wCall g 6 12 [.kl (ns.map D.int)] [] (fun d _ => d = .bl true) fun _ _ _ => False := by
  intro ns hns
  rw [call_law]
  refine ⟨rfl, ?_⟩
  rw [b_law_eq]
  generalize h0 : S0 = s0
  simp only [wSs, List.map_cons, List.map_nil, List.cons_append, List.nil_append, List.replicate]
  rw [← h0]
  refine s0_run fun hp1 x => ?_
  simp only [S1, wS, wE, wEo, wEs, wIt, List.getElem?_cons_zero, List.getElem?_cons_succ, len_k, min_2, max_2, a_ok, List.length_map]
  obtain ⟨M, hM, hM2⟩ : ∃ M : Nat, (if (if (10 : Int) < (ns.length : Int) then 10 else (ns.length : Int)) > 1 then (if (10 : Int) < (ns.length : Int) then 10 else (ns.length : Int)) else 1) = (M : Int) ∧ M ≤ 10 := by
    by_cases h1 : (10 : Int) < (ns.length : Int)
    · exact ⟨10, by rw [if_pos h1, if_pos (by decide)]; rfl, Nat.le_refl _⟩
    · by_cases h2 : (ns.length : Int) > 1
      · exact ⟨ns.length, by rw [if_neg h1, if_pos h2], by omega⟩
      · exact ⟨1, by rw [if_neg h1, if_neg h2]; rfl, by decide⟩
  rw [hM]
  refine ⟨⟨by omega, by omega⟩, ?_⟩
  refine for_run M (fun j env hp => ∃ x1 x2 x3 x4 x5 x6 x7 x8 x9 x10 x11 x12, env = [some (.kl (ns.map D.int)), x1, x2, x3, x4, x5, x6, x7, x8, x9, x10, x11, x12]) (fun j env hp kn hj hI hk => ?_) (fun env hp hI => ?_) ⟨_, _, _, _, _, _, _, _, _, _, _, _, rfl⟩
  · obtain ⟨x1, x2, x3, x4, x5, x6, x7, x8, x9, x10, x11, x12, rfl⟩ := hI
    refine ⟨_, itRng_nx rfl hj, ?_⟩
    simp only [wTg, List.set_cons_zero, List.set_cons_succ]
    exact cell_all (by omega) fun hp' _ _ _ _ _ _ _ _ _ _ => hk _ _ ⟨_, _, _, _, _, _, _, _, _, _, _, _, rfl⟩
  · obtain ⟨x1, x2, x3, x4, x5, x6, x7, x8, x9, x10, x11, x12, rfl⟩ := hI
    exact ⟨itRng_end rfl, rfl⟩
end MI.T
open PySem PySem.W PyProof.Rows
set_option maxRecDepth 100000 in
set_option maxHeartbeats 0 in
theorem PySem.Challenge.cw_rowstold_k59_what_are_no_steps_holds : PySem.Challenge.rw_rowstold_k59_what_are_no_steps.Holds := by
  w_on; o_law; k_head; (case hw => w_witness2)
  k_fill
  refine MI.walk_mi (l := PySem.Challenge.rw_rowstold_k59_what_are_no_steps) (n := 63) (N := 6) (S := MI.T.S) (g := MI.T.g) (lf := 12) rfl (by decide) rfl ⟨rfl, by decide, by decide⟩ (fun w h Y => PySem.W.kIn_of Y) ?F MI.T.law_run
  case F =>
    intro w mg fa h KX G hmg
    refine' MI.T.tfs KX G hmg ?yA0 ?ya0 ?yl0 ?yc0 ?yk0 ?ya1 ?yl1 ?yc1 ?yk1 ?ya2 ?yl2 ?yc2 ?yk2 ?ya3 ?yi3 ?yl3 ?yc3 ?yk3 ?ya4 ?yi4 ?yl4 ?yc4 ?yk4 ?ya5 ?yi5 ?yl5 ?yc5 ?yk5 ?ya6 ?yl6 ?yc6 ?yk6 ?ya7 ?yl7 ?yc7 ?yk7 ?ya8 ?yl8 ?yc8 ?yk8 ?ya9 ?yl9 ?yc9 ?yk9 ?ya10 ?yl10 ?yc10 ?yk10 ?ya11 ?yl11 ?yc11 ?yk11 ?ya12 ?yl12 ?yc12 ?yk12 ?ypg0 ?yhd0 ?ypo0 ?ysa0 ?ymk0 ?ykc0 ?yn0_0 ?yn0_1 ?yn0_2 ?yn0_3 ?yn0_4 ?yn0_5 ?yn0_6 ?yxA0 ?yxO0 ?yxV0 ?yxS0 ?yxE0 ?yxT0 ?yxK0 ?yxD0 ?yxG0 ?yxH0 ?yxC0 ?yxM0 ?yxZ0 ?yxI0 ?yxJ0 ?yxL0 ?yxR0 ?yxn0_0 ?yxn0_1 ?yxn0_2 ?yxn0_3 ?yxn0_4 ?yxn0_5 ?yxn0_6 ?yxA1 ?yxO1 ?yxV1 ?yxS1 ?yxE1 ?yxT1 ?yxK1 ?yxD1 ?yxG1 ?yxH1 ?yxC1 ?yxM1 ?yxZ1 ?yxI1 ?yxJ1 ?yxL1 ?yxR1 ?yxn1_0 ?yxn1_1 ?yxn1_2 ?yxn1_3 ?yxn1_4 ?yxn1_5 ?yxn1_6 ?yxA2 ?yxO2 ?yxV2 ?yxS2 ?yxE2 ?yxT2 ?yxK2 ?yxD2 ?yxG2 ?yxH2 ?yxC2 ?yxM2 ?yxZ2 ?yxI2 ?yxJ2 ?yxL2 ?yxR2 ?yxn2_0 ?yxn2_1 ?yxn2_2 ?yxn2_3 ?yxn2_4 ?yxn2_5 ?yxn2_6 ?yyA0q ?yyE0q ?yyD0q ?yyT0q ?yxw0 ?yxx0 ?yxy0 ?yxQ0_0 ?yxQ0_1 ?yxQ0_2 ?yxQ1_0 ?yxQ1_1 ?yxQ1_2 ?yxQ2_0 ?yxQ2_1 ?yxQ2_2 ?yxQ3_0 ?yxQ3_1 ?yxQ3_2 ?yxz0 ?yxz1 ?yz0 ?yz1 ?yz2 ?yz3 ?yz4 ?yz5 ?yz6 ?yz7 ?yz8 ?yz9 ?yz10 ?yz11 ?yg0 ?yh0
    (case yA0 => k_is); (case ya0 => k_is); (case yl0 => k_is); (case yc0 => k_is); (case yk0 => k_is); (case ya1 => k_is); (case yl1 => k_is); (case yc1 => k_is); (case yk1 => k_is); (case ya2 => k_is); (case yl2 => k_is); (case yc2 => k_is)
    (case yk2 => k_is); (case ya3 => k_is); (case yi3 => k_is); (case yl3 => k_is); (case yc3 => k_is); (case yk3 => k_is); (case ya4 => k_is); (case yi4 => k_is); (case yl4 => k_is); (case yc4 => k_is); (case yk4 => k_is); (case ya5 => k_is)
    (case yi5 => k_is); (case yl5 => k_is); (case yc5 => k_is); (case yk5 => k_is); (case ya6 => k_is); (case yl6 => k_is); (case yc6 => k_is); (case yk6 => k_is); (case ya7 => k_is); (case yl7 => k_is); (case yc7 => k_is); (case yk7 => k_is)
    (case ya8 => k_is); (case yl8 => k_is); (case yc8 => k_is); (case yk8 => k_is); (case ya9 => k_is); (case yl9 => k_is); (case yc9 => k_is); (case yk9 => k_is); (case ya10 => k_is); (case yl10 => k_is); (case yc10 => k_is); (case yk10 => k_is)
    (case ya11 => k_is); (case yl11 => k_is); (case yc11 => k_is); (case yk11 => k_is); (case ya12 => k_is); (case yl12 => k_is); (case yc12 => k_is); (case yk12 => k_is); (case ypg0 => k_is); (case yhd0 => k_is); (case ypo0 => k_is); (case ysa0 => k_is)
    (case ymk0 => k_is); (case ykc0 => k_is); (case yn0_0 => k_is); (case yn0_1 => k_is); (case yn0_2 => k_is); (case yn0_3 => k_is); (case yn0_4 => k_is); (case yn0_5 => k_is); (case yn0_6 => k_is); (case yxA0 => k_is); (case yxO0 => k_is); (case yxV0 => rfl)
    (case yxS0 => k_is); (case yxE0 => k_is); (case yxT0 => k_is); (case yxK0 => k_is); (case yxD0 => k_is); (case yxG0 => k_is); (case yxH0 => k_is); (case yxC0 => k_is); (case yxM0 => k_is); (case yxZ0 => k_is); (case yxI0 => k_is); (case yxJ0 => k_is)
    (case yxL0 => k_is); (case yxR0 => k_is); (case yxn0_0 => k_is); (case yxn0_1 => k_is); (case yxn0_2 => k_is); (case yxn0_3 => k_is); (case yxn0_4 => k_is); (case yxn0_5 => k_is); (case yxn0_6 => k_is); (case yxA1 => k_is); (case yxO1 => k_is); (case yxV1 => rfl)
    (case yxS1 => k_is); (case yxE1 => k_is); (case yxT1 => k_is); (case yxK1 => k_is); (case yxD1 => k_is); (case yxG1 => k_is); (case yxH1 => k_is); (case yxC1 => k_is); (case yxM1 => k_is); (case yxZ1 => k_is); (case yxI1 => k_is); (case yxJ1 => k_is)
    (case yxL1 => k_is); (case yxR1 => k_is); (case yxn1_0 => k_is); (case yxn1_1 => k_is); (case yxn1_2 => k_is); (case yxn1_3 => k_is); (case yxn1_4 => k_is); (case yxn1_5 => k_is); (case yxn1_6 => k_is); (case yxA2 => k_is); (case yxO2 => k_is); (case yxV2 => rfl)
    (case yxS2 => k_is); (case yxE2 => k_is); (case yxT2 => k_is); (case yxK2 => k_is); (case yxD2 => k_is); (case yxG2 => k_is); (case yxH2 => k_is); (case yxC2 => k_is); (case yxM2 => k_is); (case yxZ2 => k_is); (case yxI2 => k_is); (case yxJ2 => k_is)
    (case yxL2 => k_is); (case yxR2 => k_is); (case yxn2_0 => k_is); (case yxn2_1 => k_is); (case yxn2_2 => k_is); (case yxn2_3 => k_is); (case yxn2_4 => k_is); (case yxn2_5 => k_is); (case yxn2_6 => k_is); (case yyA0q => k_is); (case yyE0q => k_is); (case yyD0q => k_is)
    (case yyT0q => k_is); (case yxw0 => k_is); (case yxx0 => k_is); (case yxy0 => k_is); (case yxQ0_0 => k_is); (case yxQ0_1 => k_is); (case yxQ0_2 => k_is); (case yxQ1_0 => k_is); (case yxQ1_1 => k_is); (case yxQ1_2 => k_is); (case yxQ2_0 => k_is); (case yxQ2_1 => k_is)
    (case yxQ2_2 => k_is); (case yxQ3_0 => k_is); (case yxQ3_1 => k_is); (case yxQ3_2 => k_is); (case yxz0 => k_is); (case yxz1 => k_is); (case yz0 => k_is); (case yz1 => k_is); (case yz2 => k_is); (case yz3 => k_is); (case yz4 => k_is); (case yz5 => k_is)
    (case yz6 => k_is); (case yz7 => k_is); (case yz8 => k_is); (case yz9 => k_is); (case yz10 => k_is); (case yz11 => k_is); (case yg0 => k_is); (case yh0 => k_is)
