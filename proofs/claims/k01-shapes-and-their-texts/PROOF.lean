import PyProof.Rows.All
import Wide.All
import OpenK.AllK
import Wide.FinOn
import HandS.ForMost
import HandS.More
import HandS.DictComp
import KE.KeyNested
import HandS.HeadHook1
import HandS.TupAny
import HandS.Deep
import HandS.Style
import HandS.Flow
import HandS.IsInst
import HandS.Conv
import HandS.ForExc
import HandS.SortRule
import HandS.TupLe
import KE.LtData
import HandS.Iter
import KE.GoesMore
import KE.GoesEnum
import HandS.Walk
import HandS.Set
import HandS.SetFor
import HandS.Strs
import PyProof.Rows.SortShellAny
import HandS.Small
import HandS.TryMany
import HandS.ExcIs
import HandS.ExcOwn
import HandS.CallRecv
import HandS.Defaults
import HandS.HeadHook2
import HandS.HeadEnd
import PySem.Challenge.RW_treesays_k01_shapes_and_their_texts
set_option Elab.async false
set_option linter.all false
set_option maxRecDepth 100000
/-! DL1: data as values, own syntax, what is wanted (weakest preconditions over data). -/
namespace DL
open PySem L2

abbrev Bs := List Nat
inductive D where
  | non | bl (b : Bool) | int (i : Int) | str (s : Bs) | tup (xs : List D) | lst (xs : List D) | dct (kvs : List (D × D)) | ref (a : Addr) | scr (ns : List Int)
deriving Inhabited
inductive DO where
  | lst (xs : List D) | dct (kvs : List (D × D)) | tdc (kvs : List (D × D)) | ins (c : Bs) (fs : List (Bs × D))
abbrev Sto := Addr → Option DO
def ups (S : Sto) (a : Addr) (o : DO) : Sto := fun b => if b = a then some o else S b
def del (S : Sto) (a : Addr) : Sto := fun b => if b = a then none else S b
abbrev SZ : Nat := 16777216

/-! ### equality -/
mutual
def dEq : D → D → Bool
  | .non, .non => true
  | .bl a, .bl b => a == b
  | .bl a, .int j => (if a then 1 else 0) == j
  | .int i, .bl b => i == (if b then 1 else 0)
  | .int i, .int j => i == j
  | .str s, .str t => s == t
  | .tup xs, .tup ys => dEqL xs ys
  | .lst xs, .lst ys => dEqL xs ys
  | _, _ => false
def dEqL : List D → List D → Bool
  | [], [] => true
  | x :: xs, y :: ys => dEq x y && dEqL xs ys
  | _, _ => false
end
/-- data that == may be asked of: no dicts, no references, nested at most n deep -/
def okd : Nat → D → Bool
  | _, .non => true
  | _, .bl _ => true
  | _, .int _ => true
  | _, .str s => s.all (· < 0x110000)
  | n + 1, .tup xs => xs.all (okd n)
  | n + 1, .lst xs => xs.all (okd n)
  | _, _ => false
abbrev okD (d : D) : Prop := okd 60 d = true

/-! ### reading -/
def keyb : D → D → Bool
  | .int i, .int j => i == j
  | .str s, .str t => s == t
  | _, _ => false
def isKey : D → Bool
  | .int _ => true
  | .str _ => true
  | _ => false
def lookD : List (D × D) → D → Option D
  | [], _ => none
  | (k, d) :: r, q => if keyb k q then some d else lookD r q
def putD : List (D × D) → D → D → List (D × D)
  | [], q, e => [(q, e)]
  | (k, d) :: r, q, e => if keyb k q then (k, e) :: r else (k, d) :: putD r q e
/-- a key that is a tuple, nested -/
def tkq : Nat → D → Bool
  | _, .non => true
  | _, .bl _ => true
  | _, .int _ => true
  | _, .str _ => true
  | n + 1, .tup xs => xs.all (tkq n)
  | _, _ => false
def isTK : D → Bool
  | .tup xs => xs.all (tkq 6)
  | _ => false
def lookT : List (D × D) → D → Option D
  | [], _ => none
  | (k, d) :: r, q => if dEq k q then some d else lookT r q
def putT : List (D × D) → D → D → List (D × D)
  | [], q, e => [(q, e)]
  | (k, d) :: r, q, e => if dEq k q then (k, e) :: r else (k, d) :: putT r q e
/-- the fields of an instance -/
def lookF : List (Bs × D) → Bs → Option D
  | [], _ => none
  | (k, d) :: r, q => if k == q then some d else lookF r q
def putFd : List (Bs × D) → Bs → D → List (Bs × D)
  | [], q, e => [(q, e)]
  | (k, d) :: r, q, e => if k == q then (k, e) :: r else (k, d) :: putFd r q e
def tru (S : Sto) : D → Option Bool
  | .non => some false
  | .bl b => some b
  | .int i => some (i != 0)
  | .str s => some (!s.isEmpty)
  | .tup xs => some (!xs.isEmpty)
  | .lst xs => some (!xs.isEmpty)
  | .dct kvs => none
  | .ref a => match S a with
    | some (.lst xs) => some (!xs.isEmpty)
    | some (.dct kvs) => some (!kvs.isEmpty)
    | _ => none
  | .scr _ => none
/-- a list or tuple, as it stands -/
def vw (S : Sto) : D → Option (List D)
  | .tup xs => some xs
  | .lst xs => some xs
  | .ref a => match S a with
    | some (.lst xs) => some xs
    | _ => none
  | _ => none
/-- a list, as it stands -/
def lvw (S : Sto) : D → Option (List D)
  | .lst xs => some xs
  | .ref a => match S a with
    | some (.lst xs) => some xs
    | _ => none
  | _ => none
def dvw (S : Sto) : D → Option (List (D × D))
  | .dct kvs => some kvs
  | .ref a => match S a with
    | some (.dct kvs) => some kvs
    | _ => none
  | _ => none
def atD {α : Type} (xs : List α) (i : Int) : Option α :=
  if 0 ≤ i then xs[i.toNat]? else if -(xs.length : Int) ≤ i then xs[(i + xs.length).toNat]? else none
def cutD {α : Type} (xs : List α) (lo hi : Option Int) : List α := (xs.drop (HT.sIx xs.length 0 lo)).take (HT.sIx xs.length xs.length hi - HT.sIx xs.length 0 lo)

/-! ### own syntax -/
inductive Op2 where
  | add | sub | mul | fdiv | mod
deriving DecidableEq
inductive Cm where
  | eq | ne | lt | le | gt | ge | is | isnt | isin | notin
deriving DecidableEq
inductive Bf where
  | len | abs | int | list | tuple | any | all | sum | sorted | dict
deriving DecidableEq
inductive B1 where
  | max | min | sstr | sdct | str
deriving DecidableEq
inductive Ty where
  | int | bool | str | tuple | list | dict
deriving DecidableEq
mutual
inductive Tg where
  | nm (i : Nat) | tup (ts : Tgs)
inductive Tgs where
  | nil | cons (t : Tg) (ts : Tgs)
end
mutual
inductive E where
  | var (i : Nat)
  | non | bl (b : Bool) | int (i : Int) | str (s : Bs)
  | glb (x : Str) (d : D)
  | tup (es : Es) | lst (es : Es) | newl (es : Es)
  | dct (es : Es) | newd | newk (es : Es)
  | bin (o : Op2) (a b : E)
  | neg (a : E) | not (a : E)
  | boo (an : Bool) (es : Es)
  | cmp (o : Cm) (a b : E)
  | chn (o p : Cm) (a b c : E)
  | ite (c a b : E)
  | idx (a i : E)
  | wget (x : Str) (kvs : List (D × D)) (i : E)
  | sl (a : E) (lo hi : Eo)
  | rev (a : E)
  | call (f : Nat) (es : Es)
  | bif (f : Bf) (a : E)
  | isi (t : Ty) (a : E)
  | join (sep a : E)
  | lc (elt : E) (tg : Tg) (it : Wk) (tt : Es) (own : List Nat)
  | frz (a : E)
  | copyd (a : E)
  | popl (a : E)
  | b1 (f : B1) (a : E)
  | ssrt (a : E) | slen (a : E)
  | dpop (a k d : E)
  | newt
  | dc (tk : Bool) (kx vx : E) (tg : Tg) (it : Wk) (own : List Nat)
  | lc2 (elt : E) (tg : Tg) (it : Wk) (tg1 : Tg) (it1 : Wk) (own own1 : List Nat)
  | revt (a : E) | revs (a : E)
  | slN (a : E) (lo hi : Eo)
  | fld (c : Bs) (a : E) (f : Bs)
  | mk (c : Bs) (i : Nat) (es : Es)
  | meth (c m : Bs) (i : Nat) (a : E) (es : Es)
inductive Es where
  | nil | cons (e : E) (es : Es)
inductive Eo where
  | none | some (e : E)
inductive Wk where
  | over (e : E) | rng1 (a : E) | rng2 (a b : E) | enum (a : E) | zip (a b : E)
end
/-- an except suite: return of a constant, of one of two constants by isinstance(e, the base class), of a comparison, of the error's field -/
inductive Su where
  | con (d : D) | isx (d e : D) | gt (i : Nat) (n : Int) | fld
inductive S where
  | set (t : Tg) (e : E)
  | aug (i : Nat) (o : Op2) (e : E)
  | put (o i e : E)
  | expr (e : E)
  | app (o e : E)
  | ret (e : E) | retN
  | ite (c : E) (a b : List S)
  | loop (c : E) (b : List S)
  | each (t : Tg) (it : Wk) (b : List S)
  | brk | cont | pass
  | fz (i : Nat)
  | par (i j : Nat) (a b : E)
  | rais (c : Nat)
  | tri (b : List S) (c : Nat) (x : Option Nat) (h : Su)
  | tri2 (b : List S) (c1 : Nat) (h1 : Su) (c2 : Nat) (h2 : Su)
  | ext (o e : E)
  | putf (c : Bs) (o : E) (f : Bs) (e : E)
  | unp2 (c : Bs) (i : Nat) (f1 f2 : Bs) (e : E)
  | augf (c : Bs) (o : E) (f : Bs) (op : Op2) (e : E)

/-! ### what is wanted -/
abbrev Env := List (Option D)
def get : Env → Nat → Option D
  | [], _ => none
  | x :: _, 0 => x
  | _ :: r, i + 1 => get r i
def put : Env → Nat → D → Env
  | [], _, _ => []
  | _ :: r, 0, d => some d :: r
  | x :: r, i + 1, d => x :: put r i d
def wip : Env → List Nat → Env
  | ρ, [] => ρ
  | ρ, v :: vs => (wip ρ vs).set v none
abbrev QD := D → Sto → Prop
abbrev QX := Nat → D → Sto → Prop
abbrev DSp := List D → Sto → QD → QX → Prop
structure Gx where
  spec : Nat → DSp
  spc : Nat → DSp
  xq : QX

def Gx.nox (G : Gx) : Gx := { G with xq := fun _ _ _ => False }
def IMul (i j : Int) : Prop := (-(2 ^ 64) < i ∧ i < 2 ^ 64) ∨ (-(2 ^ 64) < j ∧ j < 2 ^ 64) ∨ (i.natAbs < 2 ^ 500000 ∧ j.natAbs < 2 ^ 400000)
def wBin (o : Op2) (x y : D) (Q : D → Prop) : Prop :=
  match o, x, y with
  | .add, .int i, .int j => Q (.int (i + j))
  | .add, .str s, .str t => s.length + t.length ≤ SZ ∧ Q (.str (s ++ t))
  | .add, .tup s, .tup t => s.length + t.length ≤ SZ ∧ Q (.tup (s ++ t))
  | .add, .lst s, .lst t => s.length + t.length ≤ SZ ∧ Q (.lst (s ++ t))
  | .sub, .int i, .int j => Q (.int (i - j))
  | .mul, .int i, .int j => ((-(2 ^ 64) < i ∧ i < 2 ^ 64) ∨ (-(2 ^ 64) < j ∧ j < 2 ^ 64)) ∧ Q (.int (i * j))
  | .fdiv, .int i, .int j => (0 < j ∧ j < 1073741824) ∧ Q (.int (i / j))
  | .mod, .int i, .int j => 0 < j ∧ Q (.int (i % j))
  | _, _, _ => False
/-- += on ints -/
def wAug (o : Op2) (x y : D) (Q : D → Prop) : Prop :=
  match o, x, y with
  | .add, .int i, .int j => Q (.int (i + j))
  | .sub, .int i, .int j => Q (.int (i - j))
  | _, _, _ => False
def wCmp (o : Cm) (x y : D) (St : Sto) (Q : Bool → Prop) : Prop :=
  match o with
  | .eq => okD x ∧ okD y ∧ Q (dEq x y)
  | .ne => okD x ∧ okD y ∧ Q (!dEq x y)
  | .lt => match x, y with
    | .int i, .int j => Q (decide (i < j))
    | .str s, .str t => Q (decide (s < t))
    | _, _ => False
  | .le => match x, y with
    | .int i, .int j => Q (decide (i ≤ j))
    | .str s, .str t => Q (!decide (t < s))
    | _, _ => False
  | .gt => match x, y with
    | .int i, .int j => Q (decide (j < i))
    | .str s, .str t => Q (decide (t < s))
    | _, _ => False
  | .ge => match x, y with
    | .int i, .int j => Q (decide (j ≤ i))
    | .str s, .str t => Q (!decide (s < t))
    | _, _ => False
  | .is => match y with
    | .non => Q (match x with | .non => true | _ => false)
    | .bl b => match x with | .bl a => Q (decide (a = b)) | _ => False
    | _ => False
  | .isnt => match y with
    | .non => Q (!(match x with | .non => true | _ => false))
    | .bl b => match x with | .bl a => Q (!decide (a = b)) | _ => False
    | _ => False
  | .isin => match y with
    | .str t => match x with | .str [c] => Q (decide (c ∈ t)) | _ => False
    | .dct kvs => isKey x = true ∧ Q (lookD kvs x).isSome
    | .tup ds => okD x ∧ okD (.tup ds) ∧ Q (ds.any fun z => dEq z x)
    | .lst ds => okD x ∧ okD (.lst ds) ∧ Q (ds.any fun z => dEq z x)
    | .ref a => match St a with
      | some (.lst ds) => okD x ∧ okD (.lst ds) ∧ Q (ds.any fun z => dEq z x)
      | some (.dct kvs) => isKey x = true ∧ Q (lookD kvs x).isSome
      | some (.tdc kvs) => isTK x = true ∧ Q (lookT kvs x).isSome
      | _ => False
    | _ => False
  | .notin => match y with
    | .str t => match x with | .str [c] => Q (!decide (c ∈ t)) | _ => False
    | .dct kvs => isKey x = true ∧ Q (!(lookD kvs x).isSome)
    | .tup ds => okD x ∧ okD (.tup ds) ∧ Q (!(ds.any fun z => dEq z x))
    | .lst ds => okD x ∧ okD (.lst ds) ∧ Q (!(ds.any fun z => dEq z x))
    | .ref a => match St a with
      | some (.lst ds) => okD x ∧ okD (.lst ds) ∧ Q (!(ds.any fun z => dEq z x))
      | some (.dct kvs) => isKey x = true ∧ Q (!(lookD kvs x).isSome)
      | some (.tdc kvs) => isTK x = true ∧ Q (!(lookT kvs x).isSome)
      | _ => False
    | _ => False
def wIdx (St : Sto) (x y : D) (Q : D → Prop) : Prop :=
  match x, y with
  | .tup ds, .int i => ∃ d, atD ds i = some d ∧ Q d
  | .lst ds, .int i => ∃ d, atD ds i = some d ∧ Q d
  | .str s, .int i => ∃ c, atD s i = some c ∧ Q (.str [c])
  | .dct kvs, k => isKey k = true ∧ ∃ d, lookD kvs k = some d ∧ Q d
  | .ref a, k => match St a with
    | some (.lst ds) => match k with
      | .int i => ∃ d, atD ds i = some d ∧ Q d
      | _ => False
    | some (.dct kvs) => isKey k = true ∧ ∃ d, lookD kvs k = some d ∧ Q d
    | some (.tdc kvs) => isTK k = true ∧ ∃ d, lookT kvs k = some d ∧ Q d
    | _ => False
  | _, _ => False
def wSl (St : Sto) (x : D) (lo hi : Option Int) (Q : D → Prop) : Prop :=
  match x with
  | .tup ds => Q (.tup (cutD ds lo hi))
  | .lst ds => Q (.lst (cutD ds lo hi))
  | .str s => Q (.str (cutD s lo hi))
  | .ref a => match St a with
    | some (.lst ds) => Q (.lst (cutD ds lo hi))
    | _ => False
  | _ => False
def boolsD : List D → Option (List Bool)
  | [] => some []
  | .bl b :: r => (boolsD r).map (b :: ·)
  | _ :: _ => none
def intsD : List D → Option (List Int)
  | [] => some []
  | .int i :: r => (intsD r).map (i :: ·)
  | _ :: _ => none
def strsD : List D → Option (List Bs)
  | [] => some []
  | .str s :: r => (strsD r).map (s :: ·)
  | _ :: _ => none
def sumI (l : List Int) : Int := l.sum
/-- the order of sorted: intsD, texts, tuples of intsD -/
def ltInts : List Int → List Int → Bool
  | [], [] => false
  | [], _ :: _ => true
  | _ :: _, [] => false
  | a :: s, b :: t => if a = b then ltInts s t else decide (a < b)
def tupInts : D → Option (List Int)
  | .tup ds => intsD ds
  | _ => none
def itD (ns : List Int) : D := .tup (ns.map .int)
def itsD : List D → Option (List (List Int))
  | [] => some []
  | d :: r => match tupInts d, itsD r with
    | some a, some b => some (a :: b)
    | _, _ => none
def insD (le : D → D → Bool) (x : D) : List D → List D
  | [] => [x]
  | y :: r => if le x y then x :: y :: r else y :: insD le x r
def lenD (St : Sto) : D → Option Nat
  | .str s => some s.length
  | .tup xs => some xs.length
  | .lst xs => some xs.length
  | .ref a => match St a with
    | some (.lst xs) => some xs.length
    | some (.dct xs) => none
    | _ => none
  | _ => none
def wBf (f : Bf) (x : D) (St : Sto) (Q : D → Prop) : Prop :=
  match f with
  | .len => ∃ n, lenD St x = some n ∧ Q (.int n)
  | .abs => match x with | .int i => Q (.int (if i < 0 then -i else i)) | _ => False
  | .int => match x with | .int i => Q (.int i) | .bl b => Q (.int (if b then 1 else 0)) | _ => False
  | .list => ∃ ds, vw St x = some ds ∧ Q (.lst ds)
  | .tuple => ∃ ds, vw St x = some ds ∧ Q (.tup ds)
  | .any => ∃ ds bs, vw St x = some ds ∧ (∀ t, x ≠ .tup t) ∧ boolsD ds = some bs ∧ Q (.bl (bs.any id))
  | .all => ∃ ds bs, vw St x = some ds ∧ (∀ t, x ≠ .tup t) ∧ boolsD ds = some bs ∧ Q (.bl (bs.all id))
  | .sum => ∃ ds ns, vw St x = some ds ∧ (∀ t, x ≠ .tup t) ∧ intsD ds = some ns ∧ Q (.int ns.sum)
  | .sorted => ∃ ds nss, vw St x = some ds ∧ (∀ t, x ≠ .tup t) ∧ itsD ds = some nss ∧ (∀ (ns : List Int) (rest : List (List Int)), nss = ns :: rest → ns = []) ∧ ∀ ys : List (List Int), ys.Perm nss → ys.Pairwise (fun a b => ltInts b a = false) → Q (.lst (ys.map itD))
  | .dict => False
/-- a number's text -/
def decS (i : Int) : Bs := (Str.ofString (toString i)).cps.toList
def wB1 (f : B1) (x : D) (St : Sto) (Q : D → Prop) : Prop :=
  match f with
  | .max => ∃ ds ns, vw St x = some ds ∧ (∀ t, x ≠ .tup t) ∧ intsD ds = some ns ∧ 0 < ns.length ∧ ∀ m, m ∈ ns → (∀ y, y ∈ ns → y ≤ m) → Q (.int m)
  | .min => ∃ ds ns, vw St x = some ds ∧ (∀ t, x ≠ .tup t) ∧ intsD ds = some ns ∧ 0 < ns.length ∧ ∀ m, m ∈ ns → (∀ y, y ∈ ns → m ≤ y) → Q (.int m)
  | .sstr => ∃ ds ts, vw St x = some ds ∧ (∀ t, x ≠ .tup t) ∧ strsD ds = some ts ∧ ts.length < 64 ∧ ∀ ys : List Bs, ys.Perm ts → (ys.Pairwise fun a b => ¬ b < a) → Q (.lst (ys.map .str))
  | .sdct => ∃ kvs ts, dvw St x = some kvs ∧ strsD (kvs.map (·.1)) = some ts ∧ ts.length < 64 ∧ (∀ y ∈ ts, y.length ≤ SZ) ∧ ∀ ys : List Bs, ys.Perm ts → (ys.Pairwise fun a b => ¬ b < a) → Q (.lst (ys.map .str))
  | .str => match x with | .int i => (i.natAbs.log2 < 1920 ∧ (decS i).length ≤ 1000) ∧ Q (.str (decS i)) | _ => False
def dropD (kvs : List (D × D)) (y : D) : List (D × D) := kvs.filter fun kv => !keyb kv.1 y
inductive Tk where
  | non | bool | int | str | tuple | list | dict
deriving DecidableEq
def tkD (St : Sto) : D → Option Tk
  | .non => some .non
  | .bl _ => some .bool
  | .int _ => some .int
  | .str _ => some .str
  | .tup _ => some .tuple
  | .lst _ => some .list
  | .dct _ => some .dict
  | .ref a => match St a with
    | some (.lst _) => some .list
    | some (.dct _) => some .dict
    | _ => none
  | .scr _ => none
def isK : Ty → Tk → Bool
  | .int, .int => true
  | .int, .bool => true
  | .bool, .bool => true
  | .str, .str => true
  | .tuple, .tuple => true
  | .list, .list => true
  | .dict, .dict => true
  | _, _ => false
mutual
def bindT : Tg → D → Env → (Env → Prop) → Prop
  | .nm i, d, ρ, Q => Q (put ρ i d)
  | .tup ts, .tup ds, ρ, Q => bindTs ts ds ρ Q
  | _, _, _, _ => False
def bindTs : Tgs → List D → Env → (Env → Prop) → Prop
  | .nil, [], ρ, Q => Q ρ
  | .cons t ts, d :: ds, ρ, Q => bindT t d ρ fun ρ' => bindTs ts ds ρ' Q
  | _, _, _, _ => False
end
/-- the items of a comprehension, one after the other -/
def loopL (f : D → Sto → (List D → Sto → Prop) → Prop) : List D → Sto → (List D → Sto → Prop) → Prop
  | [], St, Q => Q [] St
  | d :: ds, St, Q => f d St fun ys S1 => loopL f ds S1 fun zs S2 => Q (ys ++ zs) S2
/-- a dict comprehension: okK says what a key is, pt puts -/
def okX (tk : Bool) (d : D) : Bool := match tk with
  | true => isTK d
  | false => isKey d
def putX (tk : Bool) (kvs : List (D × D)) (k v : D) : List (D × D) := match tk with
  | true => putT kvs k v
  | false => putD kvs k v
def mkD (tk : Bool) (kvs : List (D × D)) : DO := match tk with
  | true => .tdc kvs
  | false => .dct kvs
def dcL (tk : Bool) (f : D → Sto → (D → D → Sto → Prop) → Prop) : List D → List (D × D) → Sto → (List (D × D) → Sto → Prop) → Prop
  | [], kvs, St, Q => Q kvs St
  | d :: ds, kvs, St, Q => f d St fun k v S1 => (okX tk k = true ∧ kvs.length < SZ) ∧ dcL tk f ds (putX tk kvs k v) S1 Q
def pairsD : List D → Option (List (D × D))
  | [] => some []
  | k :: v :: r => (pairsD r).map ((k, v) :: ·)
  | _ => none
def enumD : Nat → List D → List D
  | _, [] => []
  | n, d :: r => .tup [.int n, d] :: enumD (n + 1) r
def zipD : List D → List D → List D
  | a :: r, b :: s => .tup [a, b] :: zipD r s
  | _, _ => []
def rangeD (lo : Int) : Nat → List D
  | 0 => []
  | n + 1 => .int lo :: rangeD (lo + 1) n

/-- a value's end: as a test its truth -/
def fin (t : Bool) (d : D) (St : Sto) (Q : QD) : Prop := match t with
  | false => Q d St
  | true => ∃ b, tru St d = some b ∧ Q (.bl b) St
/-- of a test's value -/
def mB (Q : Bool → Sto → Prop) : QD := fun d S => match d with
  | .bl b => Q b S
  | _ => False
mutual
/-- t: as a test; what comes is then a Bool -/
def wX (G : Gx) (t : Bool) : E → Env → Sto → QD → Prop
  | .var i, ρ, St, Q => ∃ d, get ρ i = some d ∧ fin t d St Q
  | .non, _, St, Q => fin t .non St Q
  | .bl b, _, St, Q => fin t (.bl b) St Q
  | .int i, _, St, Q => fin t (.int i) St Q
  | .str s, _, St, Q => fin t (.str s) St Q
  | .glb _ d, _, St, Q => fin t d St Q
  | .tup es, ρ, St, Q => wEs G es ρ St fun ds S1 => fin t (.tup ds) S1 Q
  | .lst es, ρ, St, Q => wEs G es ρ St fun ds S1 => fin t (.lst ds) S1 Q
  | .newl es, ρ, St, Q => wEs G es ρ St fun ds S1 => ∀ p, S1 p = none → fin t (.ref p) (ups S1 p (.lst ds)) Q
  | .dct es, ρ, St, Q => wEs G es ρ St fun ds S1 => ∃ kvs, pairsD ds = some kvs ∧ (kvs.map (·.1)).all isKey = true ∧ (kvs.map (·.1)).Nodup ∧ fin t (.dct kvs) S1 Q
  | .newk es, ρ, St, Q => wEs G es ρ St fun ds S1 => ∃ kvs, pairsD ds = some kvs ∧ (kvs.map (·.1)).all isKey = true ∧ (kvs.map (·.1)).Nodup ∧ ∀ p, S1 p = none → fin t (.ref p) (ups S1 p (.dct kvs)) Q
  | .newd, _, St, Q => ∀ p, St p = none → fin t (.ref p) (ups St p (.dct [])) Q
  | .bin o a b, ρ, St, Q => wX G false a ρ St fun x S1 => wX G false b ρ S1 fun y S2 => wBin o x y fun z => fin t z S2 Q
  | .neg a, ρ, St, Q => wX G false a ρ St fun x S1 => match x with | .int i => fin t (.int (-i)) S1 Q | _ => False
  | .not a, ρ, St, Q => match t with
    | false => wX G false a ρ St fun x S1 => ∃ b, tru S1 x = some b ∧ Q (.bl (!b)) S1
    | true => wX G true a ρ St (mB fun b S1 => Q (.bl (!b)) S1)
  | .boo an es, ρ, St, Q => wB G t an es ρ St Q
  | .cmp o a b, ρ, St, Q => wX G false a ρ St fun x S1 => wX G false b ρ S1 fun y S2 => wCmp o x y S2 fun k => Q (.bl k) S2
  | .chn o p a b c, ρ, St, Q => wX G false a ρ St fun x S1 => wX G false b ρ S1 fun y S2 => wCmp o x y S2 fun k => if k = true then wX G false c ρ S2 fun z S3 => wCmp p y z S3 fun l => Q (.bl l) S3 else Q (.bl false) S2
  | .ite c a b, ρ, St, Q => match t with
    | false => wX G true c ρ St (mB fun k S1 => if k = true then wX G false a ρ S1 Q else wX G false b ρ S1 Q)
    | true => False
  | .idx a i, ρ, St, Q => wX G false a ρ St fun x S1 => wX G false i ρ S1 fun y S2 => wIdx S2 x y fun z => fin t z S2 Q
  | .wget _ kvs i, ρ, St, Q => wX G false i ρ St fun y S1 => isKey y = true ∧ ∃ d, lookD kvs y = some d ∧ fin t d S1 Q
  | .sl a lo hi, ρ, St, Q => wX G false a ρ St fun x S1 => wEo G lo ρ S1 fun l S2 => wEo G hi ρ S2 fun h S3 => wSl S3 x l h fun z => fin t z S3 Q
  | .rev a, ρ, St, Q => wX G false a ρ St fun x S1 => ∃ ds, vw S1 x = some ds ∧ (∀ t, x ≠ .tup t) ∧ fin t (.lst ds.reverse) S1 Q
  | .call f es, ρ, St, Q => wEs G es ρ St fun ds S1 => G.spec f ds S1 (fun d S2 => fin t d S2 Q) G.xq
  | .bif f a, ρ, St, Q => wX G false a ρ St fun x S1 => wBf f x S1 fun z => fin t z S1 Q
  | .isi u a, ρ, St, Q => wX G false a ρ St fun x S1 => ∃ k, tkD S1 x = some k ∧ fin t (.bl (isK u k)) S1 Q
  | .join a b, ρ, St, Q => wX G false a ρ St fun x S1 => match x with
    | .str s => wX G false b ρ S1 fun y S2 => ∃ ds ts, vw S2 y = some ds ∧ strsD ds = some ts ∧ (ts.map (·.length)).sum + ts.length * s.length ≤ 16777216 ∧ fin t (.str (TL.joinL s ts)) S2 Q
    | _ => False
  | .lc elt tg it tt own, ρ, St, Q => wIt G it ρ St fun ds S1 =>
      loopL (fun d S2 k => bindT tg d (wip ρ own) fun ρ' => wTs G.nox tt ρ' S2 fun b S3 => if b = true then wX G.nox false elt ρ' S3 fun y S4 => k [y] S4 else k [] S3) ds S1 fun ys S2 => fin t (.lst ys) S2 Q
  | .frz a, ρ, St, Q => wX G false a ρ St fun x S1 => match x with
    | .ref p => match S1 p with
      | some (.lst ds) => fin t (.lst ds) (del S1 p) Q
      | some (.dct kvs) => fin t (.dct kvs) (del S1 p) Q
      | _ => False
    | _ => False
  | .popl a, ρ, St, Q => wX G false a ρ St fun x S1 => match x with
    | .ref p => match S1 p with
      | some (.lst ds) => ∃ (init : List D) (last : D), ds = init ++ [last] ∧ fin t last (ups S1 p (.lst init)) Q
      | _ => False
    | _ => False
  | .b1 f a, ρ, St, Q => wX G false a ρ St fun x S1 => wB1 f x S1 fun z => fin t z S1 Q
  | .ssrt a, ρ, St, Q => wX G false a ρ St fun x S1 => ∃ ds ts, vw S1 x = some ds ∧ strsD ds = some ts ∧ ts.length < 64 ∧ ∀ ys : List Bs, ys.Nodup → (ys.Pairwise fun a b => ¬ b < a) → (∀ k, k ∈ ys ↔ k ∈ ts) → ys.length ≤ ts.length → fin t (.lst (ys.map .str)) S1 Q
  | .slen a, ρ, St, Q => wX G false a ρ St fun x S1 => ∃ ds ts, vw S1 x = some ds ∧ strsD ds = some ts ∧ ts.length < 64 ∧ ∀ n : Nat, (∃ ys : List Bs, ys.Nodup ∧ (∀ k, k ∈ ys ↔ k ∈ ts) ∧ ys.length = n) → fin t (.int n) S1 Q
  | .dpop a k d, ρ, St, Q => wX G false a ρ St fun x S1 => ∃ p, x = .ref p ∧ (∃ kvs, S1 p = some (.dct kvs)) ∧ wX G false k ρ S1 fun y S2 => wX G false d ρ S2 fun z S3 =>
      ∃ kvs, S3 p = some (.dct kvs) ∧ isKey y = true ∧ (∀ e, lookD kvs y = some e → fin t e (ups S3 p (.dct (dropD kvs y))) Q) ∧ (lookD kvs y = none → fin t z S3 Q)
  | .copyd a, ρ, St, Q => wX G false a ρ St fun x S1 => ∃ kvs, dvw S1 x = some kvs ∧ (kvs.map (·.1)).Nodup ∧ ∀ p, S1 p = none → fin t (.ref p) (ups S1 p (.dct kvs)) Q
  | .newt, _, St, Q => ∀ p, St p = none → fin t (.ref p) (ups St p (.tdc [])) Q
  | .dc tk kx vx tg it own, ρ, St, Q => wIt G it ρ St fun ds S1 =>
      dcL tk (fun d S2 k => bindT tg d (wip ρ own) fun ρ' => wX G.nox false kx ρ' S2 fun a S3 => wX G.nox false vx ρ' S3 fun b S4 => k a b S4) ds [] S1 fun kvs S2 => ∀ p, S2 p = none → fin t (.ref p) (ups S2 p (mkD tk kvs)) Q
  | .lc2 elt tg it tg1 it1 own own1, ρ, St, Q => wIt G it ρ St fun ds S1 => ds.length ≤ 4096 ∧
      loopL (fun d S2 k => bindT tg d (wip ρ own) fun ρ' => wIt G.nox it1 ρ' S2 fun es S3 => es.length ≤ 4096 ∧ loopL (fun e S4 k1 => bindT tg1 e (wip ρ' own1) fun ρ2 => wX G.nox false elt ρ2 S4 fun y S5 => k1 [y] S5) es S3 k) ds S1 fun ys S2 => fin t (.lst ys) S2 Q
  | .revt a, ρ, St, Q => wX G false a ρ St fun x S1 => match x with | .tup ds => fin t (.tup ds.reverse) S1 Q | _ => False
  | .revs a, ρ, St, Q => wX G false a ρ St fun x S1 => match x with | .tup ds => fin t (.tup (ds.drop 1).reverse) S1 Q | _ => False
  | .slN a lo hi, ρ, St, Q => wX G false a ρ St fun x S1 => wEo G lo ρ S1 fun l S2 => wEo G hi ρ S2 fun h S3 => ∃ ds, lvw S3 x = some ds ∧ ∀ p, S3 p = none → fin t (.ref p) (ups S3 p (.lst (cutD ds l h))) Q
  | .fld c a f, ρ, St, Q => wX G false a ρ St fun x S1 => match x with
    | .ref p => match S1 p with
      | some (.ins c' fs) => c' = c ∧ ∃ d, lookF fs f = some d ∧ fin t d S1 Q
      | _ => False
    | _ => False
  | .mk c i es, ρ, St, Q => wEs G es ρ St fun ds S1 => ∀ p, S1 p = none → G.spc i (.ref p :: ds) (ups S1 p (.ins c [])) (fun d S2 => d = .non ∧ fin t (.ref p) S2 Q) G.xq
  | .meth c m i a es, ρ, St, Q => wX G false a ρ St fun x S1 => ∃ p fs, x = .ref p ∧ S1 p = some (.ins c fs) ∧ lookF fs m = none ∧ wEs G es ρ S1 fun ds S2 => G.spec i (x :: ds) S2 (fun d S3 => fin t d S3 Q) G.xq
def wEs (G : Gx) : Es → Env → Sto → (List D → Sto → Prop) → Prop
  | .nil, _, St, Q => Q [] St
  | .cons e es, ρ, St, Q => wX G false e ρ St fun x S1 => wEs G es ρ S1 fun xs S2 => Q (x :: xs) S2
def wEo (G : Gx) : Eo → Env → Sto → (Option Int → Sto → Prop) → Prop
  | .none, _, St, Q => Q none St
  | .some e, ρ, St, Q => wX G false e ρ St fun x S1 => match x with | .int i => Q (some i) S1 | _ => False
/-- and, or: as values, as tests -/
def wB (G : Gx) (t : Bool) (an : Bool) : Es → Env → Sto → QD → Prop
  | .nil, _, _, _ => False
  | .cons e .nil, ρ, St, Q => wX G t e ρ St Q
  | .cons e (.cons f es), ρ, St, Q => match t with
    | false => wX G false e ρ St fun x S1 => ∃ b, tru S1 x = some b ∧ if b = an then wB G false an (.cons f es) ρ S1 Q else Q x S1
    | true => wX G true e ρ St (mB fun b S1 => if b = an then wB G true an (.cons f es) ρ S1 Q else Q (.bl b) S1)
/-- the tests of a comprehension: none or one -/
def wTs (G : Gx) : Es → Env → Sto → (Bool → Sto → Prop) → Prop
  | .nil, _, St, Q => Q true St
  | .cons e .nil, ρ, St, Q => wX G true e ρ St (mB Q)
  | .cons _ (.cons _ _), _, _, _ => False
def wIt (G : Gx) : Wk → Env → Sto → (List D → Sto → Prop) → Prop
  | .over e, ρ, St, Q => wX G false e ρ St fun x S1 => match x with
    | .tup ds => Q ds S1
    | .lst ds => Q ds S1
    | .str s => Q (s.map fun c => .str [c]) S1
    | .scr ns => Q (ns.map .int) S1
    | _ => False
  | .rng1 a, ρ, St, Q => wX G false a ρ St fun x S1 => match x with | .int j => (j ≤ 16777216 ∧ -(2 ^ 62) ≤ j) ∧ Q (rangeD 0 j.toNat) S1 | _ => False
  | .rng2 a b, ρ, St, Q => wX G false a ρ St fun x S1 => wX G false b ρ S1 fun y S2 => match x, y with
    | .int i, .int j => (-(2 ^ 62) ≤ i ∧ i < 2 ^ 62 ∧ -(2 ^ 62) ≤ j ∧ j < 2 ^ 62 ∧ j - i ≤ 16777216) ∧ Q (rangeD i (j - i).toNat) S2
    | _, _ => False
  | .enum e, ρ, St, Q => wX G false e ρ St fun x S1 => match x with
    | .lst ds => Q (enumD 0 ds) S1
    | .tup ds => Q (enumD 0 ds) S1
    | _ => False
  | .zip a b, ρ, St, Q => wX G false a ρ St fun x S1 => wX G false b ρ S1 fun y S2 => match x, y with
    | .lst ds, .lst es => Q (zipD ds es) S2
    | _, _ => False
end
abbrev wE (G : Gx) (e : E) (ρ : Env) (St : Sto) (Q : QD) : Prop := wX G false e ρ St Q
abbrev wT (G : Gx) (e : E) (ρ : Env) (St : Sto) (Q : Bool → Sto → Prop) : Prop := wX G true e ρ St (mB Q)

structure Ks where
  nx : Env → Sto → Prop
  rt : QD
  bk : Env → Sto → Prop
  ct : Env → Sto → Prop
def forL (f : D → Env → Sto → (Env → Sto → Prop) → Prop) : List D → Env → Sto → (Env → Sto → Prop) → Prop
  | [], ρ, St, q => q ρ St
  | d :: ds, ρ, St, q => f d ρ St fun ρ' S' => forL f ds ρ' S' q
def whileN (c : Env → Sto → (Bool → Sto → Prop) → Prop) (b : Env → Sto → (Env → Sto → Prop) → Prop) : Nat → Env → Sto → (Env → Sto → Prop) → Prop
  | 0, _, _, _ => False
  | n + 1, ρ, St, q => c ρ St fun k S1 => if k = true then b ρ S1 fun ρ' S' => whileN c b n ρ' S' q else q ρ S1
mutual
def asgTg : Tg → List Nat
  | .nm i => [i]
  | .tup ts => asgTgs ts
def asgTgs : Tgs → List Nat
  | .nil => []
  | .cons t ts => asgTg t ++ asgTgs ts
end
mutual
/-- the slots that are stored to -/
def asgS : S → List Nat
  | .set t _ => asgTg t
  | .aug i _ _ => [i]
  | .ite _ a b => asgSs a ++ asgSs b
  | .loop _ b => asgSs b
  | .each t _ b => asgTg t ++ asgSs b
  | .par i j _ _ => [i, j]
  | .tri b _ (some i) _ => i :: asgSs b
  | .tri b _ none _ => asgSs b
  | .tri2 b _ _ _ _ => asgSs b
  | _ => []
def asgSs : List S → List Nat
  | [] => []
  | s :: r => asgS s ++ asgSs r
end
/-- an except suite, d what the error bears -/
def wSu : Su → Env → D → Sto → QD → Prop
  | .con e, _, _, S, q => q e S
  | .isx e _, _, d, S, q => d = .non ∧ q e S
  | .gt i n, ρ, _, S, q => ∃ j, get ρ i = some (.int j) ∧ q (.bl (decide (n < j))) S
  | .fld, _, d, S, q => q d S
/-- how many classes of errors -/
abbrev NX : Nat := 8
mutual
def wS (G : Gx) : S → Env → Sto → Ks → Prop
  | .set t e, ρ, St, K => wE G e ρ St fun x S1 => bindT t x ρ fun ρ' => K.nx ρ' S1
  | .aug i o e, ρ, St, K => ∃ x, get ρ i = some x ∧ wE G e ρ St fun y S1 => wAug o x y fun z => K.nx (put ρ i z) S1
  | .put o i e, ρ, St, K => wE G e ρ St fun v S1 => wE G o ρ S1 fun x S2 => wE G i ρ S2 fun y S3 => match x with
    | .ref a => match S3 a with
      | some (.dct kvs) => isKey y = true ∧ kvs.length < SZ ∧ K.nx ρ (ups S3 a (.dct (putD kvs y v)))
      | some (.tdc kvs) => isTK y = true ∧ kvs.length < SZ ∧ K.nx ρ (ups S3 a (.tdc (putT kvs y v)))
      | some (.lst ds) => match y with
        | .int k => ∃ j, ixN ds.length k = some j ∧ K.nx ρ (ups S3 a (.lst (ds.set j v)))
        | _ => False
      | _ => False
    | _ => False
  | .expr e, ρ, St, K => wE G e ρ St fun _ S1 => K.nx ρ S1
  | .app o e, ρ, St, K => wE G o ρ St fun x S1 => ∃ a, x = .ref a ∧ (∃ ds, S1 a = some (.lst ds)) ∧ wE G e ρ S1 fun y S2 => ∃ ds, S2 a = some (.lst ds) ∧ ds.length < SZ ∧ K.nx ρ (ups S2 a (.lst (ds ++ [y])))
  | .ret e, ρ, St, K => wE G e ρ St K.rt
  | .retN, _, St, K => K.rt .non St
  | .ite c a b, ρ, St, K => wT G c ρ St fun k S1 => if k = true then wSs G a ρ S1 K else wSs G b ρ S1 K
  | .loop c b, ρ, St, K => ∃ n, whileN (wT G c) (fun ρ S1 q => wSs G b ρ S1 { nx := q, rt := K.rt, bk := K.nx, ct := q }) n ρ St K.nx
  | .each t it b, ρ, St, K => wIt G it ρ St fun ds S1 => forL (fun d ρ S2 q => bindT t d ρ fun ρ' => wSs G b ρ' S2 { nx := q, rt := K.rt, bk := K.nx, ct := q }) ds ρ S1 K.nx
  | .brk, ρ, St, K => K.bk ρ St
  | .cont, ρ, St, K => K.ct ρ St
  | .pass, ρ, St, K => K.nx ρ St
  | .fz i, ρ, St, K => ∃ a, get ρ i = some (.ref a) ∧ match St a with
    | some (.lst ds) => K.nx (put ρ i (.lst ds)) (del St a)
    | some (.dct kvs) => K.nx (put ρ i (.dct kvs)) (del St a)
    | _ => False
  | .rais c, _, St, _ => c < NX ∧ G.xq c .non St
  | .tri b c none h, ρ, St, K => wSs { G with xq := fun c' d S' => c' < NX ∧ if c' = c then wSu h (wip ρ (asgSs b)) d S' K.rt else G.xq c' d S' } b ρ St K
  | .tri b c (some i) h, ρ, St, K => wSs { G with xq := fun c' d S' => c' < NX ∧ if c' = c then wSu h (wip ρ (i :: asgSs b)) d S' K.rt else G.xq c' d S' } b ρ St K
  | .tri2 b c1 h1 c2 h2, ρ, St, K => wSs { G with xq := fun c' d S' => c' < NX ∧ if c' = c1 then wSu h1 (wip ρ (asgSs b)) d S' K.rt else if c' = c2 then wSu h2 (wip ρ (asgSs b)) d S' K.rt else G.xq c' d S' } b ρ St K
  | .ext o e, ρ, St, K => wE G o ρ St fun x S1 => ∃ a, x = .ref a ∧ (∃ ds, S1 a = some (.lst ds)) ∧ wE G e ρ S1 fun y S2 => match y with
    | .lst es => ∃ ds, S2 a = some (.lst ds) ∧ ds.length + es.length ≤ SZ ∧ K.nx ρ (ups S2 a (.lst (ds ++ es)))
    | _ => False
  | .putf c o f e, ρ, St, K => wE G e ρ St fun v S1 => wE G o ρ S1 fun x S2 => match x with
    | .ref a => match S2 a with
      | some (.ins c' fs) => (c' = c ∧ fs.length < 1000) ∧ K.nx ρ (ups S2 a (.ins c (putFd fs f v)))
      | _ => False
    | _ => False
  | .unp2 c i f1 f2 e, ρ, St, K => wE G e ρ St fun v S1 => ∃ a fs d1 d2, get ρ i = some (.ref a) ∧ v = .tup [d1, d2] ∧ S1 a = some (.ins c fs) ∧ fs.length < 990 ∧ K.nx ρ (ups S1 a (.ins c (putFd (putFd fs f1 d1) f2 d2)))
  | .augf c o f op e, ρ, St, K => wE G o ρ St fun x S1 => match x with
    | .ref a => match S1 a with
      | some (.ins c' fs) => c' = c ∧ ∃ d, lookF fs f = some d ∧ wE G e ρ S1 fun y S2 => wAug op d y fun z => match S2 a with
        | some (.ins c2 fs2) => (c2 = c ∧ fs2.length < 1000) ∧ K.nx ρ (ups S2 a (.ins c (putFd fs2 f z)))
        | _ => False
      | _ => False
    | _ => False
  | .par i j a b, ρ, St, K => wE G a ρ St fun x S1 => wE G b ρ S1 fun y S2 => K.nx (put (put ρ i x) j y) S2
def wSs (G : Gx) : List S → Env → Sto → Ks → Prop
  | [], ρ, St, K => K.nx ρ St
  | s :: r, ρ, St, K => wS G s ρ St { K with nx := fun ρ' S' => wSs G r ρ' S' K }
end
end DL
/-! DLN: dicts whose keys are tuples, nested. -/
namespace DL
open PySem PySem.Spec PyProof.Rows L2

/-- one entry -/
abbrev Ent := NestedKey × Addr × Value
/-- the dict at a with these entries, its keys nested tuples -/
def DNo (w : World) (a : Addr) (xs : List Ent) : HO := .ext fun h => xs.length ≤ sizeLine ∧ (a == sysModules) = false ∧ ∃ o es ep, h.get? a = some o ∧ o.ExactDict ∧ o.data = .dict es ep ∧
  es.toList = xs.map (fun x => ⟨x.1.hash w, .ref x.2.1, x.2.2⟩) ∧ (xs.map (·.1)).Nodup
mutual
/-- the value v is the key k -/
inductive NkV (K : PySem.W.Frag) (H : Hp) : V → NestedKey → Prop
  | non : NkV K H .non .none
  | bl (b : Bool) : NkV K H (.bl b) (.num (if b = true then 1 else 0))
  | int (i : Int) : NkV K H (.int i) (.num i)
  | str (x : Str) : NkV K H (.str x) (.text x)
  | tup {a : Addr} {xs : List V} {ks : List NestedKey} : SqT K H a xs → NkL K H xs ks → NkV K H (.ref a) (.tup ks)
inductive NkL (K : PySem.W.Frag) (H : Hp) : List V → List NestedKey → Prop
  | nil : NkL K H [] []
  | cons {v : V} {k : NestedKey} {vs : List V} {ks : List NestedKey} : NkV K H v k → NkL K H vs ks → NkL K H (v :: vs) (k :: ks)
end
section
variable {X : Cx} {pins : List (Addr × Obj)} {σ : L2.St} {H : Hp} {s : Shared}
mutual
theorem nk_is (I : Inv X pins σ H s) : ∀ {v : V} {k : NestedKey} {u : Value}, NkV X.K H v k → RelV v u → NestedIs s.heap k u
  | _, _, u, .non, r => by
    obtain rfl : u = Value.none := r
    exact .none
  | _, _, u, .bl b, r => by
    obtain rfl : u = Value.bool b := r
    exact .bool rfl
  | _, _, u, .int i, r => by
    obtain ⟨t, rfl⟩ := (show ∃ t, u = Value.int i t from r)
    exact .int i t
  | _, _, u, .str x, r => by
    obtain ⟨t, rfl⟩ := (show ∃ t, u = Value.str x t from r)
    exact .text x t
  | _, _, u, .tup h l, r => by
    cases r
    obtain ⟨its, rv, ⟨o, h1, h2, n, h3⟩, _⟩ := I.tuple h
    exact .tup h1 h2 h3 (by simpa using nk_all I l rv)
theorem nk_all (I : Inv X pins σ H s) : ∀ {vs : List V} {ks : List NestedKey} {us : List Value}, NkL X.K H vs ks → Vals vs us → NestedAll s.heap ks us
  | _, _, _, .nil, r => by cases r; exact .nil
  | _, _, _, .cons h t, r => by
    cases r with
    | cons r1 r2 => exact .cons (nk_is I h r1) (nk_all I t r2)
end
/-- all keys of the entries stand there -/
def KeysOk (K : PySem.W.Frag) (H : Hp) (xs : List Ent) : Prop := ∀ x ∈ xs, NkV K H (.ref x.2.1) x.1 ∧ x.1.depth ≤ 8
theorem dn_of (I : Inv X pins σ H s) {a : Addr} {xs : List Ent} (h : H a = some (DNo X.w a xs)) (ks : KeysOk X.K H xs) : xs.length ≤ sizeLine ∧ (a == sysModules) = false ∧ s.heap.DictOfH (nestedKind X.prog X.w) a xs := by
  obtain ⟨⟨z, y, o, es, ep, h1, h2, h3, h4, h5⟩, _⟩ := (show ObjOk X.prog X.w H s.heap a (DNo X.w a xs) from I.hok a _ h)
  exact ⟨z, y, o, es, ep, h1, h2, h3, h4, fun x hx => ⟨nk_is I (ks x hx).1 rfl, (ks x hx).2⟩, h5⟩
theorem dn_new {P : Program} {w : World} {H' : Hp} {h' : Heap} {a : Addr} {xs : List Ent} (z : xs.length ≤ sizeLine) (hd : (a == sysModules) = false) (dd : h'.DictOfH (nestedKind P w) a xs) : ObjOk P w H' h' a (DNo w a xs) := by
  obtain ⟨o, es, ep, h1, h2, h3, h4, _, h5⟩ := dd
  refine ⟨⟨z, hd, o, es, ep, h1, h2, h3, h4, h5⟩, ⟨o, h1⟩, ?_⟩
  rintro g1 g2 ⟨z, hd, o, es, ep, h1, h2⟩ k
  exact ⟨z, hd, o, es, ep, k o h1, h2⟩
theorem dn_typeIs (I : Inv X pins σ H s) {a : Addr} {xs : List Ent} (h : H a = some (DNo X.w a xs)) (ks : KeysOk X.K H xs) : s.TypeIs (.ref a) "dict" := (dn_of I h ks).2.2.typeIs
theorem room_n {A : Around} (hu : A.units + 9 < cLine) : A.in1.units + 8 < cLine := by rw [Around.in1_units]; omega
theorem len_stored (xs : List Ent) (k : NestedKey) (b : Addr) (v : Value) : (storedH xs k b v).length ≤ xs.length + 1 := by
  unfold storedH
  split
  · rw [List.length_map]; omega
  · rw [List.length_append]; exact Nat.le_refl _
/-! ### the rules -/
def rIxDN (K : PySem.W.Frag) (w : World) : R2 := fun x y H Q => ∃ (a : Addr) (xs : List Ent) (b c : Addr) (k : NestedKey) (u : Value) (v : V), x = .ref a ∧ y = .ref b ∧ H a = some (DNo w a xs) ∧ KeysOk K H xs ∧ NkV K H (.ref b) k ∧ k.depth ≤ 8 ∧
  atKey xs k = some (c, u) ∧ RelV v u ∧ Q v H
theorem ix_dn {X : Cx} (hu : X.A.units + 9 < cLine) : IxR X (rIxDN X.K X.w) := by
  intro value slice pins s σ H x y v u Q I rx ry h hs
  obtain ⟨a, xs, b, c, k, u0, v0, ex, ey, hH, ks, nk, kd, at_, rv, q⟩ := h
  subst ex ey
  obtain rfl : v = Value.ref a := rx
  obtain rfl : u = Value.ref b := ry
  obtain ⟨z, hd, dd⟩ := dn_of I hH ks
  refine tail_any dd.typeIs PySem.F.slot_dict_getitem.lookup ?_ hs
  exact wpAny_getItem_heap (knd := nestedKind X.prog X.w) (room_n hu) ⟨nk_is I nk rfl, kd⟩ dd at_ ⟨v0, H, I.tok _, rv, q⟩
def rInDN (K : PySem.W.Frag) (w : World) : R2 := fun x y H Q => ∃ (a : Addr) (xs : List Ent) (b : Addr) (k : NestedKey), y = .ref a ∧ x = .ref b ∧ H a = some (DNo w a xs) ∧ KeysOk K H xs ∧ NkV K H (.ref b) k ∧ k.depth ≤ 8 ∧
  Q (.bl (atKey xs k).isSome) H
def rNotInDN (K : PySem.W.Frag) (w : World) : R2 := fun x y H Q => ∃ (a : Addr) (xs : List Ent) (b : Addr) (k : NestedKey), y = .ref a ∧ x = .ref b ∧ H a = some (DNo w a xs) ∧ KeysOk K H xs ∧ NkV K H (.ref b) k ∧ k.depth ≤ 8 ∧
  Q (.bl (!(atKey xs k).isSome)) H
theorem op_inDN {X : Cx} (hu : X.A.units + 9 < cLine) : OpR X (compareOp .In) (rInDN X.K X.w) := by
  intro pins s σ H x y v u Q I rx ry h
  obtain ⟨a, xs, b, k, ey, ex, hH, ks, nk, kd, q⟩ := h
  subst ex ey
  obtain rfl : u = Value.ref a := ry
  obtain rfl : v = Value.ref b := rx
  obtain ⟨z, hd, dd⟩ := dn_of I hH ks
  exact wpAny_in_heap (knd := nestedKind X.prog X.w) (room_n hu) ⟨nk_is I nk rfl, kd⟩ hd dd ⟨.bl _, H, I.tok _, rfl, q⟩
theorem op_notInDN {X : Cx} (hu : X.A.units + 9 < cLine) : OpR X (compareOp .NotIn) (rNotInDN X.K X.w) := by
  intro pins s σ H x y v u Q I rx ry h
  obtain ⟨a, xs, b, k, ey, ex, hH, ks, nk, kd, q⟩ := h
  subst ex ey
  obtain rfl : u = Value.ref a := ry
  obtain rfl : v = Value.ref b := rx
  obtain ⟨z, hd, dd⟩ := dn_of I hH ks
  exact wpAny_notIn_heap (knd := nestedKind X.prog X.w) (room_n hu) ⟨nk_is I nk rfl, kd⟩ hd dd ⟨.bl _, H, I.tok _, rfl, q⟩
def rSetDN (K : PySem.W.Frag) (w : World) : TSet := fun o i v H Q => ∃ (a : Addr) (xs : List Ent) (b : Addr) (k : NestedKey), o = .ref a ∧ i = .ref b ∧ H a = some (DNo w a xs) ∧ KeysOk K H xs ∧ NkV K H (.ref b) k ∧ k.depth ≤ 8 ∧ xs.length < sizeLine ∧
  ∀ u, RelV v u → Q (upd H a (DNo w a (storedH xs k b u)))
theorem set_dn {X : Cx} (hu : X.A.units + 9 < cLine) : PSet X (rSetDN X.K X.w) := by
  intro pins s σ H o i v ov iv u Q I ro ri rv h
  obtain ⟨a, xs, b, k, eo, ei, hH, ks, nk, kd, hz, q⟩ := h
  subst eo ei
  obtain rfl : ov = Value.ref a := ro
  obtain rfl : iv = Value.ref b := ri
  obtain ⟨z, hd, dd⟩ := dn_of I hH ks
  refine wpAny_setItem_heap (hsz := z) (knd := nestedKind X.prog X.w) (room_n hu) ⟨nk_is I nk rfl, kd⟩ dd fun h' dd' hs => ?_
  have he : ∃ q, h'.get? a = some q := let ⟨q, _, _, hq, _⟩ := dd'; ⟨q, hq⟩
  exact ⟨_, d_write I (by rw [hH]; exact True.intro) hs he (dn_new (by have := len_stored xs k b u; omega) hd dd'), q u rv⟩
/-- {} -/
def tDNewN (w : World) : TE := fun _ H Q => ∀ p, H p = none → Q (.ref p) (upd H p (DNo w p []))
theorem dn_empty {P : Program} {w : World} {H : Hp} (h : Heap) (hb : sysModules < h.objs.size) : ObjOk P w H (h.push { cls := .type "dict", data := .dict #[] }) h.objs.size (DNo w h.objs.size []) :=
  dn_new (Nat.zero_le _) (beq_eq_false_iff_ne.mpr (Ne.symm (Nat.ne_of_lt hb))) (Heap.DictOfH.new h)
theorem pe_dnewN {X : Cx} {pos : Pos} : PE X (.Dict [] [] pos) (tDNewN X.w) := ⟨fun pins s σ H Q I h =>
  wpAny_Dict_empty ⟨.ref s.heap.objs.size, _, I.laid (a := s.heap.objs.size) (o := DNo X.w s.heap.objs.size []) (t' := s.toks) (fun _ _ q => Heap.get?_push_of_some _ q) (Nat.le_refl _) (dn_empty s.heap I.big), rfl, h _ (I.hok.fresh (Nat.le_refl _))⟩⟩
theorem d_dictSetN {X : Cx} {pins : List (Addr × Obj)} {σ : L2.St} {H : Hp} {s : Shared} {E : Value → Shared → Prop} {D b : Addr} {xs : List Ent} {k : NestedKey} {v : V} {u r : Value} {Q : Unit → Shared → Prop} (hu : X.A.units + 9 < cLine) (I : Inv X pins σ H s) (hD : H D = some (DNo X.w D xs)) (ks : KeysOk X.K H xs) (nk : NkV X.K H (.ref b) k) (kd : k.depth ≤ 8)
    (hz : xs.length < sizeLine) (ry : RelV (.ref b) u) (rv : RelV v r) (h : ∀ s', Inv X pins σ (upd H D (DNo X.w D (storedH xs k b r))) s' → Q () s') : wpAny (model X.prog X.w) X.A (dictSet D u r) Q E s := by
  obtain ⟨z, hd, dd⟩ := dn_of I hD ks
  obtain rfl : u = Value.ref b := ry
  refine wpAny_dictSet_heap (hsz := z) (knd := nestedKind X.prog X.w) (show X.A.units + 8 < cLine by omega) ⟨nk_is I nk rfl, kd⟩ dd fun h' dd' hs => h _ ?_
  have he : ∃ q, h'.get? D = some q := let ⟨q, _, _, hq, _⟩ := dd'; ⟨q, hq⟩
  exact d_write I (by rw [hD]; exact True.intro) hs he (dn_new (by have := len_stored xs k b r; omega) hd dd')
end
end DL
/-! DLC: dict comprehensions over any sort of dict. -/
namespace DL
open PySem PySem.Spec PyProof.Rows L2

/-- a sort of dict: the new one, how an entry is put -/
structure DSort (X : Cx) where
  e0 : Addr → HO
  new : ∀ (H : Hp) (h : Heap), sysModules < h.objs.size → ObjOk X.prog X.w H (h.push { cls := .type "dict", data := .dict #[] }) h.objs.size (e0 h.objs.size)
  stp : Addr → V → V → Hp → (Hp → Prop) → Prop
  put : ∀ (s0 : Shared) (H0 : Hp) (sc : Scope) (en : PySem.Env) (fp : List Addr) (pn : List (Addr × Obj)) (τ : L2.St) (H : Hp) (s : Shared) (E : Value → Shared → Prop) (D : Addr) (y z : V) (u r : Value) (N : Hp → Prop),
    Inv (X.blk s0 H0 sc en fp) pn τ H s → RelV y u → RelV z r → stp D y z H N → wpAny (model X.prog X.w) X.A (dictSet D u r) (fun _ s' => ∃ H', Inv (X.blk s0 H0 sc en fp) pn τ H' s' ∧ N H') E s
/-- {k: v for target in iter} -/
def tDcS (e0 : Addr → HO) (stp : Addr → V → V → Hp → (Hp → Prop) → Prop) (wi : TI) (g : TG) (tk tv : TE) (vs : List Nat) : TE := fun σ H Q => wi σ H fun J H1 => ∀ D, H1 D = none → ∃ M : Nat → Nat → Hp → Prop, (∃ m, M 0 m (upd H1 D (e0 D))) ∧ ∀ i m H, M i m H →
  (J.stop i H ∧ Q (.ref D) H) ∨ (J.go i H ∧ ∃ N : Hp → Prop, (∀ H', N H' → ∃ m', m' < m ∧ M (i + 1) m' H') ∧ ∀ x H', J.yld i H x H' → g x (wipe σ vs) H' fun τ H2 => wipe τ vs = wipe σ vs ∧
    tk τ H2 fun y H3 => tv τ H3 fun z H4 => stp D y z H4 N)
section
variable {X : Cx}
theorem pe_dcS (k : DSort X) {kx vx tg iter : Expr} {scope : Scope} {own : List (Str × Nat)} {pos : Pos} {wi : TI} {g : TG} {tk tv : TE} (calm : X.calm = true) (nd : X.N.Nodup) (walked : PI X tg iter wi) (blk : BlkOk X.N X.env.scope scope own)
    (pg : ∀ s H C cl fp, PG (X.blk s H scope (compEnvC scope cl C X.env) fp) tg g) (pk : ∀ s H C cl fp, PE (X.blk s H scope (compEnvC scope cl C X.env) fp) kx tk) (pv : ∀ s H C cl fp, PE (X.blk s H scope (compEnvC scope cl C X.env) fp) vx tv)
    (nofold : ∀ x, foldedSetIterable iter X.env x = pure x) : PE X (.DictComp kx vx [⟨tg, iter, [], 0⟩] scope pos) (tDcS k.e0 k.stp wi g tk tv (own.map (·.2))) := by
  constructor
  intro pins s σ H Q inv want
  rw [arm_eval_DictComp]
  have cells : ∀ y ∈ scope.names, y.2 = .free → ∃ c, X.env.cells.lookup y.1 = some c := by
    intro y hy e
    exact (blk.free y hy e).elim (fun z => inv.ok.has _ (.inl z)) fun z => inv.ok.has _ (.inr z)
  refine wpAny_comprehension_free rfl nofold (closure_ok cells) blk.kind (fun y hy e => by rw [blk.uniq y hy, e]) (thn (walked.run pins s σ H _ inv want) fun _ s1 w1 => thn w1 fun itv s2 w2 => ?_)
  obtain ⟨it, fp, tn, J, Hi, rfl, inv2, T, at0, fpk, want2⟩ := w2
  refine wpAny_newObj_type (newEnv_comp ?_)
  -- where the dict comes to lie
  generalize hD : s2.heap.objs.size = D
  obtain ⟨M, ⟨m0, begin_⟩, turn⟩ := want2 D (inv2.hok.fresh (Nat.le_of_eq hD))
  generalize es3 : ({ s2 with heap := s2.heap.push { cls := .type "dict", data := .dict #[] } } : Shared) = s3
  have hp3 : s3.heap = s2.heap.push { cls := .type "dict", data := .dict #[] } := by rw [← es3]
  obtain ⟨H3, eH3⟩ : ∃ H3, upd Hi D (k.e0 D) = H3 := ⟨_, rfl⟩
  rw [eH3] at begin_
  have inv3 : Inv X pins σ H3 s3 := by
    rw [← es3, ← eH3, ← hD]
    exact inv2.laid (t' := s2.toks) (fun _ _ e => Heap.get?_push_of_some _ e) (Nat.le_refl _) (k.new _ s2.heap inv2.big)
  have far : ∀ b ∈ fp, FpOk X pins H3 b ∧ b < s3.heap.objs.size := by
    intro b hb
    obtain ⟨ob, eb, _⟩ := T.obj _ _ at0 b hb
    have small : b < s2.heap.objs.size := Heap.lt_size eb
    refine ⟨⟨?_, (fpk b hb).2⟩, ?_⟩
    · rw [← eH3, upd_ne (by rw [← hD]; exact Nat.ne_of_lt small)]
      exact (fpk b hb).1
    · rw [hp3, Heap.size_push]
      exact Nat.lt_succ_of_lt small
  have at3 : tn 0 s3.heap := T.keep _ _ _ at0 fun b _ ob e => by rw [hp3]; exact Heap.get?_push_of_some _ e
  have invB := block_start inv3 blk nd far
  obtain ⟨C, eC⟩ : ∃ C, s3.heap.objs.size = C := ⟨_, rfl⟩
  obtain ⟨en, een⟩ : ∃ en, compEnvC scope (cellsFrom (s3.heap.objs.size + 1) scope.names (cloFrom X.env.cells scope.names [])) s3.heap.objs.size X.env = en := ⟨_, rfl⟩
  have pgB := pg s3 H3 s3.heap.objs.size (cellsFrom (s3.heap.objs.size + 1) scope.names (cloFrom X.env.cells scope.names [])) fp
  have pkB := pk s3 H3 s3.heap.objs.size (cellsFrom (s3.heap.objs.size + 1) scope.names (cloFrom X.env.cells scope.names [])) fp
  have pvB := pv s3 H3 s3.heap.objs.size (cellsFrom (s3.heap.objs.size + 1) scope.names (cloFrom X.env.cells scope.names [])) fp
  obtain ⟨s4, es4⟩ : ∃ s4 : Shared, ({ s3 with heap := pushCells (s3.heap.push { cls := .type "dict", data := .dict #[] }) scope.names } : Shared) = s4 := ⟨_, rfl⟩
  rw [een] at invB pgB pkB pvB
  rw [es4] at invB
  have locs : en.locals = s3.heap.objs.size := by rw [← een]; rfl
  have at4 : tn 0 s4.heap := T.keep _ _ _ at3 fun b _ ob e => by rw [← es4]; exact pushCells_keeps _ _ _ _ (Heap.get?_push_of_some _ e)
  have off : ∀ b ∈ fp, H3 b = none := fun b hb => (far b hb).1.1
  have stat : ∀ {τ : L2.St} {G : Hp} {z : Shared}, Inv (X.blk s3 H3 scope en fp) [] τ G z → (∀ b ∈ fp, G b = none) → ∀ b ∈ fp, FpOk (X.blk s3 H3 scope en fp) [] G b := by
    intro τ G z iv hn b hb
    exact ⟨hn b hb, (iv.ok.exf b hb).1, iv.ok.exfs b hb, .inl hb, fun x c e => (iv.ok.exf b hb).2 x c e, fun p hp => by simp [Cx.blk] at hp⟩
  show codeAny _ _ (.compStart (.DictComp kx vx [⟨tg, iter, [], 0⟩] scope pos) 0 (.ref it) (.ref D) (compEnvC scope (cellsFrom (s3.heap.objs.size + 1) scope.names (cloFrom X.env.cells scope.names [])) s3.heap.objs.size X.env)) (compPost (model X.prog X.w) X.A X.xe _ _ (.ref D) s3.heap.objs.size) { s3 with heap := pushCells (s3.heap.push { cls := .type "dict", data := .dict #[] }) scope.names }
  rw [een, es4]
  -- turn by turn
  have body : codeAny (model X.prog X.w) X.A (.compLoop (.DictComp kx vx [⟨tg, iter, [], 0⟩] scope pos) 0 (.ref it) (.ref D) en) (compPost (model X.prog X.w) X.A X.xe none (EP X pins σ Q) (.ref D) s3.heap.objs.size) s4 := by
    refine compLoop_anyD (fun n z => ∃ i G, Inv (X.blk s3 H3 scope en fp) [] (wipe σ (own.map (·.2))) G z ∧ tn i z.heap ∧ (∀ b ∈ fp, G b = none) ∧ M i n G) (fun n z5 hz => ?_) m0 ⟨0, H3, invB, at4, off, begin_⟩
    obtain ⟨i, G5, iv5, at5, off5, m5⟩ := hz
    rcases turn i n G5 m5 with ⟨stop, want3⟩ | ⟨go, N, less, each⟩
    · refine thnF (T.done (X.blk s3 H3 scope en fp) rfl rfl rfl calm i [] z5 _ G5 (fun _ _ => False) iv5 (stat iv5 off5) at5 stop) fun r z6 ⟨er, iv6⟩ => ?_
      subst er
      have back : Inv X pins σ G5 z6 := inv3.call' (ch := fp) iv6.os iv6.base iv6.hok iv6.bare fun b hb =>
        have w := (far b hb).1.2
        ⟨w.2.2.1, w.1, w.2.2.2.1, w.2.2.2.2⟩
      have noC : G5 s3.heap.objs.size = none := by
        rw [← locs]
        exact iv6.free
      obtain ⟨ns, hns, _⟩ := iv6.loc
      rw [show (X.blk s3 H3 scope en fp).env.locals = s3.heap.objs.size from locs] at hns
      have fp0 := inv3.fpOk (Nat.le_refl s3.heap.objs.size) noC
      refine ⟨ns, hns, fun h'' sb => ?_⟩
      exact ⟨.ref D, G5, back.turned (t' := z6.toks) (fun b o hb e => (sb.2 b hb).trans e) fp0.1 fp0.2.1 fp0.2.2.2.1 fp0.2.2.2.2.1 fp0.2.2.2.2.2, rfl, want3⟩
    · refine thnF (T.item (X.blk s3 H3 scope en fp) rfl rfl rfl calm i [] z5 _ G5 (fun _ _ => False) iv5 (stat iv5 off5) at5 go) fun r z6 ⟨u, er, w6⟩ => ?_
      subst er
      refine thnF w6 fun _ z7 ⟨x, G7, iv7, rx, yl, at7, off7⟩ => ?_
      have ivp := iv7.pinned (stat iv7 off7) (T.obj _ _ at7)
      refine thnF (pgB.run _ z7 _ G7 x u _ ivp rx (each x G7 yl)) fun _ z8 ⟨τ, G8, iv8, wp8, w8⟩ => ?_
      show wpAny _ _ (pure true) _ _ _
      refine wpAny_pure ?_
      simp only [if_true]
      refine thnF (pkB.run _ z8 τ G8 _ iv8 w8) fun _ z9 ⟨y, G9, iv9, r9, w9⟩ => ?_
      refine thnF (pvB.run _ z9 τ G9 _ iv9 w9) fun _ z10 ⟨z, G10, iv10, r10, w10⟩ => ?_
      refine thnF (k.put s3 H3 scope en fp _ τ G10 z10 _ D y z _ _ N iv10 r9 r10 w10) fun _ z11 ⟨G11, iv11, w11⟩ => ?_
      obtain ⟨m', hm, next⟩ := less G11 w11
      have kept : ∀ b ∈ fp, ∀ o, z7.heap.get? b = some o → z11.heap.get? b = some o ∧ G11 b = none := by
        intro b hb o e
        have q := iv11.pin (b, o) (List.mem_append_right _ (List.mem_append_right _ (mem_pinsAt hb e)))
        exact ⟨q.1, q.2.1⟩
      have len : (wipe σ (own.map (·.2))).length = τ.length := by rw [← wp8, wipe_length]
      refine ⟨m', hm, i + 1, G11, (iv11.unpinned (pins := [])).weak len (fun j v e => ?_), T.keep _ _ _ at7 fun b hb o e => (kept b hb o e).1, fun b hb => ?_, next⟩
      · rw [← wp8] at e
        exact (wipe_some e).1
      · obtain ⟨o, e, _⟩ := T.obj _ _ at7 b hb
        exact (kept b hb o e).2
  exact codeAny_compStart_dict body (T.self X.A 0 _ _ _ at4 body)
end
end DL
/-! DL2: data in the abstract heap; the frame. -/
namespace DL
open PySem PySem.Spec PyProof.Rows L2

def mkS (s : Bs) : Str := ⟨s.toArray⟩
theorem mkS_inj {a b : Bs} (h : mkS a = mkS b) : a = b := congrArg (fun x : Str => x.cps.toList) h
theorem mkS_len (a : Bs) : (mkS a).length = a.length := by simp [mkS, Str.length]
theorem mkS_tl (x : Str) : mkS x.cps.toList = x := by cases x; simp [mkS]
def kD : Key → D
  | .inl i => .int i
  | .inr s => .str s.cps.toList

mutual
/-- v is the data d in the frozen part F -/
inductive Is (K : PySem.W.Frag) (F : Hp) : V → D → Prop
  | non : Is K F .non .non
  | bl (b : Bool) : Is K F (.bl b) (.bl b)
  | int (i : Int) : Is K F (.int i) (.int i)
  | str (s : Bs) : s.length ≤ sizeLine → Is K F (.str (mkS s)) (.str s)
  | tup {a : Addr} {xs : List V} {ds : List D} : SqT K F a xs → xs.length ≤ sizeLine → IsL K F xs ds → Is K F (.ref a) (.tup ds)
  | lst {a : Addr} {xs : List V} {ds : List D} : F a = some (.lst xs) → xs.length ≤ sizeLine → IsL K F xs ds → Is K F (.ref a) (.lst ds)
  | dct {a : Addr} {kvs : List (Key × V)} {ds : List (D × D)} : F a = some (.dK kvs) → kvs.length ≤ sizeLine → IsM K F kvs ds → Is K F (.ref a) (.dct ds)
  | ref (a : Addr) : Is K F (.ref a) (.ref a)
  | scr {a : Addr} {ns : List Int} : SqL K F a (ns.map V.int) → ns.length ≤ sizeLine → Is K F (.ref a) (.scr ns)
inductive IsL (K : PySem.W.Frag) (F : Hp) : List V → List D → Prop
  | nil : IsL K F [] []
  | cons {v : V} {vs : List V} {d : D} {ds : List D} : Is K F v d → IsL K F vs ds → IsL K F (v :: vs) (d :: ds)
inductive IsM (K : PySem.W.Frag) (F : Hp) : List (Key × V) → List (D × D) → Prop
  | nil : IsM K F [] []
  | cons {k : Key} {v : V} {vs : List (Key × V)} {d : D} {ds : List (D × D)} : Is K F v d → IsM K F vs ds → IsM K F ((k, v) :: vs) ((kD k, d) :: ds)
end

section
variable {K : PySem.W.Frag} {ω : World} {F F' : Hp}
theorem sqL_same {H H' : Hp} {a : Addr} {xs : List V} (e : Same H H') (h : SqL K H a xs) : SqL K H' a xs := by
  rcases h with (h | ⟨o, h⟩) | h
  · exact .inl (.inl (e _ _ h))
  · exact .inl (.inr ⟨o, e _ _ h⟩)
  · exact .inr h
theorem sqT_same {H H' : Hp} {a : Addr} {xs : List V} (e : Same H H') (h : SqT K H a xs) : SqT K H' a xs := by
  rcases h with (h | ⟨o, h⟩) | h
  · exact .inl (.inl (e _ _ h))
  · exact .inl (.inr ⟨o, e _ _ h⟩)
  · exact .inr h
mutual
theorem Is.mono (e : Same F F') : ∀ {v : V} {d : D}, Is K F v d → Is K F' v d
  | _, _, .non => .non
  | _, _, .bl b => .bl b
  | _, _, .int i => .int i
  | _, _, .str s h => .str s h
  | _, _, .tup h z t => .tup (sqT_same e h) z (IsL.mono e t)
  | _, _, .lst h z t => .lst (e _ _ h) z (IsL.mono e t)
  | _, _, .dct h z t => .dct (e _ _ h) z (IsM.mono e t)
  | _, _, .ref a => .ref a
  | _, _, .scr h z => .scr (sqL_same e h) z
theorem IsL.mono (e : Same F F') : ∀ {v : List V} {d : List D}, IsL K F v d → IsL K F' v d
  | _, _, .nil => .nil
  | _, _, .cons h t => .cons (Is.mono e h) (IsL.mono e t)
theorem IsM.mono (e : Same F F') : ∀ {v : List (Key × V)} {d : List (D × D)}, IsM K F v d → IsM K F' v d
  | _, _, .nil => .nil
  | _, _, .cons h t => .cons (Is.mono e h) (IsM.mono e t)
end
theorem IsL.length : ∀ {v : List V} {d : List D}, IsL K F v d → v.length = d.length
  | _, _, .nil => rfl
  | _, _, .cons _ t => congrArg (· + 1) (IsL.length t)
theorem IsL.append : ∀ {v w : List V} {d e : List D}, IsL K F v d → IsL K F w e → IsL K F (v ++ w) (d ++ e)
  | _, _, _, _, .nil, s => s
  | _, _, _, _, .cons h t, s => .cons h (IsL.append t s)
theorem IsL.get : ∀ {v : List V} {d : List D} {i : Nat} {x : D}, IsL K F v d → d[i]? = some x → ∃ u, v[i]? = some u ∧ Is K F u x
  | _, _, _, _, .nil, e => by simp at e
  | _, _, 0, _, .cons h _, e => by simp at e; subst e; exact ⟨_, rfl, h⟩
  | _, _, i + 1, _, .cons _ t, e => by
    obtain ⟨u, a, b⟩ := IsL.get (i := i) t (by simpa using e)
    exact ⟨u, by simpa using a, b⟩
theorem IsL.getV : ∀ {v : List V} {d : List D} {i : Nat} {u : V}, IsL K F v d → v[i]? = some u → ∃ x, d[i]? = some x ∧ Is K F u x
  | _, _, _, _, .nil, e => by simp at e
  | _, _, 0, _, .cons h _, e => by simp at e; subst e; exact ⟨_, rfl, h⟩
  | _, _, i + 1, _, .cons _ t, e => by
    obtain ⟨u, a, b⟩ := IsL.getV (i := i) t (by simpa using e)
    exact ⟨u, by simpa using a, b⟩
theorem IsL.take : ∀ {v : List V} {d : List D} (n : Nat), IsL K F v d → IsL K F (v.take n) (d.take n)
  | _, _, 0, _ => .nil
  | _, _, _ + 1, .nil => .nil
  | _, _, n + 1, .cons h t => .cons h (IsL.take n t)
theorem IsL.drop : ∀ {v : List V} {d : List D} (n : Nat), IsL K F v d → IsL K F (v.drop n) (d.drop n)
  | _, _, 0, r => r
  | _, _, _ + 1, .nil => .nil
  | _, _, n + 1, .cons _ t => IsL.drop n t
theorem IsL.set {x : V} {y : D} (r : Is K F x y) : ∀ {v : List V} {d : List D} (i : Nat), IsL K F v d → IsL K F (v.set i x) (d.set i y)
  | _, _, _, .nil => .nil
  | _, _, 0, .cons _ t => .cons r t
  | _, _, i + 1, .cons q t => .cons q (IsL.set r i t)
theorem IsL.snoc {v : List V} {d : List D} {x : V} {y : D} (h : IsL K F v d) (r : Is K F x y) : IsL K F (v ++ [x]) (d ++ [y]) := h.append (.cons r .nil)
theorem IsL.reverse : ∀ {v : List V} {d : List D}, IsL K F v d → IsL K F v.reverse d.reverse
  | _, _, .nil => .nil
  | _, _, .cons h t => by
    rw [List.reverse_cons, List.reverse_cons]
    exact (IsL.reverse t).snoc h
theorem IsL.cut {v : List V} {d : List D} (h : IsL K F v d) (lo hi : Option Int) : IsL K F (cutV v lo hi) (cutD d lo hi) := by
  unfold cutV cutD
  rw [h.length]
  exact (h.drop _).take _
theorem IsM.length : ∀ {v : List (Key × V)} {d : List (D × D)}, IsM K F v d → v.length = d.length
  | _, _, .nil => rfl
  | _, _, .cons _ t => congrArg (· + 1) (IsM.length t)
end

theorem kD_inj {a b : Key} (h : kD a = kD b) : a = b := by
  cases a with
  | inl i => cases b with
    | inl j => injection h with h; rw [h]
    | inr s => cases h
  | inr s => cases b with
    | inl j => cases h
    | inr t =>
      injection h with h
      have : s = t := by rw [← mkS_tl s, ← mkS_tl t, h]
      rw [this]
theorem keyb_kD (a b : Key) : keyb (kD a) (kD b) = decide (a = b) := by
  cases a with
  | inl i => cases b with
    | inl j => rw [key_ll]; rfl
    | inr s => rw [key_lr]; rfl
  | inr s => cases b with
    | inl j => rw [key_rl]; rfl
    | inr t =>
      rw [key_rr]
      show (s.cps.toList == t.cps.toList) = decide (s = t)
      by_cases e : s = t
      · subst e; simp
      · rw [decide_eq_false e]
        exact beq_eq_false_iff_ne.mpr fun q => e (by rw [← mkS_tl s, ← mkS_tl t, q])
/-- the key of a value -/
theorem isKey_of {K : PySem.W.Frag} {F : Hp} {v : V} {d : D} (h : Is K F v d) (k : isKey d = true) : ∃ q : Key, v = kV q ∧ d = kD q := by
  cases h with
  | int i => exact ⟨.inl i, rfl, rfl⟩
  | str s z => exact ⟨.inr (mkS s), rfl, by simp [kD, mkS]⟩
  | non => cases k
  | bl _ => cases k
  | tup => cases k
  | lst => cases k
  | dct => cases k
  | ref => cases k
  | scr => cases k
section
variable {K : PySem.W.Frag} {ω : World} {F F' : Hp}
theorem IsM.look {q : Key} : ∀ {v : List (Key × V)} {d : List (D × D)}, IsM K F v d → (valV v q = none ∧ lookD d (kD q) = none) ∨ (∃ x y, valV v q = some x ∧ lookD d (kD q) = some y ∧ Is K F x y)
  | _, _, .nil => .inl ⟨rfl, rfl⟩
  | _, _, @IsM.cons _ _ k v vs d ds h t => by
    unfold lookD
    rw [keyb_kD]
    by_cases e : k = q
    · exact .inr ⟨v, d, valV_pos e, by rw [decide_eq_true e]; rfl, h⟩
    · rw [decide_eq_false e, valV_neg e]
      exact IsM.look t
theorem IsM.replace {q : Key} {x : V} {y : D} (r : Is K F x y) : ∀ {v : List (Key × V)} {d : List (D × D)}, IsM K F v d → (v.map (·.1)).Nodup → IsM K F (putK v q x) (putD d (kD q) y) := by
  intro v d h nd
  have gen : ∀ {v : List (Key × V)} {d : List (D × D)}, IsM K F v d → (v.map (·.1)).Nodup → (valV v q = none → IsM K F (v ++ [(q, x)]) (putD d (kD q) y)) ∧ (valV v q ≠ none → IsM K F (v.map fun kv => if kv.1 = q then (kv.1, x) else kv) (putD d (kD q) y)) := by
    intro v d h
    induction v generalizing d with
    | nil =>
      intro _
      cases h
      exact ⟨fun _ => .cons r .nil, fun z => absurd rfl z⟩
    | cons p vs ih =>
      intro nd
      cases h with
      | @cons k u _ d' ds h t =>
        have nd2 : (vs.map (·.1)).Nodup := (List.nodup_cons.mp nd).2
        have nk : k ∉ vs.map (·.1) := (List.nodup_cons.mp nd).1
        unfold putD
        rw [keyb_kD]
        by_cases e : k = q
        · subst e
          rw [decide_eq_true rfl]
          refine ⟨fun z => ?_, fun _ => ?_⟩
          · rw [valV_pos rfl] at z; cases z
          · rw [List.map_cons]
            have : vs.map (fun kv : Key × V => if kv.1 = k then (kv.1, x) else kv) = vs := by
              conv => rhs; rw [← List.map_id vs]
              refine List.map_congr_left fun kv hm => ?_
              rw [if_neg fun (z : kv.1 = k) => nk (by rw [← z]; exact List.mem_map_of_mem hm)]
              rfl
            rw [this, if_pos rfl]
            exact .cons r t
        · rw [decide_eq_false e, valV_neg e]
          obtain ⟨i1, i2⟩ := ih t nd2
          refine ⟨fun z => .cons h (i1 z), fun z => ?_⟩
          rw [List.map_cons, if_neg e]
          exact .cons h (i2 z)
  obtain ⟨g1, g2⟩ := gen h nd
  unfold putK
  rw [valV_any]
  cases e : valV v q with
  | none => simpa using g1 e
  | some z => simpa using g2 (by rw [e]; exact fun q => by cases q)
end

/-! ### keys that are tuples -/
mutual
def nkD : D → Option NestedKey
  | .non => some .none
  | .bl b => some (.num (if b = true then 1 else 0))
  | .int i => some (.num i)
  | .str s => some (.text (mkS s))
  | .tup ds => (nkL ds).map .tup
  | _ => none
def nkL : List D → Option (List NestedKey)
  | [] => some []
  | d :: r => match nkD d, nkL r with
    | some a, some b => some (a :: b)
    | _, _ => none
end
theorem nkL_cons {d : D} {r : List D} {ks : List NestedKey} (h : nkL (d :: r) = some ks) : ∃ a b, nkD d = some a ∧ nkL r = some b ∧ ks = a :: b := by
  rw [nkL] at h
  split at h
  · next a b e1 e2 => cases h; exact ⟨a, b, e1, e2, rfl⟩
  · cases h
theorem nkD_tup {ds : List D} {k : NestedKey} (h : nkD (.tup ds) = some k) : ∃ ks, nkL ds = some ks ∧ k = .tup ks := by
  rw [nkD, Option.map_eq_some_iff] at h
  obtain ⟨ks, a, b⟩ := h
  exact ⟨ks, a, b.symm⟩
theorem int_bd (i j : Int) : (i == j) = decide (i = j) := by
  by_cases e : i = j
  · subst e; simp
  · rw [decide_eq_false e]; exact beq_eq_false_iff_ne.mpr e
mutual
theorem nk_of : ∀ (n : Nat) (d : D), tkq n d = true → ∃ k, nkD d = some k ∧ k.depth ≤ n
  | n, .non, _ => ⟨_, rfl, Nat.zero_le _⟩
  | n, .bl _, _ => ⟨_, rfl, Nat.zero_le _⟩
  | n, .int _, _ => ⟨_, rfl, Nat.zero_le _⟩
  | n, .str _, _ => ⟨_, rfl, Nat.zero_le _⟩
  | n + 1, .tup xs, h => by
    obtain ⟨ks, a, b⟩ := nk_ofL n xs (List.all_eq_true.mp h)
    exact ⟨.tup ks, by rw [nkD, a]; rfl, by rw [NestedKey.depth]; omega⟩
  | 0, .tup _, h => by cases h
  | n, .lst _, h => by cases n <;> cases h
  | n, .dct _, h => by cases n <;> cases h
  | n, .ref _, h => by cases n <;> cases h
  | n, .scr _, h => by cases n <;> cases h
theorem nk_ofL : ∀ (n : Nat) (ds : List D), (∀ d ∈ ds, tkq n d = true) → ∃ ks, nkL ds = some ks ∧ NestedKey.depthAll ks ≤ n
  | n, [], _ => ⟨[], rfl, Nat.zero_le _⟩
  | n, d :: ds, h => by
    obtain ⟨k, a, b⟩ := nk_of n d (h d List.mem_cons_self)
    obtain ⟨ks, c, e⟩ := nk_ofL n ds fun x hx => h x (List.mem_cons_of_mem _ hx)
    exact ⟨k :: ks, by rw [nkL, a, c], by rw [NestedKey.depthAll]; omega⟩
end
theorem nk_tk {d : D} (h : isTK d = true) : ∃ k, nkD d = some k ∧ k.depth ≤ 8 := by
  cases d with
  | tup xs =>
    obtain ⟨ks, a, b⟩ := nk_ofL 6 xs (List.all_eq_true.mp h)
    exact ⟨.tup ks, by rw [nkD, a]; rfl, by rw [NestedKey.depth]; omega⟩
  | _ => cases h
mutual
theorem nk_eq : ∀ (x y : D) (a b : NestedKey), nkD x = some a → nkD y = some b → dEq x y = NestedKey.beq a b
  | .non, y, a, b, h1, h2 => by
    cases h1
    cases y with
    | tup ys => obtain ⟨ks, _, rfl⟩ := nkD_tup h2; rfl
    | _ => cases h2 <;> rfl
  | .bl c, y, a, b, h1, h2 => by
    cases h1
    cases y with
    | tup ys => obtain ⟨ks, _, rfl⟩ := nkD_tup h2; rfl
    | bl d => cases h2; cases c <;> cases d <;> rfl
    | int j =>
      cases h2
      show ((if c = true then (1 : Int) else 0) == j) = decide ((if c = true then (1 : Int) else 0) = j)
      exact int_bd _ _
    | _ => cases h2 <;> rfl
  | .int i, y, a, b, h1, h2 => by
    cases h1
    cases y with
    | tup ys => obtain ⟨ks, _, rfl⟩ := nkD_tup h2; rfl
    | bl d =>
      cases h2
      show (i == (if d = true then (1 : Int) else 0)) = decide (i = if d = true then (1 : Int) else 0)
      exact int_bd _ _
    | int j =>
      cases h2
      show (i == j) = decide (i = j)
      exact int_bd _ _
    | _ => cases h2 <;> rfl
  | .str s, y, a, b, h1, h2 => by
    cases h1
    cases y with
    | tup ys => obtain ⟨ks, _, rfl⟩ := nkD_tup h2; rfl
    | str t =>
      cases h2
      show (s == t) = decide (mkS s = mkS t)
      by_cases e : s = t
      · subst e; simp
      · rw [decide_eq_false fun z => e (mkS_inj z)]
        exact beq_eq_false_iff_ne.mpr e
    | _ => cases h2 <;> rfl
  | .tup xs, y, a, b, h1, h2 => by
    obtain ⟨ks, e1, rfl⟩ := nkD_tup h1
    cases y with
    | tup ys =>
      obtain ⟨ls, e2, rfl⟩ := nkD_tup h2
      show dEqL xs ys = NestedKey.beqAll ks ls
      exact nk_eqL xs ys ks ls e1 e2
    | _ => cases h2 <;> rfl
  | .lst _, _, _, _, h1, _ => by cases h1
  | .dct _, _, _, _, h1, _ => by cases h1
  | .ref _, _, _, _, h1, _ => by cases h1
  | .scr _, _, _, _, h1, _ => by cases h1
theorem nk_eqL : ∀ (xs ys : List D) (ks ls : List NestedKey), nkL xs = some ks → nkL ys = some ls → dEqL xs ys = NestedKey.beqAll ks ls
  | [], [], ks, ls, h1, h2 => by cases h1; cases h2; rfl
  | [], y :: ys, ks, ls, h1, h2 => by
    cases h1
    obtain ⟨_, _, _, _, rfl⟩ := nkL_cons h2
    rfl
  | x :: xs, [], ks, ls, h1, h2 => by
    cases h2
    obtain ⟨_, _, _, _, rfl⟩ := nkL_cons h1
    rfl
  | x :: xs, y :: ys, ks, ls, h1, h2 => by
    obtain ⟨a, as, e1, e2, rfl⟩ := nkL_cons h1
    obtain ⟨b, bs, e3, e4, rfl⟩ := nkL_cons h2
    rw [dEqL, NestedKey.beqAll, nk_eq x y a b e1 e3, nk_eqL xs ys as bs e2 e4]
end
section
variable {K : PySem.W.Frag} {F H : Hp}
mutual
theorem Is.nk (e : Same F H) : ∀ {v : V} {d : D} {k : NestedKey}, Is K F v d → nkD d = some k → NkV K H v k
  | _, _, _, .non, h => by cases h; exact .non
  | _, _, _, .bl b, h => by cases h; exact .bl b
  | _, _, _, .int i, h => by cases h; exact .int i
  | _, _, _, .str s z, h => by cases h; exact .str _
  | _, _, _, .tup hx z t, h => by
    obtain ⟨ks, a, rfl⟩ := nkD_tup h
    exact .tup (sqT_same e hx) (IsL.nk e t a)
  | _, _, _, .lst _ _ _, h => by cases h
  | _, _, _, .dct _ _ _, h => by cases h
  | _, _, _, .ref _, h => by cases h
  | _, _, _, .scr _ _, h => by cases h
theorem IsL.nk (e : Same F H) : ∀ {v : List V} {d : List D} {k : List NestedKey}, IsL K F v d → nkL d = some k → NkL K H v k
  | _, _, _, .nil, h => by cases h; exact .nil
  | _, _, _, .cons h t, k => by
    obtain ⟨a, b, e1, e2, rfl⟩ := nkL_cons k
    exact .cons (Is.nk e h e1) (IsL.nk e t e2)
end
end
/-- the entries, one by one -/
inductive IsT (K : PySem.W.Frag) (F : Hp) : List Ent → List (D × D) → Prop
  | nil : IsT K F [] []
  | cons {k : NestedKey} {b : Addr} {u : Value} {v : V} {kd d : D} {xs : List Ent} {ds : List (D × D)} : Is K F (.ref b) kd → isTK kd = true → nkD kd = some k → RelV v u → Is K F v d → IsT K F xs ds → IsT K F ((k, b, u) :: xs) ((kd, d) :: ds)
theorem IsT.mono {K : PySem.W.Frag} {F F' : Hp} (e : Same F F') {xs : List Ent} {ds : List (D × D)} (h : IsT K F xs ds) : IsT K F' xs ds := by
  induction h with
  | nil => exact .nil
  | cons a b c d f _ ih => exact .cons (a.mono e) b c d (f.mono e) ih
theorem IsT.length {K : PySem.W.Frag} {F : Hp} {xs : List Ent} {ds : List (D × D)} (h : IsT K F xs ds) : xs.length = ds.length := by
  induction h with
  | nil => rfl
  | cons _ _ _ _ _ _ ih => rw [List.length_cons, List.length_cons, ih]
theorem IsT.keys {K : PySem.W.Frag} {F H : Hp} (e : Same F H) {xs : List Ent} {ds : List (D × D)} (h : IsT K F xs ds) : KeysOk K H xs := by
  induction h with
  | nil => intro x hx; cases hx
  | @cons k b u v kd d xs ds a t n r i _ ih =>
    intro x hx
    rcases List.mem_cons.mp hx with q | hx
    · subst q
      obtain ⟨k', e1, e2⟩ := nk_tk t
      have : k' = k := Option.some.inj (e1.symm.trans n)
      subst this
      exact ⟨a.nk e n, e2⟩
    · exact ih x hx
theorem IsT.look {K : PySem.W.Frag} {F : Hp} {q : D} {k : NestedKey} (hq : nkD q = some k) {xs : List Ent} {ds : List (D × D)} (h : IsT K F xs ds) :
    (atKey xs k = none ∧ lookT ds q = none) ∨ ∃ c u v d, atKey xs k = some (c, u) ∧ lookT ds q = some d ∧ RelV v u ∧ Is K F v d := by
  induction h with
  | nil => exact .inl ⟨rfl, rfl⟩
  | @cons k' b u v kd d xs ds a t n r i _ ih =>
    have hb := nk_eq kd q k' k n hq
    unfold lookT
    by_cases e : k' = k
    · subst e
      rw [hb, NestedKey.beq_self, if_pos rfl]
      exact .inr ⟨b, u, v, d, by simp [atKey], rfl, r, i⟩
    · have e2 : dEq kd q = false := by rw [hb, ← NestedKey.decide_eq]; exact decide_eq_false e
      rw [e2, if_neg Bool.false_ne_true]
      have e3 : atKey ((k', b, u) :: xs) k = atKey xs k := by simp [atKey, List.find?_cons, e]
      rw [e3]
      exact ih
theorem IsT.put {K : PySem.W.Frag} {F : Hp} {q y : D} {k : NestedKey} {b : Addr} {v : V} {u : Value} (hb : Is K F (.ref b) q) (tk : isTK q = true) (hq : nkD q = some k) (r : RelV v u) (i : Is K F v y) {xs : List Ent} {ds : List (D × D)} (h : IsT K F xs ds) (nd : (xs.map (·.1)).Nodup) :
    IsT K F (storedH xs k b u) (putT ds q y) ∧ ((storedH xs k b u).map (·.1)).Nodup := by
  have gen : ∀ {xs : List Ent} {ds : List (D × D)}, IsT K F xs ds → (xs.map (·.1)).Nodup → (atKey xs k = none → IsT K F (xs ++ [(k, b, u)]) (putT ds q y)) ∧ ((atKey xs k).isSome = true → IsT K F (xs.map (putAt k u)) (putT ds q y)) := by
    intro xs ds h
    induction h with
    | nil => intro _; exact ⟨fun _ => .cons hb tk hq r i .nil, fun e => by simp [atKey] at e⟩
    | @cons k' b' u' v' kd d xs ds a t n r' i' tl ih =>
      intro nd
      rw [List.map_cons, List.nodup_cons] at nd
      have hbq := nk_eq kd q k' k n hq
      unfold putT
      by_cases e : k' = k
      · subst e
        rw [hbq, NestedKey.beq_self, if_pos rfl]
        refine ⟨fun e => by simp [atKey] at e, fun _ => ?_⟩
        rw [List.map_cons, map_putAt_of_not_mem xs k' u nd.1]
        have : putAt k' u (k', b', u') = (k', b', u) := by simp [putAt]
        rw [this]
        exact .cons a t n r i tl
      · have e2 : dEq kd q = false := by rw [hbq, ← NestedKey.decide_eq]; exact decide_eq_false e
        rw [e2, if_neg Bool.false_ne_true]
        have e3 : atKey ((k', b', u') :: xs) k = atKey xs k := by simp [atKey, List.find?_cons, e]
        rw [e3]
        refine ⟨fun z => .cons a t n r' i' ((ih nd.2).1 z), fun z => ?_⟩
        rw [List.map_cons]
        have : putAt k u (k', b', u') = (k', b', u') := by simp [putAt, e]
        rw [this]
        exact .cons a t n r' i' ((ih nd.2).2 z)
  obtain ⟨g1, g2⟩ := gen h nd
  cases e : atKey xs k with
  | none =>
    rw [storedH_new e]
    refine ⟨g1 e, ?_⟩
    rw [List.map_append, List.nodup_append]
    refine ⟨nd, by simp, fun x hx z hz => ?_⟩
    obtain rfl : z = k := by simpa using hz
    intro ex
    subst ex
    obtain ⟨⟨k0, p⟩, hm, rfl⟩ := List.mem_map.mp hx
    obtain ⟨j, hj⟩ := List.mem_iff_getElem?.mp hm
    rw [atKey_of_get nd hj] at e
    cases e
  | some p =>
    rw [storedH_old e]
    exact ⟨g2 (by rw [e]; rfl), by rw [keys_map_putAt]; exact nd⟩
/-- the fields of an instance, one by one -/
inductive IsF (K : PySem.W.Frag) (F : Hp) : List (Str × V) → List (Bs × D) → Prop
  | nil : IsF K F [] []
  | cons {f : Bs} {v : V} {d : D} {vs : List (Str × V)} {ds : List (Bs × D)} : Is K F v d → IsF K F vs ds → IsF K F ((mkS f, v) :: vs) ((f, d) :: ds)
theorem IsF.mono {K : PySem.W.Frag} {F F' : Hp} (e : Same F F') {vs : List (Str × V)} {ds : List (Bs × D)} (h : IsF K F vs ds) : IsF K F' vs ds := by
  induction h with
  | nil => exact .nil
  | cons a _ ih => exact .cons (a.mono e) ih
theorem IsF.length {K : PySem.W.Frag} {F : Hp} {vs : List (Str × V)} {ds : List (Bs × D)} (h : IsF K F vs ds) : vs.length = ds.length := by
  induction h with
  | nil => rfl
  | cons _ _ ih => rw [List.length_cons, List.length_cons, ih]
theorem IsF.look {K : PySem.W.Frag} {F : Hp} {f : Bs} {vs : List (Str × V)} {ds : List (Bs × D)} (h : IsF K F vs ds) : (vs.lookup (mkS f) = none ∧ lookF ds f = none) ∨ ∃ v d, vs.lookup (mkS f) = some v ∧ lookF ds f = some d ∧ Is K F v d := by
  induction h with
  | nil => exact .inl ⟨rfl, rfl⟩
  | @cons g v d vs ds i _ ih =>
    unfold lookF
    by_cases e : g = f
    · subst e
      exact .inr ⟨v, d, by simp [List.lookup], by simp, i⟩
    · have e2 : (g == f) = false := beq_eq_false_iff_ne.mpr e
      have e3 : (mkS f == mkS g) = false := beq_eq_false_iff_ne.mpr fun z => e (mkS_inj z).symm
      rw [e2, if_neg Bool.false_ne_true, List.lookup_cons, e3]
      exact ih
theorem IsF.put {K : PySem.W.Frag} {F : Hp} {f : Bs} {v : V} {d : D} (i : Is K F v d) {vs : List (Str × V)} {ds : List (Bs × D)} (h : IsF K F vs ds) : IsF K F (putF (mkS f) v vs) (putFd ds f d) := by
  induction h with
  | nil => exact .cons i .nil
  | @cons g v' d' vs ds i' tl ih =>
    unfold putF putFd
    by_cases e : g = f
    · subst e
      rw [if_pos rfl, if_pos (beq_self_eq_true _)]
      exact .cons i tl
    · rw [if_neg fun z => e (mkS_inj z), if_neg (by rw [beq_eq_false_iff_ne.mpr e]; exact Bool.false_ne_true)]
      exact .cons i' ih
/-! ### the store -/
def OIs (K : PySem.W.Frag) (ω : World) (F H : Hp) (a : Addr) : DO → Prop
  | .lst ds => ∃ xs, H a = some (.lst xs) ∧ xs.length ≤ sizeLine ∧ IsL K F xs ds
  | .dct ds => ∃ kvs, H a = some (.dK kvs) ∧ kvs.length ≤ sizeLine ∧ (kvs.map (·.1)).Nodup ∧ IsM K F kvs ds
  | .tdc ds => ∃ xs, H a = some (DNo ω a xs) ∧ xs.length ≤ sizeLine ∧ (xs.map (·.1)).Nodup ∧ IsT K F xs ds
  | .ins c fs => ∃ dx vs, H a = some (.ins (He.ga K (mkS c)) dx vs) ∧ IsF K F vs fs
structure SR (K : PySem.W.Frag) (ω : World) (F : Hp) (St : Sto) (H : Hp) : Prop where
  sub : Same F H
  own : ∀ a o, St a = some o → F a = none ∧ OIs K ω F H a o
structure Fr (F : Hp) (St : Sto) (H : Hp) (F' : Hp) (S' : Sto) (H' : Hp) : Prop where
  ext : Same F F'
  keep : ∀ a o, H a = some o → St a = none → H' a = some o ∧ S' a = none ∧ (F a = none → F' a = none)
theorem Fr.refl {F : Hp} {St : Sto} {H : Hp} : Fr F St H F St H := ⟨Same.refl _, fun _ _ h n => ⟨h, n, fun z => z⟩⟩
theorem Fr.trans {F F1 F2 H H1 H2 : Hp} {St S1 S2 : Sto} (a : Fr F St H F1 S1 H1) (b : Fr F1 S1 H1 F2 S2 H2) : Fr F St H F2 S2 H2 :=
  ⟨a.ext.trans b.ext, fun c o h n => by
    obtain ⟨h1, n1, f1⟩ := a.keep c o h n
    obtain ⟨h2, n2, f2⟩ := b.keep c o h1 n1
    exact ⟨h2, n2, fun z => f2 (f1 z)⟩⟩
section
variable {K : PySem.W.Frag} {ω : World} {F H : Hp} {St : Sto}
theorem OIs.mono {F' : Hp} {a : Addr} {o : DO} (e : Same F F') (h : OIs K ω F H a o) : OIs K ω F' H a o := by
  cases o with
  | lst ds => obtain ⟨xs, a, z, b⟩ := h; exact ⟨xs, a, z, b.mono e⟩
  | dct ds => obtain ⟨xs, a, z, nd, b⟩ := h; exact ⟨xs, a, z, nd, b.mono e⟩
  | tdc ds => obtain ⟨xs, a, z, nd, b⟩ := h; exact ⟨xs, a, z, nd, b.mono e⟩
  | ins C fs => obtain ⟨dx, vs, a, b⟩ := h; exact ⟨dx, vs, a, b.mono e⟩
theorem OIs.at {H' : Hp} {a : Addr} {o : DO} (e : H' a = H a) (h : OIs K ω F H a o) : OIs K ω F H' a o := by
  cases o with
  | lst ds => obtain ⟨xs, a, b⟩ := h; exact ⟨xs, e.trans a, b⟩
  | dct ds => obtain ⟨xs, a, b⟩ := h; exact ⟨xs, e.trans a, b⟩
  | tdc ds => obtain ⟨xs, a, b⟩ := h; exact ⟨xs, e.trans a, b⟩
  | ins C fs => obtain ⟨dx, vs, a, b⟩ := h; exact ⟨dx, vs, e.trans a, b⟩
theorem OIs.some {a : Addr} {o : DO} (h : OIs K ω F H a o) : ∃ u, H a = some u := by
  cases o with
  | lst ds => obtain ⟨xs, a, b⟩ := h; exact ⟨_, a⟩
  | dct ds => obtain ⟨xs, a, b⟩ := h; exact ⟨_, a⟩
  | tdc ds => obtain ⟨xs, a, b⟩ := h; exact ⟨_, a⟩
  | ins C fs => obtain ⟨dx, vs, a, b⟩ := h; exact ⟨_, a⟩
/-- a fresh address is free in the frozen part and in the store -/
theorem SR.fresh (r : SR K ω F St H) {p : Addr} (h : H p = none) : F p = none ∧ St p = none := by
  refine ⟨r.sub.free h, ?_⟩
  cases e : St p with
  | none => rfl
  | some o =>
    obtain ⟨u, q⟩ := (r.own p o e).2.some
    rw [h] at q; cases q
/-- a new frozen object -/
theorem SR.lay (r : SR K ω F St H) {p : Addr} {o : HO} (h : H p = none) : SR K ω (upd F p o) St (upd H p o) ∧ Fr F St H (upd F p o) St (upd H p o) := by
  obtain ⟨fp, sp⟩ := r.fresh h
  have sF : Same F (upd F p o) := fun b u e => by rw [upd_ne (ne_of_none e fp)]; exact e
  refine ⟨⟨fun b u e => ?_, fun a q e => ?_⟩, sF, fun a u e n => ?_⟩
  · by_cases hb : b = p
    · subst hb; rw [upd_same] at e ⊢; exact e
    · rw [upd_ne hb] at e ⊢; exact r.sub _ _ e
  · have na : a ≠ p := fun z => by subst z; rw [sp] at e; cases e
    obtain ⟨x, y⟩ := r.own a q e
    exact ⟨by rw [upd_ne na]; exact x, (y.mono sF).at (upd_ne na)⟩
  · have na : a ≠ p := ne_of_none e h
    exact ⟨by rw [upd_ne na]; exact e, n, fun z => by rw [upd_ne na]; exact z⟩
/-- a new object of the store -/
theorem SR.make (r : SR K ω F St H) {p : Addr} {o : HO} {q : DO} (h : H p = none) (hq : OIs K ω F (upd H p o) p q) : SR K ω F (ups St p q) (upd H p o) ∧ Fr F St H F (ups St p q) (upd H p o) := by
  obtain ⟨fp, sp⟩ := r.fresh h
  refine ⟨⟨fun b u e => ?_, fun a u e => ?_⟩, Same.refl _, fun a u e n => ?_⟩
  · rw [upd_ne (ne_of_none (r.sub _ _ e) h)]; exact r.sub _ _ e
  · by_cases hb : a = p
    · subst hb
      unfold ups at e
      rw [if_pos rfl] at e
      cases e
      exact ⟨fp, hq⟩
    · unfold ups at e
      rw [if_neg hb] at e
      obtain ⟨x, y⟩ := r.own a u e
      exact ⟨x, y.at (upd_ne hb)⟩
  · have na : a ≠ p := ne_of_none e h
    exact ⟨by rw [upd_ne na]; exact e, by unfold ups; rw [if_neg na]; exact n, fun z => z⟩
/-- an object of the store is changed -/
theorem SR.write (r : SR K ω F St H) {p : Addr} {o : HO} {q q0 : DO} (h : St p = some q0) (hq : OIs K ω F (upd H p o) p q) : SR K ω F (ups St p q) (upd H p o) ∧ Fr F St H F (ups St p q) (upd H p o) := by
  obtain ⟨fp, _⟩ := r.own p q0 h
  refine ⟨⟨fun b u e => ?_, fun a u e => ?_⟩, Same.refl _, fun a u e n => ?_⟩
  · rw [upd_ne (ne_of_none e fp)]; exact r.sub _ _ e
  · by_cases hb : a = p
    · subst hb
      unfold ups at e
      rw [if_pos rfl] at e
      cases e
      exact ⟨fp, hq⟩
    · unfold ups at e
      rw [if_neg hb] at e
      obtain ⟨x, y⟩ := r.own a u e
      exact ⟨x, y.at (upd_ne hb)⟩
  · have na : a ≠ p := fun z => by subst z; rw [h] at n; cases n
    exact ⟨by rw [upd_ne na]; exact e, by unfold ups; rw [if_neg na]; exact n, fun z => z⟩
/-- an object of the store is frozen -/
theorem SR.freeze (r : SR K ω F St H) {p : Addr} {o : HO} {q0 : DO} (h : St p = some q0) (ho : H p = some o) : SR K ω (upd F p o) (del St p) H ∧ Fr F St H (upd F p o) (del St p) H := by
  obtain ⟨fp, _⟩ := r.own p q0 h
  have sF : Same F (upd F p o) := fun b u e => by rw [upd_ne (ne_of_none e fp)]; exact e
  refine ⟨⟨fun b u e => ?_, fun a u e => ?_⟩, sF, fun a u e n => ?_⟩
  · by_cases hb : b = p
    · subst hb; rw [upd_same] at e; rw [ho]; exact e
    · rw [upd_ne hb] at e; exact r.sub _ _ e
  · by_cases hb : a = p
    · subst hb; unfold del at e; rw [if_pos rfl] at e; cases e
    · unfold del at e
      rw [if_neg hb] at e
      obtain ⟨x, y⟩ := r.own a u e
      exact ⟨by rw [upd_ne hb]; exact x, y.mono sF⟩
  · have na : a ≠ p := fun z => by subst z; rw [h] at n; cases n
    exact ⟨e, by unfold del; rw [if_neg na]; exact n, fun z => by rw [upd_ne na]; exact z⟩
/-- part of the store is forgotten -/
def Sub (S' St : Sto) : Prop := ∀ a o, S' a = some o → St a = some o
theorem Sub.refl (St : Sto) : Sub St St := fun _ _ h => h
theorem Sub.none {S' : Sto} (h : Sub S' St) {a : Addr} (n : St a = none) : S' a = none := by
  cases e : S' a with
  | none => rfl
  | some o => rw [h a o e] at n; cases n
theorem Sub.ups {p : Addr} {o : DO} (h : St p = Option.none) : Sub St (DL.ups St p o) := fun a q e => by
  unfold DL.ups
  rw [if_neg (fun z => by subst z; rw [h] at e; cases e)]
  exact e
theorem SR.sub' {S' : Sto} (r : SR K ω F St H) (h : Sub S' St) : SR K ω F S' H := ⟨r.sub, fun a o e => r.own a o (h a o e)⟩
theorem Fr.sub' {F0 H0 : Hp} {S0 S' : Sto} (r : Fr F0 S0 H0 F St H) (h : Sub S' St) : Fr F0 S0 H0 F S' H := ⟨r.ext, fun a o e n => by
  obtain ⟨x, y, z⟩ := r.keep a o e n
  exact ⟨x, h.none y, z⟩⟩
end

/-! ### the slots -/
structure RE (K : PySem.W.Frag) (F : Hp) (ρ : Env) (σ : L2.St) : Prop where
  len : ρ.length = σ.length
  at_ : ∀ i d, get ρ i = some d → ∃ v, σ[i]? = some (some v) ∧ Is K F v d
theorem RE.mono {K : PySem.W.Frag} {F F' : Hp} {ρ : Env} {σ : L2.St} (r : RE K F ρ σ) (e : Same F F') : RE K F' ρ σ := ⟨r.len, fun i d h => by
  obtain ⟨v, a, b⟩ := r.at_ i d h
  exact ⟨v, a, b.mono e⟩⟩
theorem put_length (ρ : Env) (i : Nat) (d : D) : (put ρ i d).length = ρ.length := by
  induction ρ generalizing i with
  | nil => cases i <;> rfl
  | cons x r ih => cases i with
    | zero => rfl
    | succ i => simp [put, ih]
theorem get_put (ρ : Env) (i j : Nat) (d e : D) (h : get (put ρ i d) j = some e) : (j = i ∧ e = d ∧ i < ρ.length) ∨ (j ≠ i ∧ get ρ j = some e) := by
  induction ρ generalizing i j with
  | nil => cases i <;> cases j <;> simp [put, get] at h
  | cons x r ih => cases i with
    | zero => cases j with
      | zero => simp [put, get] at h; exact .inl ⟨rfl, h.symm, by simp⟩
      | succ j => simp [put, get] at h; exact .inr ⟨by omega, by simpa [get] using h⟩
    | succ i => cases j with
      | zero => simp [put, get] at h; exact .inr ⟨by omega, by simpa [get] using h⟩
      | succ j =>
        simp [put, get] at h
        rcases ih i j h with ⟨a, b, c⟩ | ⟨a, b⟩
        · exact .inl ⟨by omega, b, by simpa using c⟩
        · exact .inr ⟨by omega, by simpa [get] using b⟩
theorem RE.put {K : PySem.W.Frag} {F : Hp} {ρ : Env} {σ : L2.St} (r : RE K F ρ σ) (i : Nat) {v : V} {d : D} (h : Is K F v d) : RE K F (DL.put ρ i d) (σ.set i (some v)) := by
  refine ⟨by rw [put_length, List.length_set]; exact r.len, fun j e he => ?_⟩
  rcases get_put ρ i j d e he with ⟨rfl, rfl, c⟩ | ⟨a, b⟩
  · exact ⟨v, by rw [List.getElem?_set_self (by rw [← r.len]; exact c)], h⟩
  · obtain ⟨u, x, y⟩ := r.at_ j e b
    exact ⟨u, by rw [List.getElem?_set_ne (Ne.symm a)]; exact x, y⟩
theorem get_set_none (ρ : Env) (v i : Nat) (d : D) (h : get (ρ.set v none) i = some d) : get ρ i = some d ∧ i ≠ v := by
  induction ρ generalizing v i with
  | nil => simp [get] at h
  | cons x r ih => cases v with
    | zero => cases i with
      | zero => simp [get] at h
      | succ i => simp [get] at h; exact ⟨by simpa [get] using h, by omega⟩
    | succ v => cases i with
      | zero => simp [get] at h; exact ⟨by simpa [get] using h, by omega⟩
      | succ i =>
        simp [get] at h
        obtain ⟨a, b⟩ := ih v i h
        exact ⟨by simpa [get] using a, by omega⟩
theorem RE.wip {K : PySem.W.Frag} {F : Hp} {ρ : Env} {σ : L2.St} (r : RE K F ρ σ) : ∀ vs : List Nat, RE K F (DL.wip ρ vs) (wipe σ vs)
  | [] => r
  | v :: vs => by
    have ih := RE.wip r vs
    refine ⟨by unfold DL.wip wipe; rw [List.length_set, List.length_set]; exact ih.len, fun i d h => ?_⟩
    unfold DL.wip at h
    obtain ⟨a, b⟩ := get_set_none _ _ _ _ h
    obtain ⟨u, x, y⟩ := ih.at_ i d a
    refine ⟨u, ?_, y⟩
    unfold wipe
    rw [List.getElem?_set_ne (Ne.symm b)]
    exact x
end DL
/-! DL3: each construct of an expression, over data. -/
namespace DL
open PySem PySem.Spec PyProof.Rows L2

/-- exceptions: their classes, the name of the one field -/
structure XC where
  cls : Nat → Value
  fld : Nat → Str
def PayOk (C : XC) (c : Nat) (d : D) (dx : Option Addr) (H : Hp) : Prop :=
  (d = .non ∧ dx = none) ∨ ∃ a n, d = .int n ∧ dx = some a ∧ H a = some (.xd [(C.fld c, .int n)])
/-- the promise over data, as one of the layer's -/
def lift (K : PySem.W.Frag) (ω : World) (C : XC) (sp : DSp) : Sp := fun vs H Q E => ∃ ds St F q qx, SR K ω F St H ∧ IsL K F vs ds ∧ sp ds St q qx ∧
  (∀ d S' v F' H', q d S' → Fr F St H F' S' H' → SR K ω F' S' H' → Is K F' v d → Q v H') ∧
  (∀ c d S' F' H' dx, qx c d S' → Fr F St H F' S' H' → SR K ω F' S' H' → PayOk C c d dx H' → E (C.cls c) dx H')

/-- what stays of a context through a def's body, what changes -/
structure Bx where
  prog : Program
  w : World
  K : PySem.W.Frag
  mg : Str → Option Value
  base : Heap
  N : List Str
structure Dl where
  A : Around
  s_0 : Shared
  H_0 : Hp
  env : PySem.Env
  outer : List PySem.Env
  stack : List PySem.Env
  ex : List Addr
  fn : Str → Bool
  calm : Bool
  pn : List (Addr × Obj)
  xe : Value → Shared → Prop
def cx (B : Bx) (δ : Dl) : Cx where
  prog := B.prog
  w := B.w
  K := B.K
  mg := B.mg
  base := B.base
  A := δ.A
  N := B.N
  s_0 := δ.s_0
  H_0 := δ.H_0
  env := δ.env
  outer := δ.outer
  stack := δ.stack
  ex := δ.ex
  fn := δ.fn
  calm := δ.calm
  pn := δ.pn
  xe := δ.xe

/-- what is wanted where an exception leaves -/
def EQ (K : PySem.W.Frag) (ω : World) (W : WX) (C : XC) (xq : QX) (F : Hp) (St : Sto) (H : Hp) (σ : L2.St) : Prop :=
  ∀ c d S' F' H' dx, Fr F St H F' S' H' → SR K ω F' S' H' → PayOk C c d dx H' → xq c d S' → W (C.cls c) dx σ H'
theorem EQ.step {K : PySem.W.Frag} {ω : World} {W : WX} {C : XC} {xq : QX} {F F1 : Hp} {St S1 : Sto} {H H1 : Hp} {σ : L2.St} (h : EQ K ω W C xq F St H σ) (f : Fr F St H F1 S1 H1) : EQ K ω W C xq F1 S1 H1 σ :=
  fun c d S' F' H' dx g r p q => h c d S' F' H' dx (f.trans g) r p q

structure SE (B : Bx) (Y : Dl → Prop) (W : WX) (C : XC) (xq : QX) (x : Expr) (w : Env → Sto → QD → Prop) : Prop where
  ex : ∃ t : TE, (∀ δ, Y δ → PE (cx B δ) x t) ∧ ∀ (ρ : Env) (St : Sto) (F : Hp) (σ : L2.St) (H : Hp) (q : QD) (Q : VK), SR B.K B.w F St H → RE B.K F ρ σ → EQ B.K B.w W C xq F St H σ → w ρ St q →
    (∀ d S' F' v H', Fr F St H F' S' H' → SR B.K B.w F' S' H' → Is B.K F' v d → q d S' → Q v H') → t σ H Q
structure ST (B : Bx) (Y : Dl → Prop) (W : WX) (C : XC) (xq : QX) (x : Expr) (w : Env → Sto → (Bool → Sto → Prop) → Prop) : Prop where
  ex : ∃ t : TT, (∀ δ, Y δ → PT (cx B δ) x t) ∧ ∀ (ρ : Env) (St : Sto) (F : Hp) (σ : L2.St) (H : Hp) (q : Bool → Sto → Prop) (Q : Bool → Hp → Prop), SR B.K B.w F St H → RE B.K F ρ σ → EQ B.K B.w W C xq F St H σ → w ρ St q →
    (∀ b S' F' H', Fr F St H F' S' H' → SR B.K B.w F' S' H' → q b S' → Q b H') → t σ H Q
structure SA (B : Bx) (Y : Dl → Prop) (W : WX) (C : XC) (xq : QX) (xs : List Expr) (w : Env → Sto → (List D → Sto → Prop) → Prop) : Prop where
  ex : ∃ t : TA, (∀ δ, Y δ → PA (cx B δ) xs t) ∧ ∀ (ρ : Env) (St : Sto) (F : Hp) (σ : L2.St) (H : Hp) (q : List D → Sto → Prop) (Q : List V → Hp → Prop), SR B.K B.w F St H → RE B.K F ρ σ → EQ B.K B.w W C xq F St H σ → w ρ St q →
    (∀ ds S' F' vs H', Fr F St H F' S' H' → SR B.K B.w F' S' H' → IsL B.K F' vs ds → ds.length = xs.length → q ds S' → Q vs H') → t σ H Q

section
variable {B : Bx} {Y : Dl → Prop} {W : WX} {C : XC} {xq : QX} {a b c : Expr} {wa wb wc : Env → Sto → QD → Prop} {pos : Pos}

theorem nm_dbg {x : Str} (h : (x != ("__debug__" : Str) && x != ("__classdict__" : Str)) = true) : (x == ("__debug__" : Str)) = false ∧ (x == ("__classdict__" : Str)) = false := by
  rw [Bool.and_eq_true] at h
  exact ⟨by simpa [bne] using h.1, by simpa [bne] using h.2⟩

theorem SE.var {i : Nat} {x : Str} (hN : B.N[i]? = some x) (hv : ∀ δ, Y δ → Vis δ.env.scope x) (hd : (x == ("__debug__" : Str)) = false) (hc : (x == ("__classdict__" : Str)) = false) :
    SE B Y W C xq (.Name x pos) (fun ρ St q => ∃ d, get ρ i = some d ∧ q d St) := by
  refine ⟨⟨_, fun δ hδ => pe_var hN (hv δ hδ) hd hc, fun ρ St F σ H q Q r e _ w k => ?_⟩⟩
  obtain ⟨d, g, w⟩ := w
  obtain ⟨v, hv, is⟩ := e.at_ i d g
  exact ⟨v, hv, k d St F v H Fr.refl r is w⟩
theorem SE.non {j : Nat} : SE B Y W C xq (.Constant .none j pos) (fun _ St q => q .non St) :=
  ⟨⟨_, fun δ hδ => pe_non, fun ρ St F σ H q Q r e _ w k => k _ St F _ H Fr.refl r .non w⟩⟩
theorem SE.bl {j : Nat} {b : Bool} : SE B Y W C xq (.Constant (.bool b) j pos) (fun _ St q => q (.bl b) St) :=
  ⟨⟨_, fun δ hδ => pe_bl, fun ρ St F σ H q Q r e _ w k => k _ St F _ H Fr.refl r (.bl b) w⟩⟩
theorem SE.int {j : Nat} {i : Int} : SE B Y W C xq (.Constant (.int i) j pos) (fun _ St q => q (.int i) St) :=
  ⟨⟨_, fun δ hδ => pe_int, fun ρ St F σ H q Q r e _ w k => k _ St F _ H Fr.refl r (.int i) w⟩⟩
theorem SE.str {j : Nat} {z : Str} {s : Bs} (hz : z = mkS s) (hl : s.length ≤ sizeLine) : SE B Y W C xq (.Constant (.str z) j pos) (fun _ St q => q (.str s) St) := by
  subst hz
  exact ⟨⟨_, fun δ hδ => pe_str, fun ρ St F σ H q Q r e _ w k => k _ St F _ H Fr.refl r (.str s hl) w⟩⟩
theorem SE.glb {x : Str} {v : V} {u : Value} {d : D} (hg : ∀ δ, Y δ → Gl (cx B δ) x) (hm : B.mg x = some u) (rv : RelV v u) (is : Is B.K (fun _ => none) v d) (hd : (x == ("__debug__" : Str)) = false) :
    SE B Y W C xq (.Name x pos) (fun _ St q => q d St) :=
  ⟨⟨_, fun δ hδ => pe_glob (hg δ hδ) hm rv hd, fun ρ St F σ H q Q r e _ w k => k d St F v H Fr.refl r (is.mono fun _ _ z => by cases z) w⟩⟩

theorem SA.nil : SA B Y W C xq [] (fun _ St q => q [] St) := ⟨⟨_, fun δ hδ => pa_nil, fun ρ St F σ H q Q r e _ w k => k [] St F [] H Fr.refl r .nil rfl w⟩⟩
theorem SA.cons {es : List Expr} {ws : Env → Sto → (List D → Sto → Prop) → Prop} (ha : SE B Y W C xq a wa) (hs : SA B Y W C xq es ws) (st : ∀ env, starEach (a :: es) env = (false, eval a env) :: starEach es env) :
    SA B Y W C xq (a :: es) (fun ρ St q => wa ρ St fun x S1 => ws ρ S1 fun xs S2 => q (x :: xs) S2) := by
  obtain ⟨ta, pa, ka⟩ := ha.ex
  obtain ⟨ts, ps, ks⟩ := hs.ex
  refine ⟨⟨_, fun δ hδ => pa_cons (pa δ hδ) (ps δ hδ) (st _), fun ρ St F σ H q Q r e x w k => ?_⟩⟩
  refine ka ρ St F σ H _ _ r e x w fun d S1 F1 v H1 f1 r1 i1 w1 => ?_
  refine ks ρ S1 F1 σ H1 _ _ r1 (e.mono f1.ext) (x.step f1) w1 fun ds S2 F2 vs H2 f2 r2 i2 l2 w2 => ?_
  exact k _ S2 F2 _ H2 (f1.trans f2) r2 (.cons (i1.mono f2.ext) i2) (by rw [List.length_cons, List.length_cons, l2]) w2

theorem small_of {n : Nat} (h : n ≤ SZ) : n ≤ sizeLine := by rw [sizeLine_eq]; exact h

theorem SE.tup {es : List Expr} {ws : Env → Sto → (List D → Sto → Prop) → Prop} {n : Nat} (hs : SA B Y W C xq es ws) (hl : es.length ≤ 1000) :
    SE B Y W C xq (.Tuple es n pos) (fun ρ St q => ws ρ St fun ds S1 => q (.tup ds) S1) := by
  obtain ⟨ts, ps, ks⟩ := hs.ex
  refine ⟨⟨_, fun δ hδ => pe_tup (ps δ hδ), fun ρ St F σ H q Q r e x w k => ?_⟩⟩
  refine ks ρ St F σ H _ _ r e x w fun ds S1 F1 vs H1 f1 r1 i1 l1 w1 => ?_
  have hz : vs.length ≤ sizeLine := by rw [i1.length, l1]; exact Nat.le_of_lt (small1000 hl)
  refine ⟨hz, fun p hp => ?_⟩
  obtain ⟨r2, f2⟩ := r1.lay (o := .tup vs) hp
  exact k _ S1 _ _ _ (f1.trans f2) r2 (.tup (.inl (.inl upd_same)) hz (i1.mono f2.ext)) w1
theorem SE.lst {es : List Expr} {ws : Env → Sto → (List D → Sto → Prop) → Prop} (hs : SA B Y W C xq es ws) (hl : es.length ≤ 1000) :
    SE B Y W C xq (.List es pos) (fun ρ St q => ws ρ St fun ds S1 => q (.lst ds) S1) := by
  obtain ⟨ts, ps, ks⟩ := hs.ex
  refine ⟨⟨_, fun δ hδ => pe_lst (ps δ hδ), fun ρ St F σ H q Q r e x w k => ?_⟩⟩
  refine ks ρ St F σ H _ _ r e x w fun ds S1 F1 vs H1 f1 r1 i1 l1 w1 => ?_
  have hz : vs.length ≤ sizeLine := by rw [i1.length, l1]; exact Nat.le_of_lt (small1000 hl)
  refine ⟨hz, fun p hp => ?_⟩
  obtain ⟨r2, f2⟩ := r1.lay (o := .lst vs) hp
  exact k _ S1 _ _ _ (f1.trans f2) r2 (.lst upd_same hz (i1.mono f2.ext)) w1
theorem SE.newl {es : List Expr} {ws : Env → Sto → (List D → Sto → Prop) → Prop} (hs : SA B Y W C xq es ws) (hl : es.length ≤ 1000) :
    SE B Y W C xq (.List es pos) (fun ρ St q => ws ρ St fun ds S1 => ∀ p, S1 p = none → q (.ref p) (ups S1 p (.lst ds))) := by
  obtain ⟨ts, ps, ks⟩ := hs.ex
  refine ⟨⟨_, fun δ hδ => pe_lst (ps δ hδ), fun ρ St F σ H q Q r e x w k => ?_⟩⟩
  refine ks ρ St F σ H _ _ r e x w fun ds S1 F1 vs H1 f1 r1 i1 l1 w1 => ?_
  have hz : vs.length ≤ sizeLine := by rw [i1.length, l1]; exact Nat.le_of_lt (small1000 hl)
  refine ⟨hz, fun p hp => ?_⟩
  obtain ⟨r2, f2⟩ := r1.make (o := .lst vs) (q := .lst ds) hp ⟨vs, upd_same, hz, i1⟩
  exact k _ _ _ _ _ (f1.trans f2) r2 (.ref p) (w1 p (r1.fresh hp).2)
theorem SE.newd : SE B Y W C xq (.Dict [] [] pos) (fun _ St q => ∀ p, St p = none → q (.ref p) (ups St p (.dct []))) := by
  refine ⟨⟨_, fun δ hδ => pe_dnewK, fun ρ St F σ H q Q r e x w k p hp => ?_⟩⟩
  obtain ⟨r2, f2⟩ := r.make (o := .dK []) (q := .dct []) hp ⟨[], upd_same, Nat.zero_le _, List.nodup_nil, .nil⟩
  exact k _ _ _ _ _ f2 r2 (.ref p) (w p (r.fresh hp).2)

/-! ### two operands -/
theorem SE.op2 {op : Operator} {rr : R2} {z : D → D → Sto → (D → Prop) → Prop} (ho : ∀ δ, Y δ → OpR (cx B δ) (binaryOp op) rr) (ha : SE B Y W C xq a wa) (hb : SE B Y W C xq b wb)
    (hr : ∀ (F : Hp) (St : Sto) (H : Hp) (v u : V) (x y : D) (q : D → Prop) (Q : VK), SR B.K B.w F St H → Is B.K F v x → Is B.K F u y → z x y St q → (∀ d F' v' H', Fr F St H F' St H' → SR B.K B.w F' St H' → Is B.K F' v' d → q d → Q v' H') → rr v u H Q) :
    SE B Y W C xq (.BinOp a op b pos) (fun ρ St q => wa ρ St fun x S1 => wb ρ S1 fun y S2 => z x y S2 fun d => q d S2) := by
  obtain ⟨ta, pa, ka⟩ := ha.ex
  obtain ⟨tb, pb, kb⟩ := hb.ex
  refine ⟨⟨_, fun δ hδ => pe_op (ho δ hδ) (pa δ hδ) (pb δ hδ), fun ρ St F σ H q Q r e x w k => ?_⟩⟩
  refine ka ρ St F σ H _ _ r e x w fun d S1 F1 v H1 f1 r1 i1 w1 => ?_
  refine kb ρ S1 F1 σ H1 _ _ r1 (e.mono f1.ext) (x.step f1) w1 fun d2 S2 F2 v2 H2 f2 r2 i2 w2 => ?_
  exact hr F2 S2 H2 v v2 d d2 _ Q r2 (i1.mono f2.ext) i2 w2 fun d3 F3 v3 H3 f3 r3 i3 w3 => k d3 S2 F3 v3 H3 ((f1.trans f2).trans f3) r3 i3 w3
theorem sum_len {m n : Nat} (h : m + n ≤ SZ) : m + n ≤ sizeLine := small_of h
theorem mkS_cat (a b : Bs) : mkS a ++ mkS b = mkS (a ++ b) := by
  have : (mkS a ++ mkS b).cps.toList = a ++ b := by
    show ((mkS a).cps ++ (mkS b).cps).toList = a ++ b
    simp [mkS]
  rw [← this, mkS_tl]
/-- + -/
def rAddD (K : PySem.W.Frag) : R2 := fun x y H Q => rI0 (fun i j => .int (i + j)) x y H Q ∨ (∃ i j, x = .str i ∧ y = .str j ∧ i.length + j.length ≤ sizeLine ∧ Q (.str (i ++ j)) H) ∨ rCatA K x y H Q ∨ rCat x y H Q
theorem op_addD {X : Cx} : OpR X (binaryOp .Add) (rAddD X.K) := op_add.or (op_add_str.or (op_catA.or op_cat))
theorem SE.add (ha : SE B Y W C xq a wa) (hb : SE B Y W C xq b wb) : SE B Y W C xq (.BinOp a .Add b pos) (fun ρ St q => wa ρ St fun x S1 => wb ρ S1 fun y S2 => wBin .add x y fun d => q d S2) := by
  refine SE.op2 (rr := rAddD B.K) (z := fun x y _ => wBin .add x y) (fun δ _ => op_addD) ha hb fun F St H v u x y q Q r ix iy w k => ?_
  cases ix with
  | int i => cases iy with
    | int j => exact .inl ⟨i, j, rfl, rfl, k _ F _ H Fr.refl r (.int _) w⟩
    | _ => exact False.elim w
  | str s zs => cases iy with
    | str t zt =>
      obtain ⟨hz, w⟩ := w
      refine .inr (.inl ⟨mkS s, mkS t, rfl, rfl, by rw [mkS_len, mkS_len]; exact sum_len hz, ?_⟩)
      rw [mkS_cat]
      exact k _ F _ H Fr.refl r (.str _ (by rw [List.length_append]; exact sum_len hz)) w
    | _ => exact False.elim w
  | @tup p xs ds hx zx ix => cases iy with
    | @tup p2 ys es hy zy iy =>
      obtain ⟨hz, w⟩ := w
      have hz' : xs.length + ys.length ≤ sizeLine := by rw [ix.length, iy.length]; exact sum_len hz
      refine .inr (.inr (.inl ⟨p, p2, xs, ys, rfl, rfl, sqT_same r.sub hx, sqT_same r.sub hy, hz', fun e => ?_, fun e e2 => ?_, fun e e2 p3 hp => ?_⟩))
      · subst e
        cases ix
        exact k _ F _ H Fr.refl r (.tup hy zy iy) w
      · subst e2
        cases iy
        rw [List.append_nil] at w
        exact k _ F _ H Fr.refl r (.tup hx zx ix) w
      · obtain ⟨r2, f2⟩ := r.lay (o := .tup (xs ++ ys)) hp
        exact k _ _ _ _ f2 r2 (.tup (.inl (.inl upd_same)) (by rw [List.length_append]; exact hz') ((ix.append iy).mono f2.ext)) w
    | _ => exact False.elim w
  | @lst p xs ds hx zx ix => cases iy with
    | @lst p2 ys es hy zy iy =>
      obtain ⟨hz, w⟩ := w
      have hz' : xs.length + ys.length ≤ sizeLine := by rw [ix.length, iy.length]; exact sum_len hz
      refine .inr (.inr (.inr ⟨p, p2, xs, ys, rfl, rfl, r.sub _ _ hx, r.sub _ _ hy, hz', fun p3 hp => ?_⟩))
      obtain ⟨r2, f2⟩ := r.lay (o := .lst (xs ++ ys)) hp
      exact k _ _ _ _ f2 r2 (.lst upd_same (by rw [List.length_append]; exact hz') ((ix.append iy).mono f2.ext)) w
    | _ => exact False.elim w
  | _ => exact False.elim (by cases iy <;> exact w)
theorem SE.sub (ha : SE B Y W C xq a wa) (hb : SE B Y W C xq b wb) : SE B Y W C xq (.BinOp a .Sub b pos) (fun ρ St q => wa ρ St fun x S1 => wb ρ S1 fun y S2 => wBin .sub x y fun d => q d S2) := by
  refine SE.op2 (z := fun x y _ => wBin .sub x y) (fun δ _ => op_sub) ha hb fun F St H v u x y q Q r ix iy w k => ?_
  cases ix with
  | int i => cases iy with
    | int j => exact ⟨i, j, rfl, rfl, k _ F _ H Fr.refl r (.int _) w⟩
    | _ => exact False.elim w
  | _ => exact False.elim (by cases iy <;> exact w)
theorem SE.mul (ha : SE B Y W C xq a wa) (hb : SE B Y W C xq b wb) : SE B Y W C xq (.BinOp a .Mult b pos) (fun ρ St q => wa ρ St fun x S1 => wb ρ S1 fun y S2 => wBin .mul x y fun d => q d S2) := by
  refine SE.op2 (z := fun x y _ => wBin .mul x y) (fun δ _ => op_mul) ha hb fun F St H v u x y q Q r ix iy w k => ?_
  cases ix with
  | int i => cases iy with
    | int j =>
      obtain ⟨hz, w⟩ := w
      exact ⟨i, j, rfl, rfl, hz, k _ F _ H Fr.refl r (.int _) w⟩
    | _ => exact False.elim w
  | _ => exact False.elim (by cases iy <;> exact w)
theorem SE.fdiv (ha : SE B Y W C xq a wa) (hb : SE B Y W C xq b wb) : SE B Y W C xq (.BinOp a .FloorDiv b pos) (fun ρ St q => wa ρ St fun x S1 => wb ρ S1 fun y S2 => wBin .fdiv x y fun d => q d S2) := by
  refine SE.op2 (z := fun x y _ => wBin .fdiv x y) (fun δ _ => op_fdiv) ha hb fun F St H v u x y q Q r ix iy w k => ?_
  cases ix with
  | int i => cases iy with
    | int j =>
      obtain ⟨hz, w⟩ := w
      exact ⟨i, j, rfl, rfl, hz, k _ F _ H Fr.refl r (.int _) w⟩
    | _ => exact False.elim w
  | _ => exact False.elim (by cases iy <;> exact w)
theorem SE.mod (ha : SE B Y W C xq a wa) (hb : SE B Y W C xq b wb) : SE B Y W C xq (.BinOp a .Mod b pos) (fun ρ St q => wa ρ St fun x S1 => wb ρ S1 fun y S2 => wBin .mod x y fun d => q d S2) := by
  refine SE.op2 (z := fun x y _ => wBin .mod x y) (fun δ _ => op_mod) ha hb fun F St H v u x y q Q r ix iy w k => ?_
  cases ix with
  | int i => cases iy with
    | int j =>
      obtain ⟨hz, w⟩ := w
      exact ⟨i, j, rfl, rfl, hz, k _ F _ H Fr.refl r (.int _) w⟩
    | _ => exact False.elim w
  | _ => exact False.elim (by cases iy <;> exact w)
theorem SE.neg (ha : SE B Y W C xq a wa) : SE B Y W C xq (.UnaryOp .USub a pos) (fun ρ St q => wa ρ St fun x S1 => match x with | .int i => q (.int (-i)) S1 | _ => False) := by
  obtain ⟨ta, pa, ka⟩ := ha.ex
  refine ⟨⟨_, fun δ hδ => pe_un un_neg (pa δ hδ), fun ρ St F σ H q Q r e x w k => ?_⟩⟩
  refine ka ρ St F σ H _ _ r e x w fun d S1 F1 v H1 f1 r1 i1 w1 => ?_
  cases i1 with
  | int i => exact ⟨i, rfl, k _ S1 F1 _ H1 f1 r1 (.int _) w1⟩
  | _ => exact False.elim w1

/-! ### truth -/
theorem tru_of {K : PySem.W.Frag} {ω : World} {F : Hp} {St : Sto} {H : Hp} {v : V} {d : D} {b : Bool} (r : SR K ω F St H) (i : Is K F v d) (h : tru St d = some b) : TruV K v H b := by
  cases i with
  | non => exact (Option.some.inj h).symm
  | bl x => exact (Option.some.inj h).symm
  | int j => exact (Option.some.inj h).symm
  | str s z =>
    refine ⟨by rw [mkS_len]; exact z, ?_⟩
    rw [mkS_len, ← Option.some.inj h]
    cases s with
    | nil => rfl
    | cons c t => simp; omega
  | @tup a xs ds hx z ix =>
    refine .inr (.inl ⟨xs, sqT_same r.sub hx, ?_⟩)
    rw [← Option.some.inj h]
    cases ix <;> rfl
  | @lst a xs ds hx z ix =>
    refine .inl ⟨xs, SqL.of (r.sub _ _ hx), ?_⟩
    rw [← Option.some.inj h]
    cases ix <;> rfl
  | dct => cases h
  | scr => cases h
  | ref a =>
    cases e : St a with
    | none => simp only [tru, e] at h; cases h
    | some o =>
      simp only [tru, e] at h
      have ho := (r.own a o e).2
      cases o with
      | lst ds =>
        obtain ⟨xs, hx, z, ix⟩ := ho
        refine .inl ⟨xs, SqL.of hx, ?_⟩
        rw [← Option.some.inj h]
        cases ix <;> rfl
      | dct ds =>
        obtain ⟨xs, hx, z, nd, ix⟩ := ho
        refine .inr (.inr ⟨xs, hx, ?_⟩)
        rw [← Option.some.inj h]
        cases ix <;> rfl
      | ins => cases h
      | tdc => cases h
theorem SE.not (ha : SE B Y W C xq a wa) : SE B Y W C xq (.UnaryOp .Not a pos) (fun ρ St q => wa ρ St fun x S1 => ∃ b, tru S1 x = some b ∧ q (.bl (!b)) S1) := by
  obtain ⟨ta, pa, ka⟩ := ha.ex
  refine ⟨⟨tNotT B.K ta, fun δ hδ => pe_notT (pa δ hδ), fun ρ St F σ H q Q r e x w k => ?_⟩⟩
  refine ka ρ St F σ H _ _ r e x w fun d S1 F1 v H1 f1 r1 i1 w1 => ?_
  obtain ⟨b, hb, w1⟩ := w1
  exact ⟨b, tru_of r1 i1 hb, k _ S1 F1 _ H1 f1 r1 (.bl _) w1⟩
theorem SE.bool1 {op : BoolOp} (ha : SE B Y W C xq a wa) : SE B Y W C xq (.BoolOp op [a] pos) wa := by
  obtain ⟨ta, pa, ka⟩ := ha.ex
  exact ⟨⟨_, fun δ hδ => pe_one (pa δ hδ), ka⟩⟩
theorem SE.and {rest : List Expr} (ha : SE B Y W C xq a wa) (hb : SE B Y W C xq (.BoolOp .And (b :: rest) pos) wb) :
    SE B Y W C xq (.BoolOp .And (a :: b :: rest) pos) (fun ρ St q => wa ρ St fun x S1 => ∃ k, tru S1 x = some k ∧ if k = true then wb ρ S1 q else q x S1) := by
  obtain ⟨ta, pa, ka⟩ := ha.ex
  obtain ⟨tb, pb, kb⟩ := hb.ex
  refine ⟨⟨tAndT B.K ta tb, fun δ hδ => pe_andT (pa δ hδ) (pb δ hδ), fun ρ St F σ H q Q r e x w k => ?_⟩⟩
  refine ka ρ St F σ H _ _ r e x w fun d S1 F1 v H1 f1 r1 i1 w1 => ?_
  obtain ⟨t, ht, w1⟩ := w1
  refine ⟨t, tru_of r1 i1 ht, ?_⟩
  cases t with
  | true => exact kb ρ S1 F1 σ H1 _ _ r1 (e.mono f1.ext) (x.step f1) w1 fun d2 S2 F2 v2 H2 f2 r2 i2 w2 => k d2 S2 F2 v2 H2 (f1.trans f2) r2 i2 w2
  | false => exact k d S1 F1 v H1 f1 r1 i1 w1
theorem SE.or {rest : List Expr} (ha : SE B Y W C xq a wa) (hb : SE B Y W C xq (.BoolOp .Or (b :: rest) pos) wb) :
    SE B Y W C xq (.BoolOp .Or (a :: b :: rest) pos) (fun ρ St q => wa ρ St fun x S1 => ∃ k, tru S1 x = some k ∧ if k = false then wb ρ S1 q else q x S1) := by
  obtain ⟨ta, pa, ka⟩ := ha.ex
  obtain ⟨tb, pb, kb⟩ := hb.ex
  refine ⟨⟨tOrT B.K ta tb, fun δ hδ => pe_orT (pa δ hδ) (pb δ hδ), fun ρ St F σ H q Q r e x w k => ?_⟩⟩
  refine ka ρ St F σ H _ _ r e x w fun d S1 F1 v H1 f1 r1 i1 w1 => ?_
  obtain ⟨t, ht, w1⟩ := w1
  refine ⟨t, tru_of r1 i1 ht, ?_⟩
  cases t with
  | true => exact k d S1 F1 v H1 f1 r1 i1 w1
  | false => exact kb ρ S1 F1 σ H1 _ _ r1 (e.mono f1.ext) (x.step f1) w1 fun d2 S2 F2 v2 H2 f2 r2 i2 w2 => k d2 S2 F2 v2 H2 (f1.trans f2) r2 i2 w2
theorem SE.ite {tc : Env → Sto → (Bool → Sto → Prop) → Prop} (hc : ST B Y W C xq c tc) (ha : SE B Y W C xq a wa) (hb : SE B Y W C xq b wb) :
    SE B Y W C xq (.IfExp c a b pos) (fun ρ St q => tc ρ St fun k S1 => if k = true then wa ρ S1 q else wb ρ S1 q) := by
  obtain ⟨tcc, pc, kc⟩ := hc.ex
  obtain ⟨ta, pa, ka⟩ := ha.ex
  obtain ⟨tb, pb, kb⟩ := hb.ex
  refine ⟨⟨_, fun δ hδ => pe_ifExp (pc δ hδ) (pa δ hδ) (pb δ hδ), fun ρ St F σ H q Q r e x w k => ?_⟩⟩
  refine kc ρ St F σ H _ _ r e x w fun t S1 F1 H1 f1 r1 w1 => ?_
  cases t with
  | true => exact ka ρ S1 F1 σ H1 _ _ r1 (e.mono f1.ext) (x.step f1) w1 fun d2 S2 F2 v2 H2 f2 r2 i2 w2 => k d2 S2 F2 v2 H2 (f1.trans f2) r2 i2 w2
  | false => exact kb ρ S1 F1 σ H1 _ _ r1 (e.mono f1.ext) (x.step f1) w1 fun d2 S2 F2 v2 H2 f2 r2 i2 w2 => k d2 S2 F2 v2 H2 (f1.trans f2) r2 i2 w2
theorem ST.val (ha : SE B Y W C xq a wa) (he : ∀ env whole, isTrue a env whole = (do let v ← whole; standAt a.pos; holding [v] (truthy v))) : ST B Y W C xq a (fun ρ St q => wa ρ St fun x S1 => ∃ b, tru S1 x = some b ∧ q b S1) := by
  obtain ⟨ta, pa, ka⟩ := ha.ex
  refine ⟨⟨fun σ H Q => ta σ H fun x H' => ∃ k, TruV B.K x H' k ∧ Q k H', fun δ hδ => pt_truth (pa δ hδ) (he _), fun ρ St F σ H q Q r e x w k => ?_⟩⟩
  refine ka ρ St F σ H _ _ r e x w fun d S1 F1 v H1 f1 r1 i1 w1 => ?_
  obtain ⟨b, hb, w1⟩ := w1
  exact ⟨b, tru_of r1 i1 hb, k _ S1 F1 H1 f1 r1 w1⟩
theorem ST.not {tc : Env → Sto → (Bool → Sto → Prop) → Prop} (hc : ST B Y W C xq a tc) : ST B Y W C xq (.UnaryOp .Not a pos) (fun ρ St q => tc ρ St fun b S1 => q (!b) S1) := by
  obtain ⟨tcc, pc, kc⟩ := hc.ex
  exact ⟨⟨_, fun δ hδ => pt_not (pc δ hδ), fun ρ St F σ H q Q r e x w k => kc ρ St F σ H _ _ r e x w fun t S1 F1 H1 f1 r1 w1 => k _ S1 F1 H1 f1 r1 w1⟩⟩
end
/-- a test whatever its 'whole' is -/
structure SW (B : Bx) (Y : Dl → Prop) (W : WX) (C : XC) (xq : QX) (x : Expr) (w : Env → Sto → (Bool → Sto → Prop) → Prop) : Prop where
  ex : ∃ t : TT, (∀ δ, Y δ → PW (cx B δ) x t) ∧ ∀ (ρ : Env) (St : Sto) (F : Hp) (σ : L2.St) (H : Hp) (q : Bool → Sto → Prop) (Q : Bool → Hp → Prop), SR B.K B.w F St H → RE B.K F ρ σ → EQ B.K B.w W C xq F St H σ → w ρ St q →
    (∀ b S' F' H', Fr F St H F' S' H' → SR B.K B.w F' S' H' → q b S' → Q b H') → t σ H Q
section
variable {B : Bx} {Y : Dl → Prop} {W : WX} {C : XC} {xq : QX} {a b c : Expr} {wa wb wc : Env → Sto → QD → Prop} {ta tb : Env → Sto → (Bool → Sto → Prop) → Prop} {pos : Pos}
theorem SW.st (h : SW B Y W C xq a ta) : ST B Y W C xq a ta := by
  obtain ⟨t, p, k⟩ := h.ex
  exact ⟨⟨t, fun δ hδ => (p δ hδ).pt, k⟩⟩
theorem SW.and1 (h : ST B Y W C xq a ta) : SW B Y W C xq (.BoolOp .And [a] pos) ta := by
  obtain ⟨t, p, k⟩ := h.ex
  exact ⟨⟨_, fun δ hδ => pw_and1 (p δ hδ), k⟩⟩
theorem SW.or1 (h : ST B Y W C xq a ta) : SW B Y W C xq (.BoolOp .Or [a] pos) ta := by
  obtain ⟨t, p, k⟩ := h.ex
  exact ⟨⟨_, fun δ hδ => pw_or1 (p δ hδ), k⟩⟩
theorem SW.and {rest : List Expr} (ha : ST B Y W C xq a ta) (hb : SW B Y W C xq (.BoolOp .And (b :: rest) pos) tb) :
    SW B Y W C xq (.BoolOp .And (a :: b :: rest) pos) (fun ρ St q => ta ρ St fun k S1 => if k = true then tb ρ S1 q else q k S1) := by
  obtain ⟨t1, p1, k1⟩ := ha.ex
  obtain ⟨t2, p2, k2⟩ := hb.ex
  refine ⟨⟨_, fun δ hδ => pw_and (p1 δ hδ) (p2 δ hδ), fun ρ St F σ H q Q r e x w k => ?_⟩⟩
  refine k1 ρ St F σ H _ _ r e x w fun t S1 F1 H1 f1 r1 w1 => ?_
  cases t with
  | true => exact k2 ρ S1 F1 σ H1 _ _ r1 (e.mono f1.ext) (x.step f1) w1 fun d2 S2 F2 H2 f2 r2 w2 => k d2 S2 F2 H2 (f1.trans f2) r2 w2
  | false => exact k _ S1 F1 H1 f1 r1 w1
theorem SW.or {rest : List Expr} (ha : ST B Y W C xq a ta) (hb : SW B Y W C xq (.BoolOp .Or (b :: rest) pos) tb) :
    SW B Y W C xq (.BoolOp .Or (a :: b :: rest) pos) (fun ρ St q => ta ρ St fun k S1 => if k = false then tb ρ S1 q else q k S1) := by
  obtain ⟨t1, p1, k1⟩ := ha.ex
  obtain ⟨t2, p2, k2⟩ := hb.ex
  refine ⟨⟨_, fun δ hδ => pw_or (p1 δ hδ) (p2 δ hδ), fun ρ St F σ H q Q r e x w k => ?_⟩⟩
  refine k1 ρ St F σ H _ _ r e x w fun t S1 F1 H1 f1 r1 w1 => ?_
  cases t with
  | true => exact k _ S1 F1 H1 f1 r1 w1
  | false => exact k2 ρ S1 F1 σ H1 _ _ r1 (e.mono f1.ext) (x.step f1) w1 fun d2 S2 F2 H2 f2 r2 w2 => k d2 S2 F2 H2 (f1.trans f2) r2 w2

/-! ### comparisons -/
def CmR (B : Bx) (Y : Dl → Prop) (op : CmpOp) (o : Cm) : Prop := ∃ rr : R2, (∀ δ, Y δ → OpR (cx B δ) (compareOp op) rr) ∧ ∀ (F : Hp) (St : Sto) (H : Hp) (v u : V) (x y : D) (q : Bool → Prop) (Q : VK), SR B.K B.w F St H → Is B.K F v x → Is B.K F u y → wCmp o x y St q → (∀ b, q b → Q (.bl b) H) → rr v u H Q
theorem SE.cmp {op : CmpOp} {o : Cm} (hc : CmR B Y op o) (hm : behindInMarks op b = false) (ha : SE B Y W C xq a wa) (hb : SE B Y W C xq b wb) :
    SE B Y W C xq (.Compare a [op] [b] pos) (fun ρ St q => wa ρ St fun x S1 => wb ρ S1 fun y S2 => wCmp o x y S2 fun k => q (.bl k) S2) := by
  obtain ⟨rr, ho, hr⟩ := hc
  obtain ⟨ta, pa, ka⟩ := ha.ex
  obtain ⟨tb, pb, kb⟩ := hb.ex
  refine ⟨⟨_, fun δ hδ => pe_cmpR (ho δ hδ) (pa δ hδ) (pb δ hδ) hm, fun ρ St F σ H q Q r e x w k => ?_⟩⟩
  refine ka ρ St F σ H _ _ r e x w fun d S1 F1 v H1 f1 r1 i1 w1 => ?_
  refine kb ρ S1 F1 σ H1 _ _ r1 (e.mono f1.ext) (x.step f1) w1 fun d2 S2 F2 v2 H2 f2 r2 i2 w2 => ?_
  exact hr F2 S2 H2 v v2 d d2 _ Q r2 (i1.mono f2.ext) i2 w2 fun b hb => k _ S2 F2 _ H2 (f1.trans f2) r2 (.bl b) hb
theorem ST.cmp {op : CmpOp} {o : Cm} (hc : CmR B Y op o) (hm : behindInMarks op b = false) (ha : SE B Y W C xq a wa) (hb : SE B Y W C xq b wb) :
    ST B Y W C xq (.Compare a [op] [b] pos) (fun ρ St q => wa ρ St fun x S1 => wb ρ S1 fun y S2 => wCmp o x y S2 fun k => q k S2) := by
  obtain ⟨rr, ho, hr⟩ := hc
  obtain ⟨ta, pa, ka⟩ := ha.ex
  obtain ⟨tb, pb, kb⟩ := hb.ex
  refine ⟨⟨_, fun δ hδ => pt_cmpR (ho δ hδ) (pa δ hδ) (pb δ hδ) hm, fun ρ St F σ H q Q r e x w k => ?_⟩⟩
  refine ka ρ St F σ H _ _ r e x w fun d S1 F1 v H1 f1 r1 i1 w1 => ?_
  refine kb ρ S1 F1 σ H1 _ _ r1 (e.mono f1.ext) (x.step f1) w1 fun d2 S2 F2 v2 H2 f2 r2 i2 w2 => ?_
  exact hr F2 S2 H2 v v2 d d2 _ _ r2 (i1.mono f2.ext) i2 w2 fun b hb => ⟨b, rfl, k _ S2 F2 H2 (f1.trans f2) r2 hb⟩
end
end DL
/-! DLR: t[::-1], t[:0:-1] of a tuple. -/
namespace DL
open PySem PySem.Spec PyProof.Rows L2
section
variable {prog : Program} {w : World} {A : Around} {E : Value → Shared → Prop} {s : Shared}
/-- the places from the end down to the d-th -/
theorem back_adjust (d n : Nat) (hd : d = 0 ∨ d = 1) : ∃ hi : Int, Builtin.Slice.sliceAdjust none (if d = 0 then none else some 0) (-1) (n : Int) = ((n : Int) - 1, hi) ∧ Builtin.Slice.slicePlaces ((n : Int) - 1) hi (-1) = n - d := by
  have hneg : (-1 : Int) < 0 := by omega
  have hpos : ¬ (-1 : Int) > 0 := by omega
  rcases hd with rfl | rfl
  · refine ⟨-1, ?_, ?_⟩
    · unfold Builtin.Slice.sliceAdjust
      simp [hneg]
    · unfold Builtin.Slice.slicePlaces
      rw [if_neg hpos]
      by_cases h : (n : Int) - 1 > -1
      · rw [if_pos h]
        have : ((n : Int) - 1 - -1 - 1) / (- -1) = (n : Int) - 1 := by rw [show (- -1 : Int) = 1 by omega, Int.ediv_one]; omega
        rw [this]; omega
      · rw [if_neg h]; omega
  · by_cases hn : n = 0
    · subst hn
      refine ⟨-1, ?_, ?_⟩
      · unfold Builtin.Slice.sliceAdjust
        simp [hneg]
        decide
      · decide
    · refine ⟨0, ?_, ?_⟩
      · unfold Builtin.Slice.sliceAdjust
        simp [hneg]
        omega
      · unfold Builtin.Slice.slicePlaces
        rw [if_neg hpos]
        by_cases h : (n : Int) - 1 > 0
        · rw [if_pos h]
          have : ((n : Int) - 1 - 0 - 1) / (- -1) = (n : Int) - 2 := by rw [show (- -1 : Int) = 1 by omega, Int.ediv_one]; omega
          rw [this]; omega
        · rw [if_neg h]; omega
theorem back_pick (xs : List Value) (d : Nat) : ((List.range (xs.length - d)).filterMap fun (m : Nat) => xs[(((xs.length : Int) - 1) + (m : Int) * (-1)).toNat]?) = (xs.drop d).reverse := by
  have gen : ∀ (k : Nat), k ≤ xs.length → ((List.range k).filterMap fun (m : Nat) => xs[(((xs.length : Int) - 1) + (m : Int) * (-1)).toNat]?) = (xs.drop (xs.length - k)).reverse := by
    intro k
    induction k with
    | zero => intro _; simp
    | succ k ih =>
      intro hk
      rw [List.range_succ, List.filterMap_append, ih (by omega)]
      have e : (((xs.length : Int) - 1) + (k : Int) * (-1)).toNat = xs.length - (k + 1) := by omega
      have hlt : xs.length - (k + 1) < xs.length := by omega
      rw [List.filterMap_cons, e, List.getElem?_eq_getElem hlt, List.drop_eq_getElem_cons hlt, List.reverse_cons, show xs.length - (k + 1) + 1 = xs.length - k by omega]
      rfl
  have := gen (xs.length - d) (by omega)
  rw [this]
  congr 1
  by_cases h : d ≤ xs.length
  · rw [show xs.length - (xs.length - d) = d by omega]
  · rw [show xs.length - (xs.length - d) = xs.length by omega, List.drop_length, List.drop_eq_nil_of_le (by omega)]
/-- the tuple turned round, without its first d -/
theorem get_back {t sl : Addr} {items : Array Value} {vu vs : Value} {d : Nat} {Q : Value → Shared → Prop} (hd : d = 0 ∨ d = 1) (ht : IsTup s.heap t items) (hs : s.heap.IsSliceOf sl .none vu vs) (pu : IsPart vu (if d = 0 then none else some 0)) (ps : IsPart vs (some (-1)))
    (h : Q (.ref s.heap.objs.size) { s with heap := s.heap.push { cls := .type "tuple", data := .seq (items.toList.drop d).reverse.toArray } }) (hsz : items.size ≤ sizeLine) : wpAny (model prog w) A (getItem (.ref t) (.ref sl)) Q E s := by
  have fits : sizeOk (.seq (items.toList.drop d).reverse.toArray) := by
    show (items.toList.drop d).reverse.toArray.size ≤ sizeLine
    rw [List.size_toArray, List.length_reverse, List.length_drop, Array.length_toList]
    omega
  obtain ⟨os, o1, o2, o3⟩ := id hs
  have isl : s.TypeIs (.ref sl) "slice" := ⟨os, o1, o2⟩
  obtain ⟨hi, a1, a2⟩ := back_adjust d items.size hd
  unfold getItem
  try with_reducible refine wpAny_holding ?_
  first | refine wpAny_bind (wpAny_pure ?_) | skip
  refine wpAny_bind (wpAny_sequenceKey ht.typeIs (by decide) ?_)
  refine wpAny_bind (wpAny_callSpecial?_slot (name := Str.ofString "__getitem__") ht.typeIs PyProof.Rows.slot_tuple_getitem (wpAny_call_entry PyProof.Rows.slot_tuple_getitem ht.typeIs entry_tuple_getitem ?_ (args_tuple_getitem _ _)))
  show wpAny _ _ (Builtin.Tuple.tupleItemsOf (.ref t) >>= _) _ _ s
  refine wpAny_bind (tupleItemsOf_ ht (wpAny_bind (wpAny_typeOf isl ?_)))
  rw [if_pos (by decide)]
  have app : ∀ {R : Int × Int × Nat → Shared → Prop} {E' : Value → Shared → Prop} {A' : Around}, R ((items.size : Int) - 1, -1, items.size - d) s → wpAny (model prog w) A' (Builtin.Slice.sliceApplied (.ref sl) (pure (items.size : Int))) R E' s := by
    intro R E' A' hR
    unfold Builtin.Slice.sliceApplied Builtin.Slice.sliceFields
    refine wpAny_bind (wpAny_bind (wpAny_field o1 o3 (x := .none) rfl (wpAny_bind (wpAny_field o1 o3 (x := vu) rfl (wpAny_bind (wpAny_field o1 o3 (x := vs) rfl (wpAny_pure ?_)))))))
    refine wpAny_bind (HT.slicePart_ ps ?_)
    show wpAny _ _ (if ((-1 : Int) == 0) = true then _ else _) _ _ s
    rw [if_neg (by decide)]
    refine wpAny_bind (slicePart_none (wpAny_bind (HT.slicePart_ pu (wpAny_bind (wpAny_pure ?_)))))
    show wpAny _ _ (match Builtin.Slice.sliceAdjust none (if d = 0 then none else some 0) (-1) (items.size : Int) with | (lo, hi) => pure (lo, (-1 : Int), Builtin.Slice.slicePlaces lo hi (-1))) _ _ s
    rw [a1]
    show wpAny _ _ (pure ((items.size : Int) - 1, (-1 : Int), Builtin.Slice.slicePlaces ((items.size : Int) - 1) hi (-1))) _ _ s
    rw [a2]
    exact wpAny_pure hR
  refine wpAny_bind (app ?_)
  have notWhole : ¬ (((((items.size : Int) - 1) == 0) && (-1 : Int) == 1 && (items.size - d) == items.size) = true) := by
    intro q
    rw [Bool.and_eq_true, Bool.and_eq_true] at q
    exact absurd q.1.2 (by decide)
  show wpAny _ _ (if ((((items.size : Int) - 1) == 0) && (-1 : Int) == 1 && (items.size - d) == items.size) = true then _ else _) _ _ s
  have picked : ((List.range (items.size - d)).filterMap fun (m : Nat) => items[(((items.size : Int) - 1) + (m : Int) * (-1)).toNat]?).toArray = (items.toList.drop d).reverse.toArray := by
    have := back_pick items.toList d
    rw [Array.length_toList] at this
    rw [← this]
    congr 2
    funext m
    rw [Array.getElem?_toList]
  rw [if_neg notWhole, picked]
  first
    | exact wpAny_bind (m := Builtin.Tuple.tupleExact _) (wpAny_newObj_type (wpAny_pure ⟨_, rfl, wpAny_pure h⟩) fits)
    | exact wpAny_bind (m := Builtin.Tuple.tupleExact _) (wpAny_newObj_type (wpAny_bind (wpAny_pure (wpAny_pure ⟨_, rfl, wpAny_pure h⟩))) fits)
    | exact wpAny_bind (wpAny_bind (m := Builtin.Tuple.tupleExact _) (wpAny_newObj_type (wpAny_pure (wpAny_pure ⟨_, rfl, wpAny_pure h⟩)) fits))
    | exact wpAny_bind (wpAny_bind (m := Builtin.Tuple.tupleExact _) (wpAny_newObj_type (wpAny_pure ⟨_, rfl, wpAny_pure h⟩) fits))
end
def tBack (K : PySem.W.Frag) (d : Nat) (te : TE) : TE := fun σ H Q => te σ H fun x H1 => ∃ a xs, x = .ref a ∧ SqT K H1 a xs ∧ ∀ p, H1 p = none → Q (.ref p) (upd H1 p (.tup (xs.drop d).reverse))
theorem pe_back {X : Cx} {e : Expr} {te : TE} {up : Option Expr} {k d : Nat} {p1 p2 p3 pos : Pos} (hd : d = 0 ∨ d = 1) (hup : PO X up (fun σ H Q => Q (if d = 0 then none else some 0) H)) (he : PE X e te) :
    PE X (.Subscript e (.Slice none up (some (.UnaryOp .USub (.Constant (.int 1) k p1) p2)) p3) pos) (tBack X.K d te) := by
  constructor
  intro pins s σ H Q inv want
  refine Subscript_ (thn (he.run pins s σ H _ inv want) fun v s1 ⟨x, H1, inv1, r1, a, xs, ex, hx, q⟩ => ?_)
  subst ex
  obtain rfl : v = Value.ref a := r1
  have step : PO X (some (.UnaryOp .USub (.Constant (.int 1) k p1) p2)) (tPart (tUn (rU fun i => .int (-i)) (tC (.int 1)))) := po_some (pe_un un_neg pe_int)
  refine wpAny_Slice (thn (po_none.run pins s1 σ H1 (fun o G => o = none ∧ G = H1) inv1 ⟨rfl, rfl⟩) fun vl s2 ⟨l, G2, inv2, pl, el, e2⟩ => ?_)
  subst el e2
  refine thn (hup.run pins s2 σ G2 (fun o G => o = (if d = 0 then none else some 0) ∧ G = G2) inv2 ⟨rfl, rfl⟩) fun vu s3 ⟨u, G3, inv3, pu, eu, e3⟩ => ?_
  subst eu e3
  refine thn (step.run pins s3 σ G3 (fun o G => o = some (-1) ∧ G = G3) inv3 ⟨1, rfl, -1, rfl, rfl, rfl⟩) fun vs s4 ⟨o, G4, inv4, ps, eo, e4⟩ => ?_
  subst eo e4
  have inv5 : Inv X pins σ G4 { s4 with heap := s4.heap.push { cls := .type "slice", data := .fields #[vl, vu, vs] } } := inv4.kept (t' := s4.toks) fun b ob z => Heap.get?_push_of_some _ z
  obtain ⟨its, r, tup, z⟩ := inv5.tuple hx
  cases pl
  show wpAny (model X.prog X.w) X.A (subscriptTail e (.Slice none up (some (.UnaryOp .USub (.Constant (.int 1) k p1) p2)) p3) (.ref a) (.ref s4.heap.objs.size)) (EP X pins σ Q) X.xe { s4 with heap := s4.heap.push { cls := .type "slice", data := .fields #[.none, vu, vs] } }
  refine tail_any (ops := [.ref a, .ref s4.heap.objs.size]) tup.typeIs PyProof.Rows.slot_tuple_getitem.lookup ?_ (by with_unfolding_all rfl)
  refine get_back hd tup (Heap.IsSliceOf.new _ .none vu vs) pu ps ?_ (by rw [List.size_toArray, ← r.length]; exact z)
  refine ⟨.ref _, _, inv5.laid (t' := s4.toks) (o := .tup (xs.drop d).reverse) (fun b ob y => Heap.get?_push_of_some _ y) (Nat.le_refl _) ?_, rfl, q _ (inv5.hok.fresh (Nat.le_refl _))⟩
  exact ⟨by rw [List.length_reverse, List.length_drop]; omega, _, (r.drop d).reverse, IsTup.new _ _⟩
end DL
/-! DLS: sorted of tuples of ints, the first of them empty. -/
namespace DL
open PySem PySem.Spec PyProof.Rows L2 PySem.W PySem.Builtin.List

/-! ### the order -/
theorem ltInts_cons (a b : Int) (s t : List Int) : ltInts (a :: s) (b :: t) = if a = b then ltInts s t else decide (a < b) := rfl
theorem ltInts_irrefl : ∀ s : List Int, ltInts s s = false
  | [] => rfl
  | a :: s => by rw [ltInts_cons, if_pos rfl, ltInts_irrefl s]
theorem ltInts_asymm : ∀ s t : List Int, ltInts s t = true → ltInts t s = false
  | [], [], h => by cases h
  | [], _ :: _, _ => rfl
  | _ :: _, [], h => by cases h
  | a :: s, b :: t, h => by
    rw [ltInts_cons] at h ⊢
    by_cases e : a = b
    · rw [if_pos e] at h
      rw [if_pos e.symm]
      exact ltInts_asymm s t h
    · rw [if_neg e] at h
      rw [if_neg fun z => e z.symm]
      have := of_decide_eq_true h
      exact decide_eq_false (by omega)
theorem ltInts_neg : ∀ s t u : List Int, ltInts s t = false → ltInts t u = false → ltInts s u = false
  | [], [], u, _, h => h
  | [], _ :: _, u, h, _ => by cases h
  | a :: s, [], [], _, _ => rfl
  | a :: s, [], _ :: _, _, h => by cases h
  | a :: s, b :: t, [], _, _ => rfl
  | a :: s, b :: t, c :: u, h, k => by
    rw [ltInts_cons] at h k ⊢
    by_cases e : a = b
    · rw [if_pos e] at h
      subst e
      by_cases e2 : a = c
      · rw [if_pos e2] at k ⊢
        exact ltInts_neg s t u h k
      · rw [if_neg e2] at k ⊢
        exact k
    · rw [if_neg e] at h
      have h := of_decide_eq_false h
      by_cases e2 : b = c
      · subst e2
        rw [if_neg e]
        exact decide_eq_false h
      · rw [if_neg e2] at k
        have k := of_decide_eq_false k
        rw [if_neg (by omega)]
        exact decide_eq_false (by omega)
theorem ltInts_total : ∀ s t : List Int, ltInts s t = false → ltInts t s = false → s = t
  | [], [], _, _ => rfl
  | [], _ :: _, h, _ => by cases h
  | _ :: _, [], _, h => by cases h
  | a :: s, b :: t, h, k => by
    rw [ltInts_cons] at h k
    by_cases e : a = b
    · subst e
      rw [if_pos rfl] at h k
      rw [ltInts_total s t h k]
    · rw [if_neg e] at h
      rw [if_neg fun z => e z.symm] at k
      have h := of_decide_eq_false h
      have k := of_decide_eq_false k
      omega
theorem swo_ints {α : Type} (k : α → List Int) : SrtO.Swo fun v u => ltInts (k v) (k u) := ⟨fun x y h => ltInts_asymm _ _ h, fun x y z h1 h2 => ltInts_neg _ _ _ h2 h1⟩

/-! ### a tuple of ints in the heap -/
def IsIT (h : Heap) (v : Value) (ns : List Int) : Prop := ∃ a items, v = .ref a ∧ h.IsTuple a items ∧ items.size = ns.length ∧ ∀ j (h1 : j < items.size) (h2 : j < ns.length), ∃ t, items[j] = .int ns[j] t
theorem IsIT.keeps {h h' : Heap} {v : Value} {ns : List Int} (i : IsIT h v ns) (k : ∀ b o, h.get? b = some o → o.cls = .type "tuple" → h'.get? b = some o) : IsIT h' v ns := by
  obtain ⟨a, items, rfl, ⟨o, ho, hc, n, hd⟩, r⟩ := i
  exact ⟨a, items, rfl, ⟨o, k _ _ ho hc, hc, n, hd⟩, r⟩
theorem lexAt_ints (xs ys : List Int) : ∀ (k i : Nat), i + k = min xs.length ys.length →
    Ob.lexAt (fun j => decide (xs.getD j 0 = ys.getD j 0)) (fun j => decide (xs.getD j 0 < ys.getD j 0)) (decide (xs.length < ys.length)) i k = ltInts (xs.drop i) (ys.drop i)
  | 0, i, h => by
    rw [Ob.lexAt_zero]
    rcases Nat.lt_or_ge xs.length ys.length with c | c
    · have e : i = xs.length := by omega
      rw [e, List.drop_length, decide_eq_true c]
      have hd : ys.drop xs.length = ys[xs.length] :: ys.drop (xs.length + 1) := List.drop_eq_getElem_cons c
      rw [hd]
      rfl
    · have e : i = ys.length := by omega
      rw [e, List.drop_length, decide_eq_false (by omega)]
      cases xs.drop ys.length <;> rfl
  | k + 1, i, h => by
    have h1 : i < xs.length := by omega
    have h2 : i < ys.length := by omega
    rw [Ob.lexAt_succ, lexAt_ints xs ys k (i + 1) (by omega), List.drop_eq_getElem_cons h1, List.drop_eq_getElem_cons h2, ltInts_cons]
    have e1 : xs.getD i 0 = xs[i] := by rw [List.getD_eq_getElem?_getD, List.getElem?_eq_getElem h1]; rfl
    have e2 : ys.getD i 0 = ys[i] := by rw [List.getD_eq_getElem?_getD, List.getElem?_eq_getElem h2]; rfl
    rw [e1, e2]
    by_cases e : xs[i] = ys[i]
    · rw [if_pos (decide_eq_true e), if_pos e]
    · rw [if_neg (by rw [decide_eq_false e]; exact Bool.false_ne_true), if_neg e]
section
variable {prog : Program} {w : World} {A : Around} {E : Value → Shared → Prop} {s : Shared}
theorem lt_it {v u : Value} {xs ys : List Int} {Q : Bool → Shared → Prop} (hv : IsIT s.heap v xs) (hu : IsIT s.heap u ys) (hr : A.units + 2 < cLine) (h : Q (ltInts xs ys) s) : wpAny (model prog w) A (keyLt' oneType' v u) Q E s := by
  obtain ⟨l, items, rfl, ⟨⟨cls, dd, data, sl⟩, ho, hc, n, hd⟩, z1, i1⟩ := hv
  obtain ⟨b, items2, rfl, ⟨⟨cls2, dd2, data2, sl2⟩, ho2, hc2, n2, hd2⟩, z2, i2⟩ := hu
  simp only at hc hd hc2 hd2
  subst hc hd hc2 hd2
  rw [keyLt'_oneType, oneLt'_eq]
  simp only [if_true]
  have hh := lexAt_ints xs ys (min xs.length ys.length) 0 (Nat.zero_add _)
  rw [List.drop_zero, List.drop_zero] at hh
  refine wpAny_bind (wpAny_cRoomFor (by omega) ?_)
  refine wpAny_bind (wpAny_callSpecialIfBound?_slot (T := "tuple") ⟨_, ho, rfl⟩ F.slot_tuple_lt (call_meets F.slot_tuple_lt ⟨_, ho, rfl⟩ F.entry_tuple_lt (F.args_tuple_lt_2 _ _)
    (Ob.tuple_ltAt l b items items2 n n2 dd dd2 sl sl2 (fun j => decide (xs.getD j 0 = ys.getD j 0)) (fun j => decide (xs.getD j 0 < ys.getD j 0))) ⟨ho, ho2, fun j h1 h2 => ?_, fun j h1 h2 hj => ?_, ?_⟩))
  · obtain ⟨t1, e1⟩ := i1 j h1 (by omega)
    obtain ⟨t2, e2⟩ := i2 j h2 (by omega)
    have g1 : xs.getD j 0 = xs[j]'(by omega) := by rw [List.getD_eq_getElem?_getD, List.getElem?_eq_getElem (by omega)]; rfl
    have g2 : ys.getD j 0 = ys[j]'(by omega) := by rw [List.getD_eq_getElem?_getD, List.getElem?_eq_getElem (by omega)]; rfl
    rw [e1, e2, g1, g2]
    exact SeqAt.EqAt.int_int _ _ _ _
  · obtain ⟨t1, e1⟩ := i1 j h1 (by omega)
    obtain ⟨t2, e2⟩ := i2 j h2 (by omega)
    have g1 : xs.getD j 0 = xs[j]'(by omega) := by rw [List.getD_eq_getElem?_getD, List.getElem?_eq_getElem (by omega)]; rfl
    have g2 : ys.getD j 0 = ys[j]'(by omega) := by rw [List.getD_eq_getElem?_getD, List.getElem?_eq_getElem (by omega)]; rfl
    rw [e1, e2, g1, g2]
    exact Ob.RcOp.lt_int _ _ _ _
  · rw [z1, z2, hh]
    exact wpAny_truthy_bool h
theorem looks_it {M : Model} {v : Value} {ns : List Int} (i : IsIT s.heap v ns) : Looks M s.heap (typeOf v) (.type "tuple") := by
  obtain ⟨a, items, rfl, ⟨o, ho, hc, _⟩, _⟩ := i
  rw [← hc]
  exact (Looks.ld ho).andThen .now
theorem firsts_it {M : Model} {k : Value → List Int} : ∀ (vs : List Value) {Q : List (Option Value) → Shared → Prop}, (∀ v ∈ vs, IsIT s.heap v (k v)) → (∀ fs : List (Option Value), fs.length = vs.length → (∀ v rest, vs = v :: rest → k v = [] → fs[0]? = some none) → Q fs s) → wpAny M A (vs.mapM firstOfTuple') Q E s
  | [], Q, _, h => by rw [List.mapM_nil]; exact wpAny_pure (h [] rfl fun v rest e => by cases e)
  | v :: vs, Q, hv, h => by
    have hi := hv v List.mem_cons_self
    have hl := looks_it (M := M) hi
    obtain ⟨a, items, rfl, ⟨o, ho, hc, n, hd⟩, z, i⟩ := hi
    rw [List.mapM_cons]
    refine wpAny_bind ?_
    rw [kas_first_eq]
    refine wpAny_bind (hl.here ?_)
    rw [if_neg (by first | decide | simp)]
    refine wpAny_bind (listItems_at ho hd (wpAny_pure ?_))
    refine wpAny_bind (firsts_it vs (fun u hu => hv u (List.mem_cons_of_mem _ hu)) fun fs l _ => wpAny_pure (h _ (by rw [List.length_cons, l, List.length_cons]) fun v rest e k0 => ?_))
    cases e
    rw [k0] at z
    have : items[0]? = none := Array.getElem?_eq_none (by rw [z]; exact Nat.le_refl _)
    rw [this]
    rfl
theorem kind_it {M : Model} {k : Value → List Int} {vs : List Value} {Q : SortKind → Shared → Prop} (h2 : 2 ≤ vs.length) (hv : ∀ v ∈ vs, IsIT s.heap v (k v)) (h0 : ∀ v rest, vs = v :: rest → k v = []) (h : Q oneType' s) :
    wpAny M A (keyKind' vs.toArray) Q E s := by
  obtain ⟨v₁, v₂, rest, rfl⟩ : ∃ v₁ v₂ rest, vs = v₁ :: v₂ :: rest := by
    match vs, h2 with
    | [], h2 => simp at h2
    | [_], h2 => simp at h2
    | v₁ :: v₂ :: rest, _ => exact ⟨v₁, v₂, rest, rfl⟩
  rw [keyKind'_eq, List.mapM_toArray, map_eq_pure_bind]
  refine wpAny_bind (wpAny_bind (firsts_it _ hv fun fs l e0 => wpAny_pure ?_))
  have e1 := e0 _ _ rfl (h0 _ _ rfl)
  cases fs with
  | nil => simp at l
  | cons f fs =>
    have : f = none := by simpa using e1
    subst this
    rw [if_neg (by simp), if_neg (by simp)]
    rw [oneTypeOnly'_eq, List.mapM_toArray, map_eq_pure_bind]
    refine wpAny_bind (wpAny_bind (wpAny_bind (kas_mapM (r := .type "tuple") _ (fun v hm Q' hq => (looks_it (hv v hm)).here hq) (wpAny_pure ?_))))
    have hall : ((List.map (fun _ => Value.type "tuple") (v₁ :: v₂ :: rest)).toArray.all fun x => x == Value.type "tuple") = true := by
      simp only [List.all_toArray, List.all_map, List.all_eq_true]
      intro _ _
      rfl
    have h0 : (List.map (fun _ => Value.type "tuple") (v₁ :: v₂ :: rest)).toArray[0]? = some (Value.type "tuple") := by simp
    rw [h0]
    simp only [hall, if_true]
    exact wpAny_pure (wpAny_pure h)
theorem its_sortable {a : Addr} {vs : List Value} {k : Value → List Int} (h2 : 2 ≤ vs.length) (hv : ∀ v ∈ vs, IsIT s.heap v (k v)) (h0 : ∀ v rest, vs = v :: rest → k v = []) (hr : A.units + 2 < cLine) (ha : ∀ o, s.heap.get? a = some o → o.cls ≠ .type "tuple") :
    SrtO.SortableO prog w A s a vs fun v u => ltInts (k v) (k u) := by
  intro h' keep
  have hv' : ∀ v ∈ vs, IsIT h' v (k v) := fun v hm => (hv v hm).keeps fun b o e c => keep b o (fun z => by subst z; exact ha o e c) e
  exact ⟨oneType', fun Q E hq => kind_it (s := { s with heap := h' }) h2 hv' h0 hq, fun p q hp hq => lt_it (s := { s with heap := h' }) (hv' _ hp) (hv' _ hq) hr ⟨rfl, rfl⟩⟩
end
/-- sorted(xs), xs a list of tuples of ints, the first one empty -/
def rSortedT (K : PySem.W.Frag) : List V → Hp → VK → Prop := fun vs H Q => ∃ (a : Addr) (xs : List V) (k : V → List Int), vs = [V.ref a] ∧ SqL K H a xs ∧ (∀ x ∈ xs, ∃ t, x = V.ref t ∧ SqT K H t ((k x).map V.int)) ∧ (∀ x rest, xs = x :: rest → k x = []) ∧
  ∀ ys p, SrtO.Srtd (fun v u => ltInts (k v) (k u)) ys → ys.Perm xs → H p = none → Q (.ref p) (upd H p (.lst ys))
section
variable {X : Cx}
theorem vals_ints : ∀ {ns : List Int} {us : List Value}, Vals (ns.map V.int) us → us.length = ns.length ∧ ∀ j (h1 : j < us.length) (h2 : j < ns.length), ∃ t, us[j] = .int ns[j] t
  | [], us, h => by cases h; exact ⟨rfl, fun j h1 => by simp at h1⟩
  | n :: ns, us, h => by
    cases h with
    | cons h t =>
      obtain ⟨a, b⟩ := vals_ints t
      refine ⟨by rw [List.length_cons, a, List.length_cons], fun j h1 h2 => ?_⟩
      cases j with
      | zero => exact h
      | succ j => exact b j (by simpa using h1) (by simpa using h2)
theorem cr_sortedT (hu : X.A.units + 10 < cLine) : CallR X (.builtin "sorted") (rSortedT X.K) := by
  intro pins s σ H vs us Q I r h
  obtain ⟨a, xs, k, rfl, hs, hx, h0, q⟩ := h
  obtain ⟨its, rv, hl, hz⟩ := I.list hs
  obtain ⟨u, rfl, ru⟩ := vals1 r
  obtain rfl : u = Value.ref a := ru
  obtain ⟨e1, e2⟩ := refs_back rv fun x m => by
    obtain ⟨t, e, _⟩ := hx x m
    exact ⟨t, e⟩
  have hv : ∀ v ∈ its, IsIT s.heap v (k (backV v)) := fun v hv => by
    obtain ⟨t, rfl⟩ := e2 v hv
    have hm : V.ref t ∈ xs := by rw [e1]; exact List.mem_map.mpr ⟨_, hv, rfl⟩
    obtain ⟨t', e, ht⟩ := hx _ hm
    cases e
    obtain ⟨its2, r2, p, _⟩ := I.tuple ht
    obtain ⟨l1, l2⟩ := vals_ints r2
    exact ⟨t, its2.toArray, rfl, p, (show its2.toArray.size = (k (V.ref t)).length by simpa using l1), fun j h1 h2 => (show ∃ t_1, its2.toArray[j] = .int ((k (V.ref t))[j]'h2) t_1 by simpa using l2 j (by simpa using h1) h2)⟩
  have h0' : ∀ v rest, its = v :: rest → k (backV v) = [] := fun v rest e => h0 (backV v) (rest.map backV) (by rw [e1, e]; rfl)
  refine SrtO.sorted_ord (ltv := fun v u => ltInts (k (backV v)) (k (backV u))) (swo_ints _) hl.isList (by rw [← rv.length]; exact hz) (fun h2 h₁ a' ha kk => ?_) fun out h1 h2 => ?_
  · refine its_sortable (s := { s with heap := h₁ }) h2 (fun v hm => (hv v hm).keeps fun b o e _ => (kk b o e).2) h0' ?_ fun o e c => ?_
    · show X.A.units + 1 + 1 + 2 < cLine
      omega
    · have e' : some o = some (seqObj "list" its.toArray 0) := e.symm.trans ha
      cases e'
      exact absurd (Value.type.inj c) (by decide)
  · have h3 : ∀ u ∈ out, ∃ a, u = Value.ref a := fun u hu => e2 u (h2.perm.mem_iff.mp hu)
    obtain ⟨n, hn⟩ := PyProof.Rows.sortedAll_at s.heap its out.toArray
    have hb : (out.map backV).Perm xs := by
      rw [e1]
      exact h2.perm.map backV
    refine ⟨.ref (s.heap.objs.size + 1), upd H (s.heap.objs.size + 1) (.lst (out.map backV)), I.laid (t' := s.toks) (fun b o e => PyProof.Rows.sortedAll_old e) (Nat.le_succ _) ⟨?_, out, n, vals_back h3, hn⟩, rfl, q _ _ (SrtO.srtd_map h1) hb (I.hok.fresh (Nat.le_succ _))⟩
    rw [hb.length_eq]
    exact hz
/-- the same, its items' keys told one by one -/
def rSortedZ (K : PySem.W.Frag) : List V → Hp → VK → Prop := fun vs H Q => ∃ (a : Addr) (xs : List V) (nss : List (List Int)), vs = [V.ref a] ∧ SqL K H a xs ∧ xs.length = nss.length ∧
  (∀ (i : Nat) (x : V) (ns : List Int), xs[i]? = some x → nss[i]? = some ns → ∃ t, x = V.ref t ∧ SqT K H t (ns.map V.int)) ∧ (∀ (ns : List Int) (rest : List (List Int)), nss = ns :: rest → ns = []) ∧
  ∀ (ps : List (V × List Int)) p, ps.Perm (xs.zip nss) → ps.Pairwise (fun a b => ltInts b.2 a.2 = false) → H p = none → Q (.ref p) (upd H p (.lst (ps.map (·.1))))
theorem sqT_ints {pins : List (Addr × Obj)} {s : Shared} {σ : L2.St} {H : Hp} (I : Inv X pins σ H s) {t : Addr} {a b : List Int} (ha : SqT X.K H t (a.map V.int)) (hb : SqT X.K H t (b.map V.int)) : a = b := by
  obtain ⟨i1, r1, ⟨o, ho, _, n, hd⟩, _⟩ := I.tuple ha
  obtain ⟨i2, r2, ⟨o2, ho2, _, n2, hd2⟩, _⟩ := I.tuple hb
  rw [ho] at ho2
  cases ho2
  rw [hd] at hd2
  have e : i1 = i2 := by
    injection hd2 with e1 _
    exact congrArg Array.toList e1
  subst e
  obtain ⟨l1, e1⟩ := vals_ints r1
  obtain ⟨l2, e2⟩ := vals_ints r2
  refine List.ext_getElem (by omega) fun j h1 h2 => ?_
  obtain ⟨t1, f1⟩ := e1 j (by omega) h1
  obtain ⟨t2, f2⟩ := e2 j (by omega) h2
  rw [f1] at f2
  injection f2 with e _
open Classical in
noncomputable def keyOfV (K : PySem.W.Frag) (H : Hp) (x : V) : List Int := if h : ∃ (ns : List Int) (t : Addr), x = V.ref t ∧ SqT K H t (ns.map V.int) then Classical.choose h else []
theorem zip_map_self {α β : Type} (f : α → β) : ∀ xs : List α, xs.zip (xs.map f) = xs.map fun x => (x, f x)
  | [] => rfl
  | x :: xs => by rw [List.map_cons, List.zip_cons_cons, zip_map_self f xs, List.map_cons]
theorem cr_sortedZ (hu : X.A.units + 10 < cLine) : CallR X (.builtin "sorted") (rSortedZ X.K) := by
  intro pins s σ H vs us Q I r h
  obtain ⟨a, xs, nss, rfl, hs, hl, hx, h0, q⟩ := h
  have key : ∀ i x ns, xs[i]? = some x → nss[i]? = some ns → keyOfV X.K H x = ns := fun i x ns e1 e2 => by
    obtain ⟨t, rfl, ht⟩ := hx i x ns e1 e2
    have hex : ∃ (ns : List Int) (t' : Addr), V.ref t = V.ref t' ∧ SqT X.K H t' (ns.map V.int) := ⟨ns, t, rfl, ht⟩
    unfold keyOfV
    rw [dif_pos hex]
    obtain ⟨t', e, ht'⟩ := Classical.choose_spec hex
    cases e
    exact sqT_ints I ht' ht
  have en : nss = xs.map (keyOfV X.K H) := by
    refine List.ext_getElem (by rw [List.length_map, hl]) fun j h1 h2 => ?_
    rw [List.getElem_map]
    have h3 : j < xs.length := by rw [hl]; exact h1
    exact (key j _ _ (List.getElem?_eq_getElem h3) (List.getElem?_eq_getElem h1)).symm
  refine cr_sortedT hu pins s σ H _ us Q I r ⟨a, xs, keyOfV X.K H, rfl, hs, fun x hm => ?_, fun x rest e => ?_, fun ys p h1 h2 hp => ?_⟩
  · obtain ⟨i, hi, e⟩ := List.mem_iff_getElem.mp hm
    have h3 : i < nss.length := by omega
    obtain ⟨t, e2, ht⟩ := hx i x nss[i] (by rw [List.getElem?_eq_getElem hi, e]) (List.getElem?_eq_getElem h3)
    refine ⟨t, e2, ?_⟩
    rw [key i x nss[i] (by rw [List.getElem?_eq_getElem hi, e]) (List.getElem?_eq_getElem h3)]
    exact ht
  · exact h0 _ (rest.map (keyOfV X.K H)) (by rw [en, e]; rfl)
  · have := q (ys.map fun y => (y, keyOfV X.K H y)) p (by rw [en, zip_map_self]; exact h2.map _) (List.pairwise_map.mpr h1) hp
    rw [List.map_map, show ((fun x : V × List Int => x.1) ∘ fun y => (y, keyOfV X.K H y)) = id from rfl, List.map_id] at this
    exact this
end
end DL
/-! DLE: enumerate(t) of a tuple. -/
namespace DL
open PySem PySem.Spec PyProof.Rows L2 PySem.W

/-- each item of the tuple at a, in a new pair with its place -/
def IteT (K : PySem.W.Frag) (a : Addr) : L2.It where
  go := fun i H => ∃ (xs : List V) (x : V), SqT K H a xs ∧ xs[i]? = some x
  yld := fun i H v H' => ∃ P x, v = V.ref P ∧ H P = none ∧ H' = upd H P (.tup [V.int (i : Nat), x]) ∧ ∀ xs : List V, SqT K H a xs → xs[i]? = some x
  stop := fun i H => ∃ xs : List V, SqT K H a xs ∧ xs.length ≤ i
theorem sqT_inj {X : Cx} {pins : List (Addr × Obj)} {s : Shared} {σ : L2.St} {H : Hp} (I : Inv X pins σ H s) {t : Addr} {a b : List V} (ha : SqT X.K H t a) (hb : SqT X.K H t b) : a = b := by
  obtain ⟨i1, r1, ⟨o, ho, _, n, hd⟩, _⟩ := I.tuple ha
  obtain ⟨i2, r2, ⟨o2, ho2, _, n2, hd2⟩, _⟩ := I.tuple hb
  rw [ho] at ho2
  cases ho2
  rw [hd] at hd2
  have e : i1 = i2 := by
    injection hd2 with e1 _
    exact congrArg Array.toList e1
  subst e
  have gen : ∀ {xs ys : List V} {us : List Value}, Vals xs us → Vals ys us → xs = ys := by
    intro xs ys us h k
    induction h generalizing ys with
    | nil => cases k; rfl
    | cons p _ ih => cases k with
      | cons p2 q2 =>
        have := p.abs.symm.trans p2.abs
        cases this
        rw [ih q2]
  exact gen r1 r2
theorem turn_enumT {P : Program} {w : World} {K : PySem.W.Frag} {elts : List Expr} {kk : Nat} {tpos : Pos} (a e it : Addr) :
    Turn P w K (.Tuple elts kk tpos) (IteT K a) [e, it] e (fun i h => (∃ old, IsEnum h e it ((i : Nat) : Int) old) ∧ h.IsTupleIter it a i ∧ e ≠ it ∧ e ≠ a ∧ a ≠ it) where
  mem := List.mem_cons_self
  obj := fun i h q b hb => by
    obtain ⟨⟨old, g⟩, ⟨o, g2, g3, g4⟩, _⟩ := q
    rcases (show b = e ∨ b = it by simpa using hb) with rfl | rfl
    · exact ⟨_, g, fun v z => nomatch z⟩
    · exact ⟨o, g2, fun v z => by rw [g4] at z; cases z⟩
  keep := fun i h h' q kp => ⟨⟨q.1.choose, kp e (by simp) _ q.1.choose_spec⟩, q.2.1.at fun o z => kp it (by simp) o z, q.2.2⟩
  item := by
    rintro X rfl rfl rfl cl i pins s σ H E I fp ⟨⟨old, g⟩, git, n1, n2, n3⟩ ⟨xs, x, hq, hx⟩
    obtain ⟨us, rv, ist, hz⟩ := I.tuple hq
    obtain ⟨u, hu, ru⟩ := rv.get hx
    have le : e < s.heap.objs.size := Heap.lt_size g
    have li : it < s.heap.objs.size := by obtain ⟨_, q, _⟩ := git; exact Heap.lt_size q
    have hi : i < us.toArray.size := by
      rw [List.size_toArray]
      exact (List.getElem?_eq_some_iff.mp hu).1
    refine wpAny_pyNext_enum_itemD (Draws.tuple (A := X.A.in1) (I.ok.hd cl) it a n3 us.toArray) g ⟨git, ist⟩ hi n1 (by simp; exact ⟨n1, n2⟩) fun y h1 tk hy ho ⟨hit, _⟩ hT hs hk => ?_
    have ey : y = u := by
      have hy' : us[i]? = some y := by simpa using hy
      exact Option.some.inj (hy'.symm.trans hu)
    subst ey
    refine ⟨_, rfl, wpAny_letOwnedTupleGo_enum (s := { s with heap := h1, toks := tk + 1 }) ho fun h2 g2 sb => ?_⟩
    have hT2 : h2.get? s.heap.objs.size = some { cls := .type "tuple", data := .seq #[.int i tk, y] } := (sb.2 _ (Nat.ne_of_gt le)).trans hT
    have nw : ObjOk X.prog X.w (upd H s.heap.objs.size (.tup [V.int (i : Nat), x])) h2 s.heap.objs.size (.tup [V.int (i : Nat), x]) :=
      ⟨by show 2 ≤ sizeLine; decide, [.int i tk, y], .cons ⟨_, rfl⟩ (.cons ru .nil), ⟨_, hT2, rfl, _, rfl⟩⟩
    have I2 := I.turnedNew (t' := tk + 1) (h' := h2) (ch := [e, it]) (fun b ob hb z => by
      have hb : b ≠ e ∧ b ≠ it := by simpa using hb
      exact (sb.2 b hb.1).trans (hk b ob hb.1 hb.2 z)) fp (Nat.le_refl _) nw
    refine ⟨V.ref s.heap.objs.size, _, I2, rfl, ⟨_, x, rfl, I.hok.fresh (Nat.le_refl _), rfl, fun ys hys => by rw [sqT_inj I hys hq]; exact hx⟩, ⟨⟨y, ?_⟩, hit.at fun o z => (sb.2 it n1.symm).trans z, n1, n2, n3⟩, fun b hb => ?_⟩
    · rw [show ((i + 1 : Nat) : Int) = (i : Int) + 1 from by omega]
      exact g2
    · have lb : b < s.heap.objs.size := by
        rcases (show b = e ∨ b = it by simpa using hb) with rfl | rfl
        · exact le
        · exact li
      rw [upd_ne (Nat.ne_of_lt lb)]
      exact (fp b hb).1
  done := by
    rintro X rfl rfl rfl cl i pins s σ H E I fp ⟨⟨old, g⟩, git, n1, n2, n3⟩ ⟨xs, hq, hx⟩
    obtain ⟨us, rv, ist, hz⟩ := I.tuple hq
    have hn : us.toArray.size = xs.length := by rw [List.size_toArray]; exact rv.length.symm
    have hle : us.toArray.size ≤ i := by omega
    have dr : Draws X.prog X.w X.A.in1 it [it, a] i (fun _ _ => True) (fun j h => j = i ∧ h.IsTupleIter it a i ∧ h.IsTuple a us.toArray) :=
      { live := fun _ _ st => by
          obtain ⟨o, ho, _⟩ := st.2.1
          exact ⟨o, ho⟩
        frame := fun _ _ _ st kp => ⟨st.1, st.2.1.at fun o z => kp it (by simp) o z, st.2.2.at fun o z => kp a (by simp) o z⟩
        item := fun j s Q E hj st _ => absurd st.1 (Nat.ne_of_lt hj)
        done := fun s Q E st hE => wpAny_nextOf_tuple_end (A := X.A.in1) (I.ok.hd cl) st.2.1 st.2.2 (Array.getElem?_eq_none hle) hE }
    obtain ⟨f0, f1, f2, f3, f4, f5⟩ := fp it (by simp)
    exact wpAny_pyNext_enum_endD dr g ⟨rfl, git, ist⟩ fun h2 eb => ⟨rfl, I.turned (t' := s.toks) (fun b o hb q => eb b o hb q) f0 f1 f3 f4 f5⟩
  self := fun A i s Q E q h => wpAny_pyIter_enum q.1.choose_spec h
def iEnumT (K : PySem.W.Frag) (ta : TA) : TI := fun σ H R => ta σ H fun vs H1 => ∃ a xs, vs = [V.ref a] ∧ SqT K H1 a xs ∧ R (IteT K a) H1
/-- enumerate(v) makes its iterator, then itself -/
theorem new_enum1 {v : Value} {o : Obj} {HH : Heap → Prop} (B : Begins v o HH) :
    Meets (Builtin.«enumerate.__new__» ⟨[.type "enumerate", v], []⟩) (fun _ R z => HH z.heap ∧ R (.ok (.ret (.ref (z.heap.push o).objs.size))) { z with heap := (z.heap.push o).push { cls := .type "enumerate", data := .fields #[.none, .bool false, .ref z.heap.objs.size, rawInt 0, .none, .none] } }) :=
  .of_wp fun pr ww AA R z hh => by
    obtain ⟨zp, zg, zd, zt, zo⟩ := z
    obtain ⟨z1, z2⟩ := hh
    have z3 := sub_enumerate
    have z4 : ∀ {A2 : Around} {E2 : Value → Shared → Prop} {Q2 : Value → Shared → Prop}, Q2 (.ref zp.objs.size) ⟨zp.push o, zg, zd, zt, zo⟩ → wpAny (model pr ww) A2 (pyIter v) Q2 E2 ⟨zp, zg, zd, zt, zo⟩ := fun y => B.iter pr ww _ _ ⟨zp, zg, zd, zt, zo⟩ _ z1 y
    wp_walk using z4
    refine wpAny_stack_any fun sk => wpAny_pure ?_
    split
    · next c _ _ _ _ _ =>
      cases (c == Value.type "enumerate") <;> (wp_walk using z4; exact ⟨_, rfl, z2⟩)
    · wp_walk using z4
      exact ⟨_, rfl, z2⟩
theorem call_enumT {pr : Program} {ww : World} {AA : Around} {EE : Value → Shared → Prop} {z : Shared} {t : Addr} {items : Array Value} {Q : Value → Shared → Prop} (ht : z.heap.IsTuple t items)
    (h : ∀ h2, IsEnum h2 (z.heap.objs.size + 1) z.heap.objs.size 0 .none → h2.IsTupleIter z.heap.objs.size t 0 → (∀ b o, z.heap.get? b = some o → h2.get? b = some o) → Q (.ref (z.heap.objs.size + 1)) { z with heap := h2 }) :
    wpAny (model pr ww) AA (call (.type "enumerate") [.ref t]) Q EE z := by
  refine callType_new F.called_enumerate (by decide) (F.typeCall_enumerate_1 _) (F.newCall_enumerate_1 _) (fun ob => F.args_object_init_2 ob _) F.entry_enumerate_new (new_enum1 (begins_tuple t items)) ⟨ht, ?_⟩
  generalize ho : ({ cls := .type "tuple_iterator", data := .fields #[.ref t, .int 0 0] } : Obj) = o
  have hz : (z.heap.push o).objs.size = z.heap.objs.size + 1 := Heap.size_push ..
  show _ ∧ _
  rw [hz]
  have g1 : ((z.heap.push o).push { cls := .type "enumerate", data := .fields #[.none, .bool false, .ref z.heap.objs.size, rawInt 0, .none, .none] }).get? (z.heap.objs.size + 1) = some { cls := .type "enumerate", data := .fields #[.none, .bool false, .ref z.heap.objs.size, rawInt 0, .none, .none] } := by
    rw [← hz]
    exact Heap.get?_push_size _ rfl
  have g2 : (z.heap.push o).get? z.heap.objs.size = some o := Heap.get?_push_size _ (by rw [← ho]; rfl)
  refine ⟨⟨_, g1, rfl⟩, h _ g1 ⟨o, Heap.get?_push_of_some _ g2, by rw [← ho], by rw [← ho]; rfl⟩ fun b u y => Heap.get?_push_of_some _ (Heap.get?_push_of_some _ y)⟩
theorem pi_enumT {X : Cx} {e : Expr} {ta : TA} {p pos tpos : Pos} {elts : List Expr} {kk : Nat} (hg : Gl X "enumerate") (hm : X.mg "enumerate" = none) (ha : PA X [e] ta) (hs : starEach [e] X.env = [(false, eval e X.env)] := by rfl) :
    PI X (.Tuple elts kk tpos) (.Call (.Name "enumerate" p) [e] [] pos) (iEnumT X.K ta) := by
  refine ⟨fun pins z σ H R I h => ?_⟩
  refine Call_ (ld_blt I hg hm boot_enumerate (PyProof.Rows.callWith_type1 (thn (ha.run pos pins z σ H _ I h) fun us z1 ⟨vs, H1, I1, r1, q1⟩ => ?_) hs rfl))
  obtain ⟨a, xs, rfl, hq, q⟩ := q1
  obtain ⟨u, rfl, ru⟩ := vals1 r1
  obtain rfl : u = Value.ref a := ru
  obtain ⟨its, rv, ist, hz⟩ := I1.tuple hq
  have ha1 : a < z1.heap.objs.size := by
    obtain ⟨o, ho, _⟩ := ist
    exact Heap.lt_size ho
  refine call_enumT ist fun h2 g1 g2 kp => wpAny_pyIter_enum g1 ?_
  have I2 : Inv X pins σ H1 { z1 with heap := h2 } := I1.kept (t' := z1.toks) kp
  refine ⟨z1.heap.objs.size + 1, [z1.heap.objs.size + 1, z1.heap.objs.size], _, _, H1, rfl, I2, turn_enumT a (z1.heap.objs.size + 1) z1.heap.objs.size, ⟨⟨.none, g1⟩, g2, Nat.succ_ne_self _, Nat.ne_of_gt (Nat.lt_of_lt_of_le ha1 (Nat.le_succ _)), Nat.ne_of_lt ha1⟩, fun b hb => ?_, q⟩
  have hb2 : b = z1.heap.objs.size + 1 ∨ b = z1.heap.objs.size := by simpa using hb
  have hle : z1.heap.objs.size ≤ b := by
    rcases hb2 with y | y
    · rw [y]; exact Nat.le_succ _
    · rw [y]; exact Nat.le_refl _
  exact I1.fpOk hle (I1.hok.fresh hle)
/-- of a list or a tuple -/
def iEnumA (K : PySem.W.Frag) (ta : TA) : TI := fun σ H R => ta σ H fun vs H1 => (∃ a xs, vs = [V.ref a] ∧ SqL K H1 a xs ∧ R (Ite K a) H1) ∨ ∃ a xs, vs = [V.ref a] ∧ SqT K H1 a xs ∧ R (IteT K a) H1
theorem pi_enumA {X : Cx} {e : Expr} {ta : TA} {p pos tpos : Pos} {elts : List Expr} {kk : Nat} (hg : Gl X "enumerate") (hm : X.mg "enumerate" = none) (ha : PA X [e] ta) (hs : starEach [e] X.env = [(false, eval e X.env)] := by rfl) :
    PI X (.Tuple elts kk tpos) (.Call (.Name "enumerate" p) [e] [] pos) (iEnumA X.K ta) := by
  refine ⟨fun pins z σ H R I h => ?_⟩
  refine Call_ (ld_blt I hg hm boot_enumerate (PyProof.Rows.callWith_type1 (thn (ha.run pos pins z σ H _ I h) fun us z1 ⟨vs, H1, I1, r1, q1⟩ => ?_) hs rfl))
  have fresh : ∀ b, b = z1.heap.objs.size + 1 ∨ b = z1.heap.objs.size → FpOk X pins H1 b := fun b hb2 => by
    have hle : z1.heap.objs.size ≤ b := by
      rcases hb2 with y | y
      · rw [y]; exact Nat.le_succ _
      · rw [y]; exact Nat.le_refl _
    exact I1.fpOk hle (I1.hok.fresh hle)
  rcases q1 with ⟨a, xs, rfl, hq, q⟩ | ⟨a, xs, rfl, hq, q⟩
  · obtain ⟨u, rfl, ru⟩ := vals1 r1
    obtain rfl : u = Value.ref a := ru
    obtain ⟨its, rv, ist, hz⟩ := I1.list hq
    refine call_enumerate_list ist.isList fun h2 g1 g2 _ kp => wpAny_pyIter_enum g1 ?_
    have I2 : Inv X pins σ H1 { z1 with heap := h2 } := I1.kept (t' := z1.toks) kp
    exact ⟨z1.heap.objs.size + 1, [z1.heap.objs.size + 1, z1.heap.objs.size], _, _, H1, rfl, I2, turn_enum a (z1.heap.objs.size + 1) z1.heap.objs.size, ⟨⟨.none, g1⟩, g2, Nat.succ_ne_self _⟩, fun b hb => fresh b (by simpa using hb), q⟩
  · obtain ⟨u, rfl, ru⟩ := vals1 r1
    obtain rfl : u = Value.ref a := ru
    obtain ⟨its, rv, ist, hz⟩ := I1.tuple hq
    have ha1 : a < z1.heap.objs.size := by
      obtain ⟨o, ho, _⟩ := ist
      exact Heap.lt_size ho
    refine call_enumT ist fun h2 g1 g2 kp => wpAny_pyIter_enum g1 ?_
    have I2 : Inv X pins σ H1 { z1 with heap := h2 } := I1.kept (t' := z1.toks) kp
    exact ⟨z1.heap.objs.size + 1, [z1.heap.objs.size + 1, z1.heap.objs.size], _, _, H1, rfl, I2, turn_enumT a (z1.heap.objs.size + 1) z1.heap.objs.size, ⟨⟨.none, g1⟩, g2, Nat.succ_ne_self _, Nat.ne_of_gt (Nat.lt_of_lt_of_le ha1 (Nat.le_succ _)), Nat.ne_of_lt ha1⟩, fun b hb => fresh b (by simpa using hb), q⟩
end DL
/-! DL4: comparisons, subscripts, slices over data. -/
namespace DL
open PySem PySem.Spec PyProof.Rows L2

mutual
def toPy : D → PyData
  | .non => .none
  | .bl b => .bool b
  | .int i => .int i
  | .str s => .str (mkS s)
  | .tup xs => .tuple (toPyL xs)
  | .lst xs => .list (toPyL xs)
  | .dct _ => .none
  | .ref _ => .none
  | .scr _ => .none
def toPyL : List D → List PyData
  | [] => []
  | x :: xs => toPy x :: toPyL xs
end
theorem okd_tup {n : Nat} {xs : List D} (h : okd n (.tup xs) = true) : ∃ m, n = m + 1 ∧ xs.all (okd m) = true := by
  cases n with
  | zero => simp [okd] at h
  | succ m => exact ⟨m, rfl, by simpa [okd] using h⟩
theorem okd_lst {n : Nat} {xs : List D} (h : okd n (.lst xs) = true) : ∃ m, n = m + 1 ∧ xs.all (okd m) = true := by
  cases n with
  | zero => simp [okd] at h
  | succ m => exact ⟨m, rfl, by simpa [okd] using h⟩
theorem okd_dct {n : Nat} {xs : List (D × D)} (h : okd n (.dct xs) = true) : False := by cases n <;> simp [okd] at h
theorem okd_ref {n : Nat} {a : Addr} (h : okd n (.ref a) = true) : False := by cases n <;> simp [okd] at h
theorem okd_scr {n : Nat} {a : List Int} (h : okd n (.scr a) = true) : False := by cases n <;> simp [okd] at h
theorem okd_str {n : Nat} {s : Bs} (h : okd n (.str s) = true) : s.all (· < 0x110000) = true := by cases n <;> simpa [okd] using h
theorem all_cons {p : D → Bool} {x : D} {xs : List D} (h : (x :: xs).all p = true) : p x = true ∧ xs.all p = true := by
  rw [List.all_cons, Bool.and_eq_true] at h
  exact h
section
variable {K : PySem.W.Frag} {ω : World} {F H : Hp}
mutual
theorem Is.dp (e : Same F H) : ∀ {n : Nat} {v : V} {d : D}, Is K F v d → okd n d = true → Dp K H v (toPy d)
  | _, _, _, .non, _ => .non
  | _, _, _, .bl b, _ => .bl b
  | _, _, _, .int i, _ => .int i
  | _, _, _, .str s _, _ => .str _
  | _, _, _, .tup h _ t, k => by
    obtain ⟨m, _, k⟩ := okd_tup k
    exact .tup (sqT_same e h) (IsL.dp e t k)
  | _, _, _, .lst h _ t, k => by
    obtain ⟨m, _, k⟩ := okd_lst k
    exact .lst (SqL.of (e _ _ h)) (IsL.dp e t k)
  | _, _, _, .dct _ _ _, k => (okd_dct k).elim
  | _, _, _, .ref _, k => (okd_ref k).elim
  | _, _, _, .scr _ _, k => (okd_scr k).elim
theorem IsL.dp (e : Same F H) : ∀ {n : Nat} {v : List V} {d : List D}, IsL K F v d → d.all (okd n) = true → DpAll K H v (toPyL d)
  | _, _, _, .nil, _ => .nil
  | _, _, _, .cons h t, k => .cons (Is.dp e h (all_cons k).1) (IsL.dp e t (all_cons k).2)
end
end
mutual
theorem lay_toPy : ∀ (d : D) {n : Nat}, okd n d = true → (toPy d).canLay0 = true ∧ (toPy d).depth ≤ n
  | .non, n, h => by simp [toPy, PyData.canLay0, PyData.depth]
  | .bl b, n, h => by simp [toPy, PyData.canLay0, PyData.depth]
  | .int b, n, h => by simp [toPy, PyData.canLay0, PyData.depth]
  | .str s, n, h => by
    have := okd_str h
    refine ⟨?_, by simp [toPy, PyData.depth]⟩
    simp only [toPy, PyData.canLay0, PyData.strOk, mkS]
    simpa using this
  | .tup xs, n, h => by
    obtain ⟨m, rfl, h⟩ := okd_tup h
    obtain ⟨a, b⟩ := lay_toPyL xs h
    exact ⟨by simpa only [toPy, PyData.canLay0] using a, by simp only [toPy, PyData.depth]; omega⟩
  | .lst xs, n, h => by
    obtain ⟨m, rfl, h⟩ := okd_lst h
    obtain ⟨a, b⟩ := lay_toPyL xs h
    exact ⟨by simpa only [toPy, PyData.canLay0] using a, by simp only [toPy, PyData.depth]; omega⟩
  | .dct xs, n, h => (okd_dct h).elim
  | .ref a, n, h => (okd_ref h).elim
  | .scr a, n, h => (okd_scr h).elim
theorem lay_toPyL : ∀ (d : List D) {n : Nat}, d.all (okd n) = true → PyData.canLayAll0 (toPyL d) = true ∧ PyData.depthAll (toPyL d) ≤ n
  | [], n, h => by simp [toPyL, PyData.canLayAll0, PyData.depthAll]
  | x :: xs, n, h => by
    obtain ⟨a, b⟩ := lay_toPy x (all_cons h).1
    obtain ⟨c, d⟩ := lay_toPyL xs (all_cons h).2
    refine ⟨by simp only [toPyL, PyData.canLayAll0]; rw [a, c]; rfl, ?_⟩
    simp only [toPyL, PyData.depthAll]
    omega
end
theorem shaped_of {d : D} (h : okD d) : SeqAt.shaped (toPy d) = true := by
  obtain ⟨a, b⟩ := lay_toPy d h
  unfold SeqAt.shaped
  rw [a, decide_eq_true (by omega)]
  rfl
theorem mkS_beq (s t : Bs) : (mkS s == mkS t) = (s == t) := by
  by_cases e : s = t
  · subst e; simp
  · rw [beq_eq_false_iff_ne.mpr e]
    exact beq_eq_false_iff_ne.mpr fun q => e (mkS_inj q)
mutual
theorem eqv_toPy : ∀ (x y : D) {n m : Nat}, okd n x = true → okd m y = true → PyData.eqv (toPy x) (toPy y) = dEq x y
  | .non, y, n, m, hx, hy => by
    cases y <;> first | exact (okd_dct hy).elim | exact (okd_ref hy).elim | exact (okd_scr hy).elim | simp [toPy, PyData.eqv, dEq]
  | .bl b, y, n, m, hx, hy => by
    cases y <;> first | exact (okd_dct hy).elim | exact (okd_ref hy).elim | exact (okd_scr hy).elim | simp [toPy, PyData.eqv, dEq]
  | .int b, y, n, m, hx, hy => by
    cases y <;> first | exact (okd_dct hy).elim | exact (okd_ref hy).elim | exact (okd_scr hy).elim | simp [toPy, PyData.eqv, dEq]
  | .str s, y, n, m, hx, hy => by
    cases y <;> first | exact (okd_dct hy).elim | exact (okd_ref hy).elim | exact (okd_scr hy).elim | (simp only [toPy, PyData.eqv, dEq]; try rw [mkS_beq])
  | .tup xs, y, n, m, hx, hy => by
    obtain ⟨n', rfl, hx⟩ := okd_tup hx
    cases y with
    | tup ys =>
      obtain ⟨m', rfl, hy⟩ := okd_tup hy
      simp only [toPy, PyData.eqv, dEq]
      exact eqvL_toPy xs ys hx hy
    | dct => exact (okd_dct hy).elim
    | ref => exact (okd_ref hy).elim
    | scr => exact (okd_scr hy).elim
    | _ => simp [toPy, PyData.eqv, dEq]
  | .lst xs, y, n, m, hx, hy => by
    obtain ⟨n', rfl, hx⟩ := okd_lst hx
    cases y with
    | lst ys =>
      obtain ⟨m', rfl, hy⟩ := okd_lst hy
      simp only [toPy, PyData.eqv, dEq]
      exact eqvL_toPy xs ys hx hy
    | dct => exact (okd_dct hy).elim
    | ref => exact (okd_ref hy).elim
    | scr => exact (okd_scr hy).elim
    | _ => simp [toPy, PyData.eqv, dEq]
  | .dct xs, y, n, m, hx, hy => (okd_dct hx).elim
  | .ref a, y, n, m, hx, hy => (okd_ref hx).elim
  | .scr a, y, n, m, hx, hy => (okd_scr hx).elim
theorem eqvL_toPy : ∀ (x y : List D) {n m : Nat}, x.all (okd n) = true → y.all (okd m) = true → PyData.eqvAll (toPyL x) (toPyL y) = dEqL x y
  | [], [], n, m, hx, hy => by simp [toPyL, PyData.eqvAll, dEqL]
  | [], _ :: _, n, m, hx, hy => by simp [toPyL, PyData.eqvAll, dEqL]
  | _ :: _, [], n, m, hx, hy => by simp [toPyL, PyData.eqvAll, dEqL]
  | x :: xs, y :: ys, n, m, hx, hy => by
    simp only [toPyL, PyData.eqvAll, dEqL]
    rw [eqv_toPy x y (all_cons hx).1 (all_cons hy).1, eqvL_toPy xs ys (all_cons hx).2 (all_cons hy).2]
end
theorem any_toPy {d : D} {n : Nat} (hd : okd n d = true) : ∀ (ds : List D) {m : Nat}, ds.all (okd m) = true → ((toPyL ds).any fun z => PyData.eqv z (toPy d)) = ds.any fun z => dEq z d
  | [], _, _ => rfl
  | x :: xs, m, h => by
    simp only [toPyL, List.any_cons]
    rw [eqv_toPy x d (all_cons h).1 hd, any_toPy hd xs (all_cons h).2]

section
variable {B : Bx} {Y : Dl → Prop} {W : WX} {C : XC} {xq : QX}
theorem room64 {j : Nat} {A : Around} (hr : Room j A) : A.units + 64 < cLine := hr.units
theorem room65 {j : Nat} {A : Around} (hr : Room j A) : A.units + 65 < cLine := by have := hr.un; omega
theorem room1 {j : Nat} {A : Around} (hr : Room j A) : A.units + 1 < cLine := by have := hr.un; omega
theorem room9 {j : Nat} {A : Around} (hr : Room j A) : A.units + 9 < cLine := by have := hr.un; omega
theorem cm_eq {j : Nat} (hr : ∀ δ, Y δ → Room j δ.A) : CmR B Y .Eq .eq := ⟨rEqD B.K, fun δ hδ => op_eqD (room64 (hr δ hδ)), fun F St H v u x y q Q r ix iy w k => by
  obtain ⟨kx, ky, w⟩ := w
  refine ⟨toPy x, toPy y, ix.dp r.sub kx, iy.dp r.sub ky, shaped_of kx, shaped_of ky, ?_⟩
  rw [eqv_toPy x y kx ky]
  exact k _ w⟩
theorem cm_ne {j : Nat} (hr : ∀ δ, Y δ → Room j δ.A) : CmR B Y .NotEq .ne := ⟨rNeD B.K, fun δ hδ => op_neD (room64 (hr δ hδ)), fun F St H v u x y q Q r ix iy w k => by
  obtain ⟨kx, ky, w⟩ := w
  refine ⟨toPy x, toPy y, ix.dp r.sub kx, iy.dp r.sub ky, shaped_of kx, shaped_of ky, ?_⟩
  rw [eqv_toPy x y kx ky]
  exact k _ w⟩
theorem tl_mkS (s : Bs) : (mkS s).cps.toList = s := by simp [mkS]
theorem cm_lt : CmR B Y .Lt .lt := ⟨_, fun δ hδ => op_lt.or op_lt_str, fun F St H v u x y q Q r ix iy w k => by
  cases ix with
  | int i => cases iy with
    | int j => exact .inl ⟨i, j, rfl, rfl, k _ w⟩
    | _ => exact False.elim w
  | str s _ => cases iy with
    | str t _ => exact .inr ⟨mkS s, mkS t, rfl, rfl, by rw [tl_mkS, tl_mkS]; exact k _ w⟩
    | _ => exact False.elim w
  | _ => exact False.elim (by cases iy <;> exact w)⟩
theorem cm_gt : CmR B Y .Gt .gt := ⟨_, fun δ hδ => op_gt.or op_gt_str, fun F St H v u x y q Q r ix iy w k => by
  cases ix with
  | int i => cases iy with
    | int j => exact .inl ⟨i, j, rfl, rfl, k _ w⟩
    | _ => exact False.elim w
  | str s _ => cases iy with
    | str t _ => exact .inr ⟨mkS s, mkS t, rfl, rfl, by rw [tl_mkS, tl_mkS]; exact k _ w⟩
    | _ => exact False.elim w
  | _ => exact False.elim (by cases iy <;> exact w)⟩
theorem cm_le : CmR B Y .LtE .le := ⟨_, fun δ hδ => op_le.or op_le_str, fun F St H v u x y q Q r ix iy w k => by
  cases ix with
  | int i => cases iy with
    | int j => exact .inl ⟨i, j, rfl, rfl, k _ w⟩
    | _ => exact False.elim w
  | str s _ => cases iy with
    | str t _ => exact .inr ⟨mkS s, mkS t, rfl, rfl, by rw [tl_mkS, tl_mkS]; exact k _ w⟩
    | _ => exact False.elim w
  | _ => exact False.elim (by cases iy <;> exact w)⟩
theorem cm_ge : CmR B Y .GtE .ge := ⟨_, fun δ hδ => op_ge.or op_ge_str, fun F St H v u x y q Q r ix iy w k => by
  cases ix with
  | int i => cases iy with
    | int j => exact .inl ⟨i, j, rfl, rfl, k _ w⟩
    | _ => exact False.elim w
  | str s _ => cases iy with
    | str t _ => exact .inr ⟨mkS s, mkS t, rfl, rfl, by rw [tl_mkS, tl_mkS]; exact k _ w⟩
    | _ => exact False.elim w
  | _ => exact False.elim (by cases iy <;> exact w)⟩
theorem cm_is : CmR B Y .Is .is := ⟨_, fun δ hδ => op_isN.or op_isBl, fun F St H v u x y q Q r ix iy w k => by
  cases iy with
  | non =>
    refine .inl ⟨rfl, ?_⟩
    have := k _ w
    cases ix <;> simpa using this
  | bl b => cases ix with
    | bl a => exact .inr ⟨a, b, rfl, rfl, k _ w⟩
    | _ => exact False.elim w
  | _ => exact False.elim w⟩
theorem cm_isnt : CmR B Y .IsNot .isnt := ⟨_, fun δ hδ => op_notN.or op_notBl, fun F St H v u x y q Q r ix iy w k => by
  cases iy with
  | non =>
    refine .inl ⟨rfl, ?_⟩
    have := k _ w
    cases ix <;> simpa using this
  | bl b => cases ix with
    | bl a => exact .inr ⟨a, b, rfl, rfl, k _ w⟩
    | _ => exact False.elim w
  | _ => exact False.elim w⟩
def rInT (K : PySem.W.Frag) : R2 := fun x y H Q => ∃ d ds, Dp K H x d ∧ Dp K H y (.tuple ds) ∧ SeqAt.shaped d = true ∧ SeqAt.shaped (.tuple ds) = true ∧ Q (.bl (ds.any fun z => PyData.eqv z d)) H
def rNotInT (K : PySem.W.Frag) : R2 := fun x y H Q => ∃ d ds, Dp K H x d ∧ Dp K H y (.tuple ds) ∧ SeqAt.shaped d = true ∧ SeqAt.shaped (.tuple ds) = true ∧ Q (.bl (!ds.any fun z => PyData.eqv z d)) H
theorem op_inT {X : Cx} (hu : X.A.units + 65 < cLine) : OpR X (compareOp .In) (rInT X.K) := by
  intro pins s σ H x y v u Q I rx ry h
  obtain ⟨d, ds, hd, he, sd, se, q⟩ := h
  obtain ⟨as, r1⟩ := Dp.reads I d x v hd rx
  obtain ⟨bs, r2⟩ := Dp.reads I (.tuple ds) y u he ry
  exact SeqAt.in_tuple_reads r2 r1 (SeqAt.canLay_of_shaped se) (SeqAt.canLay_of_shaped sd) (room_in_shaped sd hu) ⟨.bl _, H, I, rfl, q⟩
theorem op_notInT {X : Cx} (hu : X.A.units + 65 < cLine) : OpR X (compareOp .NotIn) (rNotInT X.K) := by
  intro pins s σ H x y v u Q I rx ry h
  obtain ⟨d, ds, hd, he, sd, se, q⟩ := h
  obtain ⟨as, r1⟩ := Dp.reads I d x v hd rx
  obtain ⟨bs, r2⟩ := Dp.reads I (.tuple ds) y u he ry
  exact SeqAt.notIn_tuple_reads r2 r1 (SeqAt.canLay_of_shaped se) (SeqAt.canLay_of_shaped sd) (room_in_shaped sd hu) ⟨.bl _, H, I, rfl, q⟩
def rInDk : R2 := fun x y H Q => ∃ a o, y = .ref a ∧ DGet H a x o ∧ Q (.bl o.isSome) H
def rNotInDk : R2 := fun x y H Q => ∃ a o, y = .ref a ∧ DGet H a x o ∧ Q (.bl (!o.isSome)) H
theorem op_inDk {X : Cx} (hu : X.A.units + 1 < cLine) : OpR X (compareOp .In) rInDk := by
  intro pins s σ H x y v u Q I rx ry h
  obtain ⟨a, o, ey, g, q⟩ := h
  subst ey
  obtain rfl : u = Value.ref a := ry
  exact d_in hu I g rx fun s' I' => ⟨.bl o.isSome, H, I', rfl, q⟩
theorem op_notInDk {X : Cx} (hu : X.A.units + 1 < cLine) : OpR X (compareOp .NotIn) rNotInDk := by
  intro pins s σ H x y v u Q I rx ry h
  obtain ⟨a, o, ey, g, q⟩ := h
  subst ey
  obtain rfl : u = Value.ref a := ry
  exact d_notIn hu I g rx fun s' I' => ⟨.bl (!o.isSome), H, I', rfl, q⟩
def rInAll (K : PySem.W.Frag) : R2 := fun x y H Q => (∃ (c : Nat) (z : Str), x = .str ⟨#[c]⟩ ∧ y = .str z ∧ Q (.bl (decide (c ∈ z.cps.toList))) H) ∨ rInDk x y H Q ∨ rInD K x y H Q ∨ rInT K x y H Q
def rNotInAll (K : PySem.W.Frag) : R2 := fun x y H Q => (∃ (c : Nat) (z : Str), x = .str ⟨#[c]⟩ ∧ y = .str z ∧ Q (.bl (!decide (c ∈ z.cps.toList))) H) ∨ rNotInDk x y H Q ∨ rNotInD K x y H Q ∨ rNotInT K x y H Q
theorem look_get {K : PySem.W.Frag} {F H : Hp} {a : Addr} {kvs : List (Key × V)} {ds : List (D × D)} {v : V} {x : D} (h : H a = some (.dK kvs)) (m : IsM K F kvs ds) (ix : Is K F v x) (kx : isKey x = true) :
    ∃ o, DGet H a v o ∧ o.isSome = (lookD ds x).isSome ∧ ∀ d, lookD ds x = some d → ∃ u, o = some u ∧ Is K F u d := by
  obtain ⟨q, rfl, rfl⟩ := isKey_of ix kx
  refine ⟨valV kvs q, DGet.k h, ?_, fun d hd => ?_⟩
  · rcases m.look (q := q) with ⟨a, b⟩ | ⟨x, y, a, b, _⟩ <;> rw [a, b] <;> rfl
  · rcases m.look (q := q) with ⟨a, b⟩ | ⟨x, y, a, b, i⟩
    · rw [b] at hd; cases hd
    · rw [b] at hd; cases hd; exact ⟨x, a, i⟩
/-- a dict of nested keys is read -/
theorem dn_get {K : PySem.W.Frag} {ω : World} {F H : Hp} {St : Sto} {a : Addr} {ds : List (D × D)} {v : V} {x : D} (r : SR K ω F St H) (e : St a = some (.tdc ds)) (ix : Is K F v x) (tk : isTK x = true) :
    ∃ xs b k, H a = some (DNo ω a xs) ∧ KeysOk K H xs ∧ v = .ref b ∧ NkV K H (.ref b) k ∧ k.depth ≤ 8 ∧ xs.length ≤ sizeLine ∧ xs.length = ds.length ∧ (xs.map (·.1)).Nodup ∧ nkD x = some k ∧ IsT K F xs ds ∧
      ((atKey xs k = none ∧ lookT ds x = none) ∨ ∃ c u v d, atKey xs k = some (c, u) ∧ lookT ds x = some d ∧ RelV v u ∧ Is K F v d) := by
  obtain ⟨xs, hx, z, nd, it⟩ := (r.own a _ e).2
  obtain ⟨k, hk, dk⟩ := nk_tk tk
  have nv := ix.nk r.sub hk
  cases ix with
  | @tup b _ _ hb _ _ => exact ⟨xs, b, k, hx, it.keys r.sub, rfl, nv, dk, z, it.length, nd, hk, it, it.look hk⟩
  | _ => cases tk
theorem one_sign {s : Bs} {c : Nat} (h : s = [c]) : mkS s = ⟨#[c]⟩ := by subst h; rfl
theorem cm_in {j : Nat} (hr : ∀ δ, Y δ → Room j δ.A) : CmR B Y .In .isin := ⟨fun x y H Q => rInAll B.K x y H Q ∨ rInDN B.K B.w x y H Q, fun δ hδ => OpR.or (op_in_sign.or ((op_inDk (room1 (hr δ hδ))).or ((op_inD (room65 (hr δ hδ))).or (op_inT (room65 (hr δ hδ)))))) (op_inDN (room9 (hr δ hδ))), fun F St H v u x y q Q r ix iy w k => by
  by_cases ht : ∃ a ds, u = .ref a ∧ y = .ref a ∧ St a = some (.tdc ds)
  · obtain ⟨a, ds, rfl, rfl, e⟩ := ht
    simp only [wCmp, e] at w
    obtain ⟨tk, w⟩ := w
    obtain ⟨xs, b, kk, hx, ks, rfl, nv, dk, _, _, _, _, _, h⟩ := dn_get r e ix tk
    refine .inr ⟨a, xs, b, kk, rfl, rfl, hx, ks, nv, dk, ?_⟩
    have e2 : (atKey xs kk).isSome = (lookT ds x).isSome := by
      rcases h with ⟨a, b⟩ | ⟨_, _, _, _, a, b, _⟩ <;> rw [a, b] <;> rfl
    rw [e2]
    exact k _ w
  refine .inl ?_
  cases iy with
  | str t _ => cases ix with
    | str s _ =>
      cases s with
      | nil => exact False.elim w
      | cons c s =>
        cases s with
        | cons => exact False.elim w
        | nil =>
          refine .inl ⟨c, mkS t, rfl, rfl, ?_⟩
          rw [tl_mkS]
          exact k _ w
    | _ => exact False.elim w
  | @dct a kvs ds hd z m =>
    obtain ⟨kx, w⟩ := w
    obtain ⟨o, g, e, _⟩ := look_get (r.sub _ _ hd) m ix kx
    refine .inr (.inl ⟨a, o, rfl, g, ?_⟩)
    rw [e]
    exact k _ w
  | @tup a xs ds hx z il =>
    obtain ⟨kx, ky, w⟩ := w
    refine .inr (.inr (.inr ⟨toPy x, toPyL ds, ix.dp r.sub kx, (Is.tup hx z il).dp r.sub ky, shaped_of kx, shaped_of ky, ?_⟩))
    obtain ⟨m, _, ky'⟩ := okd_tup ky
    rw [any_toPy kx ds ky']
    exact k _ w
  | @lst a xs ds hx z il =>
    obtain ⟨kx, ky, w⟩ := w
    refine .inr (.inr (.inl ⟨toPy x, toPyL ds, ix.dp r.sub kx, (Is.lst hx z il).dp r.sub ky, shaped_of kx, shaped_of ky, ?_⟩))
    obtain ⟨m, _, ky'⟩ := okd_lst ky
    rw [any_toPy kx ds ky']
    exact k _ w
  | ref a =>
    cases e : St a with
    | none => simp only [wCmp, e] at w
    | some o =>
      have ho := (r.own a o e).2
      cases o with
      | lst ds =>
        simp only [wCmp, e] at w
        obtain ⟨kx, ky, w⟩ := w
        obtain ⟨xs, hx, z, il⟩ := ho
        obtain ⟨m, _, ky'⟩ := okd_lst ky
        refine .inr (.inr (.inl ⟨toPy x, toPyL ds, ix.dp r.sub kx, .lst (SqL.of hx) (il.dp r.sub ky'), shaped_of kx, shaped_of (d := .lst ds) ky, ?_⟩))
        rw [any_toPy kx ds ky']
        exact k _ w
      | dct ds =>
        simp only [wCmp, e] at w
        obtain ⟨kx, w⟩ := w
        obtain ⟨kvs, hd, z, nd, m⟩ := ho
        obtain ⟨o, g, e, _⟩ := look_get hd m ix kx
        refine .inr (.inl ⟨a, o, rfl, g, ?_⟩)
        rw [e]
        exact k _ w
      | tdc ds => exact absurd ⟨a, ds, rfl, rfl, e⟩ ht
      | ins => simp only [wCmp, e] at w
  | _ => exact False.elim w⟩
theorem cm_notin {j : Nat} (hr : ∀ δ, Y δ → Room j δ.A) : CmR B Y .NotIn .notin := ⟨fun x y H Q => rNotInAll B.K x y H Q ∨ rNotInDN B.K B.w x y H Q, fun δ hδ => OpR.or (op_notIn_sign.or ((op_notInDk (room1 (hr δ hδ))).or ((op_notInD (room65 (hr δ hδ))).or (op_notInT (room65 (hr δ hδ)))))) (op_notInDN (room9 (hr δ hδ))), fun F St H v u x y q Q r ix iy w k => by
  by_cases ht : ∃ a ds, u = .ref a ∧ y = .ref a ∧ St a = some (.tdc ds)
  · obtain ⟨a, ds, rfl, rfl, e⟩ := ht
    simp only [wCmp, e] at w
    obtain ⟨tk, w⟩ := w
    obtain ⟨xs, b, kk, hx, ks, rfl, nv, dk, _, _, _, _, _, h⟩ := dn_get r e ix tk
    refine .inr ⟨a, xs, b, kk, rfl, rfl, hx, ks, nv, dk, ?_⟩
    have e2 : (atKey xs kk).isSome = (lookT ds x).isSome := by
      rcases h with ⟨a, b⟩ | ⟨_, _, _, _, a, b, _⟩ <;> rw [a, b] <;> rfl
    rw [e2]
    exact k _ w
  refine .inl ?_
  cases iy with
  | str t _ => cases ix with
    | str s _ =>
      cases s with
      | nil => exact False.elim w
      | cons c s =>
        cases s with
        | cons => exact False.elim w
        | nil =>
          refine .inl ⟨c, mkS t, rfl, rfl, ?_⟩
          rw [tl_mkS]
          exact k _ w
    | _ => exact False.elim w
  | @dct a kvs ds hd z m =>
    obtain ⟨kx, w⟩ := w
    obtain ⟨o, g, e, _⟩ := look_get (r.sub _ _ hd) m ix kx
    refine .inr (.inl ⟨a, o, rfl, g, ?_⟩)
    rw [e]
    exact k _ w
  | @tup a xs ds hx z il =>
    obtain ⟨kx, ky, w⟩ := w
    refine .inr (.inr (.inr ⟨toPy x, toPyL ds, ix.dp r.sub kx, (Is.tup hx z il).dp r.sub ky, shaped_of kx, shaped_of ky, ?_⟩))
    obtain ⟨m, _, ky'⟩ := okd_tup ky
    rw [any_toPy kx ds ky']
    exact k _ w
  | @lst a xs ds hx z il =>
    obtain ⟨kx, ky, w⟩ := w
    refine .inr (.inr (.inl ⟨toPy x, toPyL ds, ix.dp r.sub kx, (Is.lst hx z il).dp r.sub ky, shaped_of kx, shaped_of ky, ?_⟩))
    obtain ⟨m, _, ky'⟩ := okd_lst ky
    rw [any_toPy kx ds ky']
    exact k _ w
  | ref a =>
    cases e : St a with
    | none => simp only [wCmp, e] at w
    | some o =>
      have ho := (r.own a o e).2
      cases o with
      | lst ds =>
        simp only [wCmp, e] at w
        obtain ⟨kx, ky, w⟩ := w
        obtain ⟨xs, hx, z, il⟩ := ho
        obtain ⟨m, _, ky'⟩ := okd_lst ky
        refine .inr (.inr (.inl ⟨toPy x, toPyL ds, ix.dp r.sub kx, .lst (SqL.of hx) (il.dp r.sub ky'), shaped_of kx, shaped_of (d := .lst ds) ky, ?_⟩))
        rw [any_toPy kx ds ky']
        exact k _ w
      | dct ds =>
        simp only [wCmp, e] at w
        obtain ⟨kx, w⟩ := w
        obtain ⟨kvs, hd, z, nd, m⟩ := ho
        obtain ⟨o, g, e, _⟩ := look_get hd m ix kx
        refine .inr (.inl ⟨a, o, rfl, g, ?_⟩)
        rw [e]
        exact k _ w
      | tdc ds => exact absurd ⟨a, ds, rfl, rfl, e⟩ ht
      | ins => simp only [wCmp, e] at w
  | _ => exact False.elim w⟩

/-! ### chains -/
variable {a b c : Expr} {wa wb wc : Env → Sto → QD → Prop} {pos : Pos}
theorem SE.chn {o1 o2 : CmpOp} {c1 c2 : Cm} (h1 : CmR B Y o1 c1) (h2 : CmR B Y o2 c2) (hm : lastMarks [o1, o2] [b, c] = false) (ha : SE B Y W C xq a wa) (hb : SE B Y W C xq b wb) (hc : SE B Y W C xq c wc) :
    SE B Y W C xq (.Compare a [o1, o2] [b, c] pos) (fun ρ St q => wa ρ St fun x S1 => wb ρ S1 fun y S2 => wCmp c1 x y S2 fun k => if k = true then wc ρ S2 fun z S3 => wCmp c2 y z S3 fun l => q (.bl l) S3 else q (.bl false) S2) := by
  obtain ⟨r1, p1, k1⟩ := h1
  obtain ⟨r2, p2, k2⟩ := h2
  obtain ⟨ta, pa, ka⟩ := ha.ex
  obtain ⟨tb, pb, kb⟩ := hb.ex
  obtain ⟨tc, pc, kc⟩ := hc.ex
  refine ⟨⟨_, fun δ hδ => pe_chain (p1 δ hδ) (p2 δ hδ) (pa δ hδ) (pb δ hδ) (pc δ hδ) hm, fun ρ St F σ H q Q r e x w k => ?_⟩⟩
  refine ka ρ St F σ H _ _ r e x w fun d S1 F1 v H1 f1 r1 i1 w1 => ?_
  refine kb ρ S1 F1 σ H1 _ _ r1 (e.mono f1.ext) (x.step f1) w1 fun d2 S2 F2 v2 H2 f2 r2 i2 w2 => ?_
  refine k1 F2 S2 H2 v v2 d d2 _ _ r2 (i1.mono f2.ext) i2 w2 fun b hb => ⟨b, rfl, ?_⟩
  cases b with
  | false => exact k _ S2 F2 _ H2 (f1.trans f2) r2 (.bl false) hb
  | true =>
    refine kc ρ S2 F2 σ H2 _ _ r2 ((e.mono f1.ext).mono f2.ext) ((x.step f1).step f2) hb fun d3 S3 F3 v3 H3 f3 r3 i3 w3 => ?_
    exact k2 F3 S3 H3 v2 v3 d2 d3 _ Q r3 (i2.mono f3.ext) i3 w3 fun l hl => k _ S3 F3 _ H3 ((f1.trans f2).trans f3) r3 (.bl l) hl
theorem ST.chn {o1 o2 : CmpOp} {c1 c2 : Cm} (h1 : CmR B Y o1 c1) (h2 : CmR B Y o2 c2) (hm : lastMarks [o1, o2] [b, c] = false) (ha : SE B Y W C xq a wa) (hb : SE B Y W C xq b wb) (hc : SE B Y W C xq c wc) :
    ST B Y W C xq (.Compare a [o1, o2] [b, c] pos) (fun ρ St q => wa ρ St fun x S1 => wb ρ S1 fun y S2 => wCmp c1 x y S2 fun k => if k = true then wc ρ S2 fun z S3 => wCmp c2 y z S3 fun l => q l S3 else q false S2) := by
  obtain ⟨r1, p1, k1⟩ := h1
  obtain ⟨r2, p2, k2⟩ := h2
  obtain ⟨ta, pa, ka⟩ := ha.ex
  obtain ⟨tb, pb, kb⟩ := hb.ex
  obtain ⟨tc, pc, kc⟩ := hc.ex
  refine ⟨⟨_, fun δ hδ => pt_chain (p1 δ hδ) (p2 δ hδ) (pa δ hδ) (pb δ hδ) (pc δ hδ) hm, fun ρ St F σ H q Q r e x w k => ?_⟩⟩
  refine ka ρ St F σ H _ _ r e x w fun d S1 F1 v H1 f1 r1 i1 w1 => ?_
  refine kb ρ S1 F1 σ H1 _ _ r1 (e.mono f1.ext) (x.step f1) w1 fun d2 S2 F2 v2 H2 f2 r2 i2 w2 => ?_
  refine k1 F2 S2 H2 v v2 d d2 _ _ r2 (i1.mono f2.ext) i2 w2 fun b hb => ⟨b, rfl, ?_⟩
  cases b with
  | false => exact ⟨false, rfl, k _ S2 F2 H2 (f1.trans f2) r2 hb⟩
  | true =>
    refine kc ρ S2 F2 σ H2 _ _ r2 ((e.mono f1.ext).mono f2.ext) ((x.step f1).step f2) hb fun d3 S3 F3 v3 H3 f3 r3 i3 w3 => ?_
    exact k2 F3 S3 H3 v2 v3 d2 d3 _ _ r3 (i2.mono f3.ext) i3 w3 fun l hl => ⟨l, rfl, k _ S3 F3 H3 ((f1.trans f2).trans f3) r3 hl⟩

/-! ### subscripts -/
def rIxDk : R2 := fun x y H Q => ∃ a v, x = .ref a ∧ DGet H a y (some v) ∧ Q v H
theorem ix_dk {X : Cx} (hu : X.A.units + 1 < cLine) : IxR X rIxDk := by
  intro value slice pins s σ H x y v u Q I rx ry h hs
  obtain ⟨a, z, ex, g, q⟩ := h
  subst ex
  obtain rfl : v = Value.ref a := rx
  exact tail_any (dict_typeIs I g) slot_dict_getitem.lookup (d_getItem hu I g ry fun w' s' I' r' => ⟨z, H, I', r', q⟩) hs
theorem at_atI {α : Type} {xs : List α} {i : Int} {d : α} (h : atD xs i = some d) : ∃ j, ixN xs.length i = some j ∧ xs[j]? = some d := by
  unfold atD at h
  unfold ixN
  by_cases h0 : 0 ≤ i
  · rw [if_pos h0] at h ⊢
    obtain ⟨hj, _⟩ := List.getElem?_eq_some_iff.mp h
    exact ⟨i.toNat, by rw [if_pos (by omega)], h⟩
  · rw [if_neg h0] at h ⊢
    by_cases h1 : -(xs.length : Int) ≤ i
    · rw [if_pos h1] at h ⊢
      exact ⟨_, rfl, h⟩
    · rw [if_neg h1] at h; cases h
theorem atI_isL {K : PySem.W.Frag} {F : Hp} {xs : List V} {ds : List D} {i : Int} {d : D} (il : IsL K F xs ds) (h : atD ds i = some d) : ∃ v, atI xs i = some v ∧ Is K F v d := by
  obtain ⟨j, h1, h2⟩ := at_atI h
  obtain ⟨v, a, b⟩ := il.get h2
  refine ⟨v, ?_, b⟩
  unfold atI
  rw [il.length, h1]
  exact a
theorem atI_of {α : Type} {xs : List α} {i : Int} {d : α} (h : atD xs i = some d) : atI xs i = some d := by
  obtain ⟨j, h1, h2⟩ := at_atI h
  unfold atI
  rw [h1]
  exact h2
def rIxA (K : PySem.W.Frag) (w : World) : R2 := fun x y H Q => rIx K x y H Q ∨ rIxDk x y H Q ∨ rIxDN K w x y H Q
theorem ix_any {X : Cx} (hu : X.A.units + 9 < cLine) : IxR X (rIxA X.K X.w) := ix_seq.or ((ix_dk (by omega)).or (ix_dn hu))
theorem SE.idx {j : Nat} (hr : ∀ δ, Y δ → Room j δ.A) (ha : SE B Y W C xq a wa) (hb : SE B Y W C xq b wb) (hs : PlainIx b) :
    SE B Y W C xq (.Subscript a b pos) (fun ρ St q => wa ρ St fun x S1 => wb ρ S1 fun y S2 => wIdx S2 x y fun z => q z S2) := by
  obtain ⟨ta, pa, ka⟩ := ha.ex
  obtain ⟨tb, pb, kb⟩ := hb.ex
  refine ⟨⟨tOp (rIxA B.K B.w) ta tb, fun δ hδ => pe_ix (ix_any (room9 (hr δ hδ))) (pa δ hδ) (pb δ hδ) hs, fun ρ St F σ H q Q r e x w k => ?_⟩⟩
  refine ka ρ St F σ H _ _ r e x w fun d S1 F1 v H1 f1 r1 i1 w1 => ?_
  refine kb ρ S1 F1 σ H1 _ _ r1 (e.mono f1.ext) (x.step f1) w1 fun d2 S2 F2 v2 H2 f2 r2 i2 w2 => ?_
  have i1' := i1.mono f2.ext
  have fin : ∀ d3 v3, Is B.K F2 v3 d3 → q d3 S2 → Q v3 H2 := fun d3 v3 i3 w3 => k d3 S2 F2 v3 H2 (f1.trans f2) r2 i3 w3
  cases i1' with
  | @tup p xs ds hx z il => cases i2 with
    | int i =>
      obtain ⟨d3, h3, w3⟩ := w2
      obtain ⟨v3, g3, i3⟩ := atI_isL il h3
      exact .inl (.inr (.inl ⟨p, xs, i, v3, rfl, rfl, sqT_same r2.sub hx, g3, fin _ _ i3 w3⟩))
    | _ => exact False.elim w2
  | @lst p xs ds hx z il => cases i2 with
    | int i =>
      obtain ⟨d3, h3, w3⟩ := w2
      obtain ⟨v3, g3, i3⟩ := atI_isL il h3
      exact .inl (.inl ⟨p, xs, i, v3, rfl, rfl, SqL.of (r2.sub _ _ hx), g3, fin _ _ i3 w3⟩)
    | _ => exact False.elim w2
  | str s z => cases i2 with
    | int i =>
      obtain ⟨cc, h3, w3⟩ := w2
      refine .inl (.inr (.inr ⟨mkS s, i, cc, rfl, rfl, by rw [mkS_len]; exact z, by rw [tl_mkS]; exact atI_of h3, fin (.str [cc]) (.str (mkS [cc])) (.str _ ?_) w3⟩))
      exact Nat.le_of_lt (small1000 (by simp))
    | _ => exact False.elim w2
  | @dct p kvs ds hd z m =>
    have w2 : isKey d2 = true ∧ ∃ d, lookD ds d2 = some d ∧ q d S2 := by cases d2 <;> exact w2
    obtain ⟨kk, d3, h3, w3⟩ := w2
    obtain ⟨o, g, _, g2⟩ := look_get (r2.sub _ _ hd) m i2 kk
    obtain ⟨u, rfl, iu⟩ := g2 d3 h3
    exact .inr (.inl ⟨p, u, rfl, g, fin _ _ iu w3⟩)
  | ref p =>
    cases e : S2 p with
    | none => simp only [wIdx, e] at w2
    | some o =>
      have ho := (r2.own p o e).2
      cases o with
      | lst ds =>
        simp only [wIdx, e] at w2
        obtain ⟨xs, hx, z, il⟩ := ho
        cases i2 with
        | int i =>
          obtain ⟨d3, h3, w3⟩ := w2
          obtain ⟨v3, g3, i3⟩ := atI_isL il h3
          exact .inl (.inl ⟨p, xs, i, v3, rfl, rfl, SqL.of hx, g3, fin _ _ i3 w3⟩)
        | _ => exact False.elim w2
      | dct ds =>
        simp only [wIdx, e] at w2
        obtain ⟨kk, d3, h3, w3⟩ := w2
        obtain ⟨kvs, hd, z, nd, m⟩ := ho
        obtain ⟨o, g, _, g2⟩ := look_get hd m i2 kk
        obtain ⟨u, rfl, iu⟩ := g2 d3 h3
        exact .inr (.inl ⟨p, u, rfl, g, fin _ _ iu w3⟩)
      | tdc ds =>
        simp only [wIdx, e] at w2
        obtain ⟨tk, d3, h3, w3⟩ := w2
        obtain ⟨xs, b, kk, hx, ks, rfl, nv, dk, _, _, _, _, _, h⟩ := dn_get r2 e i2 tk
        rcases h with ⟨_, q2⟩ | ⟨c, u, v3, d4, e3, e4, rv, i4⟩
        · rw [h3] at q2; cases q2
        · rw [h3] at e4; cases e4
          exact .inr (.inr ⟨p, xs, b, c, kk, u, v3, rfl, rfl, hx, ks, nv, dk, e3, rv, fin _ _ i4 w3⟩)
      | ins => simp only [wIdx, e] at w2
  | non => exact False.elim (by cases d2 <;> exact w2)
  | bl => exact False.elim (by cases d2 <;> exact w2)
  | int => exact False.elim (by cases d2 <;> exact w2)
  | scr => exact False.elim (by cases d2 <;> exact w2)
/-- a dict of the module whose keys are texts -/
theorem SE.wget {x : Str} {p : Pos} {p0 : Addr} {kds : List (D × D)} (hg : ∀ δ, Y δ → Gl (cx B δ) x) (hm : B.mg x = some (.ref p0)) (hd : (x == ("__debug__" : Str)) = false)
    (hk : ∀ s d, lookD kds (.str s) = some d → ∃ v, KDct B.K B.w p0 (mkS s) v ∧ Is B.K (fun _ => none) v d) (hn : ∀ y, isKey y = true → (∀ s, y ≠ .str s) → lookD kds y = none)
    (hb : SE B Y W C xq b wb) (hs : PlainIx b) :
    SE B Y W C xq (.Subscript (.Name x p) b pos) (fun ρ St q => wb ρ St fun y S1 => isKey y = true ∧ ∃ d, lookD kds y = some d ∧ q d S1) := by
  obtain ⟨tb, pb, kb⟩ := hb.ex
  refine ⟨⟨tOp (rIxD B.K B.w) (tC (.ref p0)) tb, fun δ hδ => pe_ix ix_kdict (pe_glob (v := .ref p0) (hg δ hδ) hm rfl hd) (pb δ hδ) hs, fun ρ St F σ H q Q r e x w k => ?_⟩⟩
  refine kb ρ St F σ H _ _ r e x w fun d S1 F1 v H1 f1 r1 i1 w1 => ?_
  obtain ⟨kk, d2, h2, w2⟩ := w1
  cases i1 with
  | str s z =>
    obtain ⟨v, kd, iv⟩ := hk s d2 h2
    exact ⟨p0, mkS s, v, rfl, rfl, kd, k _ S1 F1 v H1 f1 r1 (iv.mono fun _ _ z => by cases z) w2⟩
  | int i => rw [hn (.int i) rfl (fun s => by intro z; cases z)] at h2; cases h2
  | _ => cases kk
/-! ### slices -/
structure SO (B : Bx) (Y : Dl → Prop) (W : WX) (C : XC) (xq : QX) (x : Option Expr) (w : Env → Sto → (Option Int → Sto → Prop) → Prop) : Prop where
  ex : ∃ t : TO, (∀ δ, Y δ → PO (cx B δ) x t) ∧ ∀ (ρ : Env) (St : Sto) (F : Hp) (σ : L2.St) (H : Hp) (q : Option Int → Sto → Prop) (Q : Option Int → Hp → Prop), SR B.K B.w F St H → RE B.K F ρ σ → EQ B.K B.w W C xq F St H σ → w ρ St q →
    (∀ b S' F' H', Fr F St H F' S' H' → SR B.K B.w F' S' H' → q b S' → Q b H') → t σ H Q
theorem SO.none : SO B Y W C xq none (fun _ St q => q none St) := ⟨⟨_, fun δ hδ => po_none, fun ρ St F σ H q Q r e x w k => k _ St F H Fr.refl r w⟩⟩
theorem SO.some (ha : SE B Y W C xq a wa) : SO B Y W C xq (some a) (fun ρ St q => wa ρ St fun x S1 => match x with | .int i => q (some i) S1 | _ => False) := by
  obtain ⟨ta, pa, ka⟩ := ha.ex
  refine ⟨⟨_, fun δ hδ => po_some (pa δ hδ), fun ρ St F σ H q Q r e x w k => ?_⟩⟩
  refine ka ρ St F σ H _ _ r e x w fun d S1 F1 v H1 f1 r1 i1 w1 => ?_
  cases i1 with
  | int i => exact ⟨i, rfl, k _ S1 F1 H1 f1 r1 w1⟩
  | _ => exact False.elim w1
def rSlD (K : PySem.W.Frag) : V → Option Int → Option Int → Hp → VK → Prop := fun x lo hi H Q => rSlA K x lo hi H Q ∨ rSlL K x lo hi H Q ∨ rSlS x lo hi H Q
theorem sl_any {X : Cx} : SlR X (rSlD X.K) := sl_tupA.or (sl_list.or sl_str)
theorem cutD_whole {α : Type} {xs : List α} {lo hi : Option Int} (h : HT.sIx xs.length 0 lo = 0 ∧ HT.sIx xs.length xs.length hi = xs.length) : cutD xs lo hi = xs := by
  unfold cutD
  rw [h.1, h.2]
  simp
theorem cutD_le {α : Type} (xs : List α) (lo hi : Option Int) : (cutD xs lo hi).length ≤ xs.length := by
  unfold cutD
  rw [List.length_take, List.length_drop]
  omega
theorem cutS_mk (s : Bs) (lo hi : Option Int) : cutS (mkS s) lo hi = mkS (cutD s lo hi) := by
  unfold cutS cutD mkS
  simp [Str.length]
theorem SE.sl {lo hi : Option Expr} {wl wh : Env → Sto → (Option Int → Sto → Prop) → Prop} {p2 : Pos} (ha : SE B Y W C xq a wa) (hl : SO B Y W C xq lo wl) (hh : SO B Y W C xq hi wh) :
    SE B Y W C xq (.Subscript a (.Slice lo hi none p2) pos) (fun ρ St q => wa ρ St fun x S1 => wl ρ S1 fun l S2 => wh ρ S2 fun h S3 => wSl S3 x l h fun z => q z S3) := by
  obtain ⟨ta, pa, ka⟩ := ha.ex
  obtain ⟨tl, pl, kl⟩ := hl.ex
  obtain ⟨th, ph, kh⟩ := hh.ex
  refine ⟨⟨tSl (rSlD B.K) ta tl th, fun δ hδ => pe_slice sl_any (pa δ hδ) (pl δ hδ) (ph δ hδ), fun ρ St F σ H q Q r e x w k => ?_⟩⟩
  refine ka ρ St F σ H _ _ r e x w fun d S1 F1 v H1 f1 r1 i1 w1 => ?_
  refine kl ρ S1 F1 σ H1 _ _ r1 (e.mono f1.ext) (x.step f1) w1 fun l S2 F2 H2 f2 r2 w2 => ?_
  refine kh ρ S2 F2 σ H2 _ _ r2 ((e.mono f1.ext).mono f2.ext) ((x.step f1).step f2) w2 fun h S3 F3 H3 f3 r3 w3 => ?_
  have i3 := (i1.mono f2.ext).mono f3.ext
  have ff := (f1.trans f2).trans f3
  cases i3 with
  | @tup p xs ds hx z il =>
    refine .inl ⟨p, xs, rfl, sqT_same r3.sub hx, fun hw => ?_, fun _ p2 hp => ?_⟩
    · rw [il.length] at hw
      have w3 : q (.tup (cutD ds l h)) S3 := w3
      rw [cutD_whole hw] at w3
      exact k _ S3 F3 _ H3 ff r3 (.tup hx z il) w3
    · obtain ⟨r4, f4⟩ := r3.lay (o := .tup (cutV xs l h)) hp
      exact k _ S3 _ _ _ (ff.trans f4) r4 (.tup (.inl (.inl upd_same)) (Nat.le_trans (cutV_length _ _ _) z) ((il.cut l h).mono f4.ext)) w3
  | @lst p xs ds hx z il =>
    refine .inr (.inl ⟨p, xs, rfl, SqL.of (r3.sub _ _ hx), fun p2 hp => ?_⟩)
    obtain ⟨r4, f4⟩ := r3.lay (o := .lst (cutV xs l h)) hp
    exact k _ S3 _ _ _ (ff.trans f4) r4 (.lst upd_same (Nat.le_trans (cutV_length _ _ _) z) ((il.cut l h).mono f4.ext)) w3
  | str s z =>
    refine .inr (.inr ⟨mkS s, rfl, by rw [mkS_len]; exact z, ?_⟩)
    rw [cutS_mk]
    exact k _ S3 F3 _ H3 ff r3 (.str _ (Nat.le_trans (cutD_le _ _ _) z)) w3
  | ref p =>
    cases e : S3 p with
    | none => simp only [wSl, e] at w3
    | some o =>
      have ho := (r3.own p o e).2
      cases o with
      | lst ds =>
        simp only [wSl, e] at w3
        obtain ⟨xs, hx, z, il⟩ := ho
        refine .inr (.inl ⟨p, xs, rfl, SqL.of hx, fun p2 hp => ?_⟩)
        obtain ⟨r4, f4⟩ := r3.lay (o := .lst (cutV xs l h)) hp
        exact k _ S3 _ _ _ (ff.trans f4) r4 (.lst upd_same (Nat.le_trans (cutV_length _ _ _) z) ((il.cut l h).mono f4.ext)) w3
      | _ => simp only [wSl, e] at w3
  | _ => exact False.elim w3
theorem SE.slN {lo hi : Option Expr} {wl wh : Env → Sto → (Option Int → Sto → Prop) → Prop} {p2 : Pos} (ha : SE B Y W C xq a wa) (hl : SO B Y W C xq lo wl) (hh : SO B Y W C xq hi wh) :
    SE B Y W C xq (.Subscript a (.Slice lo hi none p2) pos) (fun ρ St q => wa ρ St fun x S1 => wl ρ S1 fun l S2 => wh ρ S2 fun h S3 => ∃ ds, lvw S3 x = some ds ∧ ∀ p, S3 p = none → q (.ref p) (ups S3 p (.lst (cutD ds l h)))) := by
  obtain ⟨ta, pa, ka⟩ := ha.ex
  obtain ⟨tl, pl, kl⟩ := hl.ex
  obtain ⟨th, ph, kh⟩ := hh.ex
  refine ⟨⟨tSl (rSlD B.K) ta tl th, fun δ hδ => pe_slice sl_any (pa δ hδ) (pl δ hδ) (ph δ hδ), fun ρ St F σ H q Q r e x w k => ?_⟩⟩
  refine ka ρ St F σ H _ _ r e x w fun d S1 F1 v H1 f1 r1 i1 w1 => ?_
  refine kl ρ S1 F1 σ H1 _ _ r1 (e.mono f1.ext) (x.step f1) w1 fun l S2 F2 H2 f2 r2 w2 => ?_
  refine kh ρ S2 F2 σ H2 _ _ r2 ((e.mono f1.ext).mono f2.ext) ((x.step f1).step f2) w2 fun h S3 F3 H3 f3 r3 w3 => ?_
  obtain ⟨ds, hv, w3⟩ := w3
  have i3 := (i1.mono f2.ext).mono f3.ext
  have ff := (f1.trans f2).trans f3
  cases i3 with
  | @lst p xs ds' hx z il =>
    have hv : ds' = ds := Option.some.inj hv
    subst hv
    refine .inr (.inl ⟨p, xs, rfl, SqL.of (r3.sub _ _ hx), fun p2 hp => ?_⟩)
    obtain ⟨r4, f4⟩ := r3.make (o := .lst (cutV xs l h)) (q := .lst (cutD ds' l h)) hp ⟨_, upd_same, Nat.le_trans (cutV_length _ _ _) z, il.cut l h⟩
    exact k _ _ _ _ _ (ff.trans f4) r4 (.ref p2) (w3 p2 (r3.fresh hp).2)
  | ref p =>
    cases e : S3 p with
    | none => simp [lvw, e] at hv
    | some o =>
      have ho := (r3.own p o e).2
      cases o with
      | lst ds' =>
        have hv : ds' = ds := by simpa [lvw, e] using hv
        subst hv
        obtain ⟨xs, hx, z, il⟩ := ho
        refine .inr (.inl ⟨p, xs, rfl, SqL.of hx, fun p2 hp => ?_⟩)
        obtain ⟨r4, f4⟩ := r3.make (o := .lst (cutV xs l h)) (q := .lst (cutD ds' l h)) hp ⟨_, upd_same, Nat.le_trans (cutV_length _ _ _) z, il.cut l h⟩
        exact k _ _ _ _ _ (ff.trans f4) r4 (.ref p2) (w3 p2 (r3.fresh hp).2)
      | _ => simp [lvw, e] at hv
  | _ => simp [lvw] at hv
/-- a list or a tuple by its view -/
theorem view_of {K : PySem.W.Frag} {ω : World} {F : Hp} {St : Sto} {H : Hp} {v : V} {d : D} {ds : List D} (r : SR K ω F St H) (i : Is K F v d) (h : vw St d = some ds) :
    ∃ a xs, v = .ref a ∧ xs.length ≤ sizeLine ∧ IsL K F xs ds ∧ ((SqT K H a xs ∧ d = .tup ds) ∨ (H a = some (.lst xs) ∧ ∀ t, d ≠ .tup t)) := by
  cases i with
  | @tup a xs es hx z il => cases h; exact ⟨a, xs, rfl, z, il, .inl ⟨sqT_same r.sub hx, rfl⟩⟩
  | @lst a xs es hx z il => cases h; exact ⟨a, xs, rfl, z, il, .inr ⟨r.sub _ _ hx, fun t q => by cases q⟩⟩
  | ref a =>
    cases e : St a with
    | none => simp only [vw, e] at h; cases h
    | some o =>
      have ho := (r.own a o e).2
      simp only [vw, e] at h
      cases o with
      | lst es =>
        cases h
        obtain ⟨xs, hx, z, il⟩ := ho
        exact ⟨a, xs, rfl, z, il, .inr ⟨hx, fun t q => by cases q⟩⟩
      | _ => cases h
  | _ => cases h
theorem SE.rev {k : Nat} {p1 p2 p3 : Pos} (ha : SE B Y W C xq a wa) : SE B Y W C xq (.Subscript a (.Slice none none (some (.UnaryOp .USub (.Constant (.int 1) k p1) p2)) p3) pos) (fun ρ St q => wa ρ St fun x S1 => ∃ ds, vw S1 x = some ds ∧ (∀ t, x ≠ .tup t) ∧ q (.lst ds.reverse) S1) := by
  obtain ⟨ta, pa, ka⟩ := ha.ex
  refine ⟨⟨tRevL B.K ta, fun δ hδ => pe_revL (pa δ hδ), fun ρ St F σ H q Q r e x w k => ?_⟩⟩
  refine ka ρ St F σ H _ _ r e x w fun d S1 F1 v H1 f1 r1 i1 w1 => ?_
  obtain ⟨ds, hv, nt, w1⟩ := w1
  obtain ⟨a, xs, ev, z, il, h⟩ := view_of r1 i1 hv
  rcases h with ⟨_, e2⟩ | ⟨hx, _⟩
  · exact absurd e2 (nt _)
  · refine ⟨a, xs, ev, SqL.of hx, fun p hp => ?_⟩
    obtain ⟨r4, f4⟩ := r1.lay (o := .lst xs.reverse) hp
    exact k _ S1 _ _ _ (f1.trans f4) r4 (.lst upd_same (by rw [List.length_reverse]; exact z) (il.reverse.mono f4.ext)) w1
end
end DL
/-! DL5: calls, built-ins, walks, comprehensions over data. -/
namespace DL
open PySem PySem.Spec PyProof.Rows L2

/-! ### what is seen of the text -/
def notStar : Expr → Bool
  | .Starred _ _ => false
  | _ => true
theorem star_cons {e : Expr} {es : List Expr} (h : notStar e = true) (env : PySem.Env) : starEach (e :: es) env = (false, eval e env) :: starEach es env := by
  cases e <;> first | rfl | cases h
theorem star_all : ∀ {es : List Expr}, es.all notStar = true → ∀ (env : PySem.Env) (pos : Pos), (backTo pos (starEach es env)).any (·.1) = false ∧ (backTo pos (starEach es env)).all (fun x => !x.1) = true ∧ (backTo pos (starEach es env)).length = es.length
  | [], _, _, _ => ⟨rfl, rfl, rfl⟩
  | e :: es, h, env, pos => by
    rw [List.all_cons, Bool.and_eq_true] at h
    obtain ⟨a, b, c⟩ := star_all h.2 env pos
    rw [star_cons h.1 env]
    refine ⟨?_, ?_, ?_⟩
    · show (false || (backTo pos (starEach es env)).any (·.1)) = false
      rw [a]; rfl
    · show (!false && (backTo pos (starEach es env)).all (fun x => !x.1)) = true
      rw [b]; rfl
    · show (backTo pos (starEach es env)).length + 1 = es.length + 1
      rw [c]
def notCall : Expr → Bool
  | .Call _ _ _ _ => false
  | _ => true
theorem attr_base {o : Expr} (h : notCall o = true) (m : Str) (env : PySem.Env) (whole : Sem Value) : attributeBase o m env whole = whole := by
  cases o <;> first | rfl | cases h
def notSet : Expr → Bool
  | .Set _ _ _ => false
  | _ => true
theorem folded_set {e : Expr} (h : notSet e = true) (env : PySem.Env) (x : Value) : foldedSetIterable e env x = pure x := by
  cases e <;> first | rfl | cases h
theorem marks_set {e : Expr} (h : notSet e = true) (op : CmpOp) : behindInMarks op e = false := by
  cases e <;> first | rfl | cases h
def notSlice : Expr → Bool
  | .Slice _ _ _ _ => false
  | _ => true
theorem plain_ix {e : Expr} (h : notSlice e = true) : PlainIx e := by
  intro o i
  cases e <;> first | rfl | cases h
def plainTest : Expr → Bool
  | .UnaryOp .Not _ _ => false
  | .BoolOp _ _ _ => false
  | .IfExp _ _ _ _ => false
  | .Compare _ _ _ _ => false
  | _ => true
theorem plain_test {e : Expr} (h : plainTest e = true) (env : PySem.Env) (whole : Sem Value) : isTrue e env whole = (do let v ← whole; standAt e.pos; holding [v] (truthy v)) := by
  cases e with
  | UnaryOp op a pos => cases op <;> first | rfl | cases h
  | BoolOp => cases h
  | IfExp => cases h
  | Compare => cases h
  | _ => rfl
def notComp : Expr → Bool
  | .ListComp _ _ _ _ => false
  | .SetComp _ _ _ _ => false
  | .DictComp _ _ _ _ _ => false
  | _ => true
theorem no_swap {e : Expr} (h : notComp e = true) (t : Option Expr) (l : Nat) (env : PySem.Env) : swapsWith e t l env = pure false := by
  cases e <;> first | rfl | cases h

section
variable {B : Bx} {Y : Dl → Prop} {W : WX} {C : XC} {xq : QX} {a b c : Expr} {wa wb wc : Env → Sto → QD → Prop} {pos : Pos}

/-! ### a def's call -/
theorem SE.call {k : Nat} {f : Addr} {fd : FuncData} {ps : List Str} {sp : DSp} {x : Str} {p : Pos} {es : List Expr} {ws : Env → Sto → (List D → Sto → Prop) → Prop}
    (tk : ∀ δ, Y δ → Takes (cx B δ) W) (F0 : FnOk B.prog B.w B.K B.mg B.base (L2.CX B.prog B.w) k f fd ps (lift B.K B.w C sp)) (hr : ∀ δ, Y δ → Room k δ.A) (hg : ∀ δ, Y δ → Gl (cx B δ) x) (hm : B.mg x = some (.ref f))
    (hk : PySem.W.keepIn B.K (.ref f) = true) (hb : Binds B.K fd ps []) (hd : (x == ("__debug__" : Str)) = false) (hs : SA B Y W C xq (a :: es) ws) (st : (a :: es).all notStar = true) :
    SE B Y W C xq (.Call (.Name x p) (a :: es) [] pos) (fun ρ St q => ws ρ St fun ds S1 => sp ds S1 q xq) := by
  obtain ⟨ts, ps', ks⟩ := hs.ex
  have st2 := st
  rw [List.all_cons, Bool.and_eq_true] at st2
  refine ⟨⟨tCallS (lift B.K B.w C sp) (WE W) ts, fun δ hδ => pe_callS (X := cx B δ) F0 (hr δ hδ) (hg δ hδ) hm hk hb (fun σ => passAt (tk δ hδ) σ) (ps' δ hδ) hd (star_cons st2.1 _) (star_all st2.2 _ _).1, fun ρ St F σ H q Q r e x w k => ?_⟩⟩
  refine ks ρ St F σ H _ _ r e x w fun ds S1 F1 vs H1 f1 r1 i1 _ w1 => ?_
  refine ⟨ds, S1, F1, q, xq, r1, i1, w1, fun d S' v F' H' hq f2 r2 i2 => k d S' F' v H' (f1.trans f2) r2 i2 hq, fun c d S' F' H' dx hq f2 r2 p2 => ?_⟩
  exact (x.step f1) c d S' F' H' dx f2 r2 p2 hq
theorem SE.frz (ha : SE B Y W C xq a wa) : SE B Y W C xq a (fun ρ St q => wa ρ St fun x S1 => match x with
    | .ref p => match S1 p with
      | some (.lst ds) => q (.lst ds) (del S1 p)
      | some (.dct kvs) => q (.dct kvs) (del S1 p)
      | _ => False
    | _ => False) := by
  obtain ⟨ta, pa, ka⟩ := ha.ex
  refine ⟨⟨ta, pa, fun ρ St F σ H q Q r e x w k => ?_⟩⟩
  refine ka ρ St F σ H _ _ r e x w fun d S1 F1 v H1 f1 r1 i1 w1 => ?_
  cases i1 with
  | ref p =>
    cases e : S1 p with
    | none => simp only [e] at w1
    | some o =>
      have ho := (r1.own p o e).2
      cases o with
      | lst ds =>
        simp only [e] at w1
        obtain ⟨xs, hx, z, il⟩ := ho
        obtain ⟨r2, f2⟩ := r1.freeze e hx
        exact k _ _ _ _ H1 (f1.trans f2) r2 (.lst upd_same z (il.mono f2.ext)) w1
      | dct ds =>
        simp only [e] at w1
        obtain ⟨xs, hx, z, nd, il⟩ := ho
        obtain ⟨r2, f2⟩ := r1.freeze e hx
        exact k _ _ _ _ H1 (f1.trans f2) r2 (.dct upd_same z (il.mono f2.ext)) w1
      | ins => simp only [e] at w1
      | tdc => simp only [e] at w1
  | _ => exact False.elim w1

/-- l.pop() -/
theorem SE.popl {p : Pos} (ha : SE B Y W C xq a wa) (hc : notCall a = true) (hl : (p.endLine == pos.line) = true) :
    SE B Y W C xq (.Call (.Attribute a "pop" p) [] [] pos) (fun ρ St q => wa ρ St fun x S1 => match x with
      | .ref p => match S1 p with
        | some (.lst ds) => ∃ (init : List D) (last : D), ds = init ++ [last] ∧ q last (ups S1 p (.lst init))
        | _ => False
      | _ => False) := by
  obtain ⟨ta, pa, ka⟩ := ha.ex
  refine ⟨⟨tBM0 B.K "list" rPop ta, fun δ hδ => pe_bm0 (X := cx B δ) PySem.F.plainAttrs_list PySem.F.slot_list_pop PySem.F.type_list_pop mt_pop (pa δ hδ) (attr_base hc _ _ _) hl, fun ρ St F σ H q Q r e x w k => ?_⟩⟩
  refine ka ρ St F σ H _ _ r e x w fun d S1 F1 v H1 f1 r1 i1 w1 => ?_
  cases i1 with
  | ref p =>
    cases e : S1 p with
    | none => simp only [e] at w1
    | some o =>
      have ho := (r1.own p o e).2
      cases o with
      | lst ds =>
        simp only [e] at w1
        obtain ⟨xs, hx, z, il⟩ := ho
        obtain ⟨init, last, rfl, w1⟩ := w1
        have hlen : xs.length = init.length + 1 := by rw [il.length, List.length_append]; rfl
        obtain ⟨u, hu, iu⟩ := il.get (i := init.length) (x := last) (by rw [List.getElem?_append_right (Nat.le_refl _), Nat.sub_self]; rfl)
        have h1 : xs[xs.length - 1]? = some u := by rw [hlen]; exact hu
        have h2 : IsL B.K F1 xs.dropLast init := by
          have := il.take init.length
          rw [List.take_left] at this
          rw [List.dropLast_eq_take, hlen]
          exact this
        refine ⟨.inl ⟨rfl, xs, SqL.of hx⟩, p, xs, u, rfl, rfl, hx, h1, ?_⟩
        obtain ⟨r4, f4⟩ := r1.write (o := .lst xs.dropLast) (q := .lst init) e ⟨_, upd_same, by rw [List.length_dropLast]; omega, h2⟩
        exact k _ _ _ _ _ (f1.trans f4) r4 (iu.mono f4.ext) w1
      | _ => simp only [e] at w1
  | _ => exact False.elim w1
/-! ### built-ins of one argument -/
theorem SE.blt {r : List V → Hp → VK → Prop} {x : Str} {id : String} {p : Pos} {z : D → Sto → (D → Prop) → Prop} (hc : ∀ δ, Y δ → CallR (cx B δ) (.builtin id) r) (hg : ∀ δ, Y δ → Gl (cx B δ) x) (hm : B.mg x = none) (hv : bootBuiltins x = some (.builtin id))
    (ha : SE B Y W C xq a wa) (st : notStar a = true) (hn : x ≠ "__name__" := by decide) (hdb : (x == ("__debug__" : Str)) = false := by decide)
    (hr : ∀ (F : Hp) (St : Sto) (H : Hp) (v : V) (x : D) (q : D → Prop) (Q : VK), SR B.K B.w F St H → Is B.K F v x → z x St q → (∀ d F' v' H', Fr F St H F' St H' → SR B.K B.w F' St H' → Is B.K F' v' d → q d → Q v' H') → r [v] H Q) :
    SE B Y W C xq (.Call (.Name x p) [a] [] pos) (fun ρ St q => wa ρ St fun x S1 => z x S1 fun d => q d S1) := by
  obtain ⟨ta, pa, ka⟩ := ha.ex
  refine ⟨⟨tCB r (tCons ta tNil), fun δ hδ => pe_callB (hc δ hδ) (hg δ hδ) hm hv (pa_cons (pa δ hδ) pa_nil (star_cons st _)) hn hdb (star_cons st _) rfl, fun ρ St F σ H q Q r e x w k => ?_⟩⟩
  refine ka ρ St F σ H _ _ r e x w fun d S1 F1 v H1 f1 r1 i1 w1 => ?_
  exact hr F1 S1 H1 v d _ Q r1 i1 w1 fun d2 F2 v2 H2 f2 r2 i2 w2 => k d2 S1 F2 v2 H2 (f1.trans f2) r2 i2 w2
theorem SE.bty {r : List V → Hp → VK → Prop} {x : Str} {T : String} {p : Pos} {z : D → Sto → (D → Prop) → Prop} (hc : ∀ δ, Y δ → CallR (cx B δ) (.type T) r) (hg : ∀ δ, Y δ → Gl (cx B δ) x) (hm : B.mg x = none) (hv : bootBuiltins x = some (.type T))
    (ha : SE B Y W C xq a wa) (st : notStar a = true) (hn : x ≠ "__name__" := by decide) (hdb : (x == ("__debug__" : Str)) = false := by decide)
    (hr : ∀ (F : Hp) (St : Sto) (H : Hp) (v : V) (x : D) (q : D → Prop) (Q : VK), SR B.K B.w F St H → Is B.K F v x → z x St q → (∀ d F' v' H', Fr F St H F' St H' → SR B.K B.w F' St H' → Is B.K F' v' d → q d → Q v' H') → r [v] H Q) :
    SE B Y W C xq (.Call (.Name x p) [a] [] pos) (fun ρ St q => wa ρ St fun x S1 => z x S1 fun d => q d S1) := by
  obtain ⟨ta, pa, ka⟩ := ha.ex
  refine ⟨⟨tCB r (tCons ta tNil), fun δ hδ => pe_callTy (hc δ hδ) (hg δ hδ) hm hv (pa_cons (pa δ hδ) pa_nil (star_cons st _)) hn hdb (star_cons st _) rfl, fun ρ St F σ H q Q r e x w k => ?_⟩⟩
  refine ka ρ St F σ H _ _ r e x w fun d S1 F1 v H1 f1 r1 i1 w1 => ?_
  exact hr F1 S1 H1 v d _ Q r1 i1 w1 fun d2 F2 v2 H2 f2 r2 i2 w2 => k d2 S1 F2 v2 H2 (f1.trans f2) r2 i2 w2
theorem len_of {K : PySem.W.Frag} {ω : World} {F : Hp} {St : Sto} {H : Hp} {v : V} {d : D} {n : Nat} (r : SR K ω F St H) (i : Is K F v d) (h : lenD St d = some n) : LenV K v H n := by
  cases i with
  | str s z => cases h; exact ⟨by rw [mkS_len]; exact z, by rw [mkS_len]⟩
  | @tup a xs ds hx z il => cases h; exact .inr ⟨xs, sqT_same r.sub hx, il.length.symm⟩
  | @lst a xs ds hx z il => cases h; exact .inl ⟨xs, SqL.of (r.sub _ _ hx), il.length.symm⟩
  | ref a =>
    cases e : St a with
    | none => simp only [lenD, e] at h; cases h
    | some o =>
      have ho := (r.own a o e).2
      simp only [lenD, e] at h
      cases o with
      | lst ds =>
        cases h
        obtain ⟨xs, hx, z, il⟩ := ho
        exact .inl ⟨xs, SqL.of hx, il.length.symm⟩
      | _ => cases h
  | _ => cases h
theorem SE.len {p : Pos} (hg : ∀ δ, Y δ → Gl (cx B δ) "len") (hm : B.mg "len" = none) (ha : SE B Y W C xq a wa) (st : notStar a = true) :
    SE B Y W C xq (.Call (.Name "len" p) [a] [] pos) (fun ρ St q => wa ρ St fun x S1 => wBf .len x S1 fun d => q d S1) := by
  refine SE.blt (z := wBf .len) (r := fun xs H Q => ∃ x n, xs = [x] ∧ LenV B.K x H n ∧ Q (.int n) H) (fun δ _ => call_len) hg hm PySem.boot_len ha st (hr := fun F St H v x q Q r i w k => ?_)
  obtain ⟨n, hn, w⟩ := w
  exact ⟨v, n, rfl, len_of r i hn, k _ F _ H Fr.refl r (.int _) w⟩
theorem SE.abs {p : Pos} (hg : ∀ δ, Y δ → Gl (cx B δ) "abs") (hm : B.mg "abs" = none) (ha : SE B Y W C xq a wa) (st : notStar a = true) :
    SE B Y W C xq (.Call (.Name "abs" p) [a] [] pos) (fun ρ St q => wa ρ St fun x S1 => wBf .abs x S1 fun d => q d S1) := by
  refine SE.blt (z := wBf .abs) (fun δ _ => call_abs) hg hm boot_abs ha st (hr := fun F St H v x q Q r i w k => ?_)
  cases i with
  | int i => exact ⟨i, rfl, k _ F _ H Fr.refl r (.int _) w⟩
  | _ => exact False.elim w
theorem SE.intf {p : Pos} (hg : ∀ δ, Y δ → Gl (cx B δ) "int") (hm : B.mg "int" = none) (ha : SE B Y W C xq a wa) (st : notStar a = true) :
    SE B Y W C xq (.Call (.Name "int" p) [a] [] pos) (fun ρ St q => wa ρ St fun x S1 => wBf .int x S1 fun d => q d S1) := by
  refine SE.bty (z := wBf .int) (fun δ _ => call_int1) hg hm boot_int ha st (hr := fun F St H v x q Q r i w k => ?_)
  cases i with
  | int i => exact .inl ⟨i, rfl, k _ F _ H Fr.refl r (.int _) w⟩
  | bl b => exact .inr ⟨b, rfl, k _ F _ H Fr.refl r (.int _) w⟩
  | _ => exact False.elim w
theorem SE.listf {p : Pos} (hg : ∀ δ, Y δ → Gl (cx B δ) "list") (hm : B.mg "list" = none) (ha : SE B Y W C xq a wa) (st : notStar a = true) :
    SE B Y W C xq (.Call (.Name "list" p) [a] [] pos) (fun ρ St q => wa ρ St fun x S1 => wBf .list x S1 fun d => q d S1) := by
  refine SE.bty (z := wBf .list) (r := fun xs H Q => ∃ p ys, xs = [.ref p] ∧ (SqL B.K H p ys ∨ SqT B.K H p ys) ∧ ∀ l, H l = none → Q (.ref l) (upd H l (.lst ys))) (fun δ _ => call_list_of) hg hm boot_list ha st (hr := fun F St H v x q Q r i w k => ?_)
  obtain ⟨ds, hv, w⟩ := w
  obtain ⟨a, xs, ev, z, il, h⟩ := view_of r i hv
  refine ⟨a, xs, by rw [ev], h.elim (fun h => .inr h.1) (fun h => .inl (SqL.of h.1)), fun l hl => ?_⟩
  obtain ⟨r2, f2⟩ := r.lay (o := .lst xs) hl
  exact k _ _ _ _ f2 r2 (.lst upd_same z (il.mono f2.ext)) w
theorem SE.tuplef {p : Pos} (hg : ∀ δ, Y δ → Gl (cx B δ) "tuple") (hm : B.mg "tuple" = none) (ha : SE B Y W C xq a wa) (st : notStar a = true) :
    SE B Y W C xq (.Call (.Name "tuple" p) [a] [] pos) (fun ρ St q => wa ρ St fun x S1 => wBf .tuple x S1 fun d => q d S1) := by
  refine SE.bty (z := wBf .tuple) (r := fun xs H Q => ∃ p ys, xs = [.ref p] ∧ ((SqL B.K H p ys ∧ ∀ l, H l = none → Q (.ref l) (upd H l (.tup ys))) ∨ (SqT B.K H p ys ∧ Q (.ref p) H))) (fun δ _ => call_tuple_of) hg hm boot_tuple ha st (hr := fun F St H v x q Q r i w k => ?_)
  obtain ⟨ds, hv, w⟩ := w
  obtain ⟨a, xs, ev, z, il, h⟩ := view_of r i hv
  refine ⟨a, xs, by rw [ev], ?_⟩
  rcases h with ⟨hx, ed⟩ | ⟨hx, _⟩
  · subst ed
    exact .inr ⟨hx, k _ F _ H Fr.refl r (by rw [← ev]; exact i) w⟩
  · refine .inl ⟨SqL.of hx, fun l hl => ?_⟩
    obtain ⟨r2, f2⟩ := r.lay (o := .tup xs) hl
    exact k _ _ _ _ f2 r2 (.tup (.inl (.inl upd_same)) z (il.mono f2.ext)) w
theorem bools_of {K : PySem.W.Frag} {F : Hp} : ∀ {xs : List V} {ds : List D} {bs : List Bool}, IsL K F xs ds → boolsD ds = some bs → xs = bs.map V.bl
  | _, _, _, .nil, h => by cases h; rfl
  | _, d :: ds, bs, .cons h t, e => by
    cases h with
    | bl b =>
      simp only [boolsD, Option.map_eq_some_iff] at e
      obtain ⟨cs, e1, e2⟩ := e
      rw [← e2, List.map_cons, bools_of t e1]
    | _ => cases e
theorem ints_of {K : PySem.W.Frag} {F : Hp} : ∀ {xs : List V} {ds : List D} {bs : List Int}, IsL K F xs ds → intsD ds = some bs → xs = bs.map V.int
  | _, _, _, .nil, h => by cases h; rfl
  | _, d :: ds, bs, .cons h t, e => by
    cases h with
    | int b =>
      simp only [intsD, Option.map_eq_some_iff] at e
      obtain ⟨cs, e1, e2⟩ := e
      rw [← e2, List.map_cons, ints_of t e1]
    | _ => cases e
theorem strs_of {K : PySem.W.Frag} {F : Hp} : ∀ {xs : List V} {ds : List D} {bs : List Bs}, IsL K F xs ds → strsD ds = some bs → xs = (bs.map mkS).map V.str ∧ ∀ s ∈ bs, s.length ≤ sizeLine
  | _, _, _, .nil, h => by cases h; exact ⟨rfl, fun _ z => by cases z⟩
  | _, d :: ds, bs, .cons h t, e => by
    cases h with
    | str b z =>
      simp only [strsD, Option.map_eq_some_iff] at e
      obtain ⟨cs, e1, e2⟩ := e
      obtain ⟨g1, g2⟩ := strs_of t e1
      refine ⟨by rw [← e2, List.map_cons, List.map_cons, g1], fun s hs => ?_⟩
      rw [← e2] at hs
      rcases List.mem_cons.mp hs with e | hs
      · rw [e]; exact z
      · exact g2 s hs
    | _ => cases e
theorem SE.anyf {p : Pos} (cl : ∀ δ, Y δ → δ.calm = true) (hg : ∀ δ, Y δ → Gl (cx B δ) "any") (hm : B.mg "any" = none) (ha : SE B Y W C xq a wa) (st : notStar a = true) :
    SE B Y W C xq (.Call (.Name "any" p) [a] [] pos) (fun ρ St q => wa ρ St fun x S1 => wBf .any x S1 fun d => q d S1) := by
  refine SE.blt (z := wBf .any) (r := rAny B.K) (fun δ hδ => cr_any (cl δ hδ)) hg hm (by decide +kernel) ha st (hr := fun F St H v x q Q r i w k => ?_)
  obtain ⟨ds, bs, hv, nt, hb, w⟩ := w
  obtain ⟨a, xs, ev, z, il, h⟩ := view_of r i hv
  rcases h with ⟨_, e⟩ | ⟨hx, _⟩
  · exact absurd e (nt _)
  · have e := bools_of il hb
    subst e
    exact ⟨a, bs, by rw [ev], SqL.of hx, k _ F _ H Fr.refl r (.bl _) w⟩
theorem SE.allf {p : Pos} (cl : ∀ δ, Y δ → δ.calm = true) (hg : ∀ δ, Y δ → Gl (cx B δ) "all") (hm : B.mg "all" = none) (ha : SE B Y W C xq a wa) (st : notStar a = true) :
    SE B Y W C xq (.Call (.Name "all" p) [a] [] pos) (fun ρ St q => wa ρ St fun x S1 => wBf .all x S1 fun d => q d S1) := by
  refine SE.blt (z := wBf .all) (r := rAll B.K) (fun δ hδ => cr_all (cl δ hδ)) hg hm (by decide +kernel) ha st (hr := fun F St H v x q Q r i w k => ?_)
  obtain ⟨ds, bs, hv, nt, hb, w⟩ := w
  obtain ⟨a, xs, ev, z, il, h⟩ := view_of r i hv
  rcases h with ⟨_, e⟩ | ⟨hx, _⟩
  · exact absurd e (nt _)
  · have e := bools_of il hb
    subst e
    exact ⟨a, bs, by rw [ev], SqL.of hx, k _ F _ H Fr.refl r (.bl _) w⟩
theorem SE.sumf {p : Pos} (cl : ∀ δ, Y δ → δ.calm = true) (hg : ∀ δ, Y δ → Gl (cx B δ) "sum") (hm : B.mg "sum" = none) (ha : SE B Y W C xq a wa) (st : notStar a = true) :
    SE B Y W C xq (.Call (.Name "sum" p) [a] [] pos) (fun ρ St q => wa ρ St fun x S1 => wBf .sum x S1 fun d => q d S1) := by
  refine SE.blt (z := wBf .sum) (r := rSum B.K) (fun δ hδ => cr_sum (cl δ hδ)) hg hm (by decide +kernel) ha st (hr := fun F St H v x q Q r i w k => ?_)
  obtain ⟨ds, bs, hv, nt, hb, w⟩ := w
  obtain ⟨a, xs, ev, z, il, h⟩ := view_of r i hv
  rcases h with ⟨_, e⟩ | ⟨hx, _⟩
  · exact absurd e (nt _)
  · have e := ints_of il hb
    subst e
    exact ⟨a, bs, by rw [ev], SqL.of hx, k _ F _ H Fr.refl r (.int _) w⟩
theorem its_of {K : PySem.W.Frag} {F : Hp} : ∀ {xs : List V} {ds : List D} {nss : List (List Int)}, IsL K F xs ds → itsD ds = some nss →
    ds = nss.map itD ∧ xs.length = nss.length ∧ ∀ (i : Nat) (x : V) (ns : List Int), xs[i]? = some x → nss[i]? = some ns → ∃ t, x = .ref t ∧ SqT K F t (ns.map V.int) ∧ ns.length ≤ sizeLine
  | _, [], nss, .nil, h => by
    cases h
    exact ⟨rfl, rfl, fun i x ns e => by simp at e⟩
  | _, d :: ds, nss, .cons hx t, h => by
    simp only [itsD] at h
    cases e1 : tupInts d with
    | none => rw [e1] at h; cases h
    | some a =>
      cases e2 : itsD ds with
      | none => rw [e1, e2] at h; cases h
      | some b =>
        rw [e1, e2] at h
        cases h
        obtain ⟨q1, q2, q3⟩ := its_of t e2
        cases hx with
        | @tup p xs es hp z il =>
          have e1 : intsD es = some a := e1
          have ex := ints_of il e1
          have ee : es = a.map .int := by
            clear q1 q2 q3 z hp t il ex
            induction es generalizing a with
            | nil => cases e1; rfl
            | cons y es ih =>
              cases y with
              | int i =>
                simp only [intsD, Option.map_eq_some_iff] at e1
                obtain ⟨b', e3, rfl⟩ := e1
                rw [ih _ e3 e3]; rfl
              | _ => cases e1
          subst ex
          refine ⟨by rw [q1, ee]; rfl, by rw [List.length_cons, List.length_cons, q2], fun i x ns h1 h2 => ?_⟩
          cases i with
          | zero =>
            cases h1; cases h2
            exact ⟨p, rfl, hp, by simpa using z⟩
          | succ i => exact q3 i x ns (by simpa using h1) (by simpa using h2)
        | _ => cases e1
theorem isl_zip {K : PySem.W.Frag} {F : Hp} : ∀ {ps : List (V × List Int)}, (∀ p ∈ ps, ∃ t, p.1 = .ref t ∧ SqT K F t (p.2.map V.int) ∧ p.2.length ≤ sizeLine) → IsL K F (ps.map (·.1)) ((ps.map (·.2)).map itD)
  | [], _ => .nil
  | (x, ns) :: ps, h => by
    obtain ⟨t, e, ht, z⟩ := h _ List.mem_cons_self
    have e : x = .ref t := e
    subst e
    have g : ∀ {ns : List Int}, IsL K F (ns.map V.int) (ns.map D.int) := by
      intro ns
      induction ns with
      | nil => exact .nil
      | cons n ns ih => exact .cons (.int n) ih
    exact .cons (.tup ht (by rw [List.length_map]; exact z) g) (isl_zip fun p hp => h p (List.mem_cons_of_mem _ hp))
theorem SE.sortedf {p : Pos} {j : Nat} (hr : ∀ δ, Y δ → Room j δ.A) (hg : ∀ δ, Y δ → Gl (cx B δ) "sorted") (hm : B.mg "sorted" = none) (ha : SE B Y W C xq a wa) (st : notStar a = true) :
    SE B Y W C xq (.Call (.Name "sorted" p) [a] [] pos) (fun ρ St q => wa ρ St fun x S1 => wBf .sorted x S1 fun d => q d S1) := by
  refine SE.blt (z := wBf .sorted) (r := rSortedZ B.K) (fun δ hδ => cr_sortedZ (X := cx B δ) (by have := (hr δ hδ).un; show δ.A.units + 10 < cLine; omega)) hg hm (by decide +kernel) ha st (hr := fun F St H v x q Q r i w k => ?_)
  obtain ⟨ds, nss, hv, nt, hb, h0, w⟩ := w
  obtain ⟨a, xs, ev, z, il, h⟩ := view_of r i hv
  rcases h with ⟨_, e⟩ | ⟨hx, _⟩
  · exact absurd e (nt _)
  · obtain ⟨e1, e2, e3⟩ := its_of il hb
    refine ⟨a, xs, nss, by rw [ev], SqL.of hx, e2, fun i x ns h1 h2 => ?_, h0, fun ps p h1 h2 hp => ?_⟩
    · obtain ⟨t, e4, ht, _⟩ := e3 i x ns h1 h2
      exact ⟨t, e4, sqT_same r.sub ht⟩
    · have hz : (xs.zip nss).map (·.2) = nss := List.map_snd_zip (by omega)
      have hp2 : (ps.map (·.2)).Perm nss := by
        have := h1.map (·.2)
        rw [hz] at this
        exact this
      have hl : (ps.map (·.1)).length ≤ sizeLine := by
        rw [List.length_map, h1.length_eq, List.length_zip]
        omega
      have isl : IsL B.K F (ps.map (·.1)) ((ps.map (·.2)).map itD) := isl_zip fun q hq => by
        have hm := h1.mem_iff.mp hq
        obtain ⟨i, hi, e⟩ := List.mem_iff_getElem.mp hm
        rw [List.length_zip] at hi
        rw [List.getElem_zip] at e
        rw [← e]
        exact e3 i _ _ (List.getElem?_eq_getElem (by omega)) (List.getElem?_eq_getElem (by omega))
      obtain ⟨r2, f2⟩ := r.lay (o := .lst (ps.map (·.1))) hp
      exact k _ _ _ _ f2 r2 (.lst upd_same hl (isl.mono f2.ext)) (w _ hp2 (List.pairwise_map.mpr h2))
theorem dview_of {K : PySem.W.Frag} {ω : World} {F : Hp} {St : Sto} {H : Hp} {v : V} {d : D} {ds : List (D × D)} (r : SR K ω F St H) (i : Is K F v d) (h : dvw St d = some ds) :
    ∃ a kvs, v = .ref a ∧ H a = some (.dK kvs) ∧ kvs.length ≤ sizeLine ∧ IsM K F kvs ds := by
  cases i with
  | @dct a xs es hx z il => cases h; exact ⟨a, xs, rfl, r.sub _ _ hx, z, il⟩
  | ref a =>
    cases e : St a with
    | none => simp only [dvw, e] at h; cases h
    | some o =>
      have ho := (r.own a o e).2
      simp only [dvw, e] at h
      cases o with
      | dct es =>
        cases h
        obtain ⟨xs, hx, z, nd, il⟩ := ho
        exact ⟨a, xs, rfl, hx, z, il⟩
      | _ => cases h
  | _ => cases h

/-! ### isinstance -/
def Tk.nm : Tk → String
  | .non => "NoneType"
  | .bool => "bool"
  | .int => "int"
  | .str => "str"
  | .tuple => "tuple"
  | .list => "list"
  | .dict => "dict"
def tyNm : Ty → String
  | .bool => "bool"
  | .int => "int"
  | .str => "str"
  | .tuple => "tuple"
  | .list => "list"
  | .dict => "dict"
theorem kit_tk (t : Ty) (k : Tk) : kitB k.nm (tyNm t) = some (isK t k) := by cases t <;> cases k <;> decide +kernel
theorem ty_of {K : PySem.W.Frag} {ω : World} {F : Hp} {St : Sto} {H : Hp} {v : V} {d : D} {k : Tk} (r : SR K ω F St H) (i : Is K F v d) (h : tkD St d = some k) : TyX K H v (.type k.nm) := by
  cases i with
  | non => cases h; exact .base .non
  | bl b => cases h; exact .base (.bl b)
  | int b => cases h; exact .base (.int b)
  | str b _ => cases h; exact .base (.str _)
  | @tup a xs ds hx z il =>
    cases h
    rcases hx with (hx | ⟨o, hx⟩) | ⟨o, its, n, h1, h2, _⟩
    · exact .base (.tup (r.sub _ _ hx))
    · exact .fTuple (r.sub _ _ hx)
    · exact .kTuple h1 h2
  | @lst a xs ds hx z il => cases h; exact .base (.lst (r.sub _ _ hx))
  | @dct a xs ds hx z il => cases h; exact .base (.dK (r.sub _ _ hx))
  | scr => cases h
  | ref a =>
    cases e : St a with
    | none => simp only [tkD, e] at h; cases h
    | some o =>
      have ho := (r.own a o e).2
      simp only [tkD, e] at h
      cases o with
      | lst ds => cases h; obtain ⟨xs, hx, _⟩ := ho; exact .base (.lst hx)
      | dct ds => cases h; obtain ⟨xs, hx, _⟩ := ho; exact .base (.dK hx)
      | ins => cases h
      | tdc => cases h
theorem boot_ty (t : Ty) : bootBuiltins (Str.ofString (tyNm t)) = some (.type (tyNm t)) := by cases t <;> decide +kernel
theorem ty_plain (t : Ty) : (Str.ofString (tyNm t)) ≠ "__name__" ∧ ((Str.ofString (tyNm t)) == ("__debug__" : Str)) = false := by cases t <;> decide +kernel
theorem SE.isi {p p2 : Pos} {t : Ty} (hg : ∀ δ, Y δ → Gl (cx B δ) "isinstance") (hm : B.mg "isinstance" = none) (hg2 : ∀ δ, Y δ → Gl (cx B δ) (Str.ofString (tyNm t))) (hm2 : B.mg (Str.ofString (tyNm t)) = none) (ha : SE B Y W C xq a wa) (st : notStar a = true) :
    SE B Y W C xq (.Call (.Name "isinstance" p) [a, .Name (Str.ofString (tyNm t)) p2] [] pos) (fun ρ St q => wa ρ St fun x S1 => ∃ k, tkD S1 x = some k ∧ q (.bl (isK t k)) S1) := by
  obtain ⟨ta, pa, ka⟩ := ha.ex
  refine ⟨⟨tCB (rIsi B.K) (tCons ta (tCons (tC (.ty (tyNm t))) tNil)), fun δ hδ => pe_callB call_isi (hg δ hδ) hm boot_isinstance
    (pa_cons (pa δ hδ) (pa_cons (pe_bltn (hg2 δ hδ) hm2 (boot_ty t) rfl (ty_plain t).1 (ty_plain t).2) pa_nil) (star_cons st _)) (by decide) (by decide) (star_cons st _) rfl, fun ρ St F σ H q Q r e x w k => ?_⟩⟩
  refine ka ρ St F σ H _ _ r e x w fun d S1 F1 v H1 f1 r1 i1 w1 => ?_
  obtain ⟨kk, hk, w1⟩ := w1
  exact ⟨v, .ty (tyNm t), _, _, _, rfl, .ty _, ty_of r1 i1 hk, kit_ty (kit_tk t kk), k _ S1 F1 _ H1 f1 r1 (.bl _) w1⟩

/-! ### dict(d) -/
theorem SE.copyd {p : Pos} (hg : ∀ δ, Y δ → Gl (cx B δ) "dict") (hm : B.mg "dict" = none) (ha : SE B Y W C xq a wa) (st : notStar a = true) :
    SE B Y W C xq (.Call (.Name "dict" p) [a] [] pos) (fun ρ St q => wa ρ St fun x S1 => ∃ kvs, dvw S1 x = some kvs ∧ (kvs.map (·.1)).Nodup ∧ ∀ p, S1 p = none → q (.ref p) (ups S1 p (.dct kvs))) := by
  obtain ⟨ta, pa, ka⟩ := ha.ex
  refine ⟨⟨tCB (fun xs H Q => ∃ (a : Addr) (kvs : List (Key × V)), xs = [.ref a] ∧ Rd H a (.dK kvs) ∧ ∀ p, H p = none → Q (.ref p) (upd H p (.dK kvs))) (tCons ta tNil), fun δ hδ => pe_callTy call_dictD (hg δ hδ) hm boot_dict (pa_cons (pa δ hδ) pa_nil (star_cons st _)) (by decide) (by decide) (star_cons st _) rfl, fun ρ St F σ H q Q r e x w k => ?_⟩⟩
  refine ka ρ St F σ H _ _ r e x w fun d S1 F1 v H1 f1 r1 i1 w1 => ?_
  obtain ⟨kds, hv, nd, w1⟩ := w1
  obtain ⟨a, kvs, ev, hd, z, m⟩ := dview_of r1 i1 hv
  refine ⟨a, kvs, by rw [ev], .inl hd, fun p hp => ?_⟩
  have nd2 : (kvs.map (·.1)).Nodup := by
    have : ∀ {kvs : List (Key × V)} {ds : List (D × D)}, IsM B.K F1 kvs ds → ds.map (·.1) = (kvs.map (·.1)).map kD := by
      intro kvs ds h
      induction kvs generalizing ds with
      | nil => cases h; rfl
      | cons p r ih => cases h with
        | cons h t => rw [List.map_cons, List.map_cons, List.map_cons, ih t]
    rw [this m] at nd
    exact (List.pairwise_map.mp nd).imp fun h e => h (congrArg _ e)
  obtain ⟨r2, f2⟩ := r1.make (o := .dK kvs) (q := .dct kds) hp ⟨kvs, upd_same, z, nd2, m⟩
  exact k _ _ _ _ _ (f1.trans f2) r2 (.ref p) (w1 p (r1.fresh hp).2)

/-! ### join -/
theorem join_le (s : Bs) : ∀ ts : List Bs, (TL.joinL s ts).length ≤ (ts.map (·.length)).sum + ts.length * s.length
  | [] => Nat.zero_le _
  | [x] => by simp [TL.joinL]
  | x :: y :: r => by
    have ih := join_le s (y :: r)
    simp only [TL.joinL, List.length_append, List.map_cons, List.sum_cons, List.length_cons] at ih ⊢
    have : (r.length + 1 + 1) * s.length = (r.length + 1) * s.length + s.length := by rw [Nat.succ_mul]
    omega
theorem join_len (s : Bs) (ts : List Bs) (h : (ts.map (·.length)).sum + ts.length * s.length ≤ 16777216) : (TL.joinL s ts).length ≤ sizeLine := by
  rw [sizeLine_eq]
  exact Nat.le_trans (join_le s ts) h
theorem SE.join {p : Pos} (ho : SE B Y W C xq a wa) (hb : SE B Y W C xq b wb) (hc : notCall a = true) (st : notStar b = true) (hl : (p.endLine == pos.line) = true) :
    SE B Y W C xq (.Call (.Attribute a "join" p) [b] [] pos) (fun ρ St q => wa ρ St fun x S1 => match x with
    | .str s => wb ρ S1 fun y S2 => ∃ ds ts, vw S2 y = some ds ∧ strsD ds = some ts ∧ (ts.map (·.length)).sum + ts.length * s.length ≤ 16777216 ∧ q (.str (TL.joinL s ts)) S2
    | _ => False) := by
  obtain ⟨ta, pa, ka⟩ := ho.ex
  obtain ⟨tb, pb, kb⟩ := hb.ex
  refine ⟨⟨tM1 (fun x xs H Q => ∃ a p, ∃ ys : List Str, x = .str a ∧ xs = [.ref p] ∧ (SqL B.K H p (ys.map V.str) ∨ SqT B.K H p (ys.map V.str)) ∧
      (ys.map (·.length)).sum + ys.length * a.length ≤ 16777216 ∧ Q (.str (Txt.join a ys)) H) ta tb, fun δ hδ => pe_join (pa δ hδ) (pb δ hδ) (by rw [star_cons st]; rfl) (attr_base hc _ _ _) hl, fun ρ St F σ H q Q r e x w k => ?_⟩⟩
  refine ka ρ St F σ H _ _ r e x w fun d S1 F1 v H1 f1 r1 i1 w1 => ?_
  cases i1 with
  | str s z =>
    refine ⟨⟨_, rfl⟩, ?_⟩
    refine kb ρ S1 F1 σ H1 _ _ r1 (e.mono f1.ext) (x.step f1) w1 fun d2 S2 F2 v2 H2 f2 r2 i2 w2 => ?_
    obtain ⟨ds, ts, hv, ht, hz, w2⟩ := w2
    obtain ⟨a, xs, ev, z2, il, h⟩ := view_of r2 i2 hv
    obtain ⟨e1, e2⟩ := strs_of il ht
    subst e1
    refine ⟨mkS s, a, ts.map mkS, rfl, by rw [ev], h.elim (fun h => .inr h.1) (fun h => .inl (SqL.of h.1)), ?_, ?_⟩
    · rw [List.map_map, List.length_map, mkS_len]
      have : ((·.length) ∘ mkS : Bs → Nat) = (·.length) := by funext t; exact mkS_len t
      rw [this]
      exact hz
    · have hj : Txt.join (mkS s) (ts.map mkS) = mkS (TL.joinL s ts) := by
        have h1 := TL.tl_join (mkS s) (ts.map mkS)
        have h2 : (ts.map mkS).map TL.tl = ts := by
          rw [List.map_map]
          conv => rhs; rw [← List.map_id ts]
          exact List.map_congr_left fun t _ => tl_mkS t
        rw [h2, show TL.tl (mkS s) = s from tl_mkS s] at h1
        rw [TL.join_eq, ← h1]
        exact (mkS_tl _).symm
      rw [hj]
      exact k _ S2 F2 _ H2 (f1.trans f2) r2 (.str _ (join_len s ts hz)) w2
  | _ => exact False.elim w1
end
end DL
/-! DLT: sets of keys of any kind as set(x) makes them; sorted(set(x)) of texts. -/
namespace DL
open PySem PySem.Spec PyProof.Rows L2

/-- what a walk over the set wants of its table -/
def ExtT (w : World) (t : SetTable) : Prop := Ris t.place.toList ∧ (w.params.followText "set-order" = true ∨ t.led = true)
section
variable {P : Program} {w : World} {κ : Type} [DecidableEq κ] (knd : KeyKind P w κ)
def SetG (h : Heap) (a : Addr) (S : κ → Bool) (n : Nat) : Prop :=
  ∃ o es ep t, h.get? a = some o ∧ o.ExactSet ∧ o.data = .set es ep t ∧ ElemsOf knd es.toList ∧ (∀ k, S k = true ↔ ∃ e ∈ es.toList, knd.is k e.2 = true) ∧ es.size < scanBound ∧ t.fits es.size = true ∧ es.size = n ∧ ExtT w t
end
section
variable {P : Program} {w : World} {κ : Type} [DecidableEq κ] {knd : KeyKind P w κ} {A : Around} {E : Value → Shared → Prop} {s : Shared} {a : Addr} {S : κ → Bool} {n : Nat}
theorem SetG.ty (h : SetG knd s.heap a S n) : s.TypeIs (.ref a) "set" := by
  obtain ⟨o, _, _, _, ho, hx, _⟩ := h
  exact ⟨o, ho, hx.1⟩
theorem stored {h : Heap} {o : Obj} {es es' : Array (Int × Value)} {ep : Nat} {t t' : SetTable} (ho : h.get? a = some o) (hd : o.data = .set es ep t) : (h.update a (Obj.putSet es' t')).get? a = some { o with data := .set es' (ep + 1) t' } := by
  have := Heap.get?_update_self (Obj.putSet es' t') ho (by rw [putSet_of es' t' hd]; rfl)
  rwa [putSet_of es' t' hd] at this
/-- behind a new member the table may be laid anew -/
theorem tail_ok {g : Bool → Sem Unit} (hg : ∀ (b : Bool) (s₁ : Shared) (Q' : Unit → Shared → Prop), Q' () s₁ → wpAny (model P w) A (g b) Q' E s₁)
    {o : Obj} {es e1 : Array (Int × Value)} {ep : Nat} {t t1 : SetTable} {S' : κ → Bool} {wd : Bool} {R : Option Bool → Shared → Prop} (ho : s.heap.get? a = some o) (hx : o.ExactSet) (hd : o.data = .set es ep t)
    (g1 : ElemsOf knd e1.toList) (m1 : ∀ k, S' k = true ↔ ∃ e ∈ e1.toList, knd.is k e.2 = true) (b1 : e1.size < scanBound) (f1 : t1.fits e1.size = true) (x1 : ExtT w t1)
    (hR : ∀ h', Heap.SameBut a s.heap h' → SetG knd h' a S' e1.size → R (some true) { s with heap := h' }) :
    wpAny (model P w) A (do
      storeSet a e1 t1
      if (!wd && t1.tooFull) = true then do
          g (relayAll t1 e1 (SetTable.grown e1.size)).2.2
          storeSet a (relayAll t1 e1 (SetTable.grown e1.size)).1 (relayAll t1 e1 (SetTable.grown e1.size)).2.1
          pure (some true)
        else pure (some true)) R E s := by
  have sb1 := Heap.SameBut.update s.heap a (Obj.putSet e1 t1)
  have o1 := stored (es' := e1) (t' := t1) ho hd
  refine wpAny_bind (wpAny_storeSet_of ho hd ?_ (fits_of_scanBound b1))
  by_cases c : (!wd && t1.tooFull) = true
  · rw [if_pos c]
    have q1 := relayAll_perm t1 e1 (SetTable.grown e1.size)
    have q2 := relayAll_fits t1 e1 (SetTable.grown e1.size)
    have q3 := relayAll_ris t1 e1 (SetTable.grown e1.size)
    have q4 := relayAll_led t1 e1 (SetTable.grown e1.size)
    revert q1 q2 q3 q4
    generalize relayAll t1 e1 (SetTable.grown e1.size) = Z
    obtain ⟨e2, t2, gv⟩ := Z
    intro q1 q2 q3 q4
    have z2 : e2.size = e1.size := by rw [← Array.length_toList, ← Array.length_toList]; exact q1.length_eq
    refine wpAny_bind (hg _ _ _ (wpAny_bind (wpAny_storeSet_of o1 rfl ?_ (fits_of_scanBound (by show e2.size < _; rw [z2]; exact b1)))))
    refine wpAny_pure (hR _ (sb1.trans (Heap.SameBut.update _ a _)) ⟨_, e2, _, t2, stored o1 rfl, hx, rfl, g1.perm q1, fun k => (m1 k).trans ⟨fun ⟨e, h, i⟩ => ⟨e, q1.mem_iff.mpr h, i⟩, fun ⟨e, h, i⟩ => ⟨e, q1.mem_iff.mp h, i⟩⟩, by rw [z2]; exact b1, q2, z2, q3, x1.2.imp id fun z => (show t2.led = true by rw [q4]; exact z)⟩)
  · rw [if_neg c]
    exact wpAny_pure (hR _ sb1 ⟨_, e1, _, t1, o1, hx, rfl, g1, m1, b1, f1, rfl, x1⟩)
/-- one more member -/
theorem addG {k : κ} {v : Value} {Q : Bool → Shared → Prop} (hk : knd.is k v = true) (hv : v.scannable = true) (G : SetG knd s.heap a S n) (room : n + 1 < scanBound)
    (hQ : ∀ h', Heap.SameBut a s.heap h' → SetG knd h' a (fun j => S j || decide (j = k)) (if S k = true then n else n + 1) → Q (!S k) { s with heap := h' }) : wpAny (model P w) A (setAddHashed a v (knd.hash k)) Q E s := by
  obtain ⟨o, es, ep, t, ho, hx, hd, el, hm, hb, hf, hn, ht⟩ := G
  unfold setAddHashed setAddHashedIn
  refine wpAny_holding (wpAny_bind (wpAny_setState_of ho hd hf ?_))
  dsimp only
  rw [byScan_of hv hb el]
  simp only [↓reduceIte]
  unfold setAddByScan
  refine wpAny_bind (wpAny_bind (wpAny_rule (wpAny_bind (wpAny_setScan_of hk ho hd hf el ?_))))
  cases c : List.findIdx? (fun e => knd.is k e.2) es.toList with
  | some j =>
    obtain ⟨hj, pj, _⟩ := List.findIdx?_eq_some_iff_getElem.mp c
    have there : S k = true := (hm k).mpr ⟨_, List.getElem_mem hj, pj⟩
    have r := hQ s.heap (Heap.SameBut.refl a s.heap) ⟨o, es, ep, t, ho, hx, hd, el, fun i => ?_, hb, hf, by rw [if_pos there]; exact hn, ht⟩
    · rw [there] at r
      exact wpAny_pure (wpAny_pure r)
    · show (S i || decide (i = k)) = true ↔ _
      rw [Bool.or_eq_true, decide_eq_true_eq, ← hm i]
      exact ⟨fun z => z.elim id fun e => by rw [e]; exact there, .inl⟩
  | none =>
    have no : ∀ e ∈ es.toList, knd.is k e.2 = false := fun e he => by
      have := List.findIdx?_eq_none_iff.mp c e he
      simpa using this
    have out : S k = false := by
      cases q : S k with
      | false => rfl
      | true =>
        obtain ⟨e, he, i⟩ := (hm k).mp q
        rw [no e he] at i
        cases i
    have q1 := layNew_perm t es (knd.hash k) v
    have q2 := layNew_fits t es (knd.hash k) v
    have q3 := layNew_ris t es (knd.hash k) v ht.1
    have q4 := layNew_led t es (knd.hash k) v
    dsimp only
    revert q1 q2 q3 q4
    generalize layNew t es (knd.hash k) v = Z
    obtain ⟨e1, t1, wd, gv⟩ := Z
    dsimp only
    intro q1 q2 q3 q4
    rw [Array.toList_push] at q1
    have z1 : e1.size = n + 1 := by
      have := q1.length_eq
      rw [List.length_append, Array.length_toList, Array.length_toList, hn] at this
      exact this
    have g1 : ElemsOf knd e1.toList := (el.push hk hv).perm q1
    have m1 : ∀ i, (S i || decide (i = k)) = true ↔ ∃ e ∈ e1.toList, knd.is i e.2 = true := fun i => by
      rw [Bool.or_eq_true, decide_eq_true_eq, hm i]
      constructor
      · rintro (⟨e, he, z⟩ | rfl)
        · exact ⟨e, q1.mem_iff.mpr (List.mem_append_left _ he), z⟩
        · exact ⟨_, q1.mem_iff.mpr (List.mem_append_right _ List.mem_cons_self), hk⟩
      · rintro ⟨e, he, z⟩
        rcases List.mem_append.mp (q1.mem_iff.mp he) with h | h
        · exact .inl ⟨e, h, z⟩
        · obtain rfl := List.mem_singleton.mp h
          exact .inr (knd.inj _ _ _ z hk)
    have x1 : ExtT w t1 := ⟨q3, ht.2.imp id fun z => (show t1.led = true by rw [q4]; exact z)⟩
    have fin : ∀ h', Heap.SameBut a s.heap h' → SetG knd h' a (fun j => S j || decide (j = k)) e1.size → Q true { s with heap := h' } := fun h' sb g => by
      have r := hQ h' sb (by rw [out, if_neg Bool.false_ne_true, ← z1]; exact g)
      rwa [out] at r
    have b1 : e1.size < scanBound := by rw [z1]; exact room
    refine wpAny_bind ?_
    have gw : ∀ (b : Bool) {s₁ : Shared} {Q' : Unit → Shared → Prop}, Q' () s₁ → wpAny (model P w) A (match b with | true => rule "set.scan.the-table-gave-way" | false => pure ()) Q' E s₁ := fun b s₁ Q' q => by
      cases b
      · exact wpAny_pure q
      · exact wpAny_rule q
    refine gw _ ?_
    split
    · refine wpAny_bind ?_
      rw [hashByValue_scannable 8 hv]
      refine wpAny_pure (tail_ok (fun b s₁ Q' q => ?_) ho hx hd g1 m1 b1 ?_ ?_ fun h' sb g => wpAny_pure (fin h' sb g))
      · cases b <;> first | exact wpAny_pure q | exact wpAny_rule q
      · first | exact q2 | (split <;> first | exact q2 | exact SetTable.fits_plain_off q2)
      · first | exact x1 | (split <;> exact x1)
    · refine wpAny_bind (wpAny_pure ?_)
      simp only [↓reduceIte]
      refine tail_ok (fun b s₁ Q' q => ?_) ho hx hd g1 m1 b1 q2 x1 fun h' sb g => wpAny_pure (fin h' sb g)
      cases b <;> first | exact wpAny_pure q | exact wpAny_rule q
/-- the members that are met first -/
def uniq (xs : List κ) : List κ := xs.foldl (fun acc x => if x ∈ acc then acc else acc ++ [x]) []
theorem uniq_snoc (xs : List κ) (x : κ) : uniq (xs ++ [x]) = if x ∈ uniq xs then uniq xs else uniq xs ++ [x] := by
  unfold uniq
  rw [List.foldl_append]
  rfl
theorem uniq_ok : ∀ (l : List κ), ∃ r : List κ, uniq l = r ∧ r.Nodup ∧ (∀ k, k ∈ r ↔ k ∈ l) ∧ r.length ≤ l.length := by
  intro l
  refine ⟨_, rfl, ?_⟩
  have gen : ∀ (xs acc : List κ), acc.Nodup → (xs.foldl (fun acc x => if x ∈ acc then acc else acc ++ [x]) acc).Nodup ∧ (∀ k, k ∈ xs.foldl (fun acc x => if x ∈ acc then acc else acc ++ [x]) acc ↔ k ∈ acc ∨ k ∈ xs) ∧ (xs.foldl (fun acc x => if x ∈ acc then acc else acc ++ [x]) acc).length ≤ acc.length + xs.length := by
    intro xs
    induction xs with
    | nil => intro acc h; exact ⟨h, by simp, by simp⟩
    | cons x xs ih =>
      intro acc h
      rw [List.foldl_cons]
      by_cases c : x ∈ acc
      · rw [if_pos c]
        obtain ⟨a, b, d⟩ := ih acc h
        refine ⟨a, fun k => ?_, by rw [List.length_cons]; omega⟩
        rw [b k, List.mem_cons]
        constructor
        · rintro (h | h)
          · exact .inl h
          · exact .inr (.inr h)
        · rintro (h | h | h)
          · exact .inl h
          · rw [h]; exact .inl c
          · exact .inr h
      · rw [if_neg c]
        obtain ⟨a, b, d⟩ := ih (acc ++ [x]) (List.nodup_append.mpr ⟨h, by simp, fun y hy z hz e => c (by rw [← show z = x by simpa using hz, ← e]; exact hy)⟩)
        refine ⟨a, fun k => ?_, by rw [List.length_append] at d; rw [List.length_cons]; simp at d; omega⟩
        rw [b k]
        simp [or_assoc]
  obtain ⟨a, b, d⟩ := gen l [] List.nodup_nil
  exact ⟨a, fun k => by rw [show uniq l = l.foldl _ [] from rfl, b k]; simp, by simpa [uniq] using d⟩
theorem take_snoc {xs : List κ} {i : Nat} {x : κ} (h : xs[i]? = some x) : xs.take (i + 1) = xs.take i ++ [x] := by
  obtain ⟨hi, rfl⟩ := List.getElem?_eq_some_iff.mp h
  rw [List.take_append_getElem hi]
end
section
variable {prog : Program} {w : World} {κ : Type} [DecidableEq κ] {knd : KeyKind prog w κ} {A : Around} {R : Result → Shared → Prop} {I : Addr} {fp wr : List Addr} {G : Array GenState → Array GenState → Prop} {n : Nat} {PP : Nat → Value → Prop} {St : Nat → Shared → Prop}
theorem SetG.move {s s' : Shared} {S : Addr} {f : κ → Bool} {m : Nat} (h : SetG knd s.heap S f m) (k : ∀ o, s.heap.get? S = some o → s'.heap.get? S = some o) : SetG knd s'.heap S f m := by
  obtain ⟨o, es, ep, t, ho, r⟩ := h
  exact ⟨o, es, ep, t, k o ho, r⟩
/-- the loop of set(x) -/
theorem loopG (W : WalksS prog w A.in1 I fp wr G n PP St) (S : Addr) (hSf : S ∉ fp) (xs : List κ) (hsz : xs.length = n) (hb : n + 1 < scanBound) (hval : ∀ i v, PP i v → ∃ k, xs[i]? = some k ∧ knd.is k v = true ∧ v.scannable = true) :
    ∀ (j i : Nat) (s : Shared), n - i = j → i ≤ n → St i s → SetG knd s.heap S (fun k => decide (k ∈ uniq (xs.take i))) (uniq (xs.take i)).length →
      (∀ s', Moved (S :: wr) G s s' → SetG knd s'.heap S (fun k => decide (k ∈ uniq xs)) (uniq xs).length → R (.ok (.ret .none)) s') →
      codeAny (model prog w) A (.builtin "set.update.loop" ⟨[.ref S, .ref I], []⟩) R s := by
  have hSw : S ∉ wr := fun h => hSf (W.sub _ h)
  have wider : ∀ b ∈ wr, b ∈ S :: wr := fun b z => List.mem_cons_of_mem _ z
  intro j
  induction j with
  | zero =>
    intro i s hj hi hst g hR
    obtain rfl : i = n := by omega
    refine codeAny_builtin PyProof.Rows.F.entry_set_update_loop ?_
    rw [Around.under_plainId PyProof.Rows.F.plain_set_update_loop _]
    refine wpAny_bind (m := pyNext (.ref I)) (W.done s _ _ hst fun s' hm => ?_)
    rw [← hsz, List.take_length] at g
    exact wpAny_pure (hR s' (hm.mono wider) (g.move fun o e => hm.heap S o hSw e))
  | succ j ih =>
    intro i s hj hi hst g hR
    have lt : i < n := by omega
    refine codeAny_builtin PyProof.Rows.F.entry_set_update_loop ?_
    rw [Around.under_plainId PyProof.Rows.F.plain_set_update_loop _]
    refine wpAny_bind (m := pyNext (.ref I)) (W.item i s _ _ lt hst fun v s' hP hst' hm => ?_)
    obtain ⟨k, hx, hk, hv⟩ := hval i v hP
    have g' := g.move (s' := s') fun o e => hm.heap S o hSw e
    have room : (uniq (xs.take i)).length + 1 < scanBound := by
      obtain ⟨_, rfl, _, _, l⟩ := uniq_ok (xs.take i)
      rw [List.length_take] at l
      omega
    show wpAny _ A.in1 (holding [v] (setAdd S v) >>= _) _ _ s'
    refine wpAny_bind (wpAny_holding ?_)
    unfold setAdd
    refine wpAny_holding (wpAny_bind (knd.pyHash hk ?_))
    refine addG (s := { s' with toks := s'.toks + 1 }) hk hv g' room fun h' sb g2 => ?_
    have g3 : SetG knd h' S (fun k => decide (k ∈ uniq (xs.take (i + 1)))) (uniq (xs.take (i + 1))).length := by
      rw [take_snoc hx, uniq_snoc]
      by_cases c : k ∈ uniq (xs.take i)
      · rw [if_pos c]
        rw [if_pos (decide_eq_true c)] at g2
        have : (fun j => decide (j ∈ uniq (xs.take i)) || decide (j = k)) = fun j => decide (j ∈ uniq (xs.take i)) := by
          funext j
          by_cases e : j = k
          · subst e; simp [c]
          · simp [e]
        rwa [this] at g2
      · rw [if_neg c]
        rw [if_neg (by rw [decide_eq_false c]; exact Bool.false_ne_true)] at g2
        have : (fun j => decide (j ∈ uniq (xs.take i)) || decide (j = k)) = fun j => decide (j ∈ uniq (xs.take i) ++ [k]) := by
          funext j
          rw [← Bool.decide_or]
          exact decide_eq_decide.mpr (by rw [List.mem_append, List.mem_singleton])
        rw [this] at g2
        rw [List.length_append]
        exact g2
    refine wpAny_pure ⟨plainId_quiet PyProof.Rows.F.plain_set_update_loop _, ih (i + 1) _ (by omega) lt (W.frame _ s' _ _ hst' (Nat.le_succ _) fun b hb o e => ?_) g3 fun s2 m2 gg => hR s2 (Moved.trans W.gtrans ((hm.mono wider).then_heap (Nat.le_succ _) fun b o z e => ?_) m2) gg⟩
    · exact (sb.2 b fun z => hSf (by rw [← z]; exact hb)).trans e
    · exact (sb.2 b fun y => z (by rw [y]; exact List.mem_cons_self)).trans e
end
section
variable {prog : Program} {w : World} {κ : Type} [DecidableEq κ] {knd : KeyKind prog w κ} {A : Around} {E : Value → Shared → Prop} {s : Shared}
set_option maxHeartbeats 3200000 in
theorem call_setL {l : Addr} {items : Array Value} {xs : List κ} {Q : Value → Shared → Prop} (hh : A.handled = none) (hl : s.heap.IsList l items) (hz : items.size = xs.length) (hi : ∀ (i : Nat) (v : Value), items[i]? = some v → ∃ k, xs[i]? = some k ∧ knd.is k v = true ∧ v.scannable = true) (hb : xs.length + 1 < scanBound)
    (h : ∀ (h' : Heap) (tk : Nat), SetG knd h' s.heap.objs.size (fun k => decide (k ∈ uniq xs)) (uniq xs).length → (∀ b o, b < s.heap.objs.size → s.heap.get? b = some o → h'.get? b = some o) → Q (.ref s.heap.objs.size) { s with heap := h', toks := tk }) :
    wpAny (model prog w) A (call (.type "set") [.ref l]) Q E s := by
  have f0 := PySem.F.called_set
  obtain ⟨c, tl, hmro⟩ := f0.mro
  have f1 := f0.made
  have f2 := f0.sub
  refine wpAny_call (codeAny_of_tree (?_ : wpAny _ _ (callAny (.type "set") _) _ _ _))
  refine wpAny_pure ⟨Code.quiet_builtin _ (by decide +kernel), codeAny_builtin PySem.F.entry_type_call ?_⟩
  rw [Around.under_plain (weight_type_call_type "set" [.ref l] []) rfl]
  have f3 := f0.notType
  have f4 := f0.canCreate
  have f5 := PySem.F.typeCall_set_1 (.ref l)
  repeat (any_goals (first | assumption | wp_step))
  obtain ⟨O, hO⟩ : ∃ O : Obj, O = { cls := .type "set", dict := none, data := .set #[] 0 (.fresh 0 0 (!w.params.followText "set-order")) } := ⟨_, rfl⟩
  refine codeAny_mono (code_set_led1 (.ref l) (E := E) (Q₁ := fun obj s₁ => obj = .ref s.heap.objs.size ∧ s₁ = { s with heap := s.heap.push O }) (by rw [hO]; exact ⟨rfl, rfl⟩)) fun r s₁ hr => ?_
  cases r with
  | error e => exact hr
  | ok fl =>
    cases fl with
    | ret obj =>
      obtain ⟨rfl, rfl⟩ := hr
      have hS : (s.heap.push O).get? s.heap.objs.size = some O := Heap.get?_push_size _ (by rw [hO]; rfl)
      have hT : Shared.TypeIs { s with heap := s.heap.push O } (.ref s.heap.objs.size) "set" := ⟨_, hS, by rw [hO]⟩
      have f6 := f0.init.lookup
      have f7 := f0.init.bind (.ref s.heap.objs.size)
      repeat (any_goals (first | assumption | wp_step))
      refine codeAny_mono (codeAny_call_builtin (R := wants (fun r s₂ => r = .none ∧ ∃ h' tk, s₂ = { s with heap := h', toks := tk } ∧ SetG knd h' s.heap.objs.size (fun k => decide (k ∈ uniq xs)) (uniq xs).length ∧ (∀ b o, b < s.heap.objs.size → s.heap.get? b = some o → h'.get? b = some o)) E)
        f0.init.plain PySem.F.entry_set_init (check_set_init_1 hT ?_)) fun r₂ s₂ hr₂ => ?_
      · obtain ⟨⟨ocls, odict, odata, oslots⟩, hol, hcl, nl, hdl⟩ := hl
        simp only at hcl hdl
        subst hcl; subst hdl
        have hlS : l < s.heap.objs.size := Heap.lt_size hol
        have hol' := Heap.get?_push_of_some (h := s.heap) O hol
        have g1 := PySem.F.sub_list_set
        have g2 := PySem.F.sub_list_frozenset
        have g3 : (Value.type "list" == Value.type "dict") = false := by decide
        have hneI : l ≠ (s.heap.push O).objs.size := by rw [Heap.size_push]; exact Nat.ne_of_lt (Nat.lt_succ_of_lt hlS)
        have hSf : s.heap.objs.size ∉ [(s.heap.push O).objs.size, l] := by
          intro q
          rw [Heap.size_push] at q
          rcases List.mem_cons.mp q with q | q
          · exact Nat.ne_of_lt (Nat.lt_succ_self _) q
          · exact Nat.ne_of_gt hlS (List.mem_singleton.mp q)
        have hl1 : (s.heap.push O).IsList l items := ⟨_, hol', rfl, nl, rfl⟩
        subst hO
        unfold Builtin.«set.__init__» noKeywords Builtin.Frozenset.updateFrom
        generalize hPI : pyIter = PI
        wp_walk
        subst hPI
        refine PySem.wpAny_pyIter_list hl1 ?_
        refine wpAny_bind (wpAny_runValue ?_)
        have hh3 : A.in1.in1.in1.handled = none := by simp [hh]
        refine loopG (knd := knd) ((Walks.list hh3 _ l hneI items).toS) s.heap.objs.size hSf xs hz.symm (by rw [hz]; exact hb) hi (items.size - 0) 0 _ (by omega) (Nat.zero_le _) ⟨⟨_, Heap.get?_push_size _ rfl, rfl, rfl⟩, (hl1.push _)⟩ ?z ?r
        case z =>
          refine ⟨_, #[], 0, .fresh 0 0 (!w.params.followText "set-order"), Heap.get?_push_of_some _ hS, ⟨rfl, rfl, rfl⟩, rfl, fun e he => by simp at he, fun k => by simp [uniq], by unfold scanBound; decide, rfl, rfl, ?_, ?_⟩
          · exact (setR_fresh (h := s.heap) w).elim fun _ z => z.elim fun _ z => z.elim fun _ z => z.elim fun t z => by
              obtain ⟨ho, _, hd, _, _, _, _, _, _, r, _⟩ := z
              rw [Heap.get?_push_size _ rfl] at ho
              cases ho
              cases hd
              exact r
          · show _ ∨ (!w.params.followText "set-order") = true
            cases w.params.followText "set-order"
            · exact .inr rfl
            · exact .inl rfl
        case r =>
          intro s' hm hS'
          obtain ⟨h', g', d', tk', os'⟩ := s'
          obtain rfl : g' = s.gens := hm.gens
          obtain rfl : d' = s.drawn := hm.drawn
          obtain rfl : os' = s.os := hm.os
          show wpAny _ _ _ _ _ _
          refine wpAny_pure (?_ : wpAny _ _ (ret Value.none) _ _ _)
          refine wpAny_pure ⟨rfl, h', tk', rfl, hS', fun b o z e => ?_⟩
          refine hm.heap b o (fun q => ?_) (Heap.get?_push_of_some _ (Heap.get?_push_of_some _ e))
          rcases List.mem_cons.mp q with q | q
          · exact absurd z (by rw [q]; exact Nat.lt_irrefl _)
          · rcases List.mem_cons.mp q with q | q
            · exact absurd z (by rw [q, Heap.size_push]; exact Nat.not_lt_of_le (Nat.le_succ _))
            · cases q
      · cases r₂ with
        | error e => exact hr₂
        | ok fl₂ =>
          cases fl₂ with
          | ret r =>
            obtain ⟨rfl, h', tk, rfl, hS', hk'⟩ := hr₂
            repeat (any_goals (first | assumption | wp_step))
            exact h _ _ hS' hk'
          | _ => exact hr₂.elim
    | _ => exact hr.elim
set_option maxHeartbeats 3200000 in
theorem call_setT {l : Addr} {items : Array Value} {xs : List κ} {Q : Value → Shared → Prop} (hh : A.handled = none) (hl : s.heap.IsTuple l items) (hz : items.size = xs.length) (hi : ∀ (i : Nat) (v : Value), items[i]? = some v → ∃ k, xs[i]? = some k ∧ knd.is k v = true ∧ v.scannable = true) (hb : xs.length + 1 < scanBound)
    (h : ∀ (h' : Heap) (tk : Nat), SetG knd h' s.heap.objs.size (fun k => decide (k ∈ uniq xs)) (uniq xs).length → (∀ b o, b < s.heap.objs.size → s.heap.get? b = some o → h'.get? b = some o) → Q (.ref s.heap.objs.size) { s with heap := h', toks := tk }) :
    wpAny (model prog w) A (call (.type "set") [.ref l]) Q E s := by
  have f0 := PySem.F.called_set
  obtain ⟨c, tl, hmro⟩ := f0.mro
  have f1 := f0.made
  have f2 := f0.sub
  refine wpAny_call (codeAny_of_tree (?_ : wpAny _ _ (callAny (.type "set") _) _ _ _))
  refine wpAny_pure ⟨Code.quiet_builtin _ (by decide +kernel), codeAny_builtin PySem.F.entry_type_call ?_⟩
  rw [Around.under_plain (weight_type_call_type "set" [.ref l] []) rfl]
  have f3 := f0.notType
  have f4 := f0.canCreate
  have f5 := PySem.F.typeCall_set_1 (.ref l)
  repeat (any_goals (first | assumption | wp_step))
  obtain ⟨O, hO⟩ : ∃ O : Obj, O = { cls := .type "set", dict := none, data := .set #[] 0 (.fresh 0 0 (!w.params.followText "set-order")) } := ⟨_, rfl⟩
  refine codeAny_mono (code_set_led1 (.ref l) (E := E) (Q₁ := fun obj s₁ => obj = .ref s.heap.objs.size ∧ s₁ = { s with heap := s.heap.push O }) (by rw [hO]; exact ⟨rfl, rfl⟩)) fun r s₁ hr => ?_
  cases r with
  | error e => exact hr
  | ok fl =>
    cases fl with
    | ret obj =>
      obtain ⟨rfl, rfl⟩ := hr
      have hS : (s.heap.push O).get? s.heap.objs.size = some O := Heap.get?_push_size _ (by rw [hO]; rfl)
      have hT : Shared.TypeIs { s with heap := s.heap.push O } (.ref s.heap.objs.size) "set" := ⟨_, hS, by rw [hO]⟩
      have f6 := f0.init.lookup
      have f7 := f0.init.bind (.ref s.heap.objs.size)
      repeat (any_goals (first | assumption | wp_step))
      refine codeAny_mono (codeAny_call_builtin (R := wants (fun r s₂ => r = .none ∧ ∃ h' tk, s₂ = { s with heap := h', toks := tk } ∧ SetG knd h' s.heap.objs.size (fun k => decide (k ∈ uniq xs)) (uniq xs).length ∧ (∀ b o, b < s.heap.objs.size → s.heap.get? b = some o → h'.get? b = some o)) E)
        f0.init.plain PySem.F.entry_set_init (check_set_init_1 hT ?_)) fun r₂ s₂ hr₂ => ?_
      · obtain ⟨⟨ocls, odict, odata, oslots⟩, hol, hcl, nl, hdl⟩ := hl
        simp only at hcl hdl
        subst hcl; subst hdl
        have hlS : l < s.heap.objs.size := Heap.lt_size hol
        have hol' := Heap.get?_push_of_some (h := s.heap) O hol
        have g1 := PySem.F.sub_tuple_set
        have g2 := PySem.F.sub_tuple_frozenset
        have g3 : (Value.type "tuple" == Value.type "dict") = false := by decide
        have hneI : l ≠ (s.heap.push O).objs.size := by rw [Heap.size_push]; exact Nat.ne_of_lt (Nat.lt_succ_of_lt hlS)
        have hSf : s.heap.objs.size ∉ [(s.heap.push O).objs.size, l] := by
          intro q
          rw [Heap.size_push] at q
          rcases List.mem_cons.mp q with q | q
          · exact Nat.ne_of_lt (Nat.lt_succ_self _) q
          · exact Nat.ne_of_gt hlS (List.mem_singleton.mp q)
        have hl1 : (s.heap.push O).IsTuple l items := ⟨_, hol', rfl, nl, rfl⟩
        subst hO
        unfold Builtin.«set.__init__» noKeywords Builtin.Frozenset.updateFrom
        generalize hPI : pyIter = PI
        wp_walk
        subst hPI
        refine PySem.wpAny_pyIter_tuple hl1 ?_
        refine wpAny_bind (wpAny_runValue ?_)
        have hh3 : A.in1.in1.in1.handled = none := by simp [hh]
        refine loopG (knd := knd) ((Walks.tuple hh3 _ l hneI items).toS) s.heap.objs.size hSf xs hz.symm (by rw [hz]; exact hb) hi (items.size - 0) 0 _ (by omega) (Nat.zero_le _) ⟨⟨_, Heap.get?_push_size _ rfl, rfl, rfl⟩, (hl1.push _)⟩ ?z ?r
        case z =>
          refine ⟨_, #[], 0, .fresh 0 0 (!w.params.followText "set-order"), Heap.get?_push_of_some _ hS, ⟨rfl, rfl, rfl⟩, rfl, fun e he => by simp at he, fun k => by simp [uniq], by unfold scanBound; decide, rfl, rfl, ?_, ?_⟩
          · exact (setR_fresh (h := s.heap) w).elim fun _ z => z.elim fun _ z => z.elim fun _ z => z.elim fun t z => by
              obtain ⟨ho, _, hd, _, _, _, _, _, _, r, _⟩ := z
              rw [Heap.get?_push_size _ rfl] at ho
              cases ho
              cases hd
              exact r
          · show _ ∨ (!w.params.followText "set-order") = true
            cases w.params.followText "set-order"
            · exact .inr rfl
            · exact .inl rfl
        case r =>
          intro s' hm hS'
          obtain ⟨h', g', d', tk', os'⟩ := s'
          obtain rfl : g' = s.gens := hm.gens
          obtain rfl : d' = s.drawn := hm.drawn
          obtain rfl : os' = s.os := hm.os
          show wpAny _ _ _ _ _ _
          refine wpAny_pure (?_ : wpAny _ _ (ret Value.none) _ _ _)
          refine wpAny_pure ⟨rfl, h', tk', rfl, hS', fun b o z e => ?_⟩
          refine hm.heap b o (fun q => ?_) (Heap.get?_push_of_some _ (Heap.get?_push_of_some _ e))
          rcases List.mem_cons.mp q with q | q
          · exact absurd z (by rw [q]; exact Nat.lt_irrefl _)
          · rcases List.mem_cons.mp q with q | q
            · exact absurd z (by rw [q, Heap.size_push]; exact Nat.not_lt_of_le (Nat.le_succ _))
            · cases q
      · cases r₂ with
        | error e => exact hr₂
        | ok fl₂ =>
          cases fl₂ with
          | ret r =>
            obtain ⟨rfl, h', tk, rfl, hS', hk'⟩ := hr₂
            repeat (any_goals (first | assumption | wp_step))
            exact h _ _ hS' hk'
          | _ => exact hr₂.elim
    | _ => exact hr.elim
end
end DL
/-! DLU: sorted(set(x)), len(set(x)) of texts. -/
namespace DL
open PySem PySem.Spec PyProof.Rows L2

theorem perm_of_cover {α : Type} [BEq α] [LawfulBEq α] : ∀ {l r : List α}, l.Nodup → (∀ x ∈ l, x ∈ r) → r.length ≤ l.length → r.Perm l
  | [], r, _, _, h => by
    have : r = [] := List.length_eq_zero_iff.mp (Nat.le_zero.mp h)
    rw [this]
  | x :: l, r, nd, hs, h => by
    obtain ⟨n1, n2⟩ := List.nodup_cons.mp nd
    have hx := hs x List.mem_cons_self
    have p := List.perm_cons_erase hx
    have hl := p.length_eq
    rw [List.length_cons] at hl h
    exact p.trans (.cons x (perm_of_cover n2 (fun y hy => (List.mem_erase_of_ne (fun e => n1 (by rw [← e]; exact hy))).mpr (hs y (List.mem_cons_of_mem _ hy))) (by omega)))
theorem rising_pair : ∀ (p : Str) (l : List Str), risingS p l = true → (p :: l).Pairwise fun a b => ¬ b.cps.toList < a.cps.toList
  | p, [], _ => by simp
  | p, x :: r, h => by
    have h' : (!ltCps x.cps.toList p.cps.toList && risingS x r) = true := h
    rw [Bool.and_eq_true, Bool.not_eq_true', ltCps_eq] at h'
    have ih := rising_pair x r h'.2
    have hxp := of_decide_eq_false h'.1
    refine List.pairwise_cons.mpr ⟨fun y hy => ?_, ih⟩
    rcases List.mem_cons.mp hy with rfl | hy
    · exact hxp
    · intro hlt
      have hyx := (List.pairwise_cons.mp ih).1 y hy
      exact hxp (List.lt_of_le_of_lt (List.not_lt.mp hyx) hlt)
theorem sortedS_pair : ∀ (l : List Str), sortedS l = true → l.Pairwise fun a b => ¬ b.cps.toList < a.cps.toList
  | [], _ => .nil
  | x :: r, h => rising_pair x r h
section
variable {P : Program} {w : World} {A : Around} {E : Value → Shared → Prop} {s : Shared} {a : Addr}
theorem sortedG {xs : List Str} {Q : Value → Shared → Prop} (G : SetG (PySem.strKind P w) s.heap a (fun k => decide (k ∈ uniq xs)) (uniq xs).length) (hh : A.handled = none) (h64 : xs.length < 64)
    (hQ : ∀ s' p (out : Array Value) (c : Nat) (ys : List Str), (∀ b o, s.heap.get? b = some o → s'.heap.get? b = some o) → s'.gens = s.gens → s'.os = s.os → s.heap.objs.size ≤ p → s'.heap.get? p = some (seqObj "list" out c) → StrsAre out.toList ys →
      sortedS ys = true → ys.Perm (uniq xs) → Q (.ref p) s') : wpAny (model P w) A (call (.builtin "sorted") [.ref a]) Q E s := by
  obtain ⟨o, es, ep, t, ho, hex, hd, el, hm, hb, hf, hn, hr, hl⟩ := G
  obtain ⟨U, hU, nd, _, hUl⟩ := uniq_ok xs
  rw [hU] at hn hm hQ
  refine Calls.call_function_entry kind_sorted plain_sorted entry_sorted (args_sorted1 _) ?_
  unfold Builtin.«sorted»
  refine wpAny_bind (m := checkCount "sorted" 1 1 _) (wpAny_pure (wpAny_bind (collect_set (A := A.in1) hh ⟨o, ho, hex.1, hd⟩ hf hb hr hl fun s1 vs k1 hz g1 o1 pm => ?_)))
  have hvl : vs.length = U.length := by rw [pm.length_eq, List.length_map, Array.length_toList]; exact hn
  have hv : ∀ v, v ∈ vs → ∃ x tk, v = .str x tk ∧ x ∈ U := fun v z => by
    obtain ⟨e, he, rfl⟩ := List.mem_map.mp (pm.mem_iff.mp z)
    obtain ⟨⟨k, hk, _⟩, _⟩ := el e he
    obtain ⟨tk, q⟩ := Value.isStrOf_shape hk
    exact ⟨k, tk, q, of_decide_eq_true ((hm k).mpr ⟨e, he, hk⟩)⟩
  have hS := strsAre_map vs fun v z => by
    obtain ⟨x, tk, q, _⟩ := hv v z
    exact ⟨x, tk, q⟩
  have pU : (vs.map strOf).Perm U := by
    refine perm_of_cover nd (fun x hx => ?_) (by rw [List.length_map, hvl]; exact Nat.le_refl _)
    obtain ⟨e, he, hk⟩ := (hm x).mp (decide_eq_true hx)
    obtain ⟨tk, q⟩ := Value.isStrOf_shape hk
    exact List.mem_map.mpr ⟨e.2, pm.mem_iff.mpr (List.mem_map_of_mem he), by rw [q]; rfl⟩
  have hvs : vs.length ≤ sizeLine := by rw [hvl, sizeLine_eq]; omega
  refine wpAny_bind (wpAny_newList ?_ hvs)
  have hoL : (s1.heap.push (seqObj "list" vs.toArray 0)).get? s1.heap.objs.size = some (seqObj "list" vs.toArray 0) := Heap.get?_push_size _ rfl
  refine wpAny_bind (wpAny_holding (wpAny_call_entry slot_list_sort ⟨_, hoL, rfl⟩ entry_list_sort (list_sort_treeKAny strKind_oneLt hoL hS.keysOf (fun v₁ v₂ rest e => keyKind_strs (by rw [← e]; exact hS)) hvs fun st' hp hs => ?_) (args_list_sort _)))
  obtain ⟨ys, y1, y2, y3⟩ := sorted_out_str hS hp hs
  obtain ⟨c, hc⟩ := sortedHeap_at (vs := vs) (out := (arrOf st').map (·.2)) hoL
  refine ⟨.none, rfl, wpAny_pure ⟨_, rfl, hQ _ s1.heap.objs.size _ c ys (fun b u e => ?_) g1 o1 hz hc y1 y3 (y2.trans pU)⟩⟩
  have q := k1 b u e
  have lt := Heap.lt_size q
  show (sortedHeap (s1.heap.push (seqObj "list" vs.toArray 0)) s1.heap.objs.size vs _).get? b = some u
  rw [sortedHeap_old (Nat.ne_of_lt lt) (by rw [size_push']; exact Nat.lt_succ_of_lt lt)]
  exact Heap.get?_push_of_some _ q
end
/-- sorted(set(a)), a a list or tuple of texts -/
def tSetS (K : PySem.W.Frag) (ta : TE) : TE := fun σ H Q => ta σ H fun x H1 => ∃ (l : Addr) (xs : List Str), x = .ref l ∧ (SqL K H1 l (xs.map V.str) ∨ SqT K H1 l (xs.map V.str)) ∧ xs.length < 64 ∧
  ∀ (ys : List Str) p, ys.Nodup → (ys.Pairwise fun a b => ¬ b.cps.toList < a.cps.toList) → (∀ k, k ∈ ys ↔ k ∈ xs) → ys.length ≤ xs.length → H1 p = none → Q (.ref p) (upd H1 p (.lst (ys.map V.str)))
/-- len(set(a)) -/
def tSetN (K : PySem.W.Frag) (ta : TE) : TE := fun σ H Q => ta σ H fun x H1 => ∃ (l : Addr) (xs : List Str), x = .ref l ∧ (SqL K H1 l (xs.map V.str) ∨ SqT K H1 l (xs.map V.str)) ∧ xs.length < 64 ∧ Q (.int (uniq xs).length) H1
section
variable {X : Cx} {a : Expr} {ta : TE} {p p2 q pos : Pos}
theorem item_of {P : Program} {w : World} {xs : List Str} {its : List Value} (h : StrsAre its xs) (i : Nat) (v : Value) (hv : its.toArray[i]? = some v) : ∃ k, xs[i]? = some k ∧ (PySem.strKind P w).is k v = true ∧ v.scannable = true := by
  have hv : its[i]? = some v := by simpa using hv
  obtain ⟨t, e⟩ := SS.strs_at h i v hv
  have hl := StrsAre.len_eq h
  obtain ⟨hi, _⟩ := List.getElem?_eq_some_iff.mp hv
  have hx : i < xs.length := by omega
  have g : xs.getD i Str.empty = xs[i] := by rw [List.getD_eq_getElem?_getD, List.getElem?_eq_getElem hx]; rfl
  subst e
  exact ⟨_, List.getElem?_eq_getElem hx, by rw [g]; exact strKind_is _ _ _ _, rfl⟩
theorem pe_setS (hc : X.calm = true) (hg : Gl X "sorted") (hm : X.mg "sorted" = none) (hg2 : Gl X "set") (hm2 : X.mg "set" = none) (ha : PE X a ta) (na : starEach [a] X.env = (false, eval a X.env) :: starEach [] X.env) :
    PE X (.Call (.Name "sorted" p) [.Call (.Name "set" p2) [a] [] q] [] pos) (tSetS X.K ta) := by
  refine ⟨fun pins s σ H Q I h => ?_⟩
  refine Call_ (ld_blt I hg hm (show bootBuiltins "sorted" = some (.builtin "sorted") by decide +kernel) ?_)
  refine PyProof.Rows.callWith_builtin1 (PyProof.Rows.args_cons (Call_ (ld_blt I hg2 hm2 boot_set ?_)) rfl) rfl rfl
  refine PyProof.Rows.callWith_type1 (PyProof.Rows.args_cons (thn (ha.run pins s σ H _ I h) fun v s1 ⟨x, H1, I1, r1, q1⟩ => PyProof.Rows.args_nil ?_) na) na rfl
  obtain ⟨l, xs, rfl, hq, h1, q1⟩ := q1
  cases r1
  obtain ⟨_, _, nd, hmem, hlen⟩ := uniq_ok xs
  have hb : xs.length + 1 < scanBound := by unfold scanBound; omega
  have fin : ∀ (h' : Heap) (tk : Nat), SetG (PySem.strKind X.prog X.w) h' s1.heap.objs.size (fun k => decide (k ∈ uniq xs)) (uniq xs).length → (∀ b o, b < s1.heap.objs.size → s1.heap.get? b = some o → h'.get? b = some o) →
      wpAny (model X.prog X.w) X.A (spliced (backTo pos (starEach [] X.env))) (fun vs s₂ => wpAny (model X.prog X.w) X.A (call (.builtin "sorted") (Value.ref s1.heap.objs.size :: vs)) (EP X pins σ Q) X.xe s₂) X.xe { s1 with heap := h', toks := tk } := fun h' tk g k => by
    refine PyProof.Rows.args_nil ?_
    have I2 : Inv X pins σ H1 { s1 with heap := h', toks := tk } := I1.kept fun b o e => k b o (Heap.lt_size e) e
    refine sortedG (s := { s1 with heap := h', toks := tk }) g (I1.ok.hd hc) h1 fun s' p out c ys k2 g2 o2 hp hgt hi hs hperm => ?_
    obtain ⟨h2, gg, dd, tt, oo⟩ := s'
    obtain rfl : gg = s1.gens := g2
    obtain rfl : oo = s1.os := o2
    have hn : H1 p = none := I2.hok.fresh hp
    have hl2 : (ys.map V.str).length ≤ sizeLine := by rw [List.length_map, hperm.length_eq, sizeLine_eq]; subst_vars; omega
    refine ⟨.ref p, upd H1 p (.lst (ys.map V.str)), Inv.call (s := { s1 with heap := h', toks := tk }) (ch := []) I2 (Un.laid k2 hp hn) (I2.hok.laid k2 hp ⟨hl2, out.toList, c, vals_of_strs hi, hgt⟩) (by exact I2.bare) (fun _ z => nomatch z), rfl, ?_⟩
    subst_vars
    exact q1 ys p (hperm.nodup_iff.mpr nd) (sortedS_pair ys hs) (fun k => (hperm.mem_iff).trans (hmem k)) (by rw [hperm.length_eq]; exact hlen) hn
  rcases hq with hq | hq
  · obtain ⟨its, r, pl, hz⟩ := I1.list hq
    refine call_setL (knd := PySem.strKind X.prog X.w) (xs := xs) (I1.ok.hd hc) pl.isList ?_ (item_of (strsAre_of r)) hb fin
    rw [List.size_toArray, ← r.length, List.length_map]
  · obtain ⟨its, r, pl, hz⟩ := I1.tuple hq
    refine call_setT (knd := PySem.strKind X.prog X.w) (xs := xs) (I1.ok.hd hc) pl ?_ (item_of (strsAre_of r)) hb fin
    rw [List.size_toArray, ← r.length, List.length_map]
theorem pe_setN (hc : X.calm = true) (hg : Gl X "len") (hm : X.mg "len" = none) (hg2 : Gl X "set") (hm2 : X.mg "set" = none) (ha : PE X a ta) (na : starEach [a] X.env = (false, eval a X.env) :: starEach [] X.env) :
    PE X (.Call (.Name "len" p) [.Call (.Name "set" p2) [a] [] q] [] pos) (tSetN X.K ta) := by
  refine ⟨fun pins s σ H Q I h => ?_⟩
  refine Call_ (ld_blt I hg hm boot_len ?_)
  refine PyProof.Rows.callWith_builtin1 (PyProof.Rows.args_cons (Call_ (ld_blt I hg2 hm2 boot_set ?_)) rfl) rfl rfl
  refine PyProof.Rows.callWith_type1 (PyProof.Rows.args_cons (thn (ha.run pins s σ H _ I h) fun v s1 ⟨x, H1, I1, r1, q1⟩ => PyProof.Rows.args_nil ?_) na) na rfl
  obtain ⟨l, xs, rfl, hq, h1, q1⟩ := q1
  cases r1
  have hb : xs.length + 1 < scanBound := by unfold scanBound; omega
  have fin : ∀ (h' : Heap) (tk : Nat), SetG (PySem.strKind X.prog X.w) h' s1.heap.objs.size (fun k => decide (k ∈ uniq xs)) (uniq xs).length → (∀ b o, b < s1.heap.objs.size → s1.heap.get? b = some o → h'.get? b = some o) →
      wpAny (model X.prog X.w) X.A (spliced (backTo pos (starEach [] X.env))) (fun vs s₂ => wpAny (model X.prog X.w) X.A (call (.builtin "len") (Value.ref s1.heap.objs.size :: vs)) (EP X pins σ Q) X.xe s₂) X.xe { s1 with heap := h', toks := tk } := fun h' tk g k => by
    obtain ⟨o, es, ep, t, ho, hex, hd, _, _, _, hf, hn, _⟩ := g
    have I2 : Inv X pins σ H1 { s1 with heap := h', toks := tk } := I1.kept fun b o e => k b o (Heap.lt_size e) e
    obtain ⟨_, rfl, _, _, hlen⟩ := uniq_ok xs
    refine PyProof.Rows.args_nil (call_len_set ho hex hd hf (by rw [hn]; omega) ⟨.int (uniq xs).length, H1, I2.tok _, ⟨_, by rw [hn]⟩, q1⟩)
  rcases hq with hq | hq
  · obtain ⟨its, r, pl, hz⟩ := I1.list hq
    refine call_setL (knd := PySem.strKind X.prog X.w) (xs := xs) (I1.ok.hd hc) pl.isList ?_ (item_of (strsAre_of r)) hb fin
    rw [List.size_toArray, ← r.length, List.length_map]
  · obtain ⟨its, r, pl, hz⟩ := I1.tuple hq
    refine call_setT (knd := PySem.strKind X.prog X.w) (xs := xs) (I1.ok.hd hc) pl ?_ (item_of (strsAre_of r)) hb fin
    rw [List.size_toArray, ← r.length, List.length_map]
end
end DL
/-! DLV: more built-ins over data. -/
namespace DL
open PySem PySem.Spec PyProof.Rows L2
theorem mkS_out {ys : List Str} : (ys.map fun y => y.cps.toList).map mkS = ys := by
  rw [List.map_map]
  conv => rhs; rw [← List.map_id ys]
  exact List.map_congr_left fun y _ => mkS_tl y
theorem isl_strs {K : PySem.W.Frag} {F : Hp} : ∀ {ys : List Bs}, (∀ y ∈ ys, y.length ≤ sizeLine) → IsL K F ((ys.map mkS).map V.str) (ys.map .str)
  | [], _ => .nil
  | y :: ys, h => .cons (.str y (h y List.mem_cons_self)) (isl_strs fun z hz => h z (List.mem_cons_of_mem _ hz))
section
variable {B : Bx} {Y : Dl → Prop} {W : WX} {C : XC} {xq : QX} {a b c : Expr} {wa wb wc : Env → Sto → QD → Prop} {pos : Pos}
theorem SE.maxf {p : Pos} (cl : ∀ δ, Y δ → δ.calm = true) (hg : ∀ δ, Y δ → Gl (cx B δ) "max") (hm : B.mg "max" = none) (ha : SE B Y W C xq a wa) (st : notStar a = true) :
    SE B Y W C xq (.Call (.Name "max" p) [a] [] pos) (fun ρ St q => wa ρ St fun x S1 => wB1 .max x S1 fun d => q d S1) := by
  refine SE.blt (z := wB1 .max) (r := rMax B.K) (fun δ hδ => cr_max (cl δ hδ)) hg hm (by decide +kernel) ha st (hr := fun F St H v x q Q r i w k => ?_)
  obtain ⟨ds, ns, hv, nt, hb, h0, w⟩ := w
  obtain ⟨a, xs, ev, z, il, h⟩ := view_of r i hv
  rcases h with ⟨_, e⟩ | ⟨hx, _⟩
  · exact absurd e (nt _)
  · obtain rfl := ints_of il hb
    exact ⟨a, ns, by rw [ev], SqL.of hx, h0, fun m h1 h2 => k _ F _ H Fr.refl r (.int _) (w m h1 h2)⟩
theorem SE.minf {p : Pos} (cl : ∀ δ, Y δ → δ.calm = true) (hg : ∀ δ, Y δ → Gl (cx B δ) "min") (hm : B.mg "min" = none) (ha : SE B Y W C xq a wa) (st : notStar a = true) :
    SE B Y W C xq (.Call (.Name "min" p) [a] [] pos) (fun ρ St q => wa ρ St fun x S1 => wB1 .min x S1 fun d => q d S1) := by
  refine SE.blt (z := wB1 .min) (r := rMin B.K) (fun δ hδ => cr_min (cl δ hδ)) hg hm (by decide +kernel) ha st (hr := fun F St H v x q Q r i w k => ?_)
  obtain ⟨ds, ns, hv, nt, hb, h0, w⟩ := w
  obtain ⟨a, xs, ev, z, il, h⟩ := view_of r i hv
  rcases h with ⟨_, e⟩ | ⟨hx, _⟩
  · exact absurd e (nt _)
  · obtain rfl := ints_of il hb
    exact ⟨a, ns, by rw [ev], SqL.of hx, h0, fun m h1 h2 => k _ F _ H Fr.refl r (.int _) (w m h1 h2)⟩
theorem perm_out {ts : List Bs} {ys : List Str} (h : ys.Perm (ts.map mkS)) : (ys.map fun y => y.cps.toList).Perm ts := by
  have := h.map fun y : Str => y.cps.toList
  rw [List.map_map, show ((fun y : Str => y.cps.toList) ∘ mkS) = id from funext fun x => by simp [mkS], List.map_id] at this
  exact this
theorem new_strs {K : PySem.W.Frag} {ω : World} {F : Hp} {St : Sto} {H : Hp} (r : SR K ω F St H) {ys : List Str} {ts : List Bs} (hz : ∀ y ∈ ts, y.length ≤ sizeLine) (h64 : ys.length ≤ 64) (hm : ∀ y ∈ ys.map fun y => y.cps.toList, y ∈ ts) {p : Addr} (hp : H p = none) :
    ∃ F', Fr F St H F' St (upd H p (.lst (ys.map V.str))) ∧ SR K ω F' St (upd H p (.lst (ys.map V.str))) ∧ Is K F' (.ref p) (.lst ((ys.map fun y => y.cps.toList).map .str)) := by
  obtain ⟨r2, f2⟩ := r.lay (o := .lst (ys.map V.str)) hp
  refine ⟨_, f2, r2, .lst upd_same (by rw [List.length_map, sizeLine_eq]; omega) ?_⟩
  have := isl_strs (K := K) (F := upd F p (.lst (ys.map V.str))) (ys := ys.map fun y => y.cps.toList) fun y hy => hz y (hm y hy)
  rw [mkS_out] at this
  exact this
theorem SE.sstr {p : Pos} (hg : ∀ δ, Y δ → Gl (cx B δ) "sorted") (hm : B.mg "sorted" = none) (ha : SE B Y W C xq a wa) (st : notStar a = true) :
    SE B Y W C xq (.Call (.Name "sorted" p) [a] [] pos) (fun ρ St q => wa ρ St fun x S1 => wB1 .sstr x S1 fun d => q d S1) := by
  refine SE.blt (z := wB1 .sstr) (r := rSortedS B.K) (fun δ hδ => cr_sortedS) hg hm (by decide +kernel) ha st (hr := fun F St H v x q Q r i w k => ?_)
  obtain ⟨ds, ts, hv, nt, hb, h64, w⟩ := w
  obtain ⟨a, xs, ev, z, il, h⟩ := view_of r i hv
  rcases h with ⟨_, e⟩ | ⟨hx, _⟩
  · exact absurd e (nt _)
  · obtain ⟨e, hz⟩ := strs_of il hb
    refine ⟨a, ts.map mkS, by rw [ev], by rw [← e]; exact SqL.of hx, by rw [List.length_map]; exact h64, fun ys p h1 h2 hp => ?_⟩
    have hp1 := perm_out h1
    obtain ⟨F', f2, r2, i2⟩ := new_strs r hz (by rw [h1.length_eq, List.length_map]; omega) (fun y hy => hp1.mem_iff.mp hy) hp
    exact k _ F' _ _ f2 r2 i2 (w _ hp1 (List.pairwise_map.mpr (sortedS_pair ys h2)))
theorem keys_of {K : PySem.W.Frag} {F : Hp} : ∀ {kvs : List (Key × V)} {ds : List (D × D)} {ts : List Bs}, IsM K F kvs ds → strsD (ds.map (·.1)) = some ts → kvs.map (·.1) = (ts.map mkS).map Sum.inr
  | _, _, _, .nil, h => by cases h; rfl
  | _, _, ts, @IsM.cons _ _ k v vs d ds h t, e => by
    cases k with
    | inl i => cases e
    | inr s =>
      have e : (strsD (ds.map (·.1))).map (s.cps.toList :: ·) = some ts := e
      rw [Option.map_eq_some_iff] at e
      obtain ⟨us, e1, e2⟩ := e
      rw [← e2, List.map_cons, List.map_cons, List.map_cons, keys_of t e1, mkS_tl]
theorem SE.sdct {p : Pos} (cl : ∀ δ, Y δ → δ.calm = true) (hg : ∀ δ, Y δ → Gl (cx B δ) "sorted") (hm : B.mg "sorted" = none) (ha : SE B Y W C xq a wa) (st : notStar a = true) :
    SE B Y W C xq (.Call (.Name "sorted" p) [a] [] pos) (fun ρ St q => wa ρ St fun x S1 => wB1 .sdct x S1 fun d => q d S1) := by
  refine SE.blt (z := wB1 .sdct) (r := _) (fun δ hδ => call_sortedD (X := cx B δ) (cl δ hδ)) hg hm (by decide +kernel) ha st (hr := fun F St H v x q Q r i w k => ?_)
  obtain ⟨ds, ts, hv, hb, h64, hz, w⟩ := w
  obtain ⟨a, kvs, ev, hd, z, m⟩ := dview_of r i hv
  refine ⟨a, kvs, ts.map mkS, by rw [ev], .inl hd, keys_of m hb, by rw [List.length_map]; exact h64, fun ys p h1 h2 hp => ?_⟩
  have hp1 := perm_out h1
  obtain ⟨F', f2, r2, i2⟩ := new_strs r (ts := ts) (fun y hy => small_of (hz y hy)) (by rw [h1.length_eq, List.length_map]; omega) (fun y hy => hp1.mem_iff.mp hy) hp
  exact k _ F' _ _ f2 r2 i2 (w _ hp1 (List.pairwise_map.mpr (sortedS_pair ys h2)))
theorem SE.strI {p : Pos} (hg : ∀ δ, Y δ → Gl (cx B δ) "str") (hm : B.mg "str" = none) (ha : SE B Y W C xq a wa) (st : notStar a = true) :
    SE B Y W C xq (.Call (.Name "str" p) [a] [] pos) (fun ρ St q => wa ρ St fun x S1 => wB1 .str x S1 fun d => q d S1) := by
  refine SE.bty (z := wB1 .str) (r := _) (fun δ hδ => call_str_int (X := cx B δ)) hg hm (by decide +kernel) ha st (hr := fun F St H v x q Q r i w k => ?_)
  cases i with
  | int i =>
    obtain ⟨⟨h1, h2⟩, w⟩ := w
    refine ⟨i, rfl, h1, ?_⟩
    have := k _ F (.str (mkS (decS i))) H Fr.refl r (.str _ (Nat.le_of_lt (small1000 h2))) w
    rw [show mkS (decS i) = Str.ofString (toString i) from mkS_tl _] at this
    exact this
  | _ => exact w.elim
theorem SE.b1 {f : B1} {nm : Str} {p : Pos} (cl : ∀ δ, Y δ → δ.calm = true) (hf : nm = (match f with | .max => "max" | .min => "min" | .sstr => "sorted" | .sdct => "sorted" | .str => "str" : Str)) (hg : ∀ δ, Y δ → Gl (cx B δ) nm) (hm : B.mg nm = none) (ha : SE B Y W C xq a wa) (st : notStar a = true) :
    SE B Y W C xq (.Call (.Name nm p) [a] [] pos) (fun ρ St q => wa ρ St fun x S1 => wB1 f x S1 fun d => q d S1) := by
  cases f <;> subst hf
  · exact SE.maxf cl hg hm ha st
  · exact SE.minf cl hg hm ha st
  · exact SE.sstr hg hm ha st
  · exact SE.sdct cl hg hm ha st
  · exact SE.strI hg hm ha st
/-- sorted(set(a)) -/
theorem SE.ssrt {p p2 q2 : Pos} (cl : ∀ δ, Y δ → δ.calm = true) (hg : ∀ δ, Y δ → Gl (cx B δ) "sorted") (hm : B.mg "sorted" = none) (hg2 : ∀ δ, Y δ → Gl (cx B δ) "set") (hm2 : B.mg "set" = none) (ha : SE B Y W C xq a wa) (st : notStar a = true) :
    SE B Y W C xq (.Call (.Name "sorted" p) [.Call (.Name "set" p2) [a] [] q2] [] pos) (fun ρ St q => wa ρ St fun x S1 => ∃ ds ts, vw S1 x = some ds ∧ strsD ds = some ts ∧ ts.length < 64 ∧ ∀ ys : List Bs, ys.Nodup → (ys.Pairwise fun a b => ¬ b < a) → (∀ k, k ∈ ys ↔ k ∈ ts) → ys.length ≤ ts.length → q (.lst (ys.map .str)) S1) := by
  obtain ⟨ta, pa, ka⟩ := ha.ex
  refine ⟨⟨tSetS B.K ta, fun δ hδ => pe_setS (X := cx B δ) (cl δ hδ) (hg δ hδ) hm (hg2 δ hδ) hm2 (pa δ hδ) (star_cons st _), fun ρ St F σ H q Q r e x w k => ?_⟩⟩
  refine ka ρ St F σ H _ _ r e x w fun d S1 F1 v H1 f1 r1 i1 w1 => ?_
  obtain ⟨ds, ts, hv, hb, h64, w1⟩ := w1
  obtain ⟨l, xs, ev, z, il, h⟩ := view_of r1 i1 hv
  obtain ⟨e1, hz⟩ := strs_of il hb
  have inj : ∀ {x y : Str}, x.cps.toList = y.cps.toList → x = y := fun {x y} h => by rw [← mkS_tl x, ← mkS_tl y, h]
  refine ⟨l, ts.map mkS, ev, ?_, by rw [List.length_map]; exact h64, fun ys p h1 h2 h3 h4 hp => ?_⟩
  · rw [← e1]
    rcases h with ⟨h, _⟩ | ⟨h, _⟩
    · exact .inr h
    · exact .inl (SqL.of h)
  have hm' : ∀ k, k ∈ (ys.map fun y => y.cps.toList) ↔ k ∈ ts := fun k => by
    constructor
    · intro hk
      obtain ⟨y, hy, rfl⟩ := List.mem_map.mp hk
      obtain ⟨t, ht, e⟩ := List.mem_map.mp ((h3 y).mp hy)
      rw [← e]
      simpa [mkS] using ht
    · intro hk
      exact List.mem_map.mpr ⟨mkS k, (h3 _).mpr (List.mem_map_of_mem hk), by simp [mkS]⟩
  obtain ⟨F', f2, r2, i2⟩ := new_strs r1 (ys := ys) hz (by rw [List.length_map] at h4; omega) (fun y hy => (hm' y).mp hy) hp
  refine k _ S1 F' _ _ (f1.trans f2) r2 i2 (w1 _ ?_ (List.pairwise_map.mpr h2) hm' (by rw [List.length_map] at h4 ⊢; exact h4))
  exact List.pairwise_map.mpr (h1.imp fun ne e => ne (inj e))
theorem SE.slen {p p2 q2 : Pos} (cl : ∀ δ, Y δ → δ.calm = true) (hg : ∀ δ, Y δ → Gl (cx B δ) "len") (hm : B.mg "len" = none) (hg2 : ∀ δ, Y δ → Gl (cx B δ) "set") (hm2 : B.mg "set" = none) (ha : SE B Y W C xq a wa) (st : notStar a = true) :
    SE B Y W C xq (.Call (.Name "len" p) [.Call (.Name "set" p2) [a] [] q2] [] pos) (fun ρ St q => wa ρ St fun x S1 => ∃ ds ts, vw S1 x = some ds ∧ strsD ds = some ts ∧ ts.length < 64 ∧ ∀ n : Nat, (∃ ys : List Bs, ys.Nodup ∧ (∀ k, k ∈ ys ↔ k ∈ ts) ∧ ys.length = n) → q (.int n) S1) := by
  obtain ⟨ta, pa, ka⟩ := ha.ex
  refine ⟨⟨tSetN B.K ta, fun δ hδ => pe_setN (X := cx B δ) (cl δ hδ) (hg δ hδ) hm (hg2 δ hδ) hm2 (pa δ hδ) (star_cons st _), fun ρ St F σ H q Q r e x w k => ?_⟩⟩
  refine ka ρ St F σ H _ _ r e x w fun d S1 F1 v H1 f1 r1 i1 w1 => ?_
  obtain ⟨ds, ts, hv, hb, h64, w1⟩ := w1
  obtain ⟨l, xs, ev, z, il, h⟩ := view_of r1 i1 hv
  obtain ⟨e1, hz⟩ := strs_of il hb
  have inj : ∀ {x y : Str}, x.cps.toList = y.cps.toList → x = y := fun {x y} h => by rw [← mkS_tl x, ← mkS_tl y, h]
  refine ⟨l, ts.map mkS, ev, ?_, by rw [List.length_map]; exact h64, ?_⟩
  · rw [← e1]
    rcases h with ⟨h, _⟩ | ⟨h, _⟩
    · exact .inr h
    · exact .inl (SqL.of h)
  obtain ⟨U, hU, nd, hm', _⟩ := uniq_ok (ts.map mkS)
  rw [hU]
  refine k _ S1 F1 _ _ f1 r1 (.int _) (w1 _ ⟨U.map fun y => y.cps.toList, List.pairwise_map.mpr (nd.imp fun ne e => ne (inj e)), fun k => ?_, List.length_map _⟩)
  constructor
  · intro hk
    obtain ⟨y, hy, rfl⟩ := List.mem_map.mp hk
    obtain ⟨t, ht, e⟩ := List.mem_map.mp ((hm' y).mp hy)
    rw [← e]
    simpa [mkS] using ht
  · intro hk
    exact List.mem_map.mpr ⟨mkS k, (hm' _).mpr (List.mem_map_of_mem hk), by simp [mkS]⟩
theorem IsM.drop {K : PySem.W.Frag} {F : Hp} {q : Key} : ∀ {v : List (Key × V)} {d : List (D × D)}, IsM K F v d → IsM K F (dropK v q) (dropD d (kD q))
  | _, _, .nil => .nil
  | _, _, @IsM.cons _ _ k v vs d ds h t => by
    have ih := IsM.drop (q := q) t
    unfold dropK dropD at ih ⊢
    rw [List.filter_cons, List.filter_cons]
    show IsM K F (if decide (k ≠ q) = true then _ else _) (if (!keyb (kD k) (kD q)) = true then _ else _)
    rw [keyb_kD]
    by_cases e : k = q
    · rw [decide_eq_true e, if_neg (by simp [e]), if_neg (by simp)]
      exact ih
    · rw [decide_eq_false e, if_pos (by simp [e]), if_pos (by simp)]
      exact .cons h ih
theorem SE.dpop {p : Pos} (ho : SE B Y W C xq a wa) (hk : SE B Y W C xq b wb) (hd : SE B Y W C xq c wc) (hc : notCall a = true) (s1 : notStar b = true) (s2 : notStar c = true) (hl : (p.endLine == pos.line) = true) :
    SE B Y W C xq (.Call (.Attribute a "pop" p) [b, c] [] pos) (fun ρ St q => wa ρ St fun x S1 => ∃ p, x = .ref p ∧ (∃ kvs, S1 p = some (.dct kvs)) ∧ wb ρ S1 fun y S2 => wc ρ S2 fun z S3 =>
      ∃ kvs, S3 p = some (.dct kvs) ∧ isKey y = true ∧ (∀ e, lookD kvs y = some e → q e (ups S3 p (.dct (dropD kvs y)))) ∧ (lookD kvs y = none → q z S3)) := by
  obtain ⟨ta, pa, ka⟩ := ho.ex
  obtain ⟨tb, pb, kb⟩ := hk.ex
  obtain ⟨tc, pc, kc⟩ := hd.ex
  refine ⟨⟨tDPop2 ta tb tc, fun δ hδ => pe_dpop2 (X := cx B δ) (pa δ hδ) (pb δ hδ) (pc δ hδ) ⟨attr_base hc _ _ _, ?_, hl, ?_⟩, fun ρ St F σ H q Q r e x w k => ?_⟩⟩
  · rw [star_cons s1, star_cons s2]; rfl
  · rw [star_cons s1, star_cons s2]; rfl
  refine ka ρ St F σ H _ _ r e x w fun d S1 F1 v H1 f1 r1 i1 w1 => ?_
  obtain ⟨p, rfl, ⟨kv1, e1⟩, w1⟩ := w1
  cases i1
  obtain ⟨_, g1, _⟩ := (r1.own p _ e1).2
  refine ⟨p, rfl, .inl ⟨_, .inl g1⟩, ?_⟩
  refine kb ρ S1 F1 σ H1 _ _ r1 (e.mono f1.ext) (x.step f1) w1 fun d2 S2 F2 v2 H2 f2 r2 i2 w2 => ?_
  refine kc ρ S2 F2 σ H2 _ _ r2 ((e.mono f1.ext).mono f2.ext) ((x.step f1).step f2) w2 fun d3 S3 F3 v3 H3 f3 r3 i3 w3 => ?_
  obtain ⟨kds, e3, hkey, w4, w5⟩ := w3
  obtain ⟨hF, kvs, hH, hz, nd, m⟩ := r3.own p _ e3
  obtain ⟨y, ev, ed⟩ := isKey_of i2 hkey
  subst ed
  have f13 := (f1.trans f2).trans f3
  refine ⟨kvs, y, hH, ev, fun u hu => ?_, fun hn => ?_⟩
  · rcases m.look (q := y) with ⟨a1, _⟩ | ⟨u', d', a1, a2, a3⟩
    · rw [hu] at a1; cases a1
    · rw [hu] at a1
      cases a1
      have nd2 : ((dropK kvs y).map (·.1)).Nodup := nd.sublist ((List.filter_sublist).map _)
      obtain ⟨r4, f4⟩ := r3.write (o := .dK (dropK kvs y)) (q := .dct (dropD kds (kD y))) e3 ⟨dropK kvs y, upd_same, Nat.le_trans (List.length_filter_le _ _) hz, nd2, m.drop⟩
      exact k _ _ F3 _ _ (f13.trans f4) r4 a3 (w4 _ a2)
  · rcases m.look (q := y) with ⟨_, a1⟩ | ⟨u', d', a1, _⟩
    · exact k _ S3 F3 _ H3 f13 r3 i3 (w5 a1)
    · rw [hn] at a1; cases a1
end
end DL
/-! DL6: walks, targets, comprehensions, displays of dicts over data. -/
namespace DL
open PySem PySem.Spec PyProof.Rows L2

/-- what is walked gives the data ds, one after the other -/
def WD (K : PySem.W.Frag) (ω : World) (F : Hp) (J : L2.It) (ds : List D) : Prop :=
  ∃ (G : Hp → Prop) (Yd : Nat → Hp → V → Hp → Prop), Walk J ds.length G Yd ∧ (∀ (H F1 : Hp), Same F F1 → Same F1 H → G H) ∧
    ∀ (i : Nat) (H : Hp) (v : V) (H' : Hp), i < ds.length → Yd i H v H' → ∃ d, ds[i]? = some d ∧ ∀ (F1 : Hp) (S1 : Sto), SR K ω F1 S1 H → Same F F1 → ∃ F2, Fr F1 S1 H F2 S1 H' ∧ SR K ω F2 S1 H' ∧ Is K F2 v d

structure SI (B : Bx) (Y : Dl → Prop) (W : WX) (C : XC) (xq : QX) (tg x : Expr) (w : Env → Sto → (List D → Sto → Prop) → Prop) : Prop where
  ex : ∃ t : TI, (∀ δ, Y δ → PI (cx B δ) tg x t) ∧ ∀ (ρ : Env) (St : Sto) (F : Hp) (σ : L2.St) (H : Hp) (q : List D → Sto → Prop) (R : L2.It → Hp → Prop), SR B.K B.w F St H → RE B.K F ρ σ → EQ B.K B.w W C xq F St H σ → w ρ St q →
    (∀ ds S' F' H' J, Fr F St H F' S' H' → SR B.K B.w F' S' H' → WD B.K B.w F' J ds → ds.length ≤ sizeLine → q ds S' → R J H') → t σ H R
/-- slots at vs alone may differ -/
def Sl (vs : List Nat) (σ σ' : L2.St) : Prop := ∀ us : List Nat, (∀ i ∈ vs, i ∈ us) → wipe σ' us = wipe σ us
structure SG (B : Bx) (Y : Dl → Prop) (tg : Expr) (vs : List Nat) (b : D → Env → (Env → Prop) → Prop) : Prop where
  ex : ∃ g : TG, (∀ δ, Y δ → PG (cx B δ) tg g) ∧ ∀ (d : D) (ρ : Env) (σ : L2.St) (v : V) (F : Hp) (St : Sto) (H : Hp) (q : Env → Prop) (Q : L2.St → Hp → Prop), Is B.K F v d → SR B.K B.w F St H → RE B.K F ρ σ → b d ρ q →
    (∀ ρ' σ', RE B.K F ρ' σ' → Sl vs σ σ' → q ρ' → Q σ' H) → g v σ H Q
structure SGs (B : Bx) (Y : Dl → Prop) (tg : List Expr) (vs : List Nat) (b : List D → Env → (Env → Prop) → Prop) : Prop where
  ex : ∃ g : TGs, (∀ δ, Y δ → PGs (cx B δ) tg g) ∧ (∀ d ρ q, b d ρ q → d.length = tg.length) ∧ ∀ (d : List D) (ρ : Env) (σ : L2.St) (v : List V) (F : Hp) (St : Sto) (H : Hp) (q : Env → Prop) (Q : L2.St → Hp → Prop), IsL B.K F v d → SR B.K B.w F St H → RE B.K F ρ σ → b d ρ q →
    (∀ ρ' σ', RE B.K F ρ' σ' → Sl vs σ σ' → q ρ' → Q σ' H) → g v σ H Q

theorem wipe_set {v : Option V} : ∀ {us : List Nat} {i : Nat} {σ : L2.St}, i ∈ us → wipe (σ.set i v) us = wipe σ us
  | u :: us, i, σ, h => by
    unfold wipe
    by_cases hi : i ∈ us
    · rw [wipe_set hi]
    · have e : i = u := (List.mem_cons.mp h).resolve_right hi
      subst e
      have gen : ∀ {us : List Nat} {σ : L2.St}, i ∉ us → wipe (σ.set i v) us = (wipe σ us).set i v := by
        intro us
        induction us with
        | nil => intro σ _; rfl
        | cons w us ih =>
          intro σ hn
          unfold wipe
          rw [ih (fun z => hn (List.mem_cons_of_mem _ z)), List.set_comm _ _ (fun z => hn (by rw [z]; exact List.mem_cons_self))]
      rw [gen hi, List.set_set]
theorem Sl.set {vs : List Nat} {i : Nat} {σ : L2.St} {v : Option V} (h : i ∈ vs) : Sl vs σ (σ.set i v) := fun us hu => wipe_set (hu i h)
theorem Sl.trans {vs : List Nat} {a b c : L2.St} (h : Sl vs a b) (k : Sl vs b c) : Sl vs a c := fun us hu => (k us hu).trans (h us hu)
theorem Sl.mono {vs ws : List Nat} {a b : L2.St} (h : Sl vs a b) (k : ∀ i ∈ vs, i ∈ ws) : Sl ws a b := fun us hu => h us fun i hi => hu i (k i hi)

section
variable {B : Bx} {Y : Dl → Prop} {W : WX} {C : XC} {xq : QX} {a b c : Expr} {wa wb wc : Env → Sto → QD → Prop} {pos : Pos}
theorem SG.name {i : Nat} {x : Str} {vs : List Nat} (hN : B.N.Nodup) (hi : B.N[i]? = some x) (hx : ∀ δ, Y δ → Loc δ.env.scope x ∧ (δ.fn x = true ∨ δ.env.scope.names.lookup x = some .local)) (hv : i ∈ vs) :
    SG B Y (.Name x pos) vs (fun d ρ q => q (put ρ i d)) :=
  ⟨⟨gName i, fun δ hδ => pg_name hN hi (hx δ hδ).1 (hx δ hδ).2, fun d ρ σ v F St H q Q is r e w k => k _ _ (e.put i is) (Sl.set hv) w⟩⟩
theorem SGs.nil {vs : List Nat} : SGs B Y [] vs (fun d ρ q => d = [] ∧ q ρ) :=
  ⟨⟨gNil, fun δ hδ => pgs_nil, fun d ρ q h => by rw [h.1]; rfl, fun d ρ σ v F St H q Q is r e w k => by
    obtain ⟨rfl, w⟩ := w
    cases is
    exact ⟨rfl, k ρ σ e (fun _ _ => rfl) w⟩⟩⟩
theorem SGs.cons {t : Expr} {ts : List Expr} {vs : List Nat} {b1 : D → Env → (Env → Prop) → Prop} {b2 : List D → Env → (Env → Prop) → Prop} (h1 : SG B Y t vs b1) (h2 : SGs B Y ts vs b2) (hs : notStar t = true)
    (m1 : ∀ d ρ q, b1 d ρ q → ∃ ρ', q ρ') :
    SGs B Y (t :: ts) vs (fun d ρ q => ∃ x r, d = x :: r ∧ b1 x ρ fun ρ' => b2 r ρ' q) := by
  obtain ⟨g1, p1, k1⟩ := h1.ex
  obtain ⟨g2, p2, l2, k2⟩ := h2.ex
  refine ⟨⟨gCons g1 g2, fun δ hδ => pgs_cons (p1 δ hδ) (p2 δ hδ) (by cases t <;> first | rfl | cases hs), fun d ρ q h => ?_, fun d ρ σ v F St H q Q is r e w k => ?_⟩⟩
  · obtain ⟨x, r, rfl, w⟩ := h
    obtain ⟨ρ', w⟩ := m1 _ _ _ w
    rw [List.length_cons, List.length_cons, l2 _ _ _ w]
  · obtain ⟨x, rr, rfl, w⟩ := w
    cases is with
    | @cons u us _ _ i1 i2 =>
      refine ⟨u, us, rfl, k1 x ρ σ u F St H _ _ i1 r e w fun ρ' σ' e1 s1 w1 => ?_⟩
      exact k2 rr ρ' σ' us F St H _ _ i2 r e1 w1 fun ρ2 σ2 e2 s2 w2 => k ρ2 σ2 e2 (s1.trans s2) w2
theorem SG.tup {ts : List Expr} {vs : List Nat} {k : Nat} {b1 : List D → Env → (Env → Prop) → Prop} (cl : ∀ δ, Y δ → δ.calm = true) (h : SGs B Y ts vs b1) (hs : ts.all notStar = true) :
    SG B Y (.Tuple ts k pos) vs (fun d ρ q => match d with | .tup ds => b1 ds ρ q | _ => False) := by
  obtain ⟨g, p, l, kk⟩ := h.ex
  have ea : ∀ (es : List Expr) (env : PySem.Env), es.all notStar = true → (assignEach es env).length = es.length ∧ (assignEach es env).findIdx? (·.1) = none := by
    intro es env
    induction es with
    | nil => intro _; exact ⟨rfl, rfl⟩
    | cons x es ih =>
      intro h
      rw [List.all_cons, Bool.and_eq_true] at h
      obtain ⟨i1, i2⟩ := ih h.2
      have : assignEach (x :: es) env = (false, assign x env) :: assignEach es env := by cases x <;> first | rfl | cases h.1
      rw [this]
      exact ⟨by rw [List.length_cons, List.length_cons, i1], by rw [List.findIdx?_cons, i2]; rfl⟩
  refine ⟨⟨gTup B.K ts.length g, fun δ hδ => pg_tup (X := cx B δ) (cl δ hδ) (p δ hδ) (ea ts _ hs).1 (ea ts _ hs).2, fun d ρ σ v F St H q Q is r e w k => ?_⟩⟩
  cases is with
  | @tup a xs ds hx z il =>
    exact ⟨a, xs, rfl, sqT_same r.sub hx, by rw [il.length]; exact l _ _ _ w, kk ds ρ σ xs F St H q Q il r e w k⟩
  | _ => exact False.elim w

/-! ### walks -/
theorem wd_list {K : PySem.W.Frag} {ω : World} {F : Hp} {a : Addr} {xs : List V} {ds : List D} (h : F a = some (.lst xs)) (il : IsL K F xs ds) : WD K ω F (Itl K a) ds := by
  refine ⟨fun H => SqL K H a xs, YAt xs, by rw [← il.length]; exact walk_list, fun H F1 e1 e2 => SqL.of (e2 _ _ (e1 _ _ h)), fun i H v H' hi y => ?_⟩
  obtain ⟨rfl, y⟩ := y
  obtain ⟨d, hd, iv⟩ := il.getV y
  exact ⟨d, hd, fun F1 S1 r e => ⟨F1, Fr.refl, r, iv.mono e⟩⟩
theorem isl_ints {K : PySem.W.Frag} {F : Hp} : ∀ {ns : List Int}, IsL K F (ns.map V.int) (ns.map D.int)
  | [] => .nil
  | n :: ns => .cons (.int n) isl_ints
theorem wd_seq {K : PySem.W.Frag} {ω : World} {F : Hp} {a : Addr} {xs : List V} {ds : List D} (h : SqL K F a xs) (il : IsL K F xs ds) : WD K ω F (Itl K a) ds := by
  refine ⟨fun H => SqL K H a xs, YAt xs, by rw [← il.length]; exact walk_list, fun H F1 e1 e2 => sqL_same e2 (sqL_same e1 h), fun i H v H' hi y => ?_⟩
  obtain ⟨rfl, y⟩ := y
  obtain ⟨d, hd, iv⟩ := il.getV y
  exact ⟨d, hd, fun F1 S1 r e => ⟨F1, Fr.refl, r, iv.mono e⟩⟩
theorem wd_tup {K : PySem.W.Frag} {ω : World} {F : Hp} {a : Addr} {xs : List V} {ds : List D} (h : SqT K F a xs) (il : IsL K F xs ds) : WD K ω F (Itt K a) ds := by
  refine ⟨fun H => SqT K H a xs, YAt xs, by rw [← il.length]; exact walk_tup, fun H F1 e1 e2 => sqT_same e2 (sqT_same e1 h), fun i H v H' hi y => ?_⟩
  obtain ⟨rfl, y⟩ := y
  obtain ⟨d, hd, iv⟩ := il.getV y
  exact ⟨d, hd, fun F1 S1 r e => ⟨F1, Fr.refl, r, iv.mono e⟩⟩
theorem wd_str {K : PySem.W.Frag} {ω : World} {F : Hp} {s : Bs} : WD K ω F (Its (mkS s)) (s.map fun c => D.str [c]) := by
  refine ⟨fun _ => True, _, by
    have e : (s.map fun c => D.str [c]).length = (mkS s).cps.size := by simp [mkS]
    rw [e]; exact walk_str, fun _ _ _ _ => trivial, fun i H v H' hi y => ?_⟩
  obtain ⟨rfl, c, hc, rfl⟩ := y
  refine ⟨.str [c], ?_, fun F1 S1 r e => ⟨F1, Fr.refl, r, .str [c] (Nat.le_of_lt (small1000 (by simp)))⟩⟩
  have : s[i]? = some c := by simpa [mkS] using hc
  rw [List.getElem?_map, this]
  rfl
theorem rangeD_length : ∀ (n : Nat) (lo : Int), (rangeD lo n).length = n
  | 0, _ => rfl
  | n + 1, lo => by rw [rangeD, List.length_cons, rangeD_length n]
theorem rangeD_get : ∀ (n : Nat) (lo : Int) (i : Nat), i < n → (rangeD lo n)[i]? = some (.int (lo + i))
  | n + 1, lo, 0, _ => by simp [rangeD]
  | n + 1, lo, i + 1, h => by
    rw [rangeD, List.getElem?_cons_succ, rangeD_get n (lo + 1) i (by omega)]
    congr 2
    omega
theorem wd_range {K : PySem.W.Frag} {ω : World} {F : Hp} {lo : Int} {n : Nat} : WD K ω F (Itr lo n) (rangeD lo n) := by
  refine ⟨fun _ => True, _, by rw [rangeD_length]; exact walk_range, fun _ _ _ _ => trivial, fun i H v H' hi y => ?_⟩
  obtain ⟨rfl, rfl⟩ := y
  rw [rangeD_length] at hi
  exact ⟨_, rangeD_get n lo i hi, fun F1 S1 r e => ⟨F1, Fr.refl, r, .int _⟩⟩
theorem enumD_length : ∀ (ds : List D) (n : Nat), (enumD n ds).length = ds.length
  | [], _ => rfl
  | d :: r, n => by rw [enumD, List.length_cons, enumD_length r, List.length_cons]
theorem enumD_get : ∀ (ds : List D) (n i : Nat) (d : D), ds[i]? = some d → (enumD n ds)[i]? = some (.tup [.int ((n + i : Nat)), d])
  | d :: r, n, 0, _, h => by simp at h; subst h; simp [enumD]
  | d :: r, n, i + 1, e, h => by
    rw [enumD, List.getElem?_cons_succ, enumD_get r (n + 1) i e (by simpa using h), show n + 1 + i = n + (i + 1) by omega]
theorem wd_enum {K : PySem.W.Frag} {ω : World} {F : Hp} {a : Addr} {xs : List V} {ds : List D} (h : F a = some (.lst xs)) (il : IsL K F xs ds) : WD K ω F (Ite K a) (enumD 0 ds) := by
  refine ⟨fun H => SqL K H a xs, _, by rw [enumD_length, ← il.length]; exact walk_enum, fun H F1 e1 e2 => SqL.of (e2 _ _ (e1 _ _ h)), fun i H v H' hi y => ?_⟩
  obtain ⟨T, x, y, rfl, hT, rfl, hx, hy⟩ := y
  cases hx
  obtain ⟨d, hd, iv⟩ := il.getV hy
  have e0 := enumD_get ds 0 i d hd
  rw [Nat.zero_add] at e0
  refine ⟨_, e0, fun F1 S1 r e => ?_⟩
  obtain ⟨r2, f2⟩ := r.lay (o := .tup [.int (i : Nat), y]) hT
  exact ⟨_, f2, r2, .tup (.inl (.inl upd_same)) (Nat.le_of_lt (small1000 (by simp))) (.cons (.int _) (.cons ((iv.mono e).mono f2.ext) .nil))⟩
theorem walk_enumT {K : PySem.W.Frag} {a : Addr} {xs : List V} : Walk (IteT K a) xs.length (fun H => SqT K H a xs) (YPair (fun i => some (.int (i : Nat))) (fun i => xs[i]?)) := by
  refine ⟨fun i _ hi g => ⟨xs, xs[i], g, by simp [hi]⟩, fun _ g => ⟨xs, g, Nat.le_refl _⟩, fun i H v H' _ g y => ?_⟩
  obtain ⟨T, x, e1, e2, e3, e4⟩ := y
  exact ⟨T, .int (i : Nat), x, e1, e2, e3, rfl, e4 xs g⟩
theorem wd_enumT {K : PySem.W.Frag} {ω : World} {F : Hp} {a : Addr} {xs : List V} {ds : List D} (h : SqT K F a xs) (il : IsL K F xs ds) : WD K ω F (IteT K a) (enumD 0 ds) := by
  refine ⟨fun H => SqT K H a xs, _, by rw [enumD_length, ← il.length]; exact walk_enumT, fun H F1 e1 e2 => sqT_same e2 (sqT_same e1 h), fun i H v H' hi y => ?_⟩
  obtain ⟨T, x, y, rfl, hT, rfl, hx, hy⟩ := y
  cases hx
  obtain ⟨d, hd, iv⟩ := il.getV hy
  have e0 := enumD_get ds 0 i d hd
  rw [Nat.zero_add] at e0
  refine ⟨_, e0, fun F1 S1 r e => ?_⟩
  obtain ⟨r2, f2⟩ := r.lay (o := .tup [.int (i : Nat), y]) hT
  exact ⟨_, f2, r2, .tup (.inl (.inl upd_same)) (Nat.le_of_lt (small1000 (by simp))) (.cons (.int _) (.cons ((iv.mono e).mono f2.ext) .nil))⟩
theorem zipD_length : ∀ (a b : List D), (zipD a b).length = min a.length b.length
  | [], [] => rfl
  | [], _ :: _ => by simp [zipD]
  | _ :: _, [] => by simp [zipD]
  | x :: r, y :: s => by rw [zipD, List.length_cons, zipD_length r s, List.length_cons, List.length_cons]; omega
theorem zipD_get : ∀ (a b : List D) (i : Nat) (d e : D), a[i]? = some d → b[i]? = some e → (zipD a b)[i]? = some (.tup [d, e])
  | x :: r, y :: s, 0, d, e, h, k => by simp at h k; subst h k; simp [zipD]
  | x :: r, y :: s, i + 1, d, e, h, k => by
    rw [zipD, List.getElem?_cons_succ]
    exact zipD_get r s i d e (by simpa using h) (by simpa using k)
  | [], _, _, _, _, h, _ => by simp at h
  | _ :: _, [], _, _, _, _, k => by simp at k
theorem wd_zip {K : PySem.W.Frag} {ω : World} {F : Hp} {a b : Addr} {xs ys : List V} {ds es : List D} (h : F a = some (.lst xs)) (il : IsL K F xs ds) (h2 : F b = some (.lst ys)) (il2 : IsL K F ys es) : WD K ω F (Itz K a b) (zipD ds es) := by
  refine ⟨fun H => SqL K H a xs ∧ SqL K H b ys, _, walk_zip (n := (zipD ds es).length) (by rw [zipD_length, ← il.length, ← il2.length]), fun H F1 e1 e2 => ⟨SqL.of (e2 _ _ (e1 _ _ h)), SqL.of (e2 _ _ (e1 _ _ h2))⟩, fun i H v H' hi y => ?_⟩
  obtain ⟨T, x, y, rfl, hT, rfl, hx, hy⟩ := y
  obtain ⟨d, hd, iv⟩ := il.getV hx
  obtain ⟨d2, hd2, iv2⟩ := il2.getV hy
  refine ⟨_, zipD_get ds es i d d2 hd hd2, fun F1 S1 r e => ?_⟩
  obtain ⟨r2, f2⟩ := r.lay (o := .tup [x, y]) hT
  exact ⟨_, f2, r2, .tup (.inl (.inl upd_same)) (Nat.le_of_lt (small1000 (by simp))) (.cons ((iv.mono e).mono f2.ext) (.cons ((iv2.mono e).mono f2.ext) .nil))⟩

/-- what is walked by its value: a list, a tuple, a text -/
def iAny (K : PySem.W.Frag) (tl : TE) : TI := fun σ H R => tl σ H fun x H1 => (∃ a, x = .ref a ∧ (∃ xs, SqL K H1 a xs) ∧ R (Itl K a) H1) ∨ (∃ a, x = .ref a ∧ (∃ xs, SqT K H1 a xs) ∧ R (Itt K a) H1) ∨ ∃ z, x = .str z ∧ R (Its z) H1
theorem pi_any {X : Cx} {tg l : Expr} {tl : TE} (hl : PE X l tl) : PI X tg l (iAny X.K tl) := by
  refine ⟨fun pins s σ H R I h => ?_⟩
  refine thn (hl.run pins s σ H _ I h) fun v s1 hv => ?_
  obtain ⟨x, H1, I1, r1, q⟩ := hv
  rcases q with ⟨a, ex, ⟨xs, hq⟩, q⟩ | ⟨a, ex, ⟨xs, hq⟩, q⟩ | ⟨z, ex, q⟩
  · subst ex
    cases r1
    obtain ⟨its, rv, p, hz⟩ := I1.list hq
    refine wpAny_pyIter_list p.isList ?_
    refine ⟨s1.heap.objs.size, [s1.heap.objs.size], _, _, H1, rfl, I1.kept (t' := s1.toks) fun b o e => Heap.get?_push_of_some _ e, turn_list a _, ⟨_, Heap.get?_push_size _ rfl, rfl, rfl⟩, fun b hb => ?_, q⟩
    have e : b = s1.heap.objs.size := by simpa using hb
    subst e
    exact I1.fpOk (Nat.le_refl _) (I1.hok.fresh (Nat.le_refl _))
  · subst ex
    cases r1
    obtain ⟨its, rv, p, hz⟩ := I1.tuple hq
    refine wpAny_pyIter_tuple (show s1.heap.IsTuple a its.toArray from p) ?_
    refine ⟨s1.heap.objs.size, [s1.heap.objs.size], _, _, H1, rfl, I1.kept (t' := s1.toks) fun b o e => Heap.get?_push_of_some _ e, turn_tuple a _, ⟨_, Heap.get?_push_size _ rfl, rfl, rfl⟩, fun b hb => ?_, q⟩
    have e : b = s1.heap.objs.size := by simpa using hb
    subst e
    exact I1.fpOk (Nat.le_refl _) (I1.hok.fresh (Nat.le_refl _))
  · subst ex
    obtain ⟨t, rfl⟩ := r1
    cases ha : z.cps.all (· < 128)
    · exact wpAny_pyIter_wide ha (pi_one (tk := s1.toks) I1 _ (turn_str _ z t "str_iterator" (.inr rfl)) ⟨_, Heap.get?_push_size _ rfl, rfl, rfl⟩ q)
    · exact wpAny_pyIter_ascii ha (pi_one (tk := s1.toks) I1 _ (turn_str _ z t "str_ascii_iterator" (.inl rfl)) ⟨_, Heap.get?_push_size _ rfl, rfl, rfl⟩ q)
theorem SI.over {tg : Expr} (ha : SE B Y W C xq a wa) : SI B Y W C xq tg a (fun ρ St q => wa ρ St fun x S1 => match x with
    | .tup ds => q ds S1
    | .lst ds => q ds S1
    | .str s => q (s.map fun c => .str [c]) S1
    | .scr ns => q (ns.map .int) S1
    | _ => False) := by
  obtain ⟨ta, pa, ka⟩ := ha.ex
  refine ⟨⟨iAny B.K ta, fun δ hδ => pi_any (X := cx B δ) (pa δ hδ), fun ρ St F σ H q R r e x w k => ?_⟩⟩
  refine ka ρ St F σ H _ _ r e x w fun d S1 F1 v H1 f1 r1 i1 w1 => ?_
  cases i1 with
  | @tup p xs ds hx z il => exact .inr (.inl ⟨p, rfl, ⟨xs, sqT_same r1.sub hx⟩, k ds S1 F1 H1 _ f1 r1 (wd_tup hx il) (by rw [← il.length]; exact z) w1⟩)
  | @lst p xs ds hx z il => exact .inl ⟨p, rfl, ⟨xs, SqL.of (r1.sub _ _ hx)⟩, k ds S1 F1 H1 _ f1 r1 (wd_list hx il) (by rw [← il.length]; exact z) w1⟩
  | str s z => exact .inr (.inr ⟨mkS s, rfl, k _ S1 F1 H1 _ f1 r1 wd_str (by rw [List.length_map]; exact z) w1⟩)
  | @scr p ns hx z => exact .inl ⟨p, rfl, ⟨ns.map V.int, sqL_same r1.sub hx⟩, k _ S1 F1 H1 _ f1 r1 (wd_seq hx isl_ints) (by rw [List.length_map]; exact z) w1⟩
  | _ => exact False.elim w1
theorem SI.rng1 {tg : Expr} {p : Pos} (hg : ∀ δ, Y δ → Gl (cx B δ) "range") (hm : B.mg "range" = none) (ha : SE B Y W C xq a wa) (st : notStar a = true) :
    SI B Y W C xq tg (.Call (.Name "range" p) [a] [] pos) (fun ρ St q => wa ρ St fun x S1 => match x with | .int j => (j ≤ 16777216 ∧ -(2 ^ 62) ≤ j) ∧ q (rangeD 0 j.toNat) S1 | _ => False) := by
  obtain ⟨ta, pa, ka⟩ := ha.ex
  refine ⟨⟨iRng1 (tCons ta tNil), fun δ hδ => pi_range1 (hg δ hδ) hm (pa_cons (pa δ hδ) pa_nil (star_cons st _)) (by rw [star_cons st]; rfl), fun ρ St F σ H q R r e x w k => ?_⟩⟩
  refine ka ρ St F σ H _ _ r e x w fun d S1 F1 v H1 f1 r1 i1 w1 => ?_
  cases i1 with
  | int j =>
    obtain ⟨⟨h1, h2⟩, w1⟩ := w1
    exact ⟨j, rfl, h2, by omega, k _ S1 F1 H1 _ f1 r1 wd_range (by rw [rangeD_length, sizeLine_eq]; omega) w1⟩
  | _ => exact False.elim w1
theorem SI.rng2 {tg : Expr} {p : Pos} (hg : ∀ δ, Y δ → Gl (cx B δ) "range") (hm : B.mg "range" = none) (ha : SE B Y W C xq a wa) (hb : SE B Y W C xq b wb) (st : notStar a = true) (st2 : notStar b = true) :
    SI B Y W C xq tg (.Call (.Name "range" p) [a, b] [] pos) (fun ρ St q => wa ρ St fun x S1 => wb ρ S1 fun y S2 => match x, y with
      | .int i, .int j => (-(2 ^ 62) ≤ i ∧ i < 2 ^ 62 ∧ -(2 ^ 62) ≤ j ∧ j < 2 ^ 62 ∧ j - i ≤ 16777216) ∧ q (rangeD i (j - i).toNat) S2
      | _, _ => False) := by
  obtain ⟨ta, pa, ka⟩ := ha.ex
  obtain ⟨tb, pb, kb⟩ := hb.ex
  refine ⟨⟨iRng2 (tCons ta (tCons tb tNil)), fun δ hδ => pi_range2 (hg δ hδ) hm (pa_cons (pa δ hδ) (pa_cons (pb δ hδ) pa_nil (star_cons st2 _)) (star_cons st _)) (by rw [star_cons st, star_cons st2]; rfl) (by rw [star_cons st2]; rfl), fun ρ St F σ H q R r e x w k => ?_⟩⟩
  refine ka ρ St F σ H _ _ r e x w fun d S1 F1 v H1 f1 r1 i1 w1 => ?_
  refine kb ρ S1 F1 σ H1 _ _ r1 (e.mono f1.ext) (x.step f1) w1 fun d2 S2 F2 v2 H2 f2 r2 i2 w2 => ?_
  cases i1 with
  | int i => cases i2 with
    | int j =>
      obtain ⟨⟨h1, h2, h3, h4, h5⟩, w2⟩ := w2
      exact ⟨i, j, rfl, ⟨h1, h2, h3, h4⟩, k _ S2 F2 H2 _ (f1.trans f2) r2 wd_range (by rw [rangeD_length, sizeLine_eq]; omega) w2⟩
    | _ => exact False.elim w2
  | _ => exact False.elim (by cases d2 <;> exact w2)
theorem SI.enum {es : List Expr} {kk : Nat} {tpos p : Pos} (hg : ∀ δ, Y δ → Gl (cx B δ) "enumerate") (hm : B.mg "enumerate" = none) (ha : SE B Y W C xq a wa) (st : notStar a = true) :
    SI B Y W C xq (.Tuple es kk tpos) (.Call (.Name "enumerate" p) [a] [] pos) (fun ρ St q => wa ρ St fun x S1 => match x with | .lst ds => q (enumD 0 ds) S1 | .tup ds => q (enumD 0 ds) S1 | _ => False) := by
  obtain ⟨ta, pa, ka⟩ := ha.ex
  refine ⟨⟨iEnumA B.K (tCons ta tNil), fun δ hδ => pi_enumA (X := cx B δ) (hg δ hδ) hm (pa_cons (pa δ hδ) pa_nil (star_cons st _)) (by rw [star_cons st]; rfl), fun ρ St F σ H q R r e x w k => ?_⟩⟩
  refine ka ρ St F σ H _ _ r e x w fun d S1 F1 v H1 f1 r1 i1 w1 => ?_
  cases i1 with
  | @lst p xs ds hx z il => exact .inl ⟨p, xs, rfl, SqL.of (r1.sub _ _ hx), k _ S1 F1 H1 _ f1 r1 (wd_enum hx il) (by rw [enumD_length, ← il.length]; exact z) w1⟩
  | @tup p xs ds hx z il => exact .inr ⟨p, xs, rfl, sqT_same r1.sub hx, k _ S1 F1 H1 _ f1 r1 (wd_enumT hx il) (by rw [enumD_length, ← il.length]; exact z) w1⟩
  | _ => exact False.elim w1
theorem SI.zip {es : List Expr} {kk : Nat} {tpos p : Pos} (hg : ∀ δ, Y δ → Gl (cx B δ) "zip") (hm : B.mg "zip" = none) (ha : SE B Y W C xq a wa) (hb : SE B Y W C xq b wb) (st : notStar a = true) (st2 : notStar b = true) :
    SI B Y W C xq (.Tuple es kk tpos) (.Call (.Name "zip" p) [a, b] [] pos) (fun ρ St q => wa ρ St fun x S1 => wb ρ S1 fun y S2 => match x, y with
      | .lst ds, .lst es => q (zipD ds es) S2
      | _, _ => False) := by
  obtain ⟨ta, pa, ka⟩ := ha.ex
  obtain ⟨tb, pb, kb⟩ := hb.ex
  refine ⟨⟨iZip B.K (tCons ta (tCons tb tNil)), fun δ hδ => pi_zip (X := cx B δ) (hg δ hδ) hm (pa_cons (pa δ hδ) (pa_cons (pb δ hδ) pa_nil (star_cons st2 _)) (star_cons st _)) (by rw [star_cons st, star_cons st2] <;> rfl) (by rw [star_cons st2] <;> rfl), fun ρ St F σ H q R r e x w k => ?_⟩⟩
  refine ka ρ St F σ H _ _ r e x w fun d S1 F1 v H1 f1 r1 i1 w1 => ?_
  refine kb ρ S1 F1 σ H1 _ _ r1 (e.mono f1.ext) (x.step f1) w1 fun d2 S2 F2 v2 H2 f2 r2 i2 w2 => ?_
  have i1' := i1.mono f2.ext
  cases i1' with
  | @lst p xs ds hx z il => cases i2 with
    | @lst p2 ys es hy z2 il2 =>
      exact ⟨p, p2, xs, ys, rfl, SqL.of (r2.sub _ _ hx), SqL.of (r2.sub _ _ hy), k _ S2 F2 H2 _ (f1.trans f2) r2 (wd_zip hx il hy il2) (by rw [zipD_length, ← il.length]; omega) w2⟩
    | _ => exact False.elim w2
  | _ => exact False.elim (by cases d2 <;> exact w2)
end
end DL
/-! DL7: comprehensions, displays of dicts over data. -/
namespace DL
open PySem PySem.Spec PyProof.Rows L2

section
variable {K : PySem.W.Frag} {ω : World} {F H : Hp} {St : Sto}
/-- a cell of one's own, neither frozen nor in the store -/
theorem SR.priv (r : SR K ω F St H) {p : Addr} {o : HO} (hf : F p = none) (hs : St p = none) : SR K ω F St (upd H p o) :=
  ⟨fun b u e => by rw [upd_ne (ne_of_none e hf)]; exact r.sub _ _ e, fun a u e => by
    have na : a ≠ p := fun z => by subst z; rw [hs] at e; cases e
    obtain ⟨x, y⟩ := r.own a u e
    exact ⟨x, y.at (upd_ne na)⟩⟩
theorem Fr.priv {F1 H1 : Hp} {S1 : Sto} (f : Fr F1 S1 H1 F St H) {p : Addr} {o : HO} (h : H1 p = none) : Fr F1 S1 H1 F St (upd H p o) :=
  ⟨f.ext, fun a u e n => by
    obtain ⟨x, y, z⟩ := f.keep a u e n
    exact ⟨by rw [upd_ne (ne_of_none e h)]; exact x, y, z⟩⟩
/-- .. becomes frozen at the end -/
theorem SR.seal (r : SR K ω F St H) {p : Addr} {o : HO} (hf : F p = none) (hs : St p = none) (h : H p = some o) : SR K ω (upd F p o) St H :=
  ⟨fun b u e => by
    by_cases hb : b = p
    · subst hb; rw [upd_same] at e; rw [h]; exact e
    · rw [upd_ne hb] at e; exact r.sub _ _ e, fun a u e => by
    have na : a ≠ p := fun z => by subst z; rw [hs] at e; cases e
    obtain ⟨x, y⟩ := r.own a u e
    exact ⟨by rw [upd_ne na]; exact x, y.mono fun b u e => by rw [upd_ne (ne_of_none e hf)]; exact e⟩⟩
theorem Fr.seal {F1 H1 : Hp} {S1 : Sto} (f : Fr F1 S1 H1 F St H) {p : Addr} {o : HO} (h : H1 p = none) (hf : F p = none) : Fr F1 S1 H1 (upd F p o) St H :=
  ⟨f.ext.trans fun b u e => by rw [upd_ne (ne_of_none e hf)]; exact e, fun a u e n => by
    obtain ⟨x, y, z⟩ := f.keep a u e n
    exact ⟨x, y, fun g => by rw [upd_ne (ne_of_none e h)]; exact z g⟩⟩
end

/-- a cell of one's own joins the store -/
theorem SR.adopt {K : PySem.W.Frag} {ω : World} {F H : Hp} {St : Sto} (r : SR K ω F St H) {p : Addr} {q : DO} (hf : F p = none) (hs : St p = none) (hq : OIs K ω F H p q) {F0 H0 : Hp} {S0 : Sto} (f : Fr F0 S0 H0 F St H) (h0 : H0 p = none) : SR K ω F (ups St p q) H ∧ Fr F0 S0 H0 F (ups St p q) H := by
  refine ⟨⟨r.sub, fun a u e => ?_⟩, f.ext, fun a u e n => ?_⟩
  · by_cases hb : a = p
    · subst hb
      unfold ups at e
      rw [if_pos rfl] at e
      cases e
      exact ⟨hf, hq⟩
    · unfold ups at e
      rw [if_neg hb] at e
      exact r.own a u e
  · obtain ⟨x, y, z⟩ := f.keep a u e n
    have na : a ≠ p := ne_of_none e h0
    exact ⟨x, by unfold ups; rw [if_neg na]; exact y, z⟩
/-- the blocks of a comprehension -/
def blkY (Y : Dl → Prop) (scope : Scope) : Dl → Prop := fun δ' => ∃ δ s H C cl fp, Y δ ∧
  δ' = { δ with s_0 := s, H_0 := H, env := compEnvC scope cl C δ.env, outer := δ.stack, ex := fp, fn := fun x => scope.names.lookup x == some .cell, pn := [], xe := fun _ _ => False }
abbrev W0 : WX := fun _ _ _ _ => False
abbrev xq0 : QX := fun _ _ _ => False
theorem eq0 {K : PySem.W.Frag} {ω : World} {C : XC} {F H : Hp} {St : Sto} {σ : L2.St} : EQ K ω W0 C xq0 F St H σ := fun _ _ _ _ _ _ _ _ _ z => z
structure STs (B : Bx) (Y : Dl → Prop) (W : WX) (C : XC) (xq : QX) (xs : List Expr) (w : Env → Sto → (Bool → Sto → Prop) → Prop) : Prop where
  ex : ∃ t : TT, (∀ δ, Y δ → PTs (cx B δ) xs t) ∧ ∀ (ρ : Env) (St : Sto) (F : Hp) (σ : L2.St) (H : Hp) (q : Bool → Sto → Prop) (Q : Bool → Hp → Prop), SR B.K B.w F St H → RE B.K F ρ σ → EQ B.K B.w W C xq F St H σ → w ρ St q →
    (∀ b S' F' H', Fr F St H F' S' H' → SR B.K B.w F' S' H' → q b S' → Q b H') → t σ H Q
section
variable {B : Bx} {Y : Dl → Prop} {W : WX} {C : XC} {xq : QX} {a b c : Expr} {wa wb wc : Env → Sto → QD → Prop} {pos : Pos}
theorem STs.nil : STs B Y W C xq [] (fun _ St q => q true St) := ⟨⟨tYes, fun δ hδ => pts_nil, fun ρ St F σ H q Q r e x w k => k _ St F H Fr.refl r w⟩⟩
theorem STs.one {t : Env → Sto → (Bool → Sto → Prop) → Prop} (h : ST B Y W C xq a t) : STs B Y W C xq [a] t := by
  obtain ⟨tt, p, k⟩ := h.ex
  exact ⟨⟨tt, fun δ hδ => pts_one (p δ hδ), k⟩⟩
theorem wipe_wipe {σ : L2.St} {vs : List Nat} : wipe (wipe σ vs) vs = wipe σ vs := by
  have gen : ∀ us : List Nat, (∀ i ∈ us, i ∈ vs) → wipe (wipe σ us) vs = wipe σ vs := by
    intro us
    induction us with
    | nil => intro _; rfl
    | cons u us ih =>
      intro h
      rw [show wipe σ (u :: us) = (wipe σ us).set u none from rfl, wipe_set (h u List.mem_cons_self)]
      exact ih fun i hi => h i (List.mem_cons_of_mem _ hi)
  exact gen vs fun _ h => h
theorem drop_at {α : Type} {xs : List α} {i : Nat} {x : α} (h : xs[i]? = some x) : xs.drop i = x :: xs.drop (i + 1) := by
  obtain ⟨hi, e⟩ := List.getElem?_eq_some_iff.mp h
  rw [List.drop_eq_getElem_cons hi, e]
/-- a comprehension: as a value, given to a name, what it reads -/
theorem lc_ex {elt tg iter : Expr} {ifs : List Expr} {scope : Scope} {own : List (Str × Nat)} {vs : List Nat} {wi : Env → Sto → (List D → Sto → Prop) → Prop} {bd : D → Env → (Env → Prop) → Prop} {wt : Env → Sto → (Bool → Sto → Prop) → Prop} {we : Env → Sto → QD → Prop}
    (cl : ∀ δ, Y δ → δ.calm = true) (hN : B.N.Nodup) (hi : SI B Y W C xq tg iter wi) (ok : ∀ δ, Y δ → BlkOk B.N δ.env.scope scope own) (ho : own.map (·.2) = vs)
    (hg : SG B (blkY Y scope) tg vs bd) (ht : STs B (blkY Y scope) W0 C xq0 ifs wt) (he : SE B (blkY Y scope) W0 C xq0 elt we) (hs : notSet iter = true) :
    ∃ t : TE, (∀ δ, Y δ → PE (cx B δ) (.ListComp elt [⟨tg, iter, ifs, 0⟩] scope pos) t) ∧
      (∀ δ, Y δ → ∀ (i : Nat) (y : Str) (py spos : Pos), B.N[i]? = some y → δ.env.scope.names.lookup y = some .local → δ.env.scope.kind = .function → (py.line == pos.line) = true → (scope.names.any fun (n, k) => n == y && (k == .local || k == .cell)) = false →
        PS (cx B δ) (.Assign [.Name y py] (.ListComp elt [⟨tg, iter, ifs, 0⟩] scope pos) spos) (tAsg t (gName i))) ∧
      ∀ (ρ : Env) (St : Sto) (F : Hp) (σ : L2.St) (H : Hp) (q : QD) (Q : VK), SR B.K B.w F St H → RE B.K F ρ σ → EQ B.K B.w W C xq F St H σ → (wi ρ St fun ds S1 =>
        loopL (fun d S2 k => bd d (wip ρ vs) fun ρ' => wt ρ' S2 fun b S3 => if b = true then we ρ' S3 fun y S4 => k [y] S4 else k [] S3) ds S1 fun ys S2 => q (.lst ys) S2) →
        (∀ d S' F' v H', Fr F St H F' S' H' → SR B.K B.w F' S' H' → Is B.K F' v d → q d S' → Q v H') → t σ H Q := by
  subst ho
  obtain ⟨ti, pi, ki⟩ := hi.ex
  obtain ⟨g, pg, kg⟩ := hg.ex
  obtain ⟨tt, pt, kt⟩ := ht.ex
  obtain ⟨te, pe, ke⟩ := he.ex
  refine ⟨tLc ti g tt te (own.map (·.2)), fun δ hδ => pe_lc (X := cx B δ) (cl δ hδ) hN (pi δ hδ) (ok δ hδ) (fun s H C cl fp => pg _ ⟨δ, s, H, C, cl, fp, hδ, rfl⟩) (fun s H C cl fp => pt _ ⟨δ, s, H, C, cl, fp, hδ, rfl⟩) (fun s H C cl fp => pe _ ⟨δ, s, H, C, cl, fp, hδ, rfl⟩) (folded_set hs _),
    fun δ hδ i y py spos hy hyl hk hl ha => ps_setLc (X := cx B δ) (cl δ hδ) hN hy hyl (sw_true hk hyl hl ha) (pi δ hδ) (ok δ hδ) (fun s H C cl fp => pg _ ⟨δ, s, H, C, cl, fp, hδ, rfl⟩) (fun s H C cl fp => pt _ ⟨δ, s, H, C, cl, fp, hδ, rfl⟩) (fun s H C cl fp => pe _ ⟨δ, s, H, C, cl, fp, hδ, rfl⟩) (folded_set hs _), fun ρ St F σ H q Q r e x w k => ?_⟩
  refine ki ρ St F σ H _ _ r e x w fun ds S1 F1 H1 J f1 r1 wd hz w1 => ?_
  intro L hL
  obtain ⟨G, Yd, wk, hG, hY⟩ := wd
  obtain ⟨hFL, hSL⟩ := r1.fresh hL
  refine lc_it wk (fun i H2 => ∃ (acc : List V) (ys : List D) (S2 : Sto) (F2 : Hp), H2 L = some (.lst acc) ∧ acc.length ≤ i ∧ IsL B.K F2 acc ys ∧ F2 L = none ∧ S2 L = none ∧ Fr F1 S1 H1 F2 S2 H2 ∧ SR B.K B.w F2 S2 H2 ∧
      loopL (fun d S2 k => bd d (wip ρ (own.map (·.2))) fun ρ' => wt ρ' S2 fun b S3 => if b = true then we ρ' S3 fun y S4 => k [y] S4 else k [] S3) (ds.drop i) S2 fun zs S3 => q (.lst (ys ++ zs)) S3)
    ⟨[], [], S1, F1, upd_same, Nat.le_refl _, .nil, hFL, hSL, Fr.refl.priv hL, r1.priv hFL hSL, w1⟩
    (fun i H2 _ ⟨_, _, _, _, _, _, _, _, _, f2, r2, _⟩ => hG H2 _ f2.ext r2.sub) ?_ ?_
  · rintro i v H2 H3 hi ⟨acc, ys, S2, F2, hD, hl, il, hF, hS, f2, r2, w2⟩ y
    obtain ⟨d, hd, hy⟩ := hY i H2 v H3 hi y
    obtain ⟨F3, f3, r3, iv⟩ := hy F2 S2 r2 f2.ext
    rw [drop_at hd] at w2
    obtain ⟨hD3, hS3, hF3⟩ := f3.keep L _ hD hS
    have hF3 := hF3 hF
    have e3 : RE B.K F3 (wip ρ (own.map (·.2))) (wipe σ (own.map (·.2))) := ((e.mono f1.ext).mono ((f2.trans f3).ext)).wip _
    refine kg d _ (wipe σ (own.map (·.2))) v F3 S2 H3 _ _ iv r3 e3 w2 ?_
    intro ρ' σ' e4 sl w4
    refine ⟨?_, ?_⟩
    · exact (sl _ fun _ h => h).trans wipe_wipe
    · refine kt ρ' S2 F3 σ' H3 _ _ r3 e4 eq0 w4 fun b S5 F5 H5 f5 r5 w5 => ?_
      obtain ⟨hD5, hS5, hF5⟩ := f5.keep L _ hD3 hS3
      have hF5 := hF5 hF3
      have f15 := (f2.trans f3).trans f5
      cases b with
      | false =>
        exact ⟨acc, ys, S5, F5, hD5, by omega, (il.mono f3.ext).mono f5.ext, hF5, hS5, f15, r5, w5⟩
      | true =>
        refine ke ρ' S5 F5 σ' H5 _ _ r5 (e4.mono f5.ext) eq0 w5 fun d6 S6 F6 v6 H6 f6 r6 i6 w6 => ?_
        obtain ⟨hD6, hS6, hF6⟩ := f6.keep L _ hD5 hS5
        have hF6 := hF6 hF5
        refine ⟨acc, hD6, Nat.lt_of_le_of_lt hl (Nat.lt_of_lt_of_le hi hz), acc ++ [v6], ys ++ [d6], S6, F6, upd_same, by rw [List.length_append, List.length_singleton]; omega,
          (((il.mono f3.ext).mono f5.ext).mono f6.ext).snoc i6, hF6, hS6, (f15.trans f6).priv hL, r6.priv hF6 hS6, ?_⟩
        have : (fun (zs : List D) (S3 : Sto) => q (.lst (ys ++ [d6] ++ zs)) S3) = fun zs S3 => q (.lst (ys ++ ([d6] ++ zs))) S3 := by
          funext zs S3
          rw [List.append_assoc]
        rw [this]
        exact w6
  · rintro H2 ⟨acc, ys, S2, F2, hD, hl, il, hF, hS, f2, r2, w2⟩
    rw [List.drop_length] at w2
    have w2 : q (.lst (ys ++ [])) S2 := w2
    rw [List.append_nil] at w2
    have f3 : Fr F1 S1 H1 (upd F2 L (.lst acc)) S2 H2 := f2.seal hL hF
    refine k _ S2 _ _ H2 (f1.trans f3) (r2.seal hF hS hD) (.lst upd_same (Nat.le_trans hl hz) (il.mono fun b u e => by rw [upd_ne (ne_of_none e hF)]; exact e)) w2

theorem SE.lc {elt tg iter : Expr} {ifs : List Expr} {scope : Scope} {own : List (Str × Nat)} {vs : List Nat} {wi : Env → Sto → (List D → Sto → Prop) → Prop} {bd : D → Env → (Env → Prop) → Prop} {wt : Env → Sto → (Bool → Sto → Prop) → Prop} {we : Env → Sto → QD → Prop}
    (cl : ∀ δ, Y δ → δ.calm = true) (hN : B.N.Nodup) (hi : SI B Y W C xq tg iter wi) (ok : ∀ δ, Y δ → BlkOk B.N δ.env.scope scope own) (ho : own.map (·.2) = vs)
    (hg : SG B (blkY Y scope) tg vs bd) (ht : STs B (blkY Y scope) W0 C xq0 ifs wt) (he : SE B (blkY Y scope) W0 C xq0 elt we) (hs : notSet iter = true) :
    SE B Y W C xq (.ListComp elt [⟨tg, iter, ifs, 0⟩] scope pos) (fun ρ St q => wi ρ St fun ds S1 =>
      loopL (fun d S2 k => bd d (wip ρ vs) fun ρ' => wt ρ' S2 fun b S3 => if b = true then we ρ' S3 fun y S4 => k [y] S4 else k [] S3) ds S1 fun ys S2 => q (.lst ys) S2) := by
  obtain ⟨t, h1, _, h3⟩ := lc_ex (pos := pos) cl hN hi ok ho hg ht he hs
  exact ⟨⟨t, h1, h3⟩⟩

/-! ### displays of dicts -/
structure SPp (B : Bx) (Y : Dl → Prop) (W : WX) (C : XC) (xq : QX) (pos : Pos) (ks : List (Option Expr)) (es : List Expr) (w : Env → Sto → (List D → Sto → Prop) → Prop) : Prop where
  ex : ∃ t : List (TE × TE), (∀ δ, Y δ → PPs (cx B δ) pos ks es t) ∧ ks.length = es.length ∧ ks.all (·.isSome) = true ∧ ∀ (ρ : Env) (St : Sto) (F : Hp) (σ : L2.St) (H : Hp) (q : List D → Sto → Prop) (Q : List (V × V) → Hp → Prop), SR B.K B.w F St H → RE B.K F ρ σ → EQ B.K B.w W C xq F St H σ → w ρ St q →
    (∀ ds S' F' H' ps, Fr F St H F' S' H' → SR B.K B.w F' S' H' → IsL B.K F' (ps.flatMap fun p => [p.1, p.2]) ds → ps.length = es.length → q ds S' → Q ps H') → tPairs t σ H Q
theorem SPp.nil : SPp B Y W C xq pos [] [] (fun _ St q => q [] St) := ⟨⟨[], fun δ hδ => pps_nil, rfl, rfl, fun ρ St F σ H q Q r e x w k => k [] St F H [] Fr.refl r .nil rfl w⟩⟩
theorem SPp.cons {ks : List (Option Expr)} {es : List Expr} {ws : Env → Sto → (List D → Sto → Prop) → Prop} (ha : SE B Y W C xq a wa) (hb : SE B Y W C xq b wb) (hr : SPp B Y W C xq pos ks es ws) :
    SPp B Y W C xq pos (some a :: ks) (b :: es) (fun ρ St q => wa ρ St fun x S1 => wb ρ S1 fun y S2 => ws ρ S2 fun ds S3 => q (x :: y :: ds) S3) := by
  obtain ⟨ta, pa, ka⟩ := ha.ex
  obtain ⟨tb, pb, kb⟩ := hb.ex
  obtain ⟨tr, pr, lr, sr, kr⟩ := hr.ex
  refine ⟨⟨(ta, tb) :: tr, fun δ hδ => pps_cons (pa δ hδ) (pb δ hδ) (pr δ hδ), by rw [List.length_cons, List.length_cons, lr], by rw [List.all_cons, sr]; rfl, fun ρ St F σ H q Q r e x w k => ?_⟩⟩
  refine ka ρ St F σ H _ _ r e x w fun d S1 F1 v H1 f1 r1 i1 w1 => ?_
  refine kb ρ S1 F1 σ H1 _ _ r1 (e.mono f1.ext) (x.step f1) w1 fun d2 S2 F2 v2 H2 f2 r2 i2 w2 => ?_
  refine kr ρ S2 F2 σ H2 _ _ r2 ((e.mono f1.ext).mono f2.ext) ((x.step f1).step f2) w2 fun ds S3 F3 H3 ps f3 r3 i3 l3 w3 => ?_
  exact k _ S3 F3 H3 ((v, v2) :: ps) ((f1.trans f2).trans f3) r3 (.cons ((i1.mono f2.ext).mono f3.ext) (.cons (i2.mono f3.ext) i3)) (by rw [List.length_cons, List.length_cons, l3]) w3
theorem merge_new : ∀ (l acc : List (Key × V)), (l.map (·.1)).Nodup → (∀ p ∈ l, valV acc p.1 = none) → mergeK acc l = acc ++ l
  | [], acc, _, _ => by rw [List.append_nil]; rfl
  | p :: r, acc, nd, h => by
    show mergeK (putK acc p.1 p.2) r = _
    rw [putK_new p.2 (h p List.mem_cons_self), merge_new r (acc ++ [(p.1, p.2)]) (List.nodup_cons.mp nd).2 fun q hq => ?_]
    · rw [List.append_assoc]; rfl
    · rw [valV_snoc p.1 q.1 p.2 acc (h p List.mem_cons_self), if_neg fun e => (List.nodup_cons.mp nd).1 (by show p.1 ∈ _; rw [← e]; exact List.mem_map_of_mem hq)]
      exact h q (List.mem_cons_of_mem _ hq)
theorem pairs_of {K : PySem.W.Frag} {F : Hp} : ∀ {ps : List (V × V)} {ds : List D} {kds : List (D × D)}, IsL K F (ps.flatMap fun p => [p.1, p.2]) ds → pairsD ds = some kds → (kds.map (·.1)).all isKey = true →
    ∃ kvs : List (Key × V), ps = kvs.map (fun kv => (kV kv.1, kv.2)) ∧ IsM K F kvs kds ∧ kvs.length = ps.length
  | [], _, kds, h, e, _ => by
    cases h
    cases e
    exact ⟨[], rfl, .nil, rfl⟩
  | (x, y) :: ps, _, kds, h, e, a => by
    have h' : IsL K F (x :: y :: ps.flatMap fun p => [p.1, p.2]) _ := h
    cases h' with
    | @cons _ _ d1 _ i1 t => cases t with
      | @cons _ _ d2 ds i2 t =>
        simp only [pairsD, Option.map_eq_some_iff] at e
        obtain ⟨kds', e1, e2⟩ := e
        subst e2
        rw [List.map_cons, List.all_cons, Bool.and_eq_true] at a
        obtain ⟨k, rfl, rfl⟩ := isKey_of i1 a.1
        obtain ⟨kvs, e3, m, l⟩ := pairs_of t e1 a.2
        exact ⟨(k, y) :: kvs, by rw [e3]; rfl, .cons i2 m, by rw [List.length_cons, l, List.length_cons]⟩
theorem keys_nodup {K : PySem.W.Frag} {F : Hp} {kvs : List (Key × V)} {kds : List (D × D)} (m : IsM K F kvs kds) (nd : (kds.map (·.1)).Nodup) : (kvs.map (·.1)).Nodup := by
  have : ∀ {kvs : List (Key × V)} {ds : List (D × D)}, IsM K F kvs ds → ds.map (·.1) = (kvs.map (·.1)).map kD := by
    intro kvs ds h
    induction kvs generalizing ds with
    | nil => cases h; rfl
    | cons p r ih => cases h with
      | cons h t => rw [List.map_cons, List.map_cons, List.map_cons, ih t]
  rw [this m] at nd
  exact (List.pairwise_map.mp nd).imp fun h e => h (congrArg _ e)
/-- {k: v, ..}, kept as it is -/
theorem SE.dct {ks : List (Option Expr)} {es : List Expr} {ws : Env → Sto → (List D → Sto → Prop) → Prop} (h : SPp B Y W C xq pos ks es ws) (h0 : ks ≠ []) (h15 : ks.length ≤ 15) :
    SE B Y W C xq (.Dict ks es pos) (fun ρ St q => ws ρ St fun ds S1 => ∃ kvs, pairsD ds = some kvs ∧ (kvs.map (·.1)).all isKey = true ∧ (kvs.map (·.1)).Nodup ∧ q (.dct kvs) S1) := by
  obtain ⟨t, p, l, sm, kk⟩ := h.ex
  refine ⟨⟨tDisp t, fun δ hδ => pe_disp (p δ hδ) sm l h0 h15, fun ρ St F σ H q Q r e x w k L hL => ?_⟩⟩
  obtain ⟨hFL, hSL⟩ := r.fresh hL
  have r0 : SR B.K B.w F St (upd H L (.dK [])) := r.priv hFL hSL
  have f0 : Fr F St H F St (upd H L (.dK [])) := Fr.refl.priv hL
  refine kk ρ St F σ _ _ _ r0 e (x.step f0) w fun ds S1 F1 H1 ps f1 r1 il lp w1 => ?_
  obtain ⟨hD, hS, hF⟩ := f1.keep L _ upd_same hSL
  have hF := hF hFL
  obtain ⟨kds, hp, ha, nd, w1⟩ := w1
  obtain ⟨kvs, e1, m, lk⟩ := pairs_of il hp ha
  refine ⟨hD, kvs, e1, by rw [lk, lp, ← l]; exact h15, ?_⟩
  have nk := keys_nodup m nd
  rw [merge_new kvs [] nk fun _ _ => rfl, List.nil_append]
  have r2 : SR B.K B.w F1 S1 (upd H1 L (.dK kvs)) := r1.priv hF hS
  have f2 : Fr F St H F1 S1 (upd H1 L (.dK kvs)) := (f0.trans f1).priv hL
  refine k _ S1 _ _ _ (f2.seal hL hF) (r2.seal hF hS upd_same) (.dct upd_same (by rw [lk, lp, ← l]; exact Nat.le_of_lt (small1000 (by omega))) (m.mono fun b u e => by rw [upd_ne (ne_of_none e hF)]; exact e)) w1
/-- {k: v, ..}, an object of one's own -/
theorem SE.newk {ks : List (Option Expr)} {es : List Expr} {ws : Env → Sto → (List D → Sto → Prop) → Prop} (h : SPp B Y W C xq pos ks es ws) (h0 : ks ≠ []) (h15 : ks.length ≤ 15) :
    SE B Y W C xq (.Dict ks es pos) (fun ρ St q => ws ρ St fun ds S1 => ∃ kvs, pairsD ds = some kvs ∧ (kvs.map (·.1)).all isKey = true ∧ (kvs.map (·.1)).Nodup ∧ ∀ p, S1 p = none → q (.ref p) (ups S1 p (.dct kvs))) := by
  obtain ⟨t, p, l, sm, kk⟩ := h.ex
  refine ⟨⟨tDisp t, fun δ hδ => pe_disp (p δ hδ) sm l h0 h15, fun ρ St F σ H q Q r e x w k L hL => ?_⟩⟩
  obtain ⟨hFL, hSL⟩ := r.fresh hL
  have r0 : SR B.K B.w F St (upd H L (.dK [])) := r.priv hFL hSL
  have f0 : Fr F St H F St (upd H L (.dK [])) := Fr.refl.priv hL
  refine kk ρ St F σ _ _ _ r0 e (x.step f0) w fun ds S1 F1 H1 ps f1 r1 il lp w1 => ?_
  obtain ⟨hD, hS, hF⟩ := f1.keep L _ upd_same hSL
  have hF := hF hFL
  obtain ⟨kds, hp, ha, nd, w1⟩ := w1
  obtain ⟨kvs, e1, m, lk⟩ := pairs_of il hp ha
  refine ⟨hD, kvs, e1, by rw [lk, lp, ← l]; exact h15, ?_⟩
  have nk := keys_nodup m nd
  rw [merge_new kvs [] nk fun _ _ => rfl, List.nil_append]
  have r2 : SR B.K B.w F1 S1 (upd H1 L (.dK kvs)) := r1.priv hF hS
  have f2 : Fr F St H F1 S1 (upd H1 L (.dK kvs)) := (f0.trans f1).priv hL
  obtain ⟨r3, f3⟩ := r2.adopt (q := .dct kds) hF hS ⟨kvs, upd_same, by rw [lk, lp, ← l]; exact Nat.le_of_lt (small1000 (by omega)), nk, m⟩ f2 hL
  exact k _ _ _ _ _ f3 r3 (.ref L) (w1 L hS)
end
end DL
/-! DL8: statements over data. -/
namespace DL
open PySem PySem.Spec PyProof.Rows L2

/-- slots outside vs as in σ0 -/
def Ag (vs : List Nat) (σ0 σ : L2.St) : Prop := σ.length = σ0.length ∧ ∀ i, i ∉ vs → σ[i]? = σ0[i]?
theorem Ag.refl {vs : List Nat} {σ : L2.St} : Ag vs σ σ := ⟨rfl, fun _ _ => rfl⟩
theorem Ag.trans {vs : List Nat} {a b c : L2.St} (h : Ag vs a b) (k : Ag vs b c) : Ag vs a c := ⟨k.1.trans h.1, fun i hi => (k.2 i hi).trans (h.2 i hi)⟩
theorem Ag.set {vs : List Nat} {i : Nat} {σ : L2.St} {v : Option V} (h : i ∈ vs) : Ag vs σ (σ.set i v) := ⟨List.length_set, fun j hj => List.getElem?_set_ne (fun e => hj (by rw [← e]; exact h))⟩
/-- what is wanted of an exception, at any slots that agree outside vs -/
def ES (K : PySem.W.Frag) (ω : World) (W : WX) (C : XC) (xq : QX) (vs : List Nat) (F : Hp) (St : Sto) (H : Hp) (σ : L2.St) : Prop :=
  ∀ c d S' F' H' dx σ', Ag vs σ σ' → Fr F St H F' S' H' → SR K ω F' S' H' → PayOk C c d dx H' → xq c d S' → W (C.cls c) dx σ' H'
theorem ES.eq {K : PySem.W.Frag} {ω : World} {W : WX} {C : XC} {xq : QX} {vs : List Nat} {F H : Hp} {St : Sto} {σ : L2.St} (h : ES K ω W C xq vs F St H σ) : EQ K ω W C xq F St H σ := fun c d S' F' H' dx f r p q => h c d S' F' H' dx σ Ag.refl f r p q
theorem ES.step {K : PySem.W.Frag} {ω : World} {W : WX} {C : XC} {xq : QX} {vs : List Nat} {F F1 H H1 : Hp} {St S1 : Sto} {σ σ1 : L2.St} (h : ES K ω W C xq vs F St H σ) (a : Ag vs σ σ1) (f : Fr F St H F1 S1 H1) : ES K ω W C xq vs F1 S1 H1 σ1 :=
  fun c d S' F' H' dx σ' a2 f2 r p q => h c d S' F' H' dx σ' (a.trans a2) (f.trans f2) r p q

/-- the ends over data and those of the layer -/
structure EN (K : PySem.W.Frag) (ω : World) (vs : List Nat) (F : Hp) (St : Sto) (H : Hp) (σ : L2.St) (k : Ks) (E : Ends) : Prop where
  nx : ∀ ρ' S' F' σ' H', Ag vs σ σ' → Fr F St H F' S' H' → SR K ω F' S' H' → RE K F' ρ' σ' → k.nx ρ' S' → E.nx σ' H'
  rt : ∀ d S' F' v H', Fr F St H F' S' H' → SR K ω F' S' H' → Is K F' v d → k.rt d S' → E.rt v H'
  bk : ∀ ρ' S' F' σ' H', Ag vs σ σ' → Fr F St H F' S' H' → SR K ω F' S' H' → RE K F' ρ' σ' → k.bk ρ' S' → E.bk σ' H'
  ct : ∀ ρ' S' F' σ' H', Ag vs σ σ' → Fr F St H F' S' H' → SR K ω F' S' H' → RE K F' ρ' σ' → k.ct ρ' S' → E.ct σ' H'
theorem EN.step {K : PySem.W.Frag} {ω : World} {vs : List Nat} {F F1 H H1 : Hp} {St S1 : Sto} {σ σ1 : L2.St} {k : Ks} {E : Ends} (h : EN K ω vs F St H σ k E) (a : Ag vs σ σ1) (f : Fr F St H F1 S1 H1) : EN K ω vs F1 S1 H1 σ1 k E :=
  ⟨fun ρ' S' F' σ' H' a2 f2 => h.nx ρ' S' F' σ' H' (a.trans a2) (f.trans f2), fun d S' F' v H' f2 => h.rt d S' F' v H' (f.trans f2), fun ρ' S' F' σ' H' a2 f2 => h.bk ρ' S' F' σ' H' (a.trans a2) (f.trans f2), fun ρ' S' F' σ' H' a2 f2 => h.ct ρ' S' F' σ' H' (a.trans a2) (f.trans f2)⟩

structure SS (B : Bx) (Y : Dl → Prop) (W : WX) (C : XC) (xq : QX) (vs : List Nat) (x : Stmt) (w : Env → Sto → Ks → Prop) : Prop where
  ex : ∃ t : TS, (∀ δ, Y δ → PS (cx B δ) x t) ∧ ∀ (ρ : Env) (St : Sto) (F : Hp) (σ : L2.St) (H : Hp) (k : Ks) (E : Ends), SR B.K B.w F St H → RE B.K F ρ σ → ES B.K B.w W C xq vs F St H σ → w ρ St k → EN B.K B.w vs F St H σ k E → t E σ H
structure SSs (B : Bx) (Y : Dl → Prop) (W : WX) (C : XC) (xq : QX) (vs : List Nat) (x : List Stmt) (w : Env → Sto → Ks → Prop) : Prop where
  ex : ∃ t : TS, (∀ δ, Y δ → PSs (cx B δ) x t) ∧ ∀ (ρ : Env) (St : Sto) (F : Hp) (σ : L2.St) (H : Hp) (k : Ks) (E : Ends), SR B.K B.w F St H → RE B.K F ρ σ → ES B.K B.w W C xq vs F St H σ → w ρ St k → EN B.K B.w vs F St H σ k E → t E σ H
/-- targets: what changes lies in vs, as to what stands outside -/
structure AG (B : Bx) (Y : Dl → Prop) (tg : Expr) (vs : List Nat) (b : D → Env → (Env → Prop) → Prop) : Prop where
  ex : ∃ g : TG, (∀ δ, Y δ → PG (cx B δ) tg g) ∧ ∀ (d : D) (ρ : Env) (σ : L2.St) (v : V) (F : Hp) (St : Sto) (H : Hp) (q : Env → Prop) (Q : L2.St → Hp → Prop), Is B.K F v d → SR B.K B.w F St H → RE B.K F ρ σ → b d ρ q →
    (∀ ρ' σ', RE B.K F ρ' σ' → Ag vs σ σ' → q ρ' → Q σ' H) → g v σ H Q
theorem Ag.of {vs : List Nat} {σ σ' : L2.St} (h : Sl vs σ σ') : Ag vs σ σ' := by
  have e := h vs fun _ z => z
  have wl : ∀ (σ : L2.St) (us : List Nat), (wipe σ us).length = σ.length := fun σ us => wipe_length σ us
  have wg : ∀ (us : List Nat) (σ : L2.St) (i : Nat), i ∉ us → (wipe σ us)[i]? = σ[i]? := by
    intro us
    induction us with
    | nil => intro _ _ _; rfl
    | cons u us ih =>
      intro σ i hi
      show ((wipe σ us).set u none)[i]? = _
      rw [List.getElem?_set_ne (fun e => hi (by rw [e]; exact List.mem_cons_self)), ih σ i fun z => hi (List.mem_cons_of_mem _ z)]
  exact ⟨by rw [← wl σ' vs, e, wl], fun i hi => by rw [← wg vs σ' i hi, e, wg vs σ i hi]⟩
theorem SG.ag {B : Bx} {Y : Dl → Prop} {tg : Expr} {vs : List Nat} {b : D → Env → (Env → Prop) → Prop} (h : SG B Y tg vs b) : AG B Y tg vs b := by
  obtain ⟨g, p, k⟩ := h.ex
  exact ⟨⟨g, p, fun d ρ σ v F St H q Q is r e w kk => k d ρ σ v F St H q Q is r e w fun ρ' σ' e' s w' => kk ρ' σ' e' (Ag.of s) w'⟩⟩

section
variable {B : Bx} {Y : Dl → Prop} {W : WX} {C : XC} {xq : QX} {vs : List Nat} {a b c : Expr} {wa wb wc : Env → Sto → QD → Prop} {pos : Pos} {st : Stmt} {sts : List Stmt} {w1 w2 : Env → Sto → Ks → Prop}
theorem SSs.nil : SSs B Y W C xq vs [] (fun ρ St k => k.nx ρ St) := ⟨⟨tNext, fun δ hδ => pss_nil, fun ρ St F σ H k E r e x w en => en.nx ρ St F σ H Ag.refl Fr.refl r e w⟩⟩
theorem SSs.cons (h1 : SS B Y W C xq vs st w1) (h2 : SSs B Y W C xq vs sts w2) : SSs B Y W C xq vs (st :: sts) (fun ρ St k => w1 ρ St { k with nx := fun ρ' S' => w2 ρ' S' k }) := by
  obtain ⟨t1, p1, k1⟩ := h1.ex
  obtain ⟨t2, p2, k2⟩ := h2.ex
  refine ⟨⟨tSeq t1 t2, fun δ hδ => pss_cons (p1 δ hδ) (p2 δ hδ), fun ρ St F σ H k E r e x w en => ?_⟩⟩
  refine k1 ρ St F σ H _ _ r e x w ⟨fun ρ' S' F' σ' H' a f r' e' w' => ?_, en.rt, en.bk, en.ct⟩
  exact k2 ρ' S' F' σ' H' k E r' e' (x.step a f) w' (en.step a f)
theorem SS.pass : SS B Y W C xq vs (.Pass pos) (fun ρ St k => k.nx ρ St) := ⟨⟨tNext, fun δ hδ => ps_pass, fun ρ St F σ H k E r e x w en => en.nx ρ St F σ H Ag.refl Fr.refl r e w⟩⟩
theorem SS.brk : SS B Y W C xq vs (.Break pos) (fun ρ St k => k.bk ρ St) := ⟨⟨tBreak, fun δ hδ => ps_break, fun ρ St F σ H k E r e x w en => en.bk ρ St F σ H Ag.refl Fr.refl r e w⟩⟩
theorem SS.cont : SS B Y W C xq vs (.Continue pos) (fun ρ St k => k.ct ρ St) := ⟨⟨tCont, fun δ hδ => ps_continue, fun ρ St F σ H k E r e x w en => en.ct ρ St F σ H Ag.refl Fr.refl r e w⟩⟩
theorem SS.retN : SS B Y W C xq vs (.Return none pos) (fun _ St k => k.rt .non St) := ⟨⟨tRetN, fun δ hδ => ps_retN, fun ρ St F σ H k E r e x w en => en.rt _ St F _ H Fr.refl r .non w⟩⟩
theorem SS.ret (ha : SE B Y W C xq a wa) : SS B Y W C xq vs (.Return (some a) pos) (fun ρ St k => wa ρ St k.rt) := by
  obtain ⟨ta, pa, ka⟩ := ha.ex
  exact ⟨⟨tRet ta, fun δ hδ => ps_ret (pa δ hδ), fun ρ St F σ H k E r e x w en => ka ρ St F σ H _ _ r e x.eq w fun d S1 F1 v H1 f1 r1 i1 w1 => en.rt d S1 F1 v H1 f1 r1 i1 w1⟩⟩
theorem SS.expr (ha : SE B Y W C xq a wa) (hc : notComp a = true) : SS B Y W C xq vs (.Expr a pos) (fun ρ St k => wa ρ St fun _ S1 => k.nx ρ S1) := by
  obtain ⟨ta, pa, ka⟩ := ha.ex
  exact ⟨⟨tDrop ta, fun δ hδ => ps_expr (pa δ hδ) (no_swap hc _ _ _), fun ρ St F σ H k E r e x w en => ka ρ St F σ H _ _ r e x.eq w fun d S1 F1 v H1 f1 r1 i1 w1 => en.nx ρ S1 F1 σ H1 Ag.refl f1 r1 (e.mono f1.ext) w1⟩⟩
theorem SS.ite {tc : Env → Sto → (Bool → Sto → Prop) → Prop} {xs ys : List Stmt} (hc : ST B Y W C xq c tc) (h1 : SSs B Y W C xq vs xs w1) (h2 : SSs B Y W C xq vs ys w2) :
    SS B Y W C xq vs (.If c xs ys pos) (fun ρ St k => tc ρ St fun b S1 => if b = true then w1 ρ S1 k else w2 ρ S1 k) := by
  obtain ⟨t0, p0, k0⟩ := hc.ex
  obtain ⟨t1, p1, k1⟩ := h1.ex
  obtain ⟨t2, p2, k2⟩ := h2.ex
  refine ⟨⟨tIfS t0 t1 t2, fun δ hδ => ps_if (p0 δ hδ) (p1 δ hδ) (p2 δ hδ), fun ρ St F σ H k E r e x w en => ?_⟩⟩
  refine k0 ρ St F σ H _ _ r e x.eq w fun bb S1 F1 H1 f1 r1 w' => ?_
  cases bb with
  | true => exact k1 ρ S1 F1 σ H1 k E r1 (e.mono f1.ext) (x.step Ag.refl f1) w' (en.step Ag.refl f1)
  | false => exact k2 ρ S1 F1 σ H1 k E r1 (e.mono f1.ext) (x.step Ag.refl f1) w' (en.step Ag.refl f1)
theorem SS.set {tg : Expr} {bd : D → Env → (Env → Prop) → Prop} (ha : SE B Y W C xq a wa) (hg : AG B Y tg vs bd) (hc : ∀ δ, Y δ → swapsWith a (some tg) pos.line δ.env = pure false) (hw : ∀ δ, Y δ → swappedStores [tg] a δ.env = pure none) (hs : notStar tg = true) :
    SS B Y W C xq vs (.Assign [tg] a pos) (fun ρ St k => wa ρ St fun x S1 => bd x ρ fun ρ' => k.nx ρ' S1) := by
  obtain ⟨ta, pa, ka⟩ := ha.ex
  obtain ⟨g, pg, kg⟩ := hg.ex
  refine ⟨⟨tAsg ta g, fun δ hδ => ps_asg (pa δ hδ) (pg δ hδ) (hc δ hδ) (hw δ hδ) (by cases tg <;> first | rfl | cases hs), fun ρ St F σ H k E r e x w en => ?_⟩⟩
  refine ka ρ St F σ H _ _ r e x.eq w fun d S1 F1 v H1 f1 r1 i1 w1 => ?_
  exact kg d ρ σ v F1 S1 H1 _ _ i1 r1 (e.mono f1.ext) w1 fun ρ' σ' e' ag w' => en.nx ρ' S1 F1 σ' H1 ag f1 r1 e' w'
/-- name = [..] -/
theorem SS.setLc {i : Nat} {y : Str} {py : Pos} {elt : Expr} {gens : List Comprehension} {scope : Scope} {cpos : Pos} {w : Env → Sto → QD → Prop} {t : TE}
    (h : ∀ δ, Y δ → ∀ (i : Nat) (y : Str) (py spos : Pos), B.N[i]? = some y → δ.env.scope.names.lookup y = some .local → δ.env.scope.kind = .function → (py.line == cpos.line) = true → (scope.names.any fun (n, k) => n == y && (k == .local || k == .cell)) = false →
        PS (cx B δ) (.Assign [.Name y py] (.ListComp elt gens scope cpos) spos) (tAsg t (gName i)))
    (hr : ∀ (ρ : Env) (St : Sto) (F : Hp) (σ : L2.St) (H : Hp) (q : QD) (Q : VK), SR B.K B.w F St H → RE B.K F ρ σ → EQ B.K B.w W C xq F St H σ → w ρ St q →
        (∀ d S' F' v H', Fr F St H F' S' H' → SR B.K B.w F' S' H' → Is B.K F' v d → q d S' → Q v H') → t σ H Q)
    (hi : B.N[i]? = some y) (hl : ∀ δ, Y δ → δ.env.scope.names.lookup y = some .local ∧ δ.env.scope.kind = .function) (hln : (py.line == cpos.line) = true) (hn : (scope.names.any fun (n, k) => n == y && (k == .local || k == .cell)) = false) (hv : i ∈ vs) :
    SS B Y W C xq vs (.Assign [.Name y py] (.ListComp elt gens scope cpos) pos) (fun ρ St k => w ρ St fun x S1 => k.nx (put ρ i x) S1) := by
  refine ⟨⟨tAsg t (gName i), fun δ hδ => h δ hδ i y py pos hi (hl δ hδ).1 (hl δ hδ).2 hln hn, fun ρ St F σ H k E r e x w en => ?_⟩⟩
  refine hr ρ St F σ H _ _ r e x.eq w fun d S1 F1 v H1 f1 r1 i1 w1 => ?_
  exact en.nx _ S1 F1 _ H1 (Ag.set hv) f1 r1 ((e.mono f1.ext).put i i1) w1
theorem SS.aug {i : Nat} {x : Str} {px : Pos} {op : Operator} {ti : TIp} {z : D → D → (D → Prop) → Prop} (hN : B.N.Nodup) (hi : B.N[i]? = some x) (hx : ∀ δ, Y δ → Loc δ.env.scope x ∧ (δ.fn x = true ∨ δ.env.scope.names.lookup x = some .local)) (hv : i ∈ vs)
    (ho : ∀ δ, Y δ → PIp (cx B δ) op ti) (ha : SE B Y W C xq a wa)
    (hr : ∀ (F : Hp) (St : Sto) (H : Hp) (v u : V) (x y : D) (q : D → Prop) (Q : VK), SR B.K B.w F St H → Is B.K F v x → Is B.K F u y → z x y q → (∀ d F' v' H', Fr F St H F' St H' → SR B.K B.w F' St H' → Is B.K F' v' d → q d → Q v' H') → ti v u H Q) :
    SS B Y W C xq vs (.AugAssign (.Name x px) op a pos) (fun ρ St k => ∃ d, get ρ i = some d ∧ wa ρ St fun y S1 => z d y fun e => k.nx (put ρ i e) S1) := by
  obtain ⟨ta, pa, ka⟩ := ha.ex
  refine ⟨⟨tAug i ta ti, fun δ hδ => ps_aug (X := cx B δ) hN hi (hx δ hδ).1 (pa δ hδ) (ho δ hδ) (hx δ hδ).2, fun ρ St F σ H k E r e x w en => ?_⟩⟩
  obtain ⟨d, g, w⟩ := w
  obtain ⟨v, hv1, is⟩ := e.at_ i d g
  refine ⟨v, hv1, ?_⟩
  refine ka ρ St F σ H _ _ r e x.eq w fun d1 S1 F1 v1 H1 f1 r1 i1 w1 => ?_
  exact hr F1 S1 H1 v v1 d d1 _ _ r1 (is.mono f1.ext) i1 w1 fun d2 F2 v2 H2 f2 r2 i2 w2 => en.nx _ S1 F2 _ H2 (Ag.set hv) (f1.trans f2) r2 (((e.mono f1.ext).mono f2.ext).put i i2) w2
def rSetA (K : PySem.W.Frag) (w : World) : TSet := fun o i v H Q => rSetL o i v H Q ∨ rSetD o i v H Q ∨ rSetDN K w o i v H Q
theorem set_any {X : Cx} (hu : X.A.units + 9 < cLine) : PSet X (rSetA X.K X.w) := by
  intro pins s σ H o i v ov iv u Q I ro ri rv h
  rcases h with h | h | h
  · exact set_list pins s σ H o i v ov iv u Q I ro ri rv h
  · exact set_dict (by omega) pins s σ H o i v ov iv u Q I ro ri rv h
  · exact set_dn hu pins s σ H o i v ov iv u Q I ro ri rv h
theorem keys_put {kvs : List (Key × V)} {k : Key} {v : V} (nd : (kvs.map (·.1)).Nodup) : ((putK kvs k v).map (·.1)).Nodup := by
  unfold putK
  rw [valV_any]
  cases e : valV kvs k with
  | some z =>
    have : (kvs.map fun kv => if kv.1 = k then (kv.1, v) else kv).map (·.1) = kvs.map (·.1) := by
      rw [List.map_map]
      refine List.map_congr_left fun kv _ => ?_
      show (if kv.1 = k then (kv.1, v) else kv).1 = kv.1
      split <;> rfl
    simp only [Option.isSome_some, if_true]
    rw [this]
    exact nd
  | none =>
    simp only [Option.isSome_none, Bool.false_eq_true, if_false]
    rw [List.map_append]
    refine List.nodup_append.mpr ⟨nd, by simp, fun x hx y hy => ?_⟩
    have ey : y = k := by simpa using hy
    subst ey
    rintro rfl
    obtain ⟨p, hp, rfl⟩ := List.mem_map.mp hx
    have : (valV kvs p.1).isSome = true := by
      rw [← valV_any]
      exact List.any_eq_true.mpr ⟨p, hp, decide_eq_true rfl⟩
    rw [e] at this; cases this
theorem assign_sub {o i : Expr} (hn : notSlice i = true) (env : PySem.Env) (v : Value) : assign (.Subscript o i pos) env v = (do
      let ov ← holding [v] (eval o env)
      let iv ← holding [v, ov] (eval i env)
      standAt pos
      holding [v, ov, iv] (setItem ov iv v)
      release [v, ov, iv] []) := by
  cases i <;> first | rfl | cases hn
theorem SS.put {p2 : Pos} {j : Nat} (hr : ∀ δ, Y δ → Room j δ.A) (hv : SE B Y W C xq c wc) (ho : SE B Y W C xq a wa) (hi : SE B Y W C xq b wb) (hc : notComp c = true) (hn : notSlice b = true) :
    SS B Y W C xq vs (.Assign [.Subscript a b p2] c pos) (fun ρ St k => wc ρ St fun v S1 => wa ρ S1 fun x S2 => wb ρ S2 fun y S3 => match x with
      | .ref a => match S3 a with
        | some (.dct kvs) => isKey y = true ∧ kvs.length < SZ ∧ k.nx ρ (ups S3 a (.dct (putD kvs y v)))
        | some (.tdc kvs) => isTK y = true ∧ kvs.length < SZ ∧ k.nx ρ (ups S3 a (.tdc (putT kvs y v)))
        | some (.lst ds) => match y with
          | .int i => ∃ j, ixN ds.length i = some j ∧ k.nx ρ (ups S3 a (.lst (ds.set j v)))
          | _ => False
        | _ => False
      | _ => False) := by
  obtain ⟨tc, pc, kc⟩ := hv.ex
  obtain ⟨ta, pa, ka⟩ := ho.ex
  obtain ⟨tb, pb, kb⟩ := hi.ex
  refine ⟨⟨tAsg tc (gSub ta tb (rSetA B.K B.w)), fun δ hδ => ps_asg (pc δ hδ) (pg_sub (pa δ hδ) (pb δ hδ) (set_any (room9 (hr δ hδ))) (assign_sub hn _)) (by unfold swapsWithSole; exact no_swap hc _ _ _) rfl rfl, fun ρ St F σ H k E r e x w en => ?_⟩⟩
  refine kc ρ St F σ H _ _ r e x.eq w fun d S1 F1 v H1 f1 r1 i1 w1 => ?_
  refine ka ρ S1 F1 σ H1 _ _ r1 (e.mono f1.ext) (x.step Ag.refl f1).eq w1 fun d2 S2 F2 v2 H2 f2 r2 i2 w2 => ?_
  refine kb ρ S2 F2 σ H2 _ _ r2 ((e.mono f1.ext).mono f2.ext) ((x.step Ag.refl f1).step Ag.refl f2).eq w2 fun d3 S3 F3 v3 H3 f3 r3 i3 w3 => ?_
  have ff := (f1.trans f2).trans f3
  have ee := ((e.mono f1.ext).mono f2.ext).mono f3.ext
  have iv := (i1.mono f2.ext).mono f3.ext
  have i2 := i2.mono f3.ext
  cases i2 with
  | ref p =>
    cases eo : S3 p with
    | none => simp only [eo] at w3
    | some o =>
      have ho := (r3.own p o eo).2
      cases o with
      | lst ds =>
        simp only [eo] at w3
        obtain ⟨xs, hx, z, il⟩ := ho
        cases i3 with
        | int i =>
          obtain ⟨j, hj, w3⟩ := w3
          obtain ⟨r4, f4⟩ := r3.write (o := .lst (xs.set j v)) (q := .lst (ds.set j d)) eo ⟨_, upd_same, by rw [List.length_set]; exact z, il.set iv j⟩
          exact .inl ⟨p, xs, i, j, rfl, rfl, hx, by rw [il.length]; exact hj, en.nx ρ _ _ σ _ Ag.refl (ff.trans f4) r4 (ee.mono f4.ext) w3⟩
        | _ => exact False.elim w3
      | dct kds =>
        simp only [eo] at w3
        obtain ⟨kvs, hx, z, nd, m⟩ := ho
        obtain ⟨kk, hl, w3⟩ := w3
        obtain ⟨q, rfl, rfl⟩ := isKey_of i3 kk
        have hl' : kvs.length < sizeLine := by rw [m.length, sizeLine_eq]; exact hl
        obtain ⟨r4, f4⟩ := r3.write (o := .dK (putK kvs q v)) (q := .dct (putD kds (kD q) d)) eo ⟨_, upd_same, Nat.le_trans (length_putK kvs q v) hl', keys_put nd, m.replace iv nd⟩
        exact .inr (.inl ⟨p, _, rfl, DPut.k hx hl', en.nx ρ _ _ σ _ Ag.refl (ff.trans f4) r4 (ee.mono f4.ext) w3⟩)
      | tdc kds =>
        simp only [eo] at w3
        obtain ⟨tk, hl, w3⟩ := w3
        obtain ⟨xs, b, kk, hx, ks, rfl, nv, dk, z, len, nd, nk, it, _⟩ := dn_get r3 eo i3 tk
        have hl' : xs.length < sizeLine := by rw [len, sizeLine_eq]; exact hl
        refine .inr (.inr ⟨p, xs, b, kk, rfl, rfl, hx, ks, nv, dk, hl', fun u ru => ?_⟩)
        obtain ⟨it2, nd2⟩ := it.put i3 tk nk ru iv nd
        obtain ⟨r4, f4⟩ := r3.write (o := DNo B.w p (storedH xs kk b u)) (q := .tdc (putT kds d3 d)) eo ⟨_, upd_same, by have := len_stored xs kk b u; omega, nd2, it2⟩
        exact en.nx ρ _ _ σ _ Ag.refl (ff.trans f4) r4 (ee.mono f4.ext) w3
      | ins => simp only [eo] at w3
  | _ => exact False.elim w3
theorem SS.app {p2 p3 : Pos} (ho : SE B Y W C xq a wa) (hb : SE B Y W C xq b wb) (hc : notCall a = true) (hst : notStar b = true) (hl : (p2.endLine == p3.line) = true) :
    SS B Y W C xq vs (.Expr (.Call (.Attribute a "append" p2) [b] [] p3) pos) (fun ρ St k => wa ρ St fun x S1 => ∃ p, x = .ref p ∧ (∃ ds, S1 p = some (.lst ds)) ∧ wb ρ S1 fun y S2 => ∃ ds, S2 p = some (.lst ds) ∧ ds.length < SZ ∧ k.nx ρ (ups S2 p (.lst (ds ++ [y])))) := by
  obtain ⟨ta, pa, ka⟩ := ho.ex
  obtain ⟨tb, pb, kb⟩ := hb.ex
  refine ⟨⟨tDrop (tBM B.K "list" rAppend ta (tCons tb tNil)), fun δ hδ => ps_expr (pe_bm (X := cx B δ) PySem.F.plainAttrs_list PySem.F.slot_list_append PySem.F.type_list_append mt_append (pa δ hδ) (pa_cons (pb δ hδ) pa_nil (star_cons hst _)) (attr_base hc _ _ _)
    (by rw [star_cons hst]; rfl) hl (star_cons hst _) rfl) rfl, fun ρ St F σ H k E r e x w en => ?_⟩⟩
  refine ka ρ St F σ H _ _ r e x.eq w fun d S1 F1 v H1 f1 r1 i1 w1 => ?_
  obtain ⟨p, rfl, ⟨ds0, hp0⟩, w1⟩ := w1
  cases i1
  obtain ⟨xs0, hx0, _, _⟩ := (r1.own p _ hp0).2
  refine ⟨.inl ⟨rfl, xs0, SqL.of hx0⟩, ?_⟩
  refine kb ρ S1 F1 σ H1 _ _ r1 (e.mono f1.ext) (x.step Ag.refl f1).eq w1 fun d2 S2 F2 v2 H2 f2 r2 i2 w2 => ?_
  obtain ⟨ds, hp, hz, w2⟩ := w2
  obtain ⟨xs, hx, z, il⟩ := (r2.own p _ hp).2
  have hz' : xs.length < sizeLine := by rw [il.length, sizeLine_eq]; exact hz
  refine ⟨p, xs, v2, rfl, rfl, hx, hz', ?_⟩
  obtain ⟨r4, f4⟩ := r2.write (o := .lst (xs ++ [v2])) (q := .lst (ds ++ [d2])) hp ⟨_, upd_same, by rw [List.length_append, List.length_singleton]; exact hz', il.snoc i2⟩
  exact en.nx ρ _ _ σ _ Ag.refl ((f1.trans f2).trans f4) r4 (((e.mono f1.ext).mono f2.ext).mono f4.ext) w2

/-! ### loops -/
theorem SS.loop {tc : Env → Sto → (Bool → Sto → Prop) → Prop} {xs : List Stmt} (po : ∀ δ, Y δ → PassesOwn (model B.prog B.w) δ.A δ.env δ.xe) (hc : ST B Y W C xq c tc) (h1 : SSs B Y W C xq vs xs w1) :
    SS B Y W C xq vs (.While c xs [] pos) (fun ρ St k => ∃ n, whileN tc (fun ρ S1 q => w1 ρ S1 { nx := q, rt := k.rt, bk := k.nx, ct := q }) n ρ St k.nx) := by
  obtain ⟨t0, p0, k0⟩ := hc.ex
  obtain ⟨t1, p1, k1⟩ := h1.ex
  refine ⟨⟨tWhile t0 t1, fun δ hδ => ps_while (X := cx B δ) (po δ hδ) (p0 δ hδ) (p1 δ hδ), fun ρ St F σ H k E r e x w en => ?_⟩⟩
  obtain ⟨n, w⟩ := w
  refine ⟨fun m σ2 H2 => ∃ ρ2 S2 F2, Ag vs σ σ2 ∧ Fr F St H F2 S2 H2 ∧ SR B.K B.w F2 S2 H2 ∧ RE B.K F2 ρ2 σ2 ∧ whileN tc (fun ρ S1 q => w1 ρ S1 { nx := q, rt := k.rt, bk := k.nx, ct := q }) m ρ2 S2 k.nx,
    ⟨n, ρ, St, F, Ag.refl, Fr.refl, r, e, w⟩, ?_⟩
  rintro m σ2 H2 ⟨ρ2, S2, F2, a2, f2, r2, e2, w2⟩
  cases m with
  | zero => exact False.elim w2
  | succ m =>
    refine k0 ρ2 S2 F2 σ2 H2 _ _ r2 e2 (x.step a2 f2).eq w2 fun bb S3 F3 H3 f3 r3 w3 => ?_
    cases bb with
    | false => exact en.nx ρ2 S3 F3 σ2 H3 a2 (f2.trans f3) r3 (e2.mono f3.ext) w3
    | true =>
      refine ⟨fun σ4 H4 => ∃ ρ4 S4 F4, Ag vs σ σ4 ∧ Fr F St H F4 S4 H4 ∧ SR B.K B.w F4 S4 H4 ∧ RE B.K F4 ρ4 σ4 ∧ whileN tc (fun ρ S1 q => w1 ρ S1 { nx := q, rt := k.rt, bk := k.nx, ct := q }) m ρ4 S4 k.nx, fun σ4 H4 h => ⟨m, Nat.lt_succ_self m, h⟩, ?_⟩
      refine k1 ρ2 S3 F3 σ2 H3 _ _ r3 (e2.mono f3.ext) (x.step a2 (f2.trans f3)) w3 ⟨fun ρ' S' F' σ' H' a f r' e' w' => ⟨ρ', S', F', a2.trans a, (f2.trans f3).trans f, r', e', w'⟩, fun d S' F' v H' f r' i' w' => en.rt d S' F' v H' ((f2.trans f3).trans f) r' i' w', fun ρ' S' F' σ' H' a f r' e' w' => en.nx ρ' S' F' σ' H' (a2.trans a) ((f2.trans f3).trans f) r' e' w', fun ρ' S' F' σ' H' a f r' e' w' => ⟨ρ', S', F', a2.trans a, (f2.trans f3).trans f, r', e', w'⟩⟩
theorem SS.each {tg it : Expr} {xs : List Stmt} {wi : Env → Sto → (List D → Sto → Prop) → Prop} {bd : D → Env → (Env → Prop) → Prop} (po : ∀ δ, Y δ → PassesOwn (model B.prog B.w) δ.A δ.env δ.xe) (cl : ∀ δ, Y δ → δ.calm = true) (hi : SI B Y W C xq tg it wi) (hg : AG B Y tg vs bd)
    (h1 : SSs B Y W C xq vs xs w1) (hs : notSet it = true) :
    SS B Y W C xq vs (.For tg it xs [] pos) (fun ρ St k => wi ρ St fun ds S1 => forL (fun d ρ S2 q => bd d ρ fun ρ' => w1 ρ' S2 { nx := q, rt := k.rt, bk := k.nx, ct := q }) ds ρ S1 k.nx) := by
  obtain ⟨ti, pi, ki⟩ := hi.ex
  obtain ⟨g, pg, kg⟩ := hg.ex
  obtain ⟨t1, p1, k1⟩ := h1.ex
  refine ⟨⟨tFor ti g t1, fun δ hδ => ps_for (X := cx B δ) (po δ hδ) (cl δ hδ) (pi δ hδ) (pg δ hδ) (p1 δ hδ) (folded_set hs _), fun ρ St F σ H k E r e x w en => ?_⟩⟩
  refine ki ρ St F σ H _ _ r e x.eq w fun ds S1 F1 H1 J f1 r1 wd hz w0 => ?_
  obtain ⟨G, Yd, wk, hG, hY⟩ := wd
  refine for_it wk (fun i σ2 H2 => ∃ ρ2 S2 F2, Ag vs σ σ2 ∧ Fr F1 S1 H1 F2 S2 H2 ∧ SR B.K B.w F2 S2 H2 ∧ RE B.K F2 ρ2 σ2 ∧ forL (fun d ρ S2 q => bd d ρ fun ρ' => w1 ρ' S2 { nx := q, rt := k.rt, bk := k.nx, ct := q }) (ds.drop i) ρ2 S2 k.nx)
    ⟨ρ, S1, F1, Ag.refl, Fr.refl, r1, e.mono f1.ext, w0⟩ (fun i σ2 H2 _ ⟨_, _, _, _, f2, r2, _⟩ => hG H2 _ f2.ext r2.sub) ?_ ?_
  · rintro i v σ2 H2 H3 hi ⟨ρ2, S2, F2, a2, f2, r2, e2, w2⟩ y
    obtain ⟨d, hd, hy⟩ := hY i H2 v H3 hi y
    obtain ⟨F3, f3, r3, iv⟩ := hy F2 S2 r2 f2.ext
    rw [drop_at hd] at w2
    have f13 := f1.trans (f2.trans f3)
    refine kg d ρ2 σ2 v F3 S2 H3 _ _ iv r3 (e2.mono f3.ext) w2 ?_
    intro ρ' σ' e4 ag w4
    refine k1 ρ' S2 F3 σ' H3 _ _ r3 e4 (x.step (a2.trans ag) f13) w4 ⟨fun ρ' S' F' σ' H' a f r' e' w' => ⟨ρ', S', F', (a2.trans ag).trans a, (f2.trans f3).trans f, r', e', w'⟩, fun d S' F' v H' f r' i' w' => en.rt d S' F' v H' (f13.trans f) r' i' w', fun ρ' S' F' σ' H' a f r' e' w' => en.nx ρ' S' F' σ' H' ((a2.trans ag).trans a) (f13.trans f) r' e' w', fun ρ' S' F' σ' H' a f r' e' w' => ⟨ρ', S', F', (a2.trans ag).trans a, (f2.trans f3).trans f, r', e', w'⟩⟩
  · rintro σ2 H2 ⟨ρ2, S2, F2, a2, f2, r2, e2, w2⟩
    rw [List.drop_length] at w2
    exact en.nx ρ2 S2 F2 σ2 H2 a2 (f1.trans f2) r2 e2 w2
/-! ### what stands in no row of the text: an object is looked at as data from here on -/
theorem RE.same {K : PySem.W.Frag} {F : Hp} {ρ : Env} {σ : L2.St} {i : Nat} {v : V} {d : D} (e : RE K F ρ σ) (h : σ[i]? = some (some v)) (is : Is K F v d) : RE K F (DL.put ρ i d) σ := by
  have := e.put i is
  rw [show σ.set i (some v) = σ from by
    refine List.ext_getElem? fun j => ?_
    by_cases hj : i = j
    · subst hj
      rw [h, List.getElem?_set_self (List.getElem?_eq_some_iff.mp h).1]
    · rw [List.getElem?_set_ne hj]] at this
  exact this
theorem SSs.fz {i : Nat} (h : SSs B Y W C xq vs sts w1) : SSs B Y W C xq vs sts (fun ρ St k => ∃ a, get ρ i = some (.ref a) ∧ match St a with
    | some (.lst ds) => w1 (put ρ i (.lst ds)) (del St a) k
    | some (.dct kvs) => w1 (put ρ i (.dct kvs)) (del St a) k
    | _ => False) := by
  obtain ⟨t, p, kk⟩ := h.ex
  refine ⟨⟨t, p, fun ρ St F σ H k E r e x w en => ?_⟩⟩
  obtain ⟨a, g, w⟩ := w
  obtain ⟨v, hv, is⟩ := e.at_ i _ g
  cases is
  cases eo : St a with
  | none => simp only [eo] at w
  | some o =>
    have ho := (r.own a o eo).2
    cases o with
    | lst ds =>
      simp only [eo] at w
      obtain ⟨xs, hx, z, il⟩ := ho
      obtain ⟨r2, f2⟩ := r.freeze eo hx
      exact kk _ _ _ σ H k E r2 ((e.mono f2.ext).same hv (.lst upd_same z (il.mono f2.ext))) (x.step Ag.refl f2) w (en.step Ag.refl f2)
    | dct ds =>
      simp only [eo] at w
      obtain ⟨xs, hx, z, nd, il⟩ := ho
      obtain ⟨r2, f2⟩ := r.freeze eo hx
      exact kk _ _ _ σ H k E r2 ((e.mono f2.ext).same hv (.dct upd_same z (il.mono f2.ext))) (x.step Ag.refl f2) w (en.step Ag.refl f2)
    | ins => simp only [eo] at w
    | tdc => simp only [eo] at w
/-- x, y = a, b -/
theorem SS.par {i j : Nat} {x y : Str} {px py p1 p2 : Pos} {k1 k2 : Nat} (cl : ∀ δ, Y δ → δ.calm = true) (hN : B.N.Nodup) (hi : B.N[i]? = some x) (hj : B.N[j]? = some y) (hij : i ≠ j) (hx : ∀ δ, Y δ → δ.env.scope.names.lookup x = some .local ∧ δ.env.scope.names.lookup y = some .local)
    (hw : ∀ δ, Y δ → swappedStores [.Tuple [.Name x px, .Name y py] k1 p1] (.Tuple [a, b] k2 p2) δ.env = pure (some [x, y])) (ha : SE B Y W C xq a wa) (hb : SE B Y W C xq b wb) (sa : notStar a = true) (sb : notStar b = true) (vi : i ∈ vs) (vj : j ∈ vs) :
    SS B Y W C xq vs (.Assign [.Tuple [.Name x px, .Name y py] k1 p1] (.Tuple [a, b] k2 p2) pos) (fun ρ St k => wa ρ St fun d S1 => wb ρ S1 fun e S2 => k.nx (DL.put (DL.put ρ i d) j e) S2) := by
  obtain ⟨ta, pa, ka⟩ := ha.ex
  obtain ⟨tb, pb, kb⟩ := hb.ex
  refine ⟨⟨tPar i j (tCons ta (tCons tb tNil)), fun δ hδ => ps_par (X := cx B δ) (cl δ hδ) hN hi hj hij (hx δ hδ).1 (hx δ hδ).2 (pa_cons (pa δ hδ) (pa_cons (pb δ hδ) pa_nil (star_cons sb _)) (star_cons sa _)) (hw δ hδ) (by unfold swapsWithSole; exact no_swap rfl _ _ _), fun ρ St F σ H k E r e x w en => ?_⟩⟩
  refine ka ρ St F σ H _ _ r e x.eq w fun d S1 F1 v H1 f1 r1 i1 w1 => ?_
  refine kb ρ S1 F1 σ H1 _ _ r1 (e.mono f1.ext) (x.step Ag.refl f1).eq w1 fun d2 S2 F2 v2 H2 f2 r2 i2 w2 => ?_
  exact ⟨v, v2, rfl, en.nx _ S2 F2 _ H2 ((Ag.set vi).trans (Ag.set vj)) (f1.trans f2) r2 ((((e.mono f1.ext).mono f2.ext).put i (i1.mono f2.ext)).put j i2) w2⟩
end
end DL
/-! DLW: raise, try over data. -/
namespace DL
open PySem PySem.Spec PyProof.Rows L2
theorem get_wip : ∀ (ρ : Env) (vs : List Nat) (i : Nat) (d : D), get (wip ρ vs) i = some d → get ρ i = some d ∧ i ∉ vs
  | ρ, [], i, d, h => ⟨h, by simp⟩
  | ρ, v :: vs, i, d, h => by
    obtain ⟨a, b⟩ := get_set_none _ _ _ _ (show get ((wip ρ vs).set v none) i = some d from h)
    obtain ⟨c, e⟩ := get_wip ρ vs i d a
    exact ⟨c, fun z => by
      rcases List.mem_cons.mp z with z | z
      · exact b z
      · exact e z⟩
theorem wip_len (ρ : Env) : ∀ (vs : List Nat), (wip ρ vs).length = ρ.length
  | [] => rfl
  | v :: vs => by show ((wip ρ vs).set v none).length = _; rw [List.length_set, wip_len ρ vs]
/-- slots that may have changed are forgotten -/
theorem RE.ag {K : PySem.W.Frag} {F : Hp} {ρ : Env} {σ σ' : L2.St} {vs : List Nat} (r : RE K F ρ σ) (a : Ag vs σ σ') : RE K F (DL.wip ρ vs) σ' := by
  refine ⟨by rw [wip_len, r.len, a.1], fun i d h => ?_⟩
  obtain ⟨g, n⟩ := get_wip ρ vs i d h
  obtain ⟨v, e, is⟩ := r.at_ i d g
  exact ⟨v, by rw [a.2 i n]; exact e, is⟩
/-- a class of errors of the text: no __init__ of its own -/
structure XF (B : Bx) (C : XC) (c : Nat) (x : Str) : Prop where
  mg : ∃ Ca, B.mg x = some (.ref Ca) ∧ C.cls c = .ref Ca ∧ PySem.W.excIn B.K Ca [.type "ValueError", .type "Exception", .type "BaseException", .type "object"] "ValueError.__new__" = true ∧ PySem.W.keepIn B.K (.ref Ca) = true ∧
    PySem.W.subIn B.K (.ref Ca) (.type "BaseException") = some true ∧ PySem.W.typeIn B.K (.ref Ca) = some (.type "type")
  lt : c < NX
  exm : ∀ c', c' < NX → PySem.W.exmOne B.K (C.cls c') (C.cls c) = some (decide (c' = c))
section
variable {B : Bx} {Y : Dl → Prop} {W : WX} {C : XC} {xq : QX} {vs : List Nat} {pos : Pos}
theorem SS.rais {c : Nat} {x m : Str} {j : Nat} {p p2 pos' : Pos} (cl : ∀ δ, Y δ → δ.calm = true) (tk : ∀ δ, Y δ → Takes (cx B δ) W) (T : XF B C c x) (hg : ∀ δ, Y δ → Gl (cx B δ) x) (hd : (x == ("__debug__" : Str)) = false) :
    SS B Y W C xq vs (.Raise (some (.Call (.Name x p) [.Constant (.str m) j p2] [] pos')) none pos) (fun _ St _ => xq c .non St) := by
  obtain ⟨Ca, hm, hc, h1, h2, h3, h4⟩ := T.mg
  refine ⟨⟨_, fun δ hδ => ps_raise (cl δ hδ) (tk δ hδ) (pmk_own (X := cx B δ) PySem.F.excBase_ValueError h1 hm h2 (raises_own h3 h4) (hg δ hδ) hd), fun ρ St F σ H k E r e x w en => ?_⟩⟩
  have := x c .non St F H none σ Ag.refl Fr.refl r (.inl ⟨rfl, rfl⟩) w
  rwa [hc] at this
/-- the contexts of a try's body -/
def trY (B : Bx) (Y : Dl → Prop) (W' : WX) : Dl → Prop := fun δ' => ∃ δ pn xe, Y δ ∧ Takes ((cx B δ).tr pn xe) W' ∧ PassesOwn (model B.prog B.w) δ.A δ.env xe ∧ δ' = { δ with pn := pn, xe := xe }
/-- an except suite's text -/
def tSu (B : Bx) (C : XC) : Su → Addr → Value → Option Addr → TS
  | .con .non, _, _, _ => tRet (tC .non)
  | .con (.bl b), _, _, _ => tRet (tC (.bl b))
  | .con (.int i), _, _, _ => tRet (tC (.int i))
  | .con (.str s), _, _, _ => tRet (tC (.str (mkS s)))
  | .con _, _, _, _ => fun _ _ _ => False
  | .isx (.str s) (.str t), a, cls, d => fun D σ H => (∃ c, cls = C.cls c ∧ c < NX) ∧ d = none ∧ D.rt (.str (mkS s)) H
  | .isx _ _, _, _, _ => fun _ _ _ => False
  | .gt i n, _, _, _ => fun D σ H => ∃ j, σ[i]? = some (some (.int j)) ∧ D.rt (.bl (decide (n < j))) H
  | .fld, _, _, _ => fun _ _ _ => False
def constB : Const → D → Bool
  | .none, .non => true
  | .bool a, .bl b => a == b
  | .int i, .int j => decide (i = j)
  | .str z, .str s => decide (z = mkS s) && decide (s.length ≤ 1000)
  | _, _ => false
/-- what the classes must say for isinstance(e, x) -/
structure XI (B : Bx) (C : XC) (x : Str) : Prop where
  mg : ∃ Cs, B.mg x = some (.ref Cs)
  blt : B.mg "isinstance" = none
  all : ∀ c, c < NX → ∃ D Cs, C.cls c = .ref D ∧ B.mg x = some (.ref Cs) ∧ ExcC B.K D ∧ PySem.W.kitOne B.K (.ref D) (.ref Cs) = some true
def kRetS (x : List Stmt) (f : Expr → Bool) : Bool := match x with
  | [.Return (some e) _] => f e
  | _ => false
theorem kRetS_inv {x : List Stmt} {f : Expr → Bool} (h : kRetS x f = true) : ∃ e p, x = [.Return (some e) p] ∧ f e = true := by
  unfold kRetS at h; split at h
  · exact ⟨_, _, rfl, h⟩
  · cases h
def kIsx (e : Expr) (f : Str → Str → Str → Const → Const → Bool) : Bool := match e with
  | .IfExp (.Call (.Name i _) [.Name x _, .Name y _] [] _) (.Constant c _ _) (.Constant d _ _) _ => f i x y c d
  | _ => false
theorem kIsx_inv {e : Expr} {f : Str → Str → Str → Const → Const → Bool} (h : kIsx e f = true) : ∃ i x y c d p1 p2 p3 p4 j1 p5 j2 p6 p7, e = .IfExp (.Call (.Name i p1) [.Name x p2, .Name y p3] [] p4) (.Constant c j1 p5) (.Constant d j2 p6) p7 ∧ f i x y c d = true := by
  unfold kIsx at h; split at h
  · exact ⟨_, _, _, _, _, _, _, _, _, _, _, _, _, _, rfl, h⟩
  · cases h
def kGt (e : Expr) (f : Str → Const → Bool) : Bool := match e with
  | .Compare (.Name x _) [.Gt] [.Constant c _ _] _ => f x c
  | _ => false
theorem kGt_inv {e : Expr} {f : Str → Const → Bool} (h : kGt e f = true) : ∃ x p c j q r, e = .Compare (.Name x p) [.Gt] [.Constant c j q] r ∧ f x c = true := by
  unfold kGt at h; split at h
  · exact ⟨_, _, _, _, _, _, rfl, h⟩
  · cases h
def kConstE (e : Expr) (f : Const → Bool) : Bool := match e with
  | .Constant c _ _ => f c
  | _ => false
theorem kConstE_inv {e : Expr} {f : Const → Bool} (h : kConstE e f = true) : ∃ c j p, e = .Constant c j p ∧ f c = true := by
  unfold kConstE at h; split at h
  · exact ⟨_, _, _, rfl, h⟩
  · cases h
end
def visS (sc : Scope) (x : Str) : Bool := (match sc.names.lookup x with | some .local => true | some .cell => true | some .free => true | _ => false) && !(x == ("__debug__" : Str)) && !(x == ("__classdict__" : Str))
def glS (sc : Scope) (x : Str) : Bool := (match sc.names.lookup x with | some .globalImplicit => true | _ => false) && !(x == ("__debug__" : Str))
/-- an except suite against its text; en: the error's slot, bs: the base class -/
def okSu (N : List Str) (sc : Scope) (en : Option Nat) (bs : Str) : Su → List Stmt → Bool
  | .con d, x => kRetS x fun e => kConstE e fun c => constB c d
  | .isx d f, x => kRetS x fun e => kIsx e fun i v y c g => (i == "isinstance") && glS sc i && (y == bs) && glS sc y && visS sc v && (match en with | some k => decide (N[k]? = some v) | none => false) && (match d, f with | .str s, .str t => constB c (.str s) && constB g (.str t) | _, _ => false)
  | .gt k n, x => kRetS x fun e => kGt e fun v c => decide (N[k]? = some v) && visS sc v && constB c (.int n)
  | .fld, _ => false
theorem visS_inv {sc : Scope} {x : Str} (h : visS sc x = true) : Vis sc x ∧ (x == ("__debug__" : Str)) = false ∧ (x == ("__classdict__" : Str)) = false := by
  unfold visS at h
  simp only [Bool.and_eq_true, Bool.not_eq_true'] at h
  refine ⟨?_, h.1.2, h.2⟩
  have h := h.1.1
  split at h
  · exact .inl (by assumption)
  · exact .inr (.inl (by assumption))
  · exact .inr (.inr (by assumption))
  · cases h
theorem glS_inv {sc : Scope} {x : Str} (h : glS sc x = true) : sc.names.lookup x = some .globalImplicit ∧ (x == ("__debug__" : Str)) = false := by
  unfold glS at h
  simp only [Bool.and_eq_true, Bool.not_eq_true'] at h
  refine ⟨?_, h.2⟩
  have h := h.1
  split at h
  · assumption
  · cases h
/-- .. en's slot holds the error -/
def tSuE (B : Bx) (C : XC) (en : Option Nat) (h : Su) (a : Addr) (cls : Value) (d : Option Addr) : TS := match h with
  | .isx _ _ => fun D σ H => (∃ k, en = some k ∧ (k < σ.length → σ[k]? = some (some (.ref a)))) ∧ tSu B C h a cls d D σ H
  | _ => tSu B C h a cls d
section
variable {B : Bx} {C : XC}
theorem su_ok {δ : Dl} {sc : Scope} {en : Option Nat} {bs : Str} (hsc : δ.env.scope = sc) (hI : ∀ (d f : D), XI B C bs) : ∀ (h : Su) (x : List Stmt), okSu B.N sc en bs h x = true →
    ∀ (a : Addr) (oe : Obj) (cls : Value) (d : Option Addr) (pn : List (Addr × Obj)), Zc cls d oe → (∃ vs, oe.data = .fields vs) → PSs ((cx B δ).suite a ((a, oe) :: pn)) x (tSuE B C en h a cls d)
  | .con v, x, h, a, oe, cls, d, pn, hz, hf => by
    obtain ⟨e, p, rfl, h1⟩ := kRetS_inv h
    obtain ⟨c, j, q, rfl, h2⟩ := kConstE_inv h1
    cases c <;> cases v <;> first | (cases h2; done) | skip
    · exact pss_one (ps_ret pe_non)
    · have e := eq_of_beq h2
      subst e
      exact pss_one (ps_ret pe_bl)
    · have e := of_decide_eq_true h2
      subst e
      exact pss_one (ps_ret pe_int)
    · have h2 := (Bool.and_eq_true_iff.mp h2).1
      have e := of_decide_eq_true h2
      subst e
      exact pss_one (ps_ret pe_str)
  | .isx v w, x, h, a, oe, cls, d, pn, hz, hf => by
    obtain ⟨e, p, rfl, h1⟩ := kRetS_inv h
    obtain ⟨i, n, y, c, g, p1, p2, p3, p4, j1, p5, j2, p6, p7, rfl, h2⟩ := kIsx_inv h1
    simp only [Bool.and_eq_true] at h2
    obtain ⟨⟨⟨⟨⟨⟨e1, g1⟩, e2⟩, g2⟩, v1⟩, k1⟩, c1⟩ := h2
    have e1 := eq_of_beq e1
    have e2 := eq_of_beq e2
    subst e1; subst e2
    cases en with
    | none => cases k1
    | some k =>
      have hk := of_decide_eq_true k1
      cases v with
      | str s => cases w with
        | str t =>
          have c1 : (constB c (.str s) && constB g (.str t)) = true := c1
          rw [Bool.and_eq_true] at c1
          cases c <;> first | (cases c1.1; done) | skip
          cases g <;> first | (cases c1.2; done) | skip
          have z1 := of_decide_eq_true (Bool.and_eq_true_iff.mp c1.1).1
          have z2 := of_decide_eq_true (Bool.and_eq_true_iff.mp c1.2).1
          subst z1; subst z2
          refine ⟨fun pins s0 σ H D I q => ?_⟩
          obtain ⟨⟨k', ek, hs⟩, ⟨cc, rfl, hlt⟩, rfl, hq⟩ := q
          cases ek
          have hs := hs (by rw [I.len]; exact (List.getElem?_eq_some_iff.mp hk).1)
          have T := hI .non .non
          obtain ⟨Da, Cs, hc, hm, hx, hkit⟩ := T.all cc hlt
          have hz' : Zc (.ref Da) none oe := by rw [← hc]; exact hz
          obtain ⟨w1, w2, w3⟩ := visS_inv v1
          have hv := pe_var (X := (cx B δ).suite a ((a, oe) :: pn)) (pos := p2) hk (by show Vis δ.env.scope n; rw [hsc]; exact w1) w2 w3
          have hy := pe_glob (X := (cx B δ).suite a ((a, oe) :: pn)) (v := .ref Cs) (pos := p3) (by show δ.env.scope.names.lookup y = _; rw [hsc]; exact (glS_inv g2).1) hm rfl (glS_inv g2).2
          have hcall := pe_callB (pos := p4) (p := p1) (call_isE hx hz' hf) (by show δ.env.scope.names.lookup ("isinstance" : Str) = _; rw [hsc]; exact (glS_inv g1).1) T.blt (by decide +kernel) (pa_cons hv (pa_cons hy pa_nil))
          have htest := pt_truth hcall (plain_test rfl _)
          refine (pss_one (ps_ret (pos := p) (pe_ifExp (pos := p7) htest (pe_str (x := mkS s) (pos := p5)) (pe_str (x := mkS t) (pos := p6))))).run pins _ σ H D I ?_
          refine ⟨_, hs, ⟨_, _, true, rfl, fun u hu => hu, hkit, true, rfl, hq⟩⟩
        | _ => cases c1
      | _ => cases c1
  | .gt k n, x, h, a, oe, cls, d, pn, hz, hf => by
    obtain ⟨e, p, rfl, h1⟩ := kRetS_inv h
    obtain ⟨v, p1, c, j, q, r, rfl, h2⟩ := kGt_inv h1
    simp only [Bool.and_eq_true] at h2
    obtain ⟨⟨k1, v1⟩, c1⟩ := h2
    cases c <;> first | (cases c1; done) | skip
    have z := of_decide_eq_true c1
    subst z
    obtain ⟨w1, w2, w3⟩ := visS_inv v1
    refine ⟨fun pins s σ H D I q => ?_⟩
    obtain ⟨j, hs, hq⟩ := q
    refine (pss_one (ps_ret (pe_cmpR (X := (cx B δ).suite a ((a, oe) :: pn)) op_gt (pe_var (of_decide_eq_true k1) (by show Vis δ.env.scope v; rw [hsc]; exact w1) w2 w3) pe_int rfl))).run pins _ σ H D I ?_
    exact ⟨_, hs, _, _, rfl, rfl, hq⟩
  | .fld, x, h, _, _, _, _, _, _, _ => by cases h
theorem Ag.mono {vs vs' : List Nat} {σ σ' : L2.St} (h : Ag vs σ σ') (m : ∀ i ∈ vs, i ∈ vs') : Ag vs' σ σ' := ⟨h.1, fun i hi => h.2 i fun z => hi (m i z)⟩
theorem EN.mono {K : PySem.W.Frag} {ω : World} {vs vs' : List Nat} {F : Hp} {St : Sto} {H : Hp} {σ : L2.St} {k : Ks} {E : Ends} (h : EN K ω vs' F St H σ k E) (m : ∀ i ∈ vs, i ∈ vs') : EN K ω vs F St H σ k E :=
  ⟨fun ρ' S' F' σ' H' a => h.nx ρ' S' F' σ' H' (a.mono m), h.rt, fun ρ' S' F' σ' H' a => h.bk ρ' S' F' σ' H' (a.mono m), fun ρ' S' F' σ' H' a => h.ct ρ' S' F' σ' H' (a.mono m)⟩
theorem PS.ex {X : Cx} {x : Stmt} {ι : Type} {t : ι → TS} (h : ∀ i, PS X x (t i)) : PS X x (fun D σ H => ∃ i, t i D σ H) := ⟨fun pins s σ H D I ⟨i, q⟩ => (h i).run pins s σ H D I q⟩
/-- the suite's text holds where its wish does -/
theorem su_holds {N : List Str} {sc : Scope} {bs : Str} {en : Option Nat} {h : Su} {x : List Stmt} (hok : okSu N sc en bs h x = true) {F' H' : Hp} {S' : Sto} {ρ' : Env} {σ' : L2.St} {d : D} {q : QD} {D' : Ends} {c' : Nat} {dx : Option Addr} {a : Addr}
    (r : SR B.K B.w F' S' H') (e : RE B.K F' ρ' σ') (k : ∀ d v, Is B.K F' v d → q d S' → D'.rt v H') (p : PayOk C c' d dx H') (lt : c' < NX) (he : ∀ j, en = some j → j < σ'.length → σ'[j]? = some (some (.ref a))) (w : wSu h ρ' d S' q) :
    tSuE B C en h a (C.cls c') dx D' σ' H' := by
  cases h with
  | con v =>
    obtain ⟨z, _, rfl, h1⟩ := kRetS_inv hok
    obtain ⟨c, _, _, rfl, h2⟩ := kConstE_inv h1
    cases c <;> cases v <;> first | (cases h2; done) | skip
    · exact k _ _ .non w
    · exact k _ _ (.bl _) w
    · exact k _ _ (.int _) w
    · exact k _ _ (.str _ (Nat.le_of_lt (small1000 (of_decide_eq_true (Bool.and_eq_true_iff.mp h2).2)))) w
  | isx v u =>
    obtain ⟨z, _, rfl, h1⟩ := kRetS_inv hok
    obtain ⟨_, _, _, c, _, _, _, _, _, _, _, _, _, _, rfl, h2⟩ := kIsx_inv h1
    simp only [Bool.and_eq_true] at h2
    obtain ⟨⟨_, k1⟩, c1⟩ := h2
    obtain ⟨rfl, w⟩ := w
    cases en with
    | none => cases k1
    | some j =>
      cases v with
      | str s => cases u with
        | str t =>
          have c1 : (constB c (.str s) && _) = true := c1
          rw [Bool.and_eq_true] at c1
          cases c <;> first | (cases c1.1; done) | skip
          have dn : dx = none := by
            rcases p with ⟨_, h⟩ | ⟨_, _, h, _⟩
            · exact h
            · cases h
          exact ⟨⟨j, rfl, he j rfl⟩, ⟨c', rfl, lt⟩, dn, k _ _ (.str _ (Nat.le_of_lt (small1000 (of_decide_eq_true (Bool.and_eq_true_iff.mp c1.1).2)))) w⟩
        | _ => cases c1
      | _ => cases c1
  | gt i n =>
    obtain ⟨j, g, w⟩ := w
    obtain ⟨v, hv, is⟩ := e.at_ i _ g
    cases is
    exact ⟨j, hv, k _ _ (.bl _) w⟩
  | fld => cases hok
end
section
variable {B : Bx} {Y : Dl → Prop} {W : WX} {C : XC} {xq : QX} {vs vb : List Nat} {pos : Pos} {body suite : List Stmt} {b₀ : Stmt} {sc : Scope} {bs : Str}
def xq1 (xq : QX) (c : Nat) (h : Su) (vb : List Nat) (ρ : Env) (k : Ks) : QX := fun c' d S' => c' < NX ∧ if c' = c then wSu h (wip ρ vb) d S' k.rt else xq c' d S'
def xq2 (xq : QX) (c1 : Nat) (h1 : Su) (c2 : Nat) (h2 : Su) (vb : List Nat) (ρ : Env) (k : Ks) : QX := fun c' d S' => c' < NX ∧ if c' = c1 then wSu h1 (wip ρ vb) d S' k.rt else if c' = c2 then wSu h2 (wip ρ vb) d S' k.rt else xq c' d S'
theorem XF.names {c : Nat} {x : Str} (T : XF B C c x) {δ : Dl} (hg : Gl (cx B δ) x) (hd : (x == ("__debug__" : Str)) = false) : Names (cx B δ) x (C.cls c) := by
  obtain ⟨Ca, hm, hc, _⟩ := T.mg
  exact ⟨hg, hd, .inl (by rw [hc]; exact hm)⟩
theorem SS.tri {c : Nat} {x : Str} {np pos' : Pos} {h : Su} {wb : Env → Ks → Env → Sto → Ks → Prop} (fr : ∀ δ, Y δ → δ.stack = δ.env :: δ.outer ∧ δ.env.frame = some δ.env.locals) (hsc : ∀ δ, Y δ → δ.env.scope = sc) (tk : ∀ δ, Y δ → Takes (cx B δ) W) (T : XF B C c x)
    (hg : ∀ δ, Y δ → Gl (cx B δ) x) (hd : (x == ("__debug__" : Str)) = false) (hI : ∀ (_ _ : D), XI B C bs) (hok : okSu B.N sc none bs h (b₀ :: suite) = true) (hvb : ∀ i ∈ vb, i ∈ vs)
    (hb : ∀ (ρ : Env) (k : Ks) (W' : WX), SSs B (trY B Y W') W' C (xq1 xq c h vb ρ k) vb body (wb ρ k)) :
    SS B Y W C xq vs (.Try body [.ExceptHandler (some (.Name x np)) none (b₀ :: suite) pos'] [] [] pos) (fun ρ St k => wb ρ k ρ St k) := by
  refine ⟨⟨fun D σ H => ∃ i : Env × Ks, Classical.choose (hb i.1 i.2 (wOnly B.K (C.cls c) (tSuE B C none h) W D)).ex D σ H, fun δ hδ => PS.ex fun i => ?_, fun ρ St F σ H k E r e x w en => ⟨(ρ, k), ?_⟩⟩⟩
  · exact ps_try_only (X := cx B δ) (tb := fun W' => Classical.choose (hb i.1 i.2 W').ex) (fr δ hδ).1 (fr δ hδ).2 (T.names (hg δ hδ) hd) (tk δ hδ) (fun W' pn xe tk' po' => (Classical.choose_spec (hb i.1 i.2 W').ex).1 { δ with pn := pn, xe := xe } ⟨δ, pn, xe, hδ, tk', po', rfl⟩)
      (fun a oe cls d pn hz hf => su_ok (hsc δ hδ) hI h _ hok a oe cls d pn hz hf)
  · refine (Classical.choose_spec (hb ρ k (wOnly B.K (C.cls c) (tSuE B C none h) W E)).ex).2 ρ St F σ H k E r e (fun c' d S' F' H' dx σ' ag f r' p hq => ?_) w (en.mono hvb)
    obtain ⟨lt, hq⟩ := hq
    refine ⟨_, T.exm c' lt, fun hb a _ => ?_, fun hb => ?_⟩
    · rw [if_pos (of_decide_eq_true hb)] at hq
      exact su_holds hok r' ((e.mono f.ext).ag ag) (fun d v is hk => en.rt d S' F' v H' f r' is hk) p lt (fun j z => by cases z) hq
    · rw [if_neg (of_decide_eq_false hb)] at hq
      exact x c' d S' F' H' dx σ' (ag.mono hvb) f r' p hq
theorem RE.setN {K : PySem.W.Frag} {F : Hp} {ρ : Env} {σ : L2.St} {i : Nat} {v : Option V} (r : RE K F ρ σ) (h : ∀ d, get ρ i ≠ some d) : RE K F ρ (σ.set i v) := by
  refine ⟨by rw [List.length_set]; exact r.len, fun j d g => ?_⟩
  obtain ⟨u, e, is⟩ := r.at_ j d g
  have : j ≠ i := fun z => h d (by rw [← z]; exact g)
  exact ⟨u, by rw [List.getElem?_set_ne (Ne.symm this)]; exact e, is⟩
theorem SS.triA {c i : Nat} {x n : Str} {np pos' : Pos} {h : Su} {wb : Env → Ks → Env → Sto → Ks → Prop} (fr : ∀ δ, Y δ → δ.stack = δ.env :: δ.outer ∧ δ.env.frame = some δ.env.locals) (hsc : ∀ δ, Y δ → δ.env.scope = sc) (tk : ∀ δ, Y δ → Takes (cx B δ) W) (T : XF B C c x)
    (hN : B.N.Nodup) (hi : B.N[i]? = some n) (hln : sc.names.lookup n = some .local)
    (hg : ∀ δ, Y δ → Gl (cx B δ) x) (hd : (x == ("__debug__" : Str)) = false) (hI : ∀ (_ _ : D), XI B C bs) (hok : okSu B.N sc (some i) bs h (b₀ :: suite) = true) (hvb : ∀ j ∈ vb, j ∈ vs)
    (hb : ∀ (ρ : Env) (k : Ks) (W' : WX), SSs B (trY B Y W') W' C (xq1 xq c h (i :: vb) ρ k) vb body (wb ρ k)) :
    SS B Y W C xq vs (.Try body [.ExceptHandler (some (.Name x np)) (some n) (b₀ :: suite) pos'] [] [] pos) (fun ρ St k => wb ρ k ρ St k) := by
  refine ⟨⟨fun D σ H => ∃ u : Env × Ks, Classical.choose (hb u.1 u.2 (wAs B.K (C.cls c) i (tSuE B C (some i) h) W D)).ex D σ H, fun δ hδ => PS.ex fun u => ?_, fun ρ St F σ H k E r e x w en => ⟨(ρ, k), ?_⟩⟩⟩
  · exact ps_try_as (X := cx B δ) (tb := fun W' => Classical.choose (hb u.1 u.2 W').ex) (fr δ hδ).1 (fr δ hδ).2 hN hi (by show δ.env.scope.names.lookup n = _; rw [hsc δ hδ]; exact hln) (T.names (hg δ hδ) hd) (tk δ hδ)
      (fun W' pn xe tk' po' => (Classical.choose_spec (hb u.1 u.2 W').ex).1 { δ with pn := pn, xe := xe } ⟨δ, pn, xe, hδ, tk', po', rfl⟩) (fun a oe cls d pn hz hf => su_ok (hsc δ hδ) hI h _ hok a oe cls d pn hz hf)
  · refine (Classical.choose_spec (hb ρ k (wAs B.K (C.cls c) i (tSuE B C (some i) h) W E)).ex).2 ρ St F σ H k E r e (fun c' d S' F' H' dx σ' ag f r' p hq => ?_) w (en.mono hvb)
    obtain ⟨lt, hq⟩ := hq
    refine ⟨_, T.exm c' lt, fun hb a _ => ?_, fun hb => ?_⟩
    · rw [if_pos (of_decide_eq_true hb)] at hq
      have e1 : RE B.K F' (wip ρ (i :: vb)) σ' := (e.mono f.ext).ag (ag.mono fun j hj => List.mem_cons_of_mem _ hj)
      refine su_holds hok r' (e1.setN (i := i) fun d g => (get_wip ρ (i :: vb) i d g).2 List.mem_cons_self) (fun d v is hk => en.rt d S' F' v H' f r' is hk) p lt (fun j z hj => ?_) hq
      cases z
      rw [List.length_set] at hj
      exact List.getElem?_set_self hj
    · rw [if_neg (of_decide_eq_false hb)] at hq
      exact x c' d S' F' H' dx σ' (ag.mono hvb) f r' p hq
theorem SS.tri2 {c1 c2 : Nat} {x1 x2 : Str} {np1 pos1 np2 pos2 : Pos} {h1 h2 : Su} {b₁ : Stmt} {suite1 : List Stmt} {wb : Env → Ks → Env → Sto → Ks → Prop} (fr : ∀ δ, Y δ → δ.stack = δ.env :: δ.outer ∧ δ.env.frame = some δ.env.locals) (hsc : ∀ δ, Y δ → δ.env.scope = sc) (tk : ∀ δ, Y δ → Takes (cx B δ) W) (T1 : XF B C c1 x1) (T2 : XF B C c2 x2)
    (hg1 : ∀ δ, Y δ → Gl (cx B δ) x1) (hd1 : (x1 == ("__debug__" : Str)) = false) (hg2 : ∀ δ, Y δ → Gl (cx B δ) x2) (hd2 : (x2 == ("__debug__" : Str)) = false) (hI : ∀ (_ _ : D), XI B C bs)
    (hok1 : okSu B.N sc none bs h1 (b₀ :: suite) = true) (hok2 : okSu B.N sc none bs h2 (b₁ :: suite1) = true) (hvb : ∀ i ∈ vb, i ∈ vs)
    (hb : ∀ (ρ : Env) (k : Ks) (W' : WX), SSs B (trY B Y W') W' C (xq2 xq c1 h1 c2 h2 vb ρ k) vb body (wb ρ k)) :
    SS B Y W C xq vs (.Try body [.ExceptHandler (some (.Name x1 np1)) none (b₀ :: suite) pos1, .ExceptHandler (some (.Name x2 np2)) none (b₁ :: suite1) pos2] [] [] pos) (fun ρ St k => wb ρ k ρ St k) := by
  refine ⟨⟨fun D σ H => ∃ i : Env × Ks, Classical.choose (hb i.1 i.2 (wMany B.K W D [(C.cls c1, tSuE B C none h1), (C.cls c2, tSuE B C none h2)])).ex D σ H, fun δ hδ => PS.ex fun i => ?_, fun ρ St F σ H k E r e x w en => ⟨(ρ, k), ?_⟩⟩⟩
  · exact ps_try_many (X := cx B δ) (tb := fun W' => Classical.choose (hb i.1 i.2 W').ex) (fr δ hδ).1 (fr δ hδ).2 (tk δ hδ) (fun W' pn xe tk' po' => (Classical.choose_spec (hb i.1 i.2 W').ex).1 { δ with pn := pn, xe := xe } ⟨δ, pn, xe, hδ, tk', po', rfl⟩)
      (.cons (T1.names (hg1 δ hδ) hd1) (fun a oe cls d pn hz hf => su_ok (hsc δ hδ) hI h1 _ hok1 a oe cls d pn hz hf) (.cons (T2.names (hg2 δ hδ) hd2) (fun a oe cls d pn hz hf => su_ok (hsc δ hδ) hI h2 _ hok2 a oe cls d pn hz hf) .nil))
  · refine (Classical.choose_spec (hb ρ k (wMany B.K W E [(C.cls c1, tSuE B C none h1), (C.cls c2, tSuE B C none h2)])).ex).2 ρ St F σ H k E r e (fun c' d S' F' H' dx σ' ag f r' p hq => ?_) w (en.mono hvb)
    obtain ⟨lt, hq⟩ := hq
    refine ⟨_, T1.exm c' lt, fun hb a _ => ?_, fun hb => ⟨_, T2.exm c' lt, fun hb2 a _ => ?_, fun hb2 => ?_⟩⟩
    · rw [if_pos (of_decide_eq_true hb)] at hq
      exact su_holds hok1 r' ((e.mono f.ext).ag ag) (fun d v is hk => en.rt d S' F' v H' f r' is hk) p lt (fun j z => by cases z) hq
    · rw [if_neg (of_decide_eq_false hb), if_pos (of_decide_eq_true hb2)] at hq
      exact su_holds hok2 r' ((e.mono f.ext).ag ag) (fun d v is hk => en.rt d S' F' v H' f r' is hk) p lt (fun j z => by cases z) hq
    · rw [if_neg (of_decide_eq_false hb), if_neg (of_decide_eq_false hb2)] at hq
      exact x c' d S' F' H' dx σ' (ag.mono hvb) f r' p hq
end
end DL
/-! DLO: instances: made, asked, told; dict comprehensions, two-fold comprehensions, extend. -/
namespace DL
open PySem PySem.Spec PyProof.Rows L2

section
variable {X : Cx} {CX : CXT} {k : Nat} {f C : Addr} {fd : FuncData} {ps : List Str} {sp : Sp} {E : L2.St → XK} {x m : Str} {p pos apos : Pos} {e o : Expr} {es : List Expr} {ta : TE} {t : TA}
/-- o.m(..): the exception wish may look at the slots -/
def tMethE (C : Addr) (m : Str) (sp : Sp) (E : L2.St → XK) (ta : TE) (t : TA) : TE := fun σ H Q => ta σ H fun x G => ∃ a dx fs, x = .ref a ∧ G a = some (.ins C dx fs) ∧ fs.lookup m = none ∧ t σ G fun vs H2 => sp (x :: vs) H2 Q (E σ)
theorem pe_methE {pl : Sem Bool} (recv : PE X o ta) (cls : Cls X.K C) (meth : Meth X.K C m f) (fn : FnOk X.prog X.w X.K X.mg X.base CX k f fd ps sp) (room : Room k X.A) (bind : Binds X.K fd ps []) (pass : ∀ σ, PassesAt CX X σ (E σ)) (args : PA X (e :: es) t)
    (st : starEach (e :: es) X.env = (false, eval e X.env) :: starEach es X.env) (plain : (backTo pos (starEach es X.env)).any (·.1) = false)
    (tree : eval (.Call (.Attribute o m apos) (e :: es) [] pos) X.env = (do
      let ov ← eval o X.env
      standAt apos.atName
      let (f, first) ← holding [ov] (getMethod ov m pl)
      callWith pos f first (backTo pos (starEach (e :: es) X.env)) (backToKw pos (keywordEach [] X.env)))) :
    PE X (.Call (.Attribute o m apos) (e :: es) [] pos) (tMethE C m sp E ta t) := by
  constructor
  intro pins s σ H Q inv want
  refine PySem.W.methodCall_KW (pl := pl) (thn (recv.run pins s σ H _ inv want) fun u s1 ⟨x, G, inv1, rx, a, dx, fs, ex, there, none_, q⟩ => ?_) tree
  subst ex
  obtain rfl : u = Value.ref a := rx
  refine getmeth_ok inv1 there cls meth none_ (PySem.W.callWith_K (first := [.ref a]) (h₀ := X.base) inv1.ok.mod.kin meth.kp (thn (args.run pos pins s1 σ G _ inv1 q) fun us s2 ⟨vs, G2, inv2, rv, q2⟩ => ⟨inv2.kIn, ?_⟩) st plain)
  exact run_fnS (us := .ref a :: us) (vs := .ref a :: vs) fn room bind (pass σ) inv2 (.cons rfl rv) q2
theorem pe_methE0 {pl : Sem Bool} (recv : PE X o ta) (cls : Cls X.K C) (meth : Meth X.K C m f) (fn : FnOk X.prog X.w X.K X.mg X.base CX k f fd ps sp) (room : Room k X.A) (bind : Binds X.K fd ps []) (pass : ∀ σ, PassesAt CX X σ (E σ))
    (tree : eval (.Call (.Attribute o m apos) [] [] pos) X.env = (do
      let ov ← eval o X.env
      standAt apos.atName
      let (f, first) ← holding [ov] (getMethod ov m pl)
      callWith pos f first (backTo pos (starEach [] X.env)) (backToKw pos (keywordEach [] X.env)))) :
    PE X (.Call (.Attribute o m apos) [] [] pos) (tMethE C m sp E ta tNil) := by
  constructor
  intro pins s σ H Q inv want
  refine PySem.W.methodCall_KW (pl := pl) (thn (recv.run pins s σ H _ inv want) fun u s1 ⟨x, G, inv1, rx, a, dx, fs, ex, there, none_, q⟩ => ?_) tree
  subst ex
  obtain rfl : u = Value.ref a := rx
  refine getmeth_ok inv1 there cls meth none_ ?_
  exact PySem.W.callWith_K0 (first := [.ref a]) inv1.kIn meth.kp (run_fnS (us := [.ref a]) (vs := [.ref a]) fn room bind (pass σ) inv1 (.cons rfl .nil) q)
/-- C(..) -/
def tMakeE (C : Addr) (sp : Sp) (E : L2.St → XK) (t : TA) : TE := fun σ H Q => t σ H fun vs G => ∀ x dx, G x = none → G dx = none → dx ≠ x →
  sp (.ref x :: vs) (upd (upd G dx (.own x)) x (.ins C dx [])) (fun v H2 => v = .non ∧ Q (.ref x) H2) (E σ)
theorem pe_makeE (mk : Mk X.K C f) (fn : FnOk X.prog X.w X.K X.mg X.base CX k f fd ps sp) (room : Room (k + 1) X.A) (gl : Gl X x) (at_ : X.mg x = some (.ref C)) (bind : Binds X.K fd ps []) (pass : ∀ σ, PassesAt CX X σ (E σ)) (args : PA X (e :: es) t)
    (db : (x == ("__debug__" : Str)) = false) (st : starEach (e :: es) X.env = (false, eval e X.env) :: starEach es X.env) (plain : (backTo pos (starEach es X.env)).any (·.1) = false) : PE X (.Call (.Name x p) (e :: es) [] pos) (tMakeE C sp E t) := by
  constructor
  intro pins s σ H Q inv want
  refine wpAny_Call_Name_kw (ld_glob inv gl at_ (PySem.W.callWith_K (h₀ := X.base) inv.ok.mod.kin mk.kp (thn (args.run pos pins s σ H _ inv want) fun us s1 ⟨vs, G, inv1, rv, q⟩ => ⟨inv1.kIn, ?_⟩) st plain) db)
  have q1 := q (s1.heap.objs.size + 1) s1.heap.objs.size (inv1.hok.fresh (Nat.le_succ _)) (inv1.hok.fresh (Nat.le_refl _)) (Nat.ne_of_lt (Nat.lt_succ_self _))
  have inv2 := Inv.made (C := C) inv1
  have rv2 : Vals (V.ref (s1.heap.objs.size + 1) :: vs) (Value.ref (s1.heap.objs.size + 1) :: us) := .cons rfl rv
  have len : (Value.ref (s1.heap.objs.size + 1) :: us).length = ps.length := rv2.length.symm.trans (fn.len _ _ _ _ q1)
  have bd := bind _ (Value.ref (s1.heap.objs.size + 1) :: us) inv2.kIn (by rw [List.append_nil]; exact len)
  rw [List.append_nil] at bd
  refine wpAny_call (make_map (f := f) inv1.kIn mk.makes mk.init (beq_iff_eq.mp mk.fn) (codeAny_mono (fn.run _ X.stack _ _ ⟨Value.ref (s1.heap.objs.size + 1) :: us, []⟩ _ _ _ (E σ) (room.make C us []) (inv2.env0.make C us []) bd rv2 q1) fun r s' hq => ?_))
  cases r with
  | error ev => exact pass σ pins _ _ ev s' inv2 hq
  | ok fl =>
    cases fl with
    | ret u =>
      obtain ⟨v, H', inv3, ru, ev, q3⟩ := inv2.after hq
      subst ev
      exact ⟨ru, V.ref (s1.heap.objs.size + 1), H', inv3, rfl, q3⟩
    | _ => exact hq.elim
end
end DL
/-! DLX: instances, dict comprehensions, two-fold comprehensions, extend, over data. -/
namespace DL
open PySem PySem.Spec PyProof.Rows L2

/-- the tree of a method's call -/
theorem meth_tree {o : Expr} {m : Str} {apos pos : Pos} {es : List Expr} {env : PySem.Env} (hc : notCall o = true) (hl : (apos.endLine == pos.line) = true) (st : es.all notStar = true) (few : es.length < 20) :
    eval (.Call (.Attribute o m apos) es [] pos) env = (do
      let ov ← eval o env
      standAt apos.atName
      let (f, first) ← holding [ov] (getMethod ov m (do return (← importBound o env).getD true))
      callWith pos f first (backTo pos (starEach es env)) (backToKw pos (keywordEach [] env))) := by
  refine mcall_of (attr_base hc m env _) fun ov => ?_
  have form : methodCallForm (es.length + ([] : List Keyword).length) (backTo pos (starEach es env)) (backToKw pos (keywordEach [] env)) = true := by
    have a := (star_all st env pos).2.1
    unfold methodCallForm
    rw [a]
    show (true && true && decide (es.length + 0 + 0 < 30)) = true
    rw [decide_eq_true (by omega)]; rfl
  have place : methodCallPos true o env apos pos = pure pos := by unfold methodCallPos; simp [hl]
  unfold methodCall
  rw [form]
  show (do
    let (f, first) ← holding [ov] (getMethod ov m (do return (← importBound o env).getD true))
    let callPos ← methodCallPos true o env apos pos
    callWith callPos f first (backTo pos (starEach es env)) (backToKw pos (keywordEach [] env))) = _
  rw [place]
  rfl
section
variable {B : Bx} {Y : Dl → Prop} {W : WX} {C : XC} {xq : QX} {a b c : Expr} {wa wb wc : Env → Sto → QD → Prop} {pos : Pos} {vs : List Nat}
/-! ### fields -/
theorem SE.fld {cn f : Bs} (cls : Cls B.K (He.ga B.K (mkS cn))) (no : NoAttr B.K (He.ga B.K (mkS cn)) (mkS f)) (ha : SE B Y W C xq a wa) (nc : notCall a = true) :
    SE B Y W C xq (.Attribute a (mkS f) pos) (fun ρ St q => wa ρ St fun x S1 => match x with
      | .ref p => match S1 p with
        | some (.ins c' fs) => c' = cn ∧ ∃ d, lookF fs f = some d ∧ q d S1
        | _ => False
      | _ => False) := by
  obtain ⟨ta, pa, ka⟩ := ha.ex
  refine ⟨⟨tFld B.K ta (mkS f), fun δ hδ => pe_fld (pa δ hδ) (attr_base nc _ _ _), fun ρ St F σ H q Q r e x w k => ?_⟩⟩
  refine ka ρ St F σ H _ _ r e x w fun d S1 F1 v H1 f1 r1 i1 w1 => ?_
  cases i1 with
  | ref p =>
    cases eo : S1 p with
    | none => simp only [eo] at w1
    | some o => cases o with
      | ins c' fs =>
        simp only [eo] at w1
        obtain ⟨rfl, d, hd, w1⟩ := w1
        obtain ⟨dx, vs, hx, it⟩ := (r1.own p _ eo).2
        rcases it.look (f := f) with ⟨_, z⟩ | ⟨v, d', hv, hd', iv⟩
        · rw [hd] at z; cases z
        · rw [hd] at hd'; cases hd'
          exact ⟨p, _, dx, vs, v, rfl, hx, cls, no, hv, k _ S1 F1 v H1 f1 r1 iv w1⟩
      | _ => simp only [eo] at w1
  | _ => exact False.elim w1
theorem SS.putf {cn f : Bs} {p2 : Pos} (cls : Cls B.K (He.ga B.K (mkS cn))) (no : NoAttr B.K (He.ga B.K (mkS cn)) (mkS f)) (hv : SE B Y W C xq c wc) (ho : SE B Y W C xq a wa) (nc : notComp c = true) :
    SS B Y W C xq vs (.Assign [.Attribute a (mkS f) p2] c pos) (fun ρ St k => wc ρ St fun v S1 => wa ρ S1 fun x S2 => match x with
      | .ref p => match S2 p with
        | some (.ins c' fs) => (c' = cn ∧ fs.length < 1000) ∧ k.nx ρ (ups S2 p (.ins cn (putFd fs f v)))
        | _ => False
      | _ => False) := by
  obtain ⟨tc, pc, kc⟩ := hv.ex
  obtain ⟨ta, pa, ka⟩ := ho.ex
  refine ⟨⟨sFld B.K ta tc (mkS f), fun δ hδ => ps_fld (pa δ hδ) (pc δ hδ) (no_swap nc _ _ _), fun ρ St F σ H k E r e x w en => ?_⟩⟩
  refine kc ρ St F σ H _ _ r e x.eq w fun d S1 F1 v H1 f1 r1 i1 w1 => ?_
  refine ka ρ S1 F1 σ H1 _ _ r1 (e.mono f1.ext) (x.step Ag.refl f1).eq w1 fun d2 S2 F2 v2 H2 f2 r2 i2 w2 => ?_
  cases i2 with
  | ref p =>
    cases eo : S2 p with
    | none => simp only [eo] at w2
    | some o => cases o with
      | ins c' fs =>
        simp only [eo] at w2
        obtain ⟨⟨rfl, hl⟩, w2⟩ := w2
        obtain ⟨dx, ws, hx, it⟩ := (r2.own p _ eo).2
        obtain ⟨r3, f3⟩ := r2.write (o := .ins (He.ga B.K (mkS c')) dx (putF (mkS f) v ws)) (q := .ins c' (putFd fs f d)) eo ⟨dx, _, upd_same, it.put (i1.mono f2.ext)⟩
        exact ⟨p, _, dx, ws, rfl, hx, cls, no, by rw [it.length]; exact hl, en.nx ρ _ _ σ _ Ag.refl ((f1.trans f2).trans f3) r3 (((e.mono f1.ext).mono f2.ext).mono f3.ext) w2⟩
      | _ => simp only [eo] at w2
  | _ => exact False.elim w2
/-! ### o.f, o.g = .. -/
theorem wp_assign_attr {M : Model} {A : Around} {env : PySem.Env} {o : Expr} {attr : Str} {pos' : Pos} {v : Value} {Q : Unit → Shared → Prop} {E : Value → Shared → Prop} {s : Shared}
    (h : wpAny M A (eval o env) (fun ov s₂ => wpAny M A (setAttr ov attr v) Q E s₂) E s) : wpAny M A (assign (.Attribute o attr pos') env v) Q E s := fun Γ p hΓ => by
  simp only [assign_Attribute, Sem.wp_bind', Sem.wp_holding, Sem.wp_cmd_standAt, Sem.wp_release, Sem.wp_pure']
  exact Sem.wp_mono M Γ _ (fun ov _ s₂ h₂ => h₂ Γ _ hΓ) (fun _ _ _ h' => h') _ _ (h Γ _ hΓ)
def gFld (K : PySem.W.Frag) (ta : TE) (f : Str) : TG := fun y σ H Q => ta σ H fun x H2 => ∃ a C dx fs, x = .ref a ∧ H2 a = some (.ins C dx fs) ∧ Cls K C ∧ NoAttr K C f ∧ fs.length < 1000 ∧ Q σ (upd H2 a (.ins C dx (putF f y fs)))
theorem pg_fld {X : Cx} {o : Expr} {ta : TE} {f : Str} {pos' : Pos} (ha : PE X o ta) : PG X (.Attribute o f pos') (gFld X.K ta f) := by
  refine ⟨fun pins s σ H y u Q I ry h => ?_⟩
  refine wp_assign_attr (thn (ha.run pins s σ H _ I h) fun ov s2 ⟨x, H2, I2, rx, a, C, dx, fs, ex, ea, c, n, l, q2⟩ => ?_)
  subst ex
  obtain rfl : ov = Value.ref a := rx
  exact setattr_ok I2 ea c n l ry fun s3 I3 => ⟨σ, _, I3, q2⟩
theorem ups_at {S : Sto} {a : Addr} {o : DO} : ups S a o a = some o := if_pos rfl
theorem ups_ups {S : Sto} {a : Addr} {o o' : DO} : ups (ups S a o) a o' = ups S a o' := by
  funext b
  unfold ups
  split <;> rfl
theorem putF_len (f : Str) (y : V) (fs : List (Str × V)) : (putF f y fs).length ≤ fs.length + 1 := length_putF f y fs
end
def notTup (e : Expr) : Bool := match e with
  | .Tuple _ _ _ => false
  | _ => true
section
variable {B : Bx} {Y : Dl → Prop} {W : WX} {C : XC} {xq : QX} {a b c : Expr} {wa wb wc : Env → Sto → QD → Prop} {pos : Pos} {vs : List Nat}
theorem SS.unp2 {cn f1 f2 : Bs} {i : Nat} {x : Str} {p1 p2 q1 q2 pt : Pos} {kt : Nat} (cl : ∀ δ, Y δ → δ.calm = true) (cls : Cls B.K (He.ga B.K (mkS cn))) (no1 : NoAttr B.K (He.ga B.K (mkS cn)) (mkS f1)) (no2 : NoAttr B.K (He.ga B.K (mkS cn)) (mkS f2)) (hv : SE B Y W C xq c wc)
    (hN : B.N[i]? = some x) (hx : ∀ δ, Y δ → Vis δ.env.scope x) (hd : (x == ("__debug__" : Str)) = false) (hcd : (x == ("__classdict__" : Str)) = false) (nc : notComp c = true) (np : notTup c = true) :
    SS B Y W C xq vs (.Assign [.Tuple [.Attribute (.Name x p1) (mkS f1) q1, .Attribute (.Name x p2) (mkS f2) q2] kt pt] c pos) (fun ρ St k => wc ρ St fun v S1 => ∃ a fs d1 d2, get ρ i = some (.ref a) ∧ v = .tup [d1, d2] ∧ S1 a = some (.ins cn fs) ∧ fs.length < 990 ∧ k.nx ρ (ups S1 a (.ins cn (putFd (putFd fs f1 d1) f2 d2)))) := by
  obtain ⟨tc, pc, kc⟩ := hv.ex
  have pv : ∀ (p : Pos) δ, Y δ → PE (cx B δ) (.Name x p) (tVar i) := fun p δ hδ => pe_var (pos := p) (X := cx B δ) hN (hx δ hδ) hd hcd
  have pf : ∀ (p q : Pos) (f : Str) δ, Y δ → PG (cx B δ) (.Attribute (.Name x p) f q) (gFld B.K (tVar i) f) := fun p q f δ hδ => pg_fld (X := cx B δ) (pv p δ hδ)
  have pt2 : ∀ δ, Y δ → PG (cx B δ) (.Tuple [.Attribute (.Name x p1) (mkS f1) q1, .Attribute (.Name x p2) (mkS f2) q2] kt pt) (gTup B.K 2 (gCons (gFld B.K (tVar i) (mkS f1)) (gCons (gFld B.K (tVar i) (mkS f2)) gNil))) := fun δ hδ =>
    pg_tup (X := cx B δ) (n := 2) (cl δ hδ) (pgs_cons (pf p1 q1 _ δ hδ) (pgs_cons (pf p2 q2 _ δ hδ) pgs_nil))
  refine ⟨⟨tAsg tc (gTup B.K 2 (gCons (gFld B.K (tVar i) (mkS f1)) (gCons (gFld B.K (tVar i) (mkS f2)) gNil))), fun δ hδ => ps_asg (pc δ hδ) (pt2 δ hδ) (show swapsWith c (some (.Tuple [.Attribute (.Name x p1) (mkS f1) q1, .Attribute (.Name x p2) (mkS f2) q2] kt pt)) pos.line δ.env = pure false from no_swap nc _ _ _) (by cases c <;> first | (cases np; done) | rfl), fun ρ St F σ H k E r e x w en => ?_⟩⟩
  refine kc ρ St F σ H _ _ r e x.eq w fun d S1 F1 v H1 f1' r1 i1 w1 => ?_
  obtain ⟨a, fs, d1, d2, ga, rfl, ea, hl, w1⟩ := w1
  obtain ⟨u, hu, iu⟩ := e.at_ i _ ga
  cases iu
  cases i1 with
  | @tup p xs ds hq z il =>
    cases il with
    | cons j1 t1 => cases t1 with
      | cons j2 t2 =>
        cases t2
        rename_i u1 u2
        obtain ⟨dx, ws, hx, it⟩ := (r1.own a _ ea).2
        obtain ⟨r2, f2'⟩ := r1.write (o := .ins (He.ga B.K (mkS cn)) dx (putF (mkS f1) u1 ws)) (q := .ins cn (putFd fs f1 d1)) ea ⟨dx, _, upd_same, it.put j1⟩
        have it2 := (r2.own a _ ups_at).2
        obtain ⟨dx2, ws2, hx2, itx⟩ := it2
        have ew : ws2 = putF (mkS f1) u1 ws ∧ dx2 = dx := by
          rw [upd_same] at hx2
          injection hx2 with hx2
          injection hx2 with _ h2 h3
          exact ⟨h3.symm, h2.symm⟩
        obtain ⟨rfl, rfl⟩ := ew
        obtain ⟨r3, f3'⟩ := r2.write (o := .ins (He.ga B.K (mkS cn)) dx2 (putF (mkS f2) u2 (putF (mkS f1) u1 ws))) (q := .ins cn (putFd (putFd fs f1 d1) f2 d2)) ups_at ⟨dx2, _, upd_same, itx.put (j2.mono f2'.ext)⟩
        rw [ups_ups] at r3 f3'
        have lw : ws.length = fs.length := it.length
        have lw2 := putF_len (mkS f1) u1 ws
        refine ⟨p, [u1, u2], rfl, sqT_same r1.sub hq, rfl, u1, [u2], rfl, .ref a, hu, a, _, dx2, ws, rfl, hx, cls, no1, by omega, u2, [], rfl, .ref a, hu, a, _, dx2, _, rfl, upd_same, cls, no2, by omega, rfl, ?_⟩
        exact en.nx ρ _ _ σ _ Ag.refl ((f1'.trans f2').trans f3') r3 (((e.mono f1'.ext).mono f2'.ext).mono f3'.ext) w1
/-! ### methods, instances -/
theorem meth_in {B : Bx} {W : WX} {C : XC} {xq : QX} {cn m : Bs} {sp : DSp} {ta : TE} {ts : TA} {wa : Env → Sto → QD → Prop} {ws : Env → Sto → (List D → Sto → Prop) → Prop} {n : Nat}
    (ka : ∀ (ρ : Env) (St : Sto) (F : Hp) (σ : L2.St) (H : Hp) (q : QD) (Q : VK), SR B.K B.w F St H → RE B.K F ρ σ → EQ B.K B.w W C xq F St H σ → wa ρ St q → (∀ d S' F' v H', Fr F St H F' S' H' → SR B.K B.w F' S' H' → Is B.K F' v d → q d S' → Q v H') → ta σ H Q)
    (ks : ∀ (ρ : Env) (St : Sto) (F : Hp) (σ : L2.St) (H : Hp) (q : List D → Sto → Prop) (Q : List V → Hp → Prop), SR B.K B.w F St H → RE B.K F ρ σ → EQ B.K B.w W C xq F St H σ → ws ρ St q →
      (∀ ds S' F' vs H', Fr F St H F' S' H' → SR B.K B.w F' S' H' → IsL B.K F' vs ds → ds.length = n → q ds S' → Q vs H') → ts σ H Q)
    (ρ : Env) (St : Sto) (F : Hp) (σ : L2.St) (H : Hp) (q : QD) (Q : VK) (r : SR B.K B.w F St H) (e : RE B.K F ρ σ) (x : EQ B.K B.w W C xq F St H σ) (w : wa ρ St fun x S1 => ∃ p fs, x = .ref p ∧ S1 p = some (.ins cn fs) ∧ lookF fs m = none ∧ ws ρ S1 fun ds S2 => sp (x :: ds) S2 q xq)
    (k : ∀ d S' F' v H', Fr F St H F' S' H' → SR B.K B.w F' S' H' → Is B.K F' v d → q d S' → Q v H') : tMethE (He.ga B.K (mkS cn)) (mkS m) (lift B.K B.w C sp) (WE W) ta ts σ H Q := by
  refine ka ρ St F σ H _ _ r e x w fun d S1 F1 v H1 f1 r1 i1 w1 => ?_
  obtain ⟨p, fs, rfl, hp, hn, w1⟩ := w1
  cases i1
  obtain ⟨dx, us, hx, it⟩ := (r1.own p _ hp).2
  refine ⟨p, dx, us, rfl, hx, ?_, ?_⟩
  · rcases it.look (f := m) with ⟨z, _⟩ | ⟨_, _, _, z, _⟩
    · exact z
    · rw [hn] at z; cases z
  · refine ks ρ S1 F1 σ H1 _ _ r1 (e.mono f1.ext) (x.step f1) w1 fun ds S2 F2 us2 H2 f2 r2 i2 _ w2 => ?_
    exact ⟨.ref p :: ds, S2, F2, q, xq, r2, .cons (.ref p) i2, w2, fun d S' v F' H' hq f3 r3 i3 => k d S' F' v H' ((f1.trans f2).trans f3) r3 i3 hq, fun c d S' F' H' dx hq f3 r3 p3 => ((x.step f1).step f2) c d S' F' H' dx f3 r3 p3 hq⟩
theorem SE.meth {j : Nat} {cn m : Bs} {f : Addr} {fd : FuncData} {ps : List Str} {sp : DSp} {p : Pos} {es : List Expr} {ws : Env → Sto → (List D → Sto → Prop) → Prop} (tk : ∀ δ, Y δ → Takes (cx B δ) W)
    (fn : FnOk B.prog B.w B.K B.mg B.base (L2.CX B.prog B.w) j f fd ps (lift B.K B.w C sp)) (room : ∀ δ, Y δ → Room j δ.A) (cls : Cls B.K (He.ga B.K (mkS cn))) (mt : Meth B.K (He.ga B.K (mkS cn)) (mkS m) f) (bind : Binds B.K fd ps [])
    (ha : SE B Y W C xq a wa) (hs : SA B Y W C xq (b :: es) ws) (st : (b :: es).all notStar = true) (few : (b :: es).length < 20) (nc : notCall a = true) (hl : (p.endLine == pos.line) = true) :
    SE B Y W C xq (.Call (.Attribute a (mkS m) p) (b :: es) [] pos) (fun ρ St q => wa ρ St fun x S1 => ∃ p fs, x = .ref p ∧ S1 p = some (.ins cn fs) ∧ lookF fs m = none ∧ ws ρ S1 fun ds S2 => sp (x :: ds) S2 q xq) := by
  obtain ⟨ta, pa, ka⟩ := ha.ex
  obtain ⟨ts, pt, ks⟩ := hs.ex
  have st2 := st
  rw [List.all_cons, Bool.and_eq_true] at st2
  exact ⟨⟨_, fun δ hδ => pe_methE (X := cx B δ) (pa δ hδ) cls mt fn (room δ hδ) bind (fun σ => passAt (tk δ hδ) σ) (pt δ hδ) (star_cons st2.1 _) (star_all st2.2 _ _).1 (meth_tree nc hl st few), meth_in ka ks⟩⟩
theorem SE.meth0 {j : Nat} {cn m : Bs} {f : Addr} {fd : FuncData} {ps : List Str} {sp : DSp} {p : Pos} (tk : ∀ δ, Y δ → Takes (cx B δ) W)
    (fn : FnOk B.prog B.w B.K B.mg B.base (L2.CX B.prog B.w) j f fd ps (lift B.K B.w C sp)) (room : ∀ δ, Y δ → Room j δ.A) (cls : Cls B.K (He.ga B.K (mkS cn))) (mt : Meth B.K (He.ga B.K (mkS cn)) (mkS m) f) (bind : Binds B.K fd ps [])
    (ha : SE B Y W C xq a wa) (nc : notCall a = true) (hl : (p.endLine == pos.line) = true) :
    SE B Y W C xq (.Call (.Attribute a (mkS m) p) [] [] pos) (fun ρ St q => wa ρ St fun x S1 => ∃ p fs, x = .ref p ∧ S1 p = some (.ins cn fs) ∧ lookF fs m = none ∧ sp [x] S1 q xq) := by
  obtain ⟨ta, pa, ka⟩ := ha.ex
  exact ⟨⟨_, fun δ hδ => pe_methE0 (X := cx B δ) (pa δ hδ) cls mt fn (room δ hδ) bind (fun σ => passAt (tk δ hδ) σ) (meth_tree nc hl rfl (by decide)), meth_in (ws := fun ρ St q => q [] St) (n := 0) ka fun ρ St F σ H q Q r e x w k => k [] St F [] H Fr.refl r .nil rfl w⟩⟩
theorem SE.made {j : Nat} {cn : Bs} {f : Addr} {fd : FuncData} {ps : List Str} {sp : DSp} {x : Str} {p : Pos} {es : List Expr} {ws : Env → Sto → (List D → Sto → Prop) → Prop} (tk : ∀ δ, Y δ → Takes (cx B δ) W)
    (fn : FnOk B.prog B.w B.K B.mg B.base (L2.CX B.prog B.w) j f fd ps (lift B.K B.w C sp)) (room : ∀ δ, Y δ → Room (j + 1) δ.A) (mk : Mk B.K (He.ga B.K (mkS cn)) f) (gl : ∀ δ, Y δ → Gl (cx B δ) x) (at_ : B.mg x = some (.ref (He.ga B.K (mkS cn)))) (bind : Binds B.K fd ps [])
    (db : (x == ("__debug__" : Str)) = false) (hs : SA B Y W C xq (a :: es) ws) (st : (a :: es).all notStar = true) :
    SE B Y W C xq (.Call (.Name x p) (a :: es) [] pos) (fun ρ St q => ws ρ St fun ds S1 => ∀ p, S1 p = none → sp (.ref p :: ds) (ups S1 p (.ins cn [])) (fun d S2 => d = .non ∧ q (.ref p) S2) xq) := by
  obtain ⟨ts, pt, ks⟩ := hs.ex
  have st2 := st
  rw [List.all_cons, Bool.and_eq_true] at st2
  refine ⟨⟨_, fun δ hδ => pe_makeE (X := cx B δ) (E := WE W) mk fn (room δ hδ) (gl δ hδ) at_ bind (fun σ => passAt (tk δ hδ) σ) (pt δ hδ) db (star_cons st2.1 _) (star_all st2.2 _ _).1, fun ρ St F σ H q Q r e x w k => ?_⟩⟩
  refine ks ρ St F σ H _ _ r e x w fun ds S1 F1 us H1 f1 r1 i1 _ w1 => ?_
  intro y dx hy hdx ne
  obtain ⟨fF, fS⟩ := r1.fresh hdx
  have r2 : SR B.K B.w F1 S1 (upd H1 dx (.own y)) := r1.priv fF fS
  have f2 : Fr F1 S1 H1 F1 S1 (upd H1 dx (.own y)) := Fr.refl.priv hdx
  have hy2 : upd H1 dx (.own y) y = none := by rw [upd_ne (Ne.symm ne)]; exact hy
  obtain ⟨r3, f3⟩ := r2.make (o := .ins (He.ga B.K (mkS cn)) dx []) (q := .ins cn []) hy2 ⟨dx, [], upd_same, .nil⟩
  have ff := (f1.trans f2).trans f3
  refine ⟨.ref y :: ds, _, F1, _, xq, r3, .cons (.ref y) i1, w1 y (r1.fresh hy).2, fun d S' v F' H' hq f4 r4 i4 => ?_, fun c d S' F' H' dx hq f4 r4 p4 => ((x.step f1).step (f2.trans f3)) c d S' F' H' dx f4 r4 p4 hq⟩
  obtain ⟨rfl, hq⟩ := hq
  cases i4
  exact ⟨rfl, k _ S' F' _ H' (ff.trans f4) r4 (.ref y) hq⟩
/-! ### tuples turned round -/
theorem SE.revt {k : Nat} {p1 p2 p3 : Pos} (ha : SE B Y W C xq a wa) : SE B Y W C xq (.Subscript a (.Slice none none (some (.UnaryOp .USub (.Constant (.int 1) k p1) p2)) p3) pos) (fun ρ St q => wa ρ St fun x S1 => match x with | .tup ds => q (.tup ds.reverse) S1 | _ => False) := by
  obtain ⟨ta, pa, ka⟩ := ha.ex
  refine ⟨⟨tBack B.K 0 ta, fun δ hδ => pe_back (d := 0) (.inl rfl) ⟨fun pins s σ H Q I h => po_none.run pins s σ H Q I h⟩ (pa δ hδ), fun ρ St F σ H q Q r e x w kk => ?_⟩⟩
  refine ka ρ St F σ H _ _ r e x w fun d S1 F1 v H1 f1 r1 i1 w1 => ?_
  cases i1 with
  | @tup p xs ds hx z il =>
    refine ⟨p, xs, rfl, sqT_same r1.sub hx, fun p2 hp => ?_⟩
    obtain ⟨r2, f2⟩ := r1.lay (o := .tup (xs.drop 0).reverse) hp
    exact kk _ S1 _ _ _ (f1.trans f2) r2 (.tup (.inl (.inl upd_same)) (by rw [List.length_reverse, List.drop_zero]; exact z) (il.reverse.mono f2.ext)) w1
  | _ => exact False.elim w1
theorem SE.revs {k n : Nat} {p0 p1 p2 p3 : Pos} (ha : SE B Y W C xq a wa) : SE B Y W C xq (.Subscript a (.Slice none (some (.Constant (.int 0) n p0)) (some (.UnaryOp .USub (.Constant (.int 1) k p1) p2)) p3) pos) (fun ρ St q => wa ρ St fun x S1 => match x with | .tup ds => q (.tup (ds.drop 1).reverse) S1 | _ => False) := by
  obtain ⟨ta, pa, ka⟩ := ha.ex
  refine ⟨⟨tBack B.K 1 ta, fun δ hδ => pe_back (d := 1) (.inr rfl) ⟨fun pins s σ H Q I h => (po_some pe_int).run pins s σ H Q I ⟨0, rfl, h⟩⟩ (pa δ hδ), fun ρ St F σ H q Q r e x w kk => ?_⟩⟩
  refine ka ρ St F σ H _ _ r e x w fun d S1 F1 v H1 f1 r1 i1 w1 => ?_
  cases i1 with
  | @tup p xs ds hx z il =>
    refine ⟨p, xs, rfl, sqT_same r1.sub hx, fun p2 hp => ?_⟩
    obtain ⟨r2, f2⟩ := r1.lay (o := .tup (xs.drop 1).reverse) hp
    exact kk _ S1 _ _ _ (f1.trans f2) r2 (.tup (.inl (.inl upd_same)) (by rw [List.length_reverse, List.length_drop]; omega) ((il.drop 1).reverse.mono f2.ext)) w1
  | _ => exact False.elim w1
/-! ### {} for nested keys; l.extend(m) -/
theorem SE.newt : SE B Y W C xq (.Dict [] [] pos) (fun _ St q => ∀ p, St p = none → q (.ref p) (ups St p (.tdc []))) := by
  refine ⟨⟨tDNewN B.w, fun δ hδ => pe_dnewN (X := cx B δ), fun ρ St F σ H q Q r e x w k p hp => ?_⟩⟩
  obtain ⟨r2, f2⟩ := r.make (o := DNo B.w p []) (q := .tdc []) hp ⟨[], upd_same, Nat.zero_le _, List.nodup_nil, .nil⟩
  exact k _ _ _ _ _ f2 r2 (.ref p) (w p (r.fresh hp).2)
end
end DL
/-! DLY: dict comprehensions, two-fold comprehensions, extend, fields told anew, over data. -/
namespace DL
open PySem PySem.Spec PyProof.Rows L2

def stpN (K : PySem.W.Frag) (w : World) : Addr → V → V → Hp → (Hp → Prop) → Prop := fun D y z H N => ∃ (xs : List Ent) (b : Addr) (k : NestedKey), y = .ref b ∧ H D = some (DNo w D xs) ∧ KeysOk K H xs ∧ NkV K H (.ref b) k ∧ k.depth ≤ 8 ∧ xs.length < sizeLine ∧
  ∀ r, RelV z r → N (upd H D (DNo w D (storedH xs k b r)))
def stpK : Addr → V → V → Hp → (Hp → Prop) → Prop := fun D y z H N => ∃ (kvs : List (Key × V)) (k : Key), y = kV k ∧ H D = some (.dK kvs) ∧ kvs.length < sizeLine ∧ N (upd H D (.dK (putK kvs k z)))
def dsN (X : Cx) (hu : X.A.units + 9 < cLine) : DSort X where
  e0 := fun a => DNo X.w a []
  new := fun _ h hb => dn_empty h hb
  stp := stpN X.K X.w
  put := by
    rintro s0 H0 sc en fp pn τ H s E D y z u r N I ry rz ⟨xs, b, k, rfl, hD, ks, nk, kd, hz, q⟩
    exact d_dictSetN (X := X.blk s0 H0 sc en fp) hu I hD ks nk kd hz ry rz fun s' I' => ⟨_, I', q r rz⟩
def dsK (X : Cx) : DSort X where
  e0 := fun _ => .dK []
  new := fun _ h hb => dk_empty h hb
  stp := stpK
  put := by
    rintro s0 H0 sc en fp pn τ H s E D y z u r N I ry rz ⟨kvs, k, rfl, hD, hz, q⟩
    exact d_dictSet (X := X.blk s0 H0 sc en fp) I hD hz ry rz fun s' I' => ⟨_, I', q⟩
theorem dcS_it {J : L2.It} {n : Nat} {G : Hp → Prop} {Yd : Nat → Hp → V → Hp → Prop} (w : Walk J n G Yd) {stp : Addr → V → V → Hp → (Hp → Prop) → Prop} {g : TG} {tk tv : TE} {vs : List Nat} {σ : L2.St} {H0 : Hp} {D : Addr} {Qd : Hp → Prop} (Pv : Nat → Hp → Prop) (h0 : Pv 0 H0)
    (hG : ∀ i H, i ≤ n → Pv i H → G H) (hs : ∀ i x H H', i < n → Pv i H → Yd i H x H' → g x (wipe σ vs) H' fun τ H2 => wipe τ vs = wipe σ vs ∧ tk τ H2 fun y H3 => tv τ H3 fun z H4 => stp D y z H4 (Pv (i + 1))) (hd : ∀ H, Pv n H → Qd H) :
    ∃ M : Nat → Nat → Hp → Prop, (∃ m, M 0 m H0) ∧ ∀ i m H, M i m H → (J.stop i H ∧ Qd H) ∨ (J.go i H ∧ ∃ N : Hp → Prop, (∀ H', N H' → ∃ m', m' < m ∧ M (i + 1) m' H') ∧
      ∀ x H', J.yld i H x H' → g x (wipe σ vs) H' fun τ H2 => wipe τ vs = wipe σ vs ∧ tk τ H2 fun y H3 => tv τ H3 fun z H4 => stp D y z H4 N) := by
  refine ⟨fun i m H => m = n - i ∧ i ≤ n ∧ Pv i H, ⟨n, by simp, Nat.zero_le _, h0⟩, ?_⟩
  rintro i m H ⟨rfl, le, p⟩
  have gg := hG i H le p
  rcases Nat.lt_or_ge i n with lt | ge
  · exact .inr ⟨w.goes i H lt gg, Pv (i + 1), fun H' p' => ⟨n - (i + 1), by omega, rfl, lt, p'⟩, fun x H' y => hs i x H H' lt p (w.yields i H x H' lt gg y)⟩
  · obtain rfl : i = n := by omega
    exact .inl ⟨w.stops H gg, hd H p⟩
theorem yes_run {σ : L2.St} {H : Hp} {A B : Hp → Prop} (a : A H) : tYes σ H fun b H3 => if b = true then A H3 else B H3 := by
  show if true = true then A H else B H
  rw [if_pos rfl]; exact a
/-- a walk under an invariant -/
theorem walk_it {J : L2.It} {n : Nat} {G : Hp → Prop} {Yd : Nat → Hp → V → Hp → Prop} (w : Walk J n G Yd) {body : (Hp → Prop) → V → Hp → Prop} {H0 : Hp} {Qd : Hp → Prop} (Pv : Nat → Hp → Prop) (h0 : Pv 0 H0)
    (hG : ∀ i H, i ≤ n → Pv i H → G H) (hs : ∀ i x H H', i < n → Pv i H → Yd i H x H' → body (Pv (i + 1)) x H') (hd : ∀ H, Pv n H → Qd H) :
    ∃ M : Nat → Nat → Hp → Prop, (∃ m, M 0 m H0) ∧ ∀ i m H, M i m H → (J.stop i H ∧ Qd H) ∨ (J.go i H ∧ ∃ N : Hp → Prop, (∀ H', N H' → ∃ m', m' < m ∧ M (i + 1) m' H') ∧ ∀ x H', J.yld i H x H' → body N x H') := by
  refine ⟨fun i m H => m = n - i ∧ i ≤ n ∧ Pv i H, ⟨n, by simp, Nat.zero_le _, h0⟩, ?_⟩
  rintro i m H ⟨rfl, le, p⟩
  have gg := hG i H le p
  rcases Nat.lt_or_ge i n with lt | ge
  · exact .inr ⟨w.goes i H lt gg, Pv (i + 1), fun H' p' => ⟨n - (i + 1), by omega, rfl, lt, p'⟩, fun x H' y => hs i x H H' lt p (w.yields i H x H' lt gg y)⟩
  · obtain rfl : i = n := by omega
    exact .inl ⟨w.stops H gg, hd H p⟩
/-- an entry is put into a private dict -/
theorem stp_put {K : PySem.W.Frag} {ω : World} {F H : Hp} {D0 : Addr} {tk : Bool} {kvs : List (D × D)} {y z : V} {a b : D} {N : Hp → Prop} (sub : Same F H) (hF : F D0 = none) (o : OIs K ω F H D0 (mkD tk kvs)) (iy : Is K F y a) (iz : Is K F z b) (hk : okX tk a = true) (hz : kvs.length < SZ)
    (q : ∀ o2, OIs K ω F (upd H D0 o2) D0 (mkD tk (putX tk kvs a b)) → N (upd H D0 o2)) : (match tk with | true => stpN K ω | false => stpK) D0 y z H N := by
  have hz' : kvs.length < sizeLine := by rw [sizeLine_eq]; exact hz
  cases tk with
  | true =>
    obtain ⟨xs, hx, hl, nd, it⟩ := o
    obtain ⟨k, e1, e2⟩ := nk_tk hk
    have nv := iy.nk sub e1
    cases iy with
    | @tup c _ _ hb hc il =>
      refine ⟨xs, c, k, rfl, hx, it.keys sub, nv, e2, by rw [it.length]; exact hz', fun r rr => q _ ?_⟩
      obtain ⟨i2, n2⟩ := it.put (Is.tup hb hc il) hk e1 rr iz nd
      exact ⟨_, upd_same, by have := len_stored xs k c r; have := it.length; omega, n2, i2⟩
    | _ => cases hk
  | false =>
    obtain ⟨es, hx, hl, nd, m⟩ := o
    obtain ⟨k, rfl, rfl⟩ := isKey_of iy hk
    exact ⟨es, k, rfl, hx, by rw [m.length]; exact hz', q _ ⟨_, upd_same, by have := length_putK es k z; have := m.length; omega, keys_put nd, m.replace iz nd⟩⟩
section
variable {B : Bx} {Y : Dl → Prop} {W : WX} {C : XC} {xq : QX} {a b c : Expr} {wa wb wc : Env → Sto → QD → Prop} {pos : Pos} {vs : List Nat} {j : Nat}
theorem SE.dc {tkb : Bool} {kx vx tg iter : Expr} {scope : Scope} {own : List (Str × Nat)} {wi : Env → Sto → (List D → Sto → Prop) → Prop} {bd : D → Env → (Env → Prop) → Prop} {wk wv : Env → Sto → QD → Prop}
    (cl : ∀ δ, Y δ → δ.calm = true) (room : ∀ δ, Y δ → Room j δ.A) (hN : B.N.Nodup) (hi : SI B Y W C xq tg iter wi) (ok : ∀ δ, Y δ → BlkOk B.N δ.env.scope scope own) (ho : own.map (·.2) = vs)
    (hg : SG B (blkY Y scope) tg vs bd) (hk : SE B (blkY Y scope) W0 C xq0 kx wk) (hv : SE B (blkY Y scope) W0 C xq0 vx wv) (hs : notSet iter = true) :
    SE B Y W C xq (.DictComp kx vx [⟨tg, iter, [], 0⟩] scope pos) (fun ρ St q => wi ρ St fun ds S1 =>
      dcL tkb (fun d S2 k => bd d (wip ρ vs) fun ρ' => wk ρ' S2 fun a S3 => wv ρ' S3 fun b S4 => k a b S4) ds [] S1 fun kvs S2 => ∀ p, S2 p = none → q (.ref p) (ups S2 p (mkD tkb kvs))) := by
  subst ho
  obtain ⟨ti, pi, ki⟩ := hi.ex
  obtain ⟨g, pg, kg⟩ := hg.ex
  obtain ⟨tk, pk, kk⟩ := hk.ex
  obtain ⟨tv, pv, kv⟩ := hv.ex
  refine ⟨⟨tDcS (match tkb with | true => fun a => DNo B.w a [] | false => fun _ => .dK []) (match tkb with | true => stpN B.K B.w | false => stpK) ti g tk tv (own.map (·.2)), fun δ hδ => ?_, fun ρ St F σ H q Q r e x w k => ?_⟩⟩
  · have mk := fun (s : DSort (cx B δ)) => pe_dcS (pos := pos) s (cl δ hδ) hN (pi δ hδ) (ok δ hδ) (fun s H C cl fp => pg _ ⟨δ, s, H, C, cl, fp, hδ, rfl⟩) (fun s H C cl fp => pk _ ⟨δ, s, H, C, cl, fp, hδ, rfl⟩) (fun s H C cl fp => pv _ ⟨δ, s, H, C, cl, fp, hδ, rfl⟩) (folded_set hs _)
    cases tkb with
    | true => exact mk (dsN (cx B δ) (room9 (room δ hδ)))
    | false => exact mk (dsK (cx B δ))
  refine ki ρ St F σ H _ _ r e x w fun ds S1 F1 H1 J f1 r1 wd hz w1 => ?_
  intro L hL
  obtain ⟨G, Yd, walk, hG, hY⟩ := wd
  obtain ⟨hFL, hSL⟩ := r1.fresh hL
  have start : OIs B.K B.w F1 (upd H1 L ((match tkb with | true => fun a => DNo B.w a [] | false => fun _ => HO.dK []) L)) L (mkD tkb []) := by
    cases tkb with
    | true => exact ⟨[], upd_same, Nat.zero_le _, List.nodup_nil, .nil⟩
    | false => exact ⟨[], upd_same, Nat.zero_le _, List.nodup_nil, .nil⟩
  refine dcS_it walk (fun i H2 => ∃ (kvs : List (D × D)) (S2 : Sto) (F2 : Hp), OIs B.K B.w F2 H2 L (mkD tkb kvs) ∧ F2 L = none ∧ S2 L = none ∧ Fr F1 S1 H1 F2 S2 H2 ∧ SR B.K B.w F2 S2 H2 ∧
      dcL tkb (fun d S2 k => bd d (wip ρ (own.map (·.2))) fun ρ' => wk ρ' S2 fun a S3 => wv ρ' S3 fun b S4 => k a b S4) (ds.drop i) kvs S2 fun kvs S2 => ∀ p, S2 p = none → q (.ref p) (ups S2 p (mkD tkb kvs)))
    ⟨[], S1, F1, start, hFL, hSL, Fr.refl.priv hL, r1.priv hFL hSL, w1⟩
    (fun i H2 _ ⟨_, _, _, _, _, _, f2, r2, _⟩ => hG H2 _ f2.ext r2.sub) ?_ ?_
  · rintro i v H2 H3 lt ⟨kvs, S2, F2, o2, hF, hS, f2, r2, w2⟩ y
    obtain ⟨d, hd, hy⟩ := hY i H2 v H3 lt y
    obtain ⟨F3, f3, r3, iv⟩ := hy F2 S2 r2 f2.ext
    rw [drop_at hd] at w2
    -- the private dict stays
    have stay : ∀ {Fa Ha : Hp} {Sa : Sto} {Fb Hb : Hp} {Sb : Sto}, OIs B.K B.w Fa Ha L (mkD tkb kvs) → Fa L = none → Sa L = none → Fr Fa Sa Ha Fb Sb Hb → OIs B.K B.w Fb Hb L (mkD tkb kvs) ∧ Fb L = none ∧ Sb L = none := by
      intro Fa Ha Sa Fb Hb Sb oo hf hs ff
      obtain ⟨u, hu⟩ := oo.some
      obtain ⟨k1, k2, k3⟩ := ff.keep L u hu hs
      exact ⟨(oo.mono ff.ext).at (k1.trans hu.symm), k3 hf, k2⟩
    obtain ⟨o3, hF3, hS3⟩ := stay o2 hF hS f3
    have e3 : RE B.K F3 (wip ρ (own.map (·.2))) (wipe σ (own.map (·.2))) := ((e.mono f1.ext).mono ((f2.trans f3).ext)).wip _
    refine kg d _ (wipe σ (own.map (·.2))) v F3 S2 H3 _ _ iv r3 e3 w2 ?_
    intro ρ' σ' e4 sl w4
    refine ⟨(sl _ fun _ h => h).trans wipe_wipe, ?_⟩
    refine kk ρ' S2 F3 σ' H3 _ _ r3 e4 eq0 w4 fun ka S5 F5 va H5 f5 r5 i5 w5 => ?_
    obtain ⟨o5, hF5, hS5⟩ := stay o3 hF3 hS3 f5
    refine kv ρ' S5 F5 σ' H5 _ _ r5 (e4.mono f5.ext) eq0 w5 fun kb S6 F6 vb H6 f6 r6 i6 w6 => ?_
    obtain ⟨o6, hF6, hS6⟩ := stay o5 hF5 hS5 f6
    obtain ⟨⟨hk6, hz6⟩, w6⟩ := w6
    refine stp_put r6.sub hF6 o6 (i5.mono f6.ext) i6 hk6 hz6 fun ob o7 => ?_
    exact ⟨putX tkb kvs ka kb, S6, F6, o7, hF6, hS6, (((f2.trans f3).trans f5).trans f6).priv hL, r6.priv hF6 hS6, w6⟩
  · rintro H2 ⟨kvs, S2, F2, o2, hF, hS, f2, r2, w2⟩
    rw [List.drop_length] at w2
    obtain ⟨r3, f3⟩ := r2.adopt (q := mkD tkb kvs) hF hS o2 f2 hL
    exact k _ _ _ _ H2 (f1.trans f3) r3 (.ref L) (w2 L hS)

/-- [x for a in b for c in d] -/
theorem lc2_ex {elt tg iter tg1 iter1 : Expr} {scope : Scope} {own : List (Str × Nat)} {vs1 : List Nat} {wi : Env → Sto → (List D → Sto → Prop) → Prop} {bd bd1 : D → Env → (Env → Prop) → Prop} {wi1 : Env → Sto → (List D → Sto → Prop) → Prop} {we : Env → Sto → QD → Prop}
    (cl : ∀ δ, Y δ → δ.calm = true) (hN : B.N.Nodup) (hi : SI B Y W C xq tg iter wi) (ok : ∀ δ, Y δ → BlkOk B.N δ.env.scope scope own) (ho : own.map (·.2) = vs) (hv1 : ∀ i ∈ vs1, i ∈ vs)
    (hg : SG B (blkY Y scope) tg vs bd) (hi1 : SI B (blkY Y scope) W0 C xq0 tg1 iter1 wi1) (hg1 : SG B (blkY Y scope) tg1 vs1 bd1) (he : SE B (blkY Y scope) W0 C xq0 elt we) (hs : notSet iter = true) (hs1 : notSet iter1 = true) :
    ∃ t : TE, (∀ δ, Y δ → PE (cx B δ) (.ListComp elt [⟨tg, iter, [], 0⟩, ⟨tg1, iter1, [], 0⟩] scope pos) t) ∧
      (∀ δ, Y δ → ∀ (i : Nat) (y : Str) (py spos : Pos), B.N[i]? = some y → δ.env.scope.names.lookup y = some .local → δ.env.scope.kind = .function → (py.line == pos.line) = true → (scope.names.any fun (n, k) => n == y && (k == .local || k == .cell)) = false →
        PS (cx B δ) (.Assign [.Name y py] (.ListComp elt [⟨tg, iter, [], 0⟩, ⟨tg1, iter1, [], 0⟩] scope pos) spos) (tAsg t (gName i))) ∧
      ∀ (ρ : Env) (St : Sto) (F : Hp) (σ : L2.St) (H : Hp) (q : QD) (Q : VK), SR B.K B.w F St H → RE B.K F ρ σ → EQ B.K B.w W C xq F St H σ → (wi ρ St fun ds S1 => ds.length ≤ 4096 ∧
        loopL (fun d S2 k => bd d (wip ρ vs) fun ρ' => wi1 ρ' S2 fun es S3 => es.length ≤ 4096 ∧ loopL (fun e S4 k1 => bd1 e (wip ρ' vs1) fun ρ2 => we ρ2 S4 fun y S5 => k1 [y] S5) es S3 k) ds S1 fun ys S2 => q (.lst ys) S2) →
        (∀ d S' F' v H', Fr F St H F' S' H' → SR B.K B.w F' S' H' → Is B.K F' v d → q d S' → Q v H') → t σ H Q := by
  subst ho
  obtain ⟨ti, pi, ki⟩ := hi.ex
  obtain ⟨g, pg, kg⟩ := hg.ex
  obtain ⟨ti1, pi1, ki1⟩ := hi1.ex
  obtain ⟨g1, pg1, kg1⟩ := hg1.ex
  obtain ⟨te, pe, ke⟩ := he.ex
  refine ⟨tLc2 ti g tYes ti1 g1 tYes te (own.map (·.2)) vs1,
    fun δ hδ => pe_lc2 (X := cx B δ) (cl δ hδ) hN (pi δ hδ) (ok δ hδ) hv1 (fun s H C cl fp => pg _ ⟨δ, s, H, C, cl, fp, hδ, rfl⟩) (fun _ _ _ _ _ => pts_nil) (fun s H C cl fp => pi1 _ ⟨δ, s, H, C, cl, fp, hδ, rfl⟩) (fun s H C cl fp => pg1 _ ⟨δ, s, H, C, cl, fp, hδ, rfl⟩) (fun _ _ _ _ _ => pts_nil) (fun s H C cl fp => pe _ ⟨δ, s, H, C, cl, fp, hδ, rfl⟩) (folded_set hs _) (folded_set hs1),
    fun δ hδ i y py spos hy hyl hk hl ha => ps_setLc2 (X := cx B δ) (cl δ hδ) hN hy hyl (sw_true hk hyl hl ha) (pi δ hδ) (ok δ hδ) hv1 (fun s H C cl fp => pg _ ⟨δ, s, H, C, cl, fp, hδ, rfl⟩) (fun _ _ _ _ _ => pts_nil) (fun s H C cl fp => pi1 _ ⟨δ, s, H, C, cl, fp, hδ, rfl⟩) (fun s H C cl fp => pg1 _ ⟨δ, s, H, C, cl, fp, hδ, rfl⟩) (fun _ _ _ _ _ => pts_nil) (fun s H C cl fp => pe _ ⟨δ, s, H, C, cl, fp, hδ, rfl⟩) (folded_set hs _) (folded_set hs1), fun ρ St F σ H q Q r e x w k => ?_⟩
  refine ki ρ St F σ H _ _ r e x w fun ds S1 F1 H1 J f1 r1 wd hz w1 => ?_
  obtain ⟨hds, w1⟩ := w1
  intro L hL
  obtain ⟨G, Yd, walk, hG, hY⟩ := wd
  obtain ⟨hFL, hSL⟩ := r1.fresh hL
  have big : (4096 : Nat) * 4096 = sizeLine := by rw [sizeLine_eq]
  let f : D → Sto → (List D → Sto → Prop) → Prop := fun d S2 k => bd d (wip ρ (own.map (·.2))) fun ρ' => wi1 ρ' S2 fun es S3 => es.length ≤ 4096 ∧ loopL (fun e S4 k1 => bd1 e (wip ρ' vs1) fun ρ2 => we ρ2 S4 fun y S5 => k1 [y] S5) es S3 k
  -- the list so far
  let Acc (H2 : Hp) (ys : List D) (n : Nat) (S2 : Sto) (F2 : Hp) : Prop := ∃ acc : List V, H2 L = some (.lst acc) ∧ acc.length ≤ n ∧ IsL B.K F2 acc ys ∧ F2 L = none ∧ S2 L = none ∧ Fr F1 S1 H1 F2 S2 H2 ∧ SR B.K B.w F2 S2 H2
  have move : ∀ {H2 : Hp} {ys : List D} {n : Nat} {S2 : Sto} {F2 F3 : Hp} {S3 : Sto} {H3 : Hp}, Acc H2 ys n S2 F2 → Fr F2 S2 H2 F3 S3 H3 → SR B.K B.w F3 S3 H3 → Acc H3 ys n S3 F3 := by
    rintro H2 ys n S2 F2 F3 S3 H3 ⟨acc, a1, a2, a3, a4, a5, a6, a7⟩ f3 r3
    obtain ⟨k1, k2, k3⟩ := f3.keep L _ a1 a5
    have m3 : IsL B.K F3 acc ys := a3.mono f3.ext
    exact ⟨acc, k1, a2, m3, k3 a4, k2, a6.trans f3, r3⟩
  refine walk_it walk (body := fun N x H' => g x (wipe σ (own.map (·.2))) H' fun σ2 H2 => wipe σ2 (own.map (·.2)) = wipe σ (own.map (·.2)) ∧ tYes σ2 H2 fun b H3 => if b = true then ti1 σ2 H3 fun J1 H4 => ∃ W1 : Nat → Nat → Hp → Prop, (∃ m, W1 0 m H4) ∧ ∀ j k H, W1 j k H →
      (J1.stop j H ∧ N H) ∨ (J1.go j H ∧ ∃ Nx1 : Hp → Prop, (∀ H', Nx1 H' → ∃ k', k' < k ∧ W1 (j + 1) k' H') ∧ ∀ x H', J1.yld j H x H' → g1 x (wipe σ2 vs1) H' fun σ3 H5 => wipe σ3 vs1 = wipe σ2 vs1 ∧ tYes σ3 H5 fun b H6 =>
        if b = true then te σ3 H6 fun y H7 => ∃ acc, H7 L = some (.lst acc) ∧ acc.length < sizeLine ∧ Nx1 (upd H7 L (.lst (acc ++ [y]))) else Nx1 H6) else N H3)
    (fun i H2 => ∃ ys S2 F2, Acc H2 ys (i * 4096) S2 F2 ∧ loopL f (ds.drop i) S2 fun zs S3 => q (.lst (ys ++ zs)) S3)
    ⟨[], S1, F1, ⟨[], upd_same, Nat.zero_le _, .nil, hFL, hSL, Fr.refl.priv hL, r1.priv hFL hSL⟩, w1⟩
    (fun i H2 _ h => by
      obtain ⟨_, _, _, ⟨_, _, _, _, _, _, f2, r2⟩, _⟩ := h
      exact hG H2 _ f2.ext r2.sub) ?_ ?_
  · rintro i v H2 H3 lt ⟨ys, S2, F2, ac, w2⟩ y
    have ac0 := ac
    obtain ⟨acc, a1, a2, a3, a4, a5, f2, r2⟩ := ac0
    obtain ⟨d, hd, hy⟩ := hY i H2 v H3 lt y
    obtain ⟨F3, f3, r3, iv⟩ := hy F2 S2 r2 f2.ext
    rw [drop_at hd] at w2
    have ac3 := move ac f3 r3
    have e3 : RE B.K F3 (wip ρ (own.map (·.2))) (wipe σ (own.map (·.2))) := ((e.mono f1.ext).mono ((f2.trans f3).ext)).wip _
    refine kg d _ (wipe σ (own.map (·.2))) v F3 S2 H3 _ _ iv r3 e3 w2 ?_
    intro ρ' σ' e4 sl w4
    refine ⟨(sl _ fun _ h => h).trans wipe_wipe, ?_⟩
    refine yes_run ?_
    refine ki1 ρ' S2 F3 σ' H3 _ _ r3 e4 eq0 w4 fun es S5 F5 H5 J1 f5 r5 wd1 hz1 w5 => ?_
    obtain ⟨hes, w5⟩ := w5
    have ac5 := move ac3 f5 r5
    obtain ⟨G1, Yd1, walk1, hG1, hY1⟩ := wd1
    refine walk_it walk1 (body := fun N x H' => g1 x (wipe σ' vs1) H' fun σ3 H5 => wipe σ3 vs1 = wipe σ' vs1 ∧ tYes σ3 H5 fun b H6 =>
        if b = true then te σ3 H6 fun y H7 => ∃ acc, H7 L = some (.lst acc) ∧ acc.length < sizeLine ∧ N (upd H7 L (.lst (acc ++ [y]))) else N H6)
      (fun m H6 => ∃ ys' S6 F6, Acc H6 ys' (i * 4096 + m) S6 F6 ∧ Same F5 F6 ∧ loopL (fun e S4 k1 => bd1 e (wip ρ' vs1) fun ρ2 => we ρ2 S4 fun y S5 => k1 [y] S5) (es.drop m) S6 fun zs S7 => loopL f (ds.drop (i + 1)) S7 fun us S8 => q (.lst ((ys' ++ zs) ++ us)) S8)
      ⟨ys, S5, F5, ac5, Same.refl _, ?_⟩ (fun m H6 _ h => by
        obtain ⟨_, _, _, ⟨_, _, _, _, _, _, f6, r6⟩, sm, _⟩ := h
        exact hG1 H6 _ sm r6.sub) ?_ ?_
    · have : (fun (zs : List D) (S7 : Sto) => loopL f (ds.drop (i + 1)) S7 fun us S8 => q (.lst ((ys ++ zs) ++ us)) S8) = fun zs S7 => loopL f (ds.drop (i + 1)) S7 fun us S8 => q (.lst (ys ++ (zs ++ us))) S8 := by
        funext zs S7
        congr 1
        funext us S8
        rw [List.append_assoc]
      rw [this]
      exact w5
    · rintro m v6 H6 H7 lt1 ⟨ys', S6, F6, ac6, sm, w6⟩ y6
      have ac60 := ac6
      obtain ⟨acc6, _, _, _, _, _, f6, r6⟩ := ac60
      obtain ⟨d6, hd6, hy6⟩ := hY1 m H6 v6 H7 lt1 y6
      obtain ⟨F7, f7, r7, iv6⟩ := hy6 F6 S6 r6 sm
      rw [drop_at hd6] at w6
      have ac7 := move ac6 f7 r7
      have e7 : RE B.K F7 (wip ρ' vs1) (wipe σ' vs1) := (((e4.mono f5.ext).mono sm).mono f7.ext).wip _
      refine kg1 d6 _ (wipe σ' vs1) v6 F7 S6 H7 _ _ iv6 r7 e7 w6 ?_
      intro ρ2 σ2 e8 sl2 w8
      refine ⟨(sl2 _ fun _ h => h).trans wipe_wipe, ?_⟩
      refine yes_run ?_
      refine ke ρ2 S6 F7 σ2 H7 _ _ r7 e8 eq0 w8 fun d9 S9 F9 v9 H9 f9 r9 i9 w9 => ?_
      obtain ⟨acc9, b1, b2, b3, b4, b5, b6, b7⟩ := move ac7 f9 r9
      have room9 : acc9.length < sizeLine := by omega
      refine ⟨acc9, b1, room9, ys' ++ [d9], S9, F9, ⟨acc9 ++ [v9], upd_same, by rw [List.length_append, List.length_singleton]; omega, b3.snoc i9, b4, b5, b6.priv hL, b7.priv b4 b5⟩, (sm.trans f7.ext).trans f9.ext, ?_⟩
      have : (fun (zs : List D) (S7 : Sto) => loopL f (ds.drop (i + 1)) S7 fun us S8 => q (.lst ((ys' ++ [d9] ++ zs) ++ us)) S8) = fun zs S7 => loopL f (ds.drop (i + 1)) S7 fun us S8 => q (.lst ((ys' ++ ([d9] ++ zs)) ++ us)) S8 := by
        funext zs S7
        rw [List.append_assoc]
      rw [this]
      exact w9
    · rintro H6 ⟨ys', S6, F6, ac6, sm, w6⟩
      rw [List.drop_length] at w6
      have w6 : loopL f (ds.drop (i + 1)) S6 fun us S8 => q (.lst ((ys' ++ []) ++ us)) S8 := w6
      rw [List.append_nil] at w6
      obtain ⟨acc6, b1, b2, b3, b4, b5, b6, b7⟩ := ac6
      exact ⟨ys', S6, F6, ⟨acc6, b1, by rw [Nat.succ_mul]; omega, b3, b4, b5, b6, b7⟩, w6⟩
  · rintro H2 ⟨ys, S2, F2, ⟨acc, a1, a2, a3, a4, a5, f2, r2⟩, w2⟩
    rw [List.drop_length] at w2
    have w2 : q (.lst (ys ++ [])) S2 := w2
    rw [List.append_nil] at w2
    have f3 : Fr F1 S1 H1 (upd F2 L (.lst acc)) S2 H2 := f2.seal hL a4
    have fits : acc.length ≤ sizeLine := Nat.le_trans a2 (by rw [← big]; exact Nat.mul_le_mul_right _ hds)
    exact k _ S2 _ _ H2 (f1.trans f3) (r2.seal a4 a5 a1) (.lst upd_same fits (a3.mono fun b u e => by rw [upd_ne (ne_of_none e a4)]; exact e)) w2
theorem SE.lc2 {elt tg iter tg1 iter1 : Expr} {scope : Scope} {own : List (Str × Nat)} {vs1 : List Nat} {wi : Env → Sto → (List D → Sto → Prop) → Prop} {bd bd1 : D → Env → (Env → Prop) → Prop} {wi1 : Env → Sto → (List D → Sto → Prop) → Prop} {we : Env → Sto → QD → Prop}
    (cl : ∀ δ, Y δ → δ.calm = true) (hN : B.N.Nodup) (hi : SI B Y W C xq tg iter wi) (ok : ∀ δ, Y δ → BlkOk B.N δ.env.scope scope own) (ho : own.map (·.2) = vs) (hv1 : ∀ i ∈ vs1, i ∈ vs)
    (hg : SG B (blkY Y scope) tg vs bd) (hi1 : SI B (blkY Y scope) W0 C xq0 tg1 iter1 wi1) (hg1 : SG B (blkY Y scope) tg1 vs1 bd1) (he : SE B (blkY Y scope) W0 C xq0 elt we) (hs : notSet iter = true) (hs1 : notSet iter1 = true) :
    SE B Y W C xq (.ListComp elt [⟨tg, iter, [], 0⟩, ⟨tg1, iter1, [], 0⟩] scope pos) (fun ρ St q => wi ρ St fun ds S1 => ds.length ≤ 4096 ∧
        loopL (fun d S2 k => bd d (wip ρ vs) fun ρ' => wi1 ρ' S2 fun es S3 => es.length ≤ 4096 ∧ loopL (fun e S4 k1 => bd1 e (wip ρ' vs1) fun ρ2 => we ρ2 S4 fun y S5 => k1 [y] S5) es S3 k) ds S1 fun ys S2 => q (.lst ys) S2) := by
  obtain ⟨t, h1, _, h3⟩ := lc2_ex (pos := pos) cl hN hi ok ho hv1 hg hi1 hg1 he hs hs1
  exact ⟨⟨t, h1, h3⟩⟩
/-- l.extend(m) -/
theorem SS.ext {p2 p3 : Pos} (ho : SE B Y W C xq a wa) (hb : SE B Y W C xq b wb) (hc : notCall a = true) (hst : notStar b = true) (hl : (p2.endLine == p3.line) = true) :
    SS B Y W C xq vs (.Expr (.Call (.Attribute a "extend" p2) [b] [] p3) pos) (fun ρ St k => wa ρ St fun x S1 => ∃ p, x = .ref p ∧ (∃ ds, S1 p = some (.lst ds)) ∧ wb ρ S1 fun y S2 => match y with
      | .lst es => ∃ ds, S2 p = some (.lst ds) ∧ ds.length + es.length ≤ SZ ∧ k.nx ρ (ups S2 p (.lst (ds ++ es)))
      | _ => False) := by
  obtain ⟨ta, pa, ka⟩ := ho.ex
  obtain ⟨tb, pb, kb⟩ := hb.ex
  refine ⟨⟨tDrop (tBM B.K "list" rExtend ta (tCons tb tNil)), fun δ hδ => ps_expr (pe_bm (X := cx B δ) PySem.F.plainAttrs_list PySem.F.slot_list_extend PySem.F.type_list_extend mt_extend (pa δ hδ) (pa_cons (pb δ hδ) pa_nil (star_cons hst _)) (attr_base hc _ _ _)
    (by rw [star_cons hst]; rfl) hl (star_cons hst _) rfl) rfl, fun ρ St F σ H k E r e x w en => ?_⟩⟩
  refine ka ρ St F σ H _ _ r e x.eq w fun d S1 F1 v H1 f1 r1 i1 w1 => ?_
  obtain ⟨p, rfl, ⟨ds0, hp0⟩, w1⟩ := w1
  cases i1
  obtain ⟨xs0, hx0, _, _⟩ := (r1.own p _ hp0).2
  refine ⟨.inl ⟨rfl, xs0, SqL.of hx0⟩, ?_⟩
  refine kb ρ S1 F1 σ H1 _ _ r1 (e.mono f1.ext) (x.step Ag.refl f1).eq w1 fun d2 S2 F2 v2 H2 f2 r2 i2 w2 => ?_
  cases i2 with
  | @lst c ys es hy zy il =>
    obtain ⟨ds, hp, hz, w2⟩ := w2
    obtain ⟨xs, hx, z, il0⟩ := (r2.own p _ hp).2
    have hz' : xs.length + ys.length ≤ sizeLine := by rw [il0.length, il.length]; exact sum_len hz
    obtain ⟨r3, f3⟩ := r2.write (o := .lst (xs ++ ys)) (q := .lst (ds ++ es)) hp ⟨_, upd_same, by rw [List.length_append]; exact hz', il0.append il⟩
    exact ⟨p, c, xs, ys, rfl, rfl, hx, r2.sub _ _ hy, hz', en.nx ρ _ _ σ _ Ag.refl ((f1.trans f2).trans f3) r3 (((e.mono f1.ext).mono f2.ext).mono f3.ext) w2⟩
  | _ => exact False.elim w2
/-- o.f += e -/
def augOp : Op2 → V → V → Hp → VK → Prop
  | .add => rAdd
  | .sub => rSub
  | _ => fun _ _ _ _ => False
theorem aug_in {X : Cx} (op : Op2) (h : op = .add ∨ op = .sub) : InOp X (match op with | .add => .Add | _ => .Sub) (augOp op) := by
  rcases h with rfl | rfl
  · exact in_add
  · exact in_sub
theorem SS.augf {cn f : Bs} {p2 : Pos} {op : Op2} (hop : op = .add ∨ op = .sub) (cls : Cls B.K (He.ga B.K (mkS cn))) (no : NoAttr B.K (He.ga B.K (mkS cn)) (mkS f)) (ho : SE B Y W C xq a wa) (hv : SE B Y W C xq c wc) :
    SS B Y W C xq vs (.AugAssign (.Attribute a (mkS f) p2) (match op with | .add => .Add | _ => .Sub) c pos) (fun ρ St k => wa ρ St fun x S1 => match x with
      | .ref p => match S1 p with
        | some (.ins c' fs) => c' = cn ∧ ∃ d, lookF fs f = some d ∧ wc ρ S1 fun y S2 => wAug op d y fun z => match S2 p with
          | some (.ins c2 fs2) => (c2 = cn ∧ fs2.length < 1000) ∧ k.nx ρ (ups S2 p (.ins cn (putFd fs2 f z)))
          | _ => False
        | _ => False
      | _ => False) := by
  obtain ⟨ta, pa, ka⟩ := ho.ex
  obtain ⟨tc, pc, kc⟩ := hv.ex
  refine ⟨⟨sFldAug B.K ta tc (augOp op) (mkS f), fun δ hδ => ps_fldaug (pa δ hδ) (pc δ hδ) (aug_in op hop), fun ρ St F σ H k E r e x w en => ?_⟩⟩
  refine ka ρ St F σ H _ _ r e x.eq w fun d S1 F1 v H1 f1 r1 i1 w1 => ?_
  cases i1 with
  | ref p =>
    cases eo : S1 p with
    | none => simp only [eo] at w1
    | some o => cases o with
      | ins c' fs =>
        simp only [eo] at w1
        obtain ⟨rfl, d, hd, w1⟩ := w1
        obtain ⟨dx, us, hx, it⟩ := (r1.own p _ eo).2
        rcases it.look (f := f) with ⟨_, z⟩ | ⟨v, d', hv', hd', iv⟩
        · rw [hd] at z; cases z
        · rw [hd] at hd'; cases hd'
          refine ⟨p, _, dx, us, v, rfl, hx, cls, no, hv', ?_⟩
          refine kc ρ S1 F1 σ H1 _ _ r1 (e.mono f1.ext) (x.step Ag.refl f1).eq w1 fun d2 S2 F2 v2 H2 f2 r2 i2 w2 => ?_
          have iv2 := iv.mono f2.ext
          -- the store told anew
          have tell : ∀ z : Int, (match S2 p with
              | some (.ins c2 fs2) => (c2 = c' ∧ fs2.length < 1000) ∧ k.nx ρ (ups S2 p (.ins c' (putFd fs2 f (.int z))))
              | _ => False) → ∃ dx' fs', H2 p = some (.ins (He.ga B.K (mkS c')) dx' fs') ∧ fs'.length < 1000 ∧ E.nx σ (upd H2 p (.ins (He.ga B.K (mkS c')) dx' (putF (mkS f) (.int z) fs'))) := by
            intro z wz
            cases e2 : S2 p with
            | none => simp only [e2] at wz
            | some o => cases o with
              | ins c2 fs2 =>
                simp only [e2] at wz
                obtain ⟨⟨rfl, hl⟩, wz⟩ := wz
                obtain ⟨dx2, us2, hx2, it2⟩ := (r2.own p _ e2).2
                obtain ⟨r3, f3⟩ := r2.write (o := .ins (He.ga B.K (mkS c2)) dx2 (putF (mkS f) (.int z) us2)) (q := .ins c2 (putFd fs2 f (.int z))) e2 ⟨dx2, _, upd_same, it2.put (.int z)⟩
                exact ⟨dx2, us2, hx2, by rw [it2.length]; exact hl, en.nx ρ _ _ σ _ Ag.refl ((f1.trans f2).trans f3) r3 (((e.mono f1.ext).mono f2.ext).mono f3.ext) wz⟩
              | _ => simp only [e2] at wz
          rcases hop with rfl | rfl
          · cases iv2 with
            | int i => cases i2 with
              | int j => exact ⟨i, j, rfl, rfl, tell _ w2⟩
              | _ => exact False.elim w2
            | _ => exact False.elim (by cases i2 <;> exact w2)
          · cases iv2 with
            | int i => cases i2 with
              | int j => exact ⟨i, j, rfl, rfl, tell _ w2⟩
              | _ => exact False.elim w2
            | _ => exact False.elim (by cases i2 <;> exact w2)
      | _ => simp only [eo] at w1
  | _ => exact False.elim w1
end
end DL
/-! DL9: the check of an own term against the Python tree; its soundness. -/
namespace DL
open PySem PySem.Spec PyProof.Rows L2

def opOf : Op2 → Operator
  | .add => .Add
  | .sub => .Sub
  | .mul => .Mult
  | .fdiv => .FloorDiv
  | .mod => .Mod
def cmOf : Cm → CmpOp
  | .eq => .Eq
  | .ne => .NotEq
  | .lt => .Lt
  | .le => .LtE
  | .gt => .Gt
  | .ge => .GtE
  | .is => .Is
  | .isnt => .IsNot
  | .isin => .In
  | .notin => .NotIn
def bfNm : Bf → Option Str
  | .len => some "len"
  | .abs => some "abs"
  | .int => some "int"
  | .list => some "list"
  | .tuple => some "tuple"
  | .any => some "any"
  | .all => some "all"
  | .sum => some "sum"
  | .sorted => some "sorted"
  | .dict => none
def b1Nm : B1 → Str
  | .max => "max"
  | .min => "min"
  | .sstr => "sorted"
  | .sdct => "sorted"
  | .str => "str"
/-- the names of callees, of kept globals, of written dicts -/
structure Tb where
  N : List Str
  fs : Nat → Option Str
  gl : List (Str × D)
  wd : List (Str × List (D × D))
  xc : Nat → Option Str
  bs : Str
  cl : Bs → Option (List Bs)
  ms : Nat → Option (Bs × Bs)
/-- a class's field -/
def fldB (T : Tb) (c f : Bs) : Bool := match T.cl c with
  | some fs => fs.contains f
  | none => false
def initS : Bs := [95, 95, 105, 110, 105, 116, 95, 95]
mutual
/-- the very same -/
def dB : D → D → Bool
  | .non, .non => true
  | .bl a, .bl b => a == b
  | .int i, .int j => i == j
  | .str s, .str t => s == t
  | .tup xs, .tup ys => dBL xs ys
  | _, _ => false
def dBL : List D → List D → Bool
  | [], [] => true
  | x :: xs, y :: ys => dB x y && dBL xs ys
  | _, _ => false
end
mutual
theorem dB_eq : ∀ (x y : D), dB x y = true → x = y
  | .non, y, h => by cases y <;> first | rfl | (simp [dB] at h)
  | .bl a, y, h => by cases y <;> first | (simp [dB] at h; done) | (simp [dB] at h; rw [h])
  | .int a, y, h => by cases y <;> first | (simp [dB] at h; done) | (simp [dB] at h; rw [h])
  | .str a, y, h => by cases y <;> first | (simp [dB] at h; done) | (simp [dB] at h; rw [h])
  | .tup xs, y, h => by
    cases y with
    | tup ys => rw [dBL_eq xs ys h]
    | _ => simp [dB] at h
  | .lst _, y, h => by cases y <;> simp [dB] at h
  | .dct _, y, h => by cases y <;> simp [dB] at h
  | .ref _, y, h => by cases y <;> simp [dB] at h
  | .scr _, y, h => by cases y <;> simp [dB] at h
theorem dBL_eq : ∀ (x y : List D), dBL x y = true → x = y
  | [], [], _ => rfl
  | [], _ :: _, h => by simp [dBL] at h
  | _ :: _, [], h => by simp [dBL] at h
  | x :: xs, y :: ys, h => by
    rw [dBL, Bool.and_eq_true] at h
    rw [dB_eq x y h.1, dBL_eq xs ys h.2]
end
def dBM : List (D × D) → List (D × D) → Bool
  | [], [] => true
  | (a, b) :: xs, (c, d) :: ys => dB a c && dB b d && dBM xs ys
  | _, _ => false
theorem dBM_eq : ∀ (x y : List (D × D)), dBM x y = true → x = y
  | [], [], _ => rfl
  | [], _ :: _, h => by simp [dBM] at h
  | _ :: _, [], h => by simp [dBM] at h
  | (a, b) :: xs, (c, d) :: ys, h => by
    rw [dBM, Bool.and_eq_true, Bool.and_eq_true] at h
    rw [dB_eq a c h.1.1, dB_eq b d h.1.2, dBM_eq xs ys h.2]
def inGl (l : List (Str × D)) (x : Str) (d : D) : Bool := l.any fun q => decide (q.1 = x) && dB q.2 d
theorem inGl_mem {l : List (Str × D)} {x : Str} {d : D} (h : inGl l x d = true) : (x, d) ∈ l := by
  obtain ⟨⟨y, e⟩, hm, h⟩ := List.any_eq_true.mp h
  rw [Bool.and_eq_true] at h
  have h1 : y = x := of_decide_eq_true h.1
  have h2 : e = d := dB_eq _ _ h.2
  subst h1; subst h2; exact hm
def inWd (l : List (Str × List (D × D))) (x : Str) (d : List (D × D)) : Bool := l.any fun q => decide (q.1 = x) && dBM q.2 d
theorem inWd_mem {l : List (Str × List (D × D))} {x : Str} {d : List (D × D)} (h : inWd l x d = true) : (x, d) ∈ l := by
  obtain ⟨⟨y, e⟩, hm, h⟩ := List.any_eq_true.mp h
  rw [Bool.and_eq_true] at h
  have h1 : y = x := of_decide_eq_true h.1
  have h2 : e = d := dBM_eq _ _ h.2
  subst h1; subst h2; exact hm
def blts : List Str := ["len", "abs", "int", "list", "tuple", "any", "all", "sum", "isinstance", "dict", "range", "enumerate", "zip", "bool", "str", "sorted", "set", "max", "min"]
def okNm (x : Str) : Bool := !(x == ("__debug__" : Str)) && !(x == ("__classdict__" : Str))
def visB (sc : Scope) (x : Str) : Bool := match sc.names.lookup x with
  | some .local => true
  | some .cell => true
  | some .free => true
  | _ => false
def glB (sc : Scope) (x : Str) : Bool := match sc.names.lookup x with
  | some .globalImplicit => true
  | _ => false
/-- may be stored to: fc: the block's own cells -/
def fcB (fc : Option Scope) (x : Str) : Bool := match fc with
  | none => true
  | some s => s.names.lookup x == some .cell
def stoB (sc : Scope) (fc : Option Scope) (x : Str) : Bool := match sc.names.lookup x with
  | some .local => true
  | some .cell => fcB fc x
  | _ => false
def ownB (own : Option (List Nat)) (i : Nat) : Bool := match own with
  | none => true
  | some vs => vs.contains i

/-! ### what an expression is -/
def kName (x : Expr) (f : Str → Bool) : Bool := match x with
  | .Name y _ => f y
  | _ => false
theorem kName_inv {x : Expr} {f : Str → Bool} (h : kName x f = true) : ∃ y p, x = .Name y p ∧ f y = true := by
  unfold kName at h; split at h
  · exact ⟨_, _, rfl, h⟩
  · cases h
def kConst (x : Expr) (f : Const → Bool) : Bool := match x with
  | .Constant c _ _ => f c
  | _ => false
theorem kConst_inv {x : Expr} {f : Const → Bool} (h : kConst x f = true) : ∃ c j p, x = .Constant c j p ∧ f c = true := by
  unfold kConst at h; split at h
  · exact ⟨_, _, _, rfl, h⟩
  · cases h
def kTuple (x : Expr) (f : List Expr → Bool) : Bool := match x with
  | .Tuple es _ _ => f es
  | _ => false
theorem kTuple_inv {x : Expr} {f : List Expr → Bool} (h : kTuple x f = true) : ∃ es j p, x = .Tuple es j p ∧ f es = true := by
  unfold kTuple at h; split at h
  · exact ⟨_, _, _, rfl, h⟩
  · cases h
def kList (x : Expr) (f : List Expr → Bool) : Bool := match x with
  | .List es _ => f es
  | _ => false
theorem kList_inv {x : Expr} {f : List Expr → Bool} (h : kList x f = true) : ∃ es p, x = .List es p ∧ f es = true := by
  unfold kList at h; split at h
  · exact ⟨_, _, rfl, h⟩
  · cases h
def kDict (x : Expr) (f : List (Option Expr) → List Expr → Bool) : Bool := match x with
  | .Dict ks es _ => f ks es
  | _ => false
theorem kDict_inv {x : Expr} {f : List (Option Expr) → List Expr → Bool} (h : kDict x f = true) : ∃ ks es p, x = .Dict ks es p ∧ f ks es = true := by
  unfold kDict at h; split at h
  · exact ⟨_, _, _, rfl, h⟩
  · cases h
def kBin (x : Expr) (f : Expr → Operator → Expr → Bool) : Bool := match x with
  | .BinOp a o b _ => f a o b
  | _ => false
theorem kBin_inv {x : Expr} {f : Expr → Operator → Expr → Bool} (h : kBin x f = true) : ∃ a o b p, x = .BinOp a o b p ∧ f a o b = true := by
  unfold kBin at h; split at h
  · exact ⟨_, _, _, _, rfl, h⟩
  · cases h
def kNeg (x : Expr) (f : Expr → Bool) : Bool := match x with
  | .UnaryOp .USub a _ => f a
  | _ => false
theorem kNeg_inv {x : Expr} {f : Expr → Bool} (h : kNeg x f = true) : ∃ a p, x = .UnaryOp .USub a p ∧ f a = true := by
  unfold kNeg at h; split at h
  · exact ⟨_, _, rfl, h⟩
  · cases h
def kNot (x : Expr) (f : Expr → Bool) : Bool := match x with
  | .UnaryOp .Not a _ => f a
  | _ => false
theorem kNot_inv {x : Expr} {f : Expr → Bool} (h : kNot x f = true) : ∃ a p, x = .UnaryOp .Not a p ∧ f a = true := by
  unfold kNot at h; split at h
  · exact ⟨_, _, rfl, h⟩
  · cases h
def kBool (x : Expr) (f : Bool → List Expr → Bool) : Bool := match x with
  | .BoolOp op es _ => f (match op with | .And => true | .Or => false) es
  | _ => false
theorem kBool_inv {x : Expr} {f : Bool → List Expr → Bool} (h : kBool x f = true) : ∃ op es p, x = .BoolOp op es p ∧ f (match op with | .And => true | .Or => false) es = true := by
  unfold kBool at h; split at h
  · exact ⟨_, _, _, rfl, h⟩
  · cases h
def kCmp (x : Expr) (f : Expr → CmpOp → Expr → Bool) : Bool := match x with
  | .Compare a [o] [b] _ => f a o b
  | _ => false
theorem kCmp_inv {x : Expr} {f : Expr → CmpOp → Expr → Bool} (h : kCmp x f = true) : ∃ a o b p, x = .Compare a [o] [b] p ∧ f a o b = true := by
  unfold kCmp at h; split at h
  · exact ⟨_, _, _, _, rfl, h⟩
  · cases h
def kChn (x : Expr) (f : Expr → CmpOp → Expr → CmpOp → Expr → Bool) : Bool := match x with
  | .Compare a [o, q] [b, c] _ => f a o b q c
  | _ => false
theorem kChn_inv {x : Expr} {f : Expr → CmpOp → Expr → CmpOp → Expr → Bool} (h : kChn x f = true) : ∃ a o b q c p, x = .Compare a [o, q] [b, c] p ∧ f a o b q c = true := by
  unfold kChn at h; split at h
  · exact ⟨_, _, _, _, _, _, rfl, h⟩
  · cases h
def kIf (x : Expr) (f : Expr → Expr → Expr → Bool) : Bool := match x with
  | .IfExp c a b _ => f c a b
  | _ => false
theorem kIf_inv {x : Expr} {f : Expr → Expr → Expr → Bool} (h : kIf x f = true) : ∃ c a b p, x = .IfExp c a b p ∧ f c a b = true := by
  unfold kIf at h; split at h
  · exact ⟨_, _, _, _, rfl, h⟩
  · cases h
def kSub (x : Expr) (f : Expr → Expr → Bool) : Bool := match x with
  | .Subscript a b _ => f a b
  | _ => false
theorem kSub_inv {x : Expr} {f : Expr → Expr → Bool} (h : kSub x f = true) : ∃ a b p, x = .Subscript a b p ∧ f a b = true := by
  unfold kSub at h; split at h
  · exact ⟨_, _, _, rfl, h⟩
  · cases h
def kSl (x : Expr) (f : Option Expr → Option Expr → Bool) : Bool := match x with
  | .Slice a b none _ => f a b
  | _ => false
theorem kSl_inv {x : Expr} {f : Option Expr → Option Expr → Bool} (h : kSl x f = true) : ∃ a b p, x = .Slice a b none p ∧ f a b = true := by
  unfold kSl at h; split at h
  · exact ⟨_, _, _, rfl, h⟩
  · cases h
def kRev (x : Expr) : Bool := match x with
  | .Slice none none (some (.UnaryOp .USub (.Constant (.int 1) _ _) _)) _ => true
  | _ => false
theorem kRev_inv {x : Expr} (h : kRev x = true) : ∃ k p1 p2 p3, x = .Slice none none (some (.UnaryOp .USub (.Constant (.int 1) k p1) p2)) p3 := by
  unfold kRev at h; split at h
  · exact ⟨_, _, _, _, rfl⟩
  · cases h
def kCall (x : Expr) (f : Str → List Expr → Bool) : Bool := match x with
  | .Call (.Name y _) es [] _ => f y es
  | _ => false
theorem kCall_inv {x : Expr} {f : Str → List Expr → Bool} (h : kCall x f = true) : ∃ y p es q, x = .Call (.Name y p) es [] q ∧ f y es = true := by
  unfold kCall at h; split at h
  · exact ⟨_, _, _, _, rfl, h⟩
  · cases h
def kMeth (x : Expr) (f : Expr → Str → List Expr → Bool) : Bool := match x with
  | .Call (.Attribute a m p) es [] q => (p.endLine == q.line) && notCall a && f a m es
  | _ => false
theorem kMeth_inv {x : Expr} {f : Expr → Str → List Expr → Bool} (h : kMeth x f = true) : ∃ a m p es q, x = .Call (.Attribute a m p) es [] q ∧ (p.endLine == q.line) = true ∧ notCall a = true ∧ f a m es = true := by
  unfold kMeth at h; split at h
  · simp only [Bool.and_eq_true] at h
    exact ⟨_, _, _, _, _, rfl, h.1.1, h.1.2, h.2⟩
  · cases h
def kLc (x : Expr) (f : Expr → Expr → Expr → List Expr → Scope → Bool) : Bool := match x with
  | .ListComp a [⟨g, i, cs, .ofNat 0⟩] s _ => f a g i cs s
  | _ => false
theorem kLc_inv {x : Expr} {f : Expr → Expr → Expr → List Expr → Scope → Bool} (h : kLc x f = true) : ∃ a g i cs s p, x = .ListComp a [⟨g, i, cs, 0⟩] s p ∧ f a g i cs s = true := by
  unfold kLc at h; split at h
  · exact ⟨_, _, _, _, _, _, rfl, h⟩
  · cases h
def kAttr (x : Expr) (f : Expr → Str → Bool) : Bool := match x with
  | .Attribute a m _ => f a m
  | _ => false
theorem kAttr_inv {x : Expr} {f : Expr → Str → Bool} (h : kAttr x f = true) : ∃ a m p, x = .Attribute a m p ∧ f a m = true := by
  unfold kAttr at h; split at h
  · exact ⟨_, _, _, rfl, h⟩
  · cases h
def kDc (x : Expr) (f : Expr → Expr → Expr → Expr → Scope → Bool) : Bool := match x with
  | .DictComp a b [⟨g, i, [], .ofNat 0⟩] s _ => f a b g i s
  | _ => false
theorem kDc_inv {x : Expr} {f : Expr → Expr → Expr → Expr → Scope → Bool} (h : kDc x f = true) : ∃ a b g i s p, x = .DictComp a b [⟨g, i, [], 0⟩] s p ∧ f a b g i s = true := by
  unfold kDc at h; split at h
  · exact ⟨_, _, _, _, _, _, rfl, h⟩
  · cases h
def kLc2 (x : Expr) (f : Expr → Expr → Expr → Expr → Expr → Scope → Bool) : Bool := match x with
  | .ListComp a [⟨g, i, [], .ofNat 0⟩, ⟨g1, i1, [], .ofNat 0⟩] s _ => f a g i g1 i1 s
  | _ => false
theorem kLc2_inv {x : Expr} {f : Expr → Expr → Expr → Expr → Expr → Scope → Bool} (h : kLc2 x f = true) : ∃ a g i g1 i1 s p, x = .ListComp a [⟨g, i, [], 0⟩, ⟨g1, i1, [], 0⟩] s p ∧ f a g i g1 i1 s = true := by
  unfold kLc2 at h; split at h
  · exact ⟨_, _, _, _, _, _, _, rfl, h⟩
  · cases h
def kRev0 (x : Expr) : Bool := match x with
  | .Slice none (some (.Constant (.int 0) _ _)) (some (.UnaryOp .USub (.Constant (.int 1) _ _) _)) _ => true
  | _ => false
theorem kRev0_inv {x : Expr} (h : kRev0 x = true) : ∃ n p0 k p1 p2 p3, x = .Slice none (some (.Constant (.int 0) n p0)) (some (.UnaryOp .USub (.Constant (.int 1) k p1) p2)) p3 := by
  unfold kRev0 at h; split at h
  · exact ⟨_, _, _, _, _, _, rfl⟩
  · cases h
def one (es : List Expr) (f : Expr → Bool) : Bool := match es with
  | [x] => f x
  | _ => false
theorem one_inv {es : List Expr} {f : Expr → Bool} (h : one es f = true) : ∃ x, es = [x] ∧ f x = true := by
  unfold one at h; split at h
  · exact ⟨_, rfl, h⟩
  · cases h
def two (es : List Expr) (f : Expr → Expr → Bool) : Bool := match es with
  | [x, y] => f x y
  | _ => false
theorem two_inv {es : List Expr} {f : Expr → Expr → Bool} (h : two es f = true) : ∃ x y, es = [x, y] ∧ f x y = true := by
  unfold two at h; split at h
  · exact ⟨_, _, rfl, h⟩
  · cases h
mutual
def okTg (N : List Str) (sc : Scope) (fc : Option Scope) (own : Option (List Nat)) : Tg → Expr → Bool
  | .nm i, e => kName e fun x => decide (N[i]? = some x) && stoB sc fc x && ownB own i
  | .tup ts, e => kTuple e fun es => es.all notStar && okTgs N sc fc own ts es
def okTgs (N : List Str) (sc : Scope) (fc : Option Scope) (own : Option (List Nat)) : Tgs → List Expr → Bool
  | .nil, [] => true
  | .cons t ts, e :: es => okTg N sc fc own t e && okTgs N sc fc own ts es
  | _, _ => false
end
def ownOf (N : List Str) : List Nat → List (Str × Nat)
  | [] => []
  | v :: vs => ((N[v]?).getD "", v) :: ownOf N vs
mutual
/-- t: as a test -/
def okE (T : Tb) (t : Bool) (sc : Scope) : E → Expr → Bool
  | .var i, e => kName e fun x => decide (T.N[i]? = some x) && visB sc x && okNm x
  | .non, e => kConst e fun c => match c with | .none => true | _ => false
  | .bl b, e => kConst e fun c => match c with | .bool c => b == c | _ => false
  | .int i, e => kConst e fun c => match c with | .int j => decide (i = j) | _ => false
  | .str s, e => kConst e fun c => match c with | .str z => decide (z = mkS s) && decide (s.length ≤ 1000) | _ => false
  | .glb y d, e => kName e fun x => decide (y = x) && glB sc x && okNm x && inGl T.gl y d
  | .tup es, e => kTuple e fun xs => decide (xs.length ≤ 1000) && xs.all notStar && okEs T sc es xs
  | .lst es, e => kList e fun xs => decide (xs.length ≤ 1000) && xs.all notStar && okEs T sc es xs
  | .newl es, e => kList e fun xs => decide (xs.length ≤ 1000) && xs.all notStar && okEs T sc es xs
  | .dct es, e => kDict e fun ks xs => !ks.isEmpty && decide (ks.length ≤ 15) && okPs T sc es ks xs
  | .newk es, e => kDict e fun ks xs => !ks.isEmpty && decide (ks.length ≤ 15) && okPs T sc es ks xs
  | .newd, e => kDict e fun ks xs => ks.isEmpty && xs.isEmpty
  | .bin o a b, e => kBin e fun x p y => decide (opOf o = p) && okE T false sc a x && okE T false sc b y
  | .neg a, e => kNeg e fun x => okE T false sc a x
  | .not a, e => kNot e fun x => okE T t sc a x
  | .boo an es, e => kBool e fun op xs => (op == an) && !xs.isEmpty && okBs T t sc es xs
  | .cmp o a b, e => kCmp e fun x p y => decide (cmOf o = p) && notSet y && okE T false sc a x && okE T false sc b y
  | .chn o q a b c, e => kChn e fun x p y r z => decide (cmOf o = p) && decide (cmOf q = r) && notSet y && notSet z && okE T false sc a x && okE T false sc b y && okE T false sc c z
  | .ite c a b, e => kIf e fun z x y => !t && okE T true sc c z && okE T false sc a x && okE T false sc b y
  | .idx a i, e => kSub e fun x y => notSlice y && okE T false sc a x && okE T false sc i y
  | .wget u kvs i, e => kSub e fun z y => kName z fun x => decide (u = x) && glB sc x && okNm x && notSlice y && okE T false sc i y && inWd T.wd u kvs
  | .sl a lo hi, e => kSub e fun x z => okE T false sc a x && kSl z fun l h => okO T sc lo l && okO T sc hi h
  | .rev a, e => kSub e fun x z => kRev z && okE T false sc a x
  | .call f es, e => kCall e fun x xs => decide (T.fs f = some x) && glB sc x && okNm x && !xs.isEmpty && xs.all notStar && okEs T sc es xs
  | .bif f a, e => kCall e fun x xs => one xs fun y => decide (bfNm f = some x) && glB sc x && notStar y && okE T false sc a y
  | .isi u a, e => kCall e fun x xs => two xs fun y z => kName z fun z => decide (x = "isinstance") && decide (z = Str.ofString (tyNm u)) && glB sc x && glB sc z && notStar y && okE T false sc a y
  | .join a b, e => kMeth e fun x m xs => one xs fun y => decide (m = "join") && notStar y && okE T false sc a x && okE T false sc b y
  | .lc elt tg it tt own, e => kLc e fun x g i cs scope => notSet i && blkC T.N sc scope (ownOf T.N own) && okWk T sc it g i && okTg T.N (relS scope sc) (some scope) (some own) tg g &&
      okTt T (relS scope sc) tt cs && okE T false (relS scope sc) elt x
  | .frz a, e => okE T false sc a e && (!t || plainTest e)
  | .popl a, e => kMeth e fun x m xs => xs.isEmpty && decide (m = "pop") && okE T false sc a x
  | .copyd a, e => kCall e fun x xs => one xs fun y => decide (x = "dict") && glB sc x && notStar y && okE T false sc a y
  | .b1 f a, e => kCall e fun x xs => one xs fun y => decide (x = b1Nm f) && glB sc x && notStar y && okE T false sc a y
  | .ssrt a, e => kCall e fun x xs => one xs fun z => kCall z fun u ys => one ys fun y => decide (x = "sorted") && decide (u = "set") && glB sc x && glB sc u && notStar y && okE T false sc a y
  | .slen a, e => kCall e fun x xs => one xs fun z => kCall z fun u ys => one ys fun y => decide (x = "len") && decide (u = "set") && glB sc x && glB sc u && notStar y && okE T false sc a y
  | .dpop a k d, e => kMeth e fun x m xs => two xs fun y z => decide (m = "pop") && notStar y && notStar z && okE T false sc a x && okE T false sc k y && okE T false sc d z
  | .newt, e => kDict e fun ks xs => ks.isEmpty && xs.isEmpty
  | .dc tk kx vx tg it own, e => kDc e fun x y g i scope => notSet i && blkC T.N sc scope (ownOf T.N own) && okWk T sc it g i && okTg T.N (relS scope sc) (some scope) (some own) tg g &&
      okE T false (relS scope sc) kx x && okE T false (relS scope sc) vx y
  | .lc2 elt tg it tg1 it1 own own1, e => kLc2 e fun x g i g1 i1 scope => notSet i && notSet i1 && own1.all (fun v => own.contains v) && blkC T.N sc scope (ownOf T.N own) && okWk T sc it g i && okTg T.N (relS scope sc) (some scope) (some own) tg g &&
      okWk T (relS scope sc) it1 g1 i1 && okTg T.N (relS scope sc) (some scope) (some own1) tg1 g1 && okE T false (relS scope sc) elt x
  | .revt a, e => kSub e fun x z => kRev z && okE T false sc a x
  | .revs a, e => kSub e fun x z => kRev0 z && okE T false sc a x
  | .slN a lo hi, e => kSub e fun x z => okE T false sc a x && kSl z fun l h => okO T sc lo l && okO T sc hi h
  | .fld c a f, e => kAttr e fun x m => decide (m = mkS f) && notCall x && fldB T c f && okE T false sc a x
  | .mk c i es, e => kCall e fun x xs => decide (x = mkS c) && decide (T.ms i = some (c, initS)) && glB sc x && okNm x && !xs.isEmpty && xs.all notStar && okEs T sc es xs
  | .meth c m i a es, e => kMeth e fun x n xs => decide (n = mkS m) && decide (T.ms i = some (c, m)) && xs.all notStar && decide (xs.length < 20) && okE T false sc a x && okEs T sc es xs
def okEs (T : Tb) (sc : Scope) : Es → List Expr → Bool
  | .nil, [] => true
  | .cons a es, x :: xs => okE T false sc a x && okEs T sc es xs
  | _, _ => false
def okPs (T : Tb) (sc : Scope) : Es → List (Option Expr) → List Expr → Bool
  | .nil, [], [] => true
  | .cons a (.cons b es), some x :: ks, y :: ys => okE T false sc a x && okE T false sc b y && okPs T sc es ks ys
  | _, _, _ => false
def okBs (T : Tb) (t : Bool) (sc : Scope) : Es → List Expr → Bool
  | .nil, [] => true
  | .cons a es, x :: xs => okE T t sc a x && okBs T t sc es xs
  | _, _ => false
def okTt (T : Tb) (sc : Scope) : Es → List Expr → Bool
  | .nil, [] => true
  | .cons a .nil, [x] => okE T true sc a x
  | _, _ => false
def okO (T : Tb) (sc : Scope) : Eo → Option Expr → Bool
  | .none, none => true
  | .some a, some x => okE T false sc a x
  | _, _ => false
def okWk (T : Tb) (sc : Scope) : Wk → Expr → Expr → Bool
  | .over a, _, e => okE T false sc a e
  | .rng1 a, _, e => kCall e fun f xs => one xs fun x => decide (f = "range") && glB sc f && notStar x && okE T false sc a x
  | .rng2 a b, _, e => kCall e fun f xs => two xs fun x y => decide (f = "range") && glB sc f && notStar x && notStar y && okE T false sc a x && okE T false sc b y
  | .enum a, g, e => kTuple g fun _ => kCall e fun f xs => one xs fun x => decide (f = "enumerate") && glB sc f && notStar x && okE T false sc a x
  | .zip a b, g, e => kTuple g fun _ => kCall e fun f xs => two xs fun x y => decide (f = "zip") && glB sc f && notStar x && notStar y && okE T false sc a x && okE T false sc b y
end

/-! ### statements -/
def kAsg (x : Stmt) (f : Expr → Expr → Bool) : Bool := match x with
  | .Assign [g] e _ => f g e
  | _ => false
theorem kAsg_inv {x : Stmt} {f : Expr → Expr → Bool} (h : kAsg x f = true) : ∃ g e p, x = .Assign [g] e p ∧ f g e = true := by
  unfold kAsg at h; split at h
  · exact ⟨_, _, _, rfl, h⟩
  · cases h
def kAug (x : Stmt) (f : Str → Operator → Expr → Bool) : Bool := match x with
  | .AugAssign (.Name g _) o e _ => f g o e
  | _ => false
theorem kAug_inv {x : Stmt} {f : Str → Operator → Expr → Bool} (h : kAug x f = true) : ∃ g q o e p, x = .AugAssign (.Name g q) o e p ∧ f g o e = true := by
  unfold kAug at h; split at h
  · exact ⟨_, _, _, _, _, rfl, h⟩
  · cases h
def kExp (x : Stmt) (f : Expr → Bool) : Bool := match x with
  | .Expr e _ => f e
  | _ => false
theorem kExp_inv {x : Stmt} {f : Expr → Bool} (h : kExp x f = true) : ∃ e p, x = .Expr e p ∧ f e = true := by
  unfold kExp at h; split at h
  · exact ⟨_, _, rfl, h⟩
  · cases h
def kRet (x : Stmt) (f : Option Expr → Bool) : Bool := match x with
  | .Return e _ => f e
  | _ => false
theorem kRet_inv {x : Stmt} {f : Option Expr → Bool} (h : kRet x f = true) : ∃ e p, x = .Return e p ∧ f e = true := by
  unfold kRet at h; split at h
  · exact ⟨_, _, rfl, h⟩
  · cases h
def kIfS (x : Stmt) (f : Expr → List Stmt → List Stmt → Bool) : Bool := match x with
  | .If c a b _ => f c a b
  | _ => false
theorem kIfS_inv {x : Stmt} {f : Expr → List Stmt → List Stmt → Bool} (h : kIfS x f = true) : ∃ c a b p, x = .If c a b p ∧ f c a b = true := by
  unfold kIfS at h; split at h
  · exact ⟨_, _, _, _, rfl, h⟩
  · cases h
def kWhile (x : Stmt) (f : Expr → List Stmt → Bool) : Bool := match x with
  | .While c a [] _ => f c a
  | _ => false
theorem kWhile_inv {x : Stmt} {f : Expr → List Stmt → Bool} (h : kWhile x f = true) : ∃ c a p, x = .While c a [] p ∧ f c a = true := by
  unfold kWhile at h; split at h
  · exact ⟨_, _, _, rfl, h⟩
  · cases h
def kFor (x : Stmt) (f : Expr → Expr → List Stmt → Bool) : Bool := match x with
  | .For g i a [] _ => f g i a
  | _ => false
theorem kFor_inv {x : Stmt} {f : Expr → Expr → List Stmt → Bool} (h : kFor x f = true) : ∃ g i a p, x = .For g i a [] p ∧ f g i a = true := by
  unfold kFor at h; split at h
  · exact ⟨_, _, _, _, rfl, h⟩
  · cases h
def kPass : Stmt → Bool
  | .Pass _ => true
  | _ => false
def kBrk : Stmt → Bool
  | .Break _ => true
  | _ => false
def kCont : Stmt → Bool
  | .Continue _ => true
  | _ => false
/-- name = [.. for ..]: the name is plainly local, not one of the comprehension's own -/
def lcSet (sc : Scope) (g x : Expr) : Bool := match x, g with
  | .ListComp _ _ scope cpos, .Name y py => (match sc.names.lookup y with | some .local => true | _ => false) && (py.line == cpos.line) && !(scope.names.any fun (n, k) => n == y && (k == .local || k == .cell))
  | _, _ => false
theorem lcSet_inv {sc : Scope} {g x : Expr} (h : lcSet sc g x = true) : ∃ a b scope cpos y py, x = .ListComp a b scope cpos ∧ g = .Name y py ∧ sc.names.lookup y = some .local ∧ (py.line == cpos.line) = true ∧ (scope.names.any fun (n, k) => n == y && (k == .local || k == .cell)) = false := by
  unfold lcSet at h; split at h
  · simp only [Bool.and_eq_true, Bool.not_eq_true'] at h
    obtain ⟨⟨h1, h2⟩, h3⟩ := h
    refine ⟨_, _, _, _, _, _, rfl, rfl, ?_, h2, h3⟩
    split at h1
    · assumption
    · cases h1
  · cases h
def isLc : E → Bool
  | .lc _ _ _ _ _ => true
  | .lc2 _ _ _ _ _ _ _ => true
  | _ => false
def isPM : Op2 → Bool
  | .add => true
  | .sub => true
  | _ => false
def notPair (g x : Expr) : Bool := match g with
  | .Name _ _ => true
  | .Tuple _ _ _ => (match x with
    | .Tuple _ _ _ => false
    | _ => true)
  | _ => false
theorem no_pair {g x : Expr} (h : notPair g x = true) (env : PySem.Env) : swappedStores [g] x env = pure none := by
  cases g with
  | Name => rfl
  | Tuple => cases x <;> first | (cases h; done) | rfl
  | _ => cases h
/-- a name that is not plainly local -/
def cellT (sc : Scope) (g : Expr) : Bool := match g with
  | .Name y _ => !(sc.names.lookup y == some .local)
  | _ => false
theorem cell_swap {sc : Scope} {g x : Expr} (h : cellT sc g = true) (l : Nat) (env : PySem.Env) (he : env.scope = sc) : swapsWith x (some g) l env = pure false := by
  unfold cellT at h
  split at h
  · next y p =>
    have hk : (env.kindOf y == some .local) = false := by
      show (env.scope.names.lookup y == some .local) = false
      rw [he]
      simpa using h
    cases x <;> first | rfl | (unfold swapsWith; simp [hk])
  · cases h
/-- a tuple to a tuple whose names are not all plainly local -/
def cellPair (sc : Scope) (g x : Expr) : Bool := match g, x with
  | .Tuple ts _ _, .Tuple vs _ _ => !(ts.length == 2 || ts.length == 3) || vs.length != ts.length || ts.any fun t => match t with
    | .Name id _ => !(sc.names.lookup id == some .local)
    | _ => true
  | _, _ => false
theorem filterMap_short {α β : Type} (f : α → Option β) : ∀ (l : List α), (∃ t ∈ l, f t = none) → (l.filterMap f).length < l.length
  | [], h => by obtain ⟨_, h, _⟩ := h; cases h
  | a :: l, h => by
    have hl : (l.filterMap f).length ≤ l.length := List.length_filterMap_le f l
    rw [List.filterMap_cons]
    cases e : f a with
    | none => show (l.filterMap f).length < l.length + 1; omega
    | some b =>
      obtain ⟨t, ht, hf⟩ := h
      rcases List.mem_cons.mp ht with rfl | ht
      · rw [e] at hf; cases hf
      · have := filterMap_short f l ⟨t, ht, hf⟩
        show (l.filterMap f).length + 1 < l.length + 1; omega
theorem no_cell {sc : Scope} {g x : Expr} (h : cellPair sc g x = true) (env : PySem.Env) (he : env.scope = sc) : swappedStores [g] x env = pure none := by
  unfold cellPair at h
  split at h
  · next ts k1 p1 vs k2 p2 =>
    show (if (!(ts.length == 2 || ts.length == 3) || vs.length != ts.length || env.blockKind != .function) = true then pure none else _) = _
    split
    · rfl
    · next h1 =>
      simp only [Bool.or_eq_true, not_or] at h1 h
      obtain ⟨⟨h2, h3⟩, h4⟩ := h1
      have h5 : (ts.any fun t => match t with
        | .Name id _ => !(sc.names.lookup id == some .local)
        | _ => true) = true := by
        rcases h with (h | h) | h
        · exact absurd h h2
        · exact absurd h h3
        · exact h
      split
      · rfl
      · obtain ⟨t, ht, hf⟩ := List.any_eq_true.mp h5
        have := filterMap_short (fun (e : Expr) => match e with
          | .Name id pos => if env.kindOf id == some .local && pos.line == (ts.head?.map (·.pos.line)).getD 0 then some id else none
          | _ => none) ts ⟨t, ht, by
            cases t with
            | Name id pos =>
              have hf : (!(sc.names.lookup id == some .local)) = true := hf
              have : (env.kindOf id == some .local) = false := by
                show (env.scope.names.lookup id == some .local) = false
                rw [he]
                simpa using hf
              show (if env.kindOf id == some .local && pos.line == _ then some id else none) = none
              rw [this]
              rfl
            | _ => rfl⟩
        have e : (((ts.filterMap (fun (e : Expr) => match e with
          | .Name id pos => if env.kindOf id == some .local && pos.line == (ts.head?.map (·.pos.line)).getD 0 then some id else none
          | _ => none)).length != ts.length) = true) := by
          rw [bne_iff_ne]; omega
        show (if ((ts.filterMap _).length != ts.length || _) = true then pure none else _) = _
        rw [if_pos (by rw [Bool.or_eq_true]; exact .inl e)]
  · cases h
/-- x, y = a, b -/
def kPar (s : Stmt) (f : Str → Str → Expr → Expr → Bool) : Bool := match s with
  | .Assign [.Tuple [.Name x px, .Name y py] _ _] (.Tuple [a, b] _ _) _ => px.line == px.line && py.line == px.line && !(x == y) && notStar a && notStar b && !([a, b].all (foldedForSure 8)) && !([a, b].all (constantsAlone 8)) && f x y a b
  | _ => false
theorem kPar_inv {s : Stmt} {f : Str → Str → Expr → Expr → Bool} (h : kPar s f = true) : ∃ x y px py k1 p1 a b k2 p2 p3, s = .Assign [.Tuple [.Name x px, .Name y py] k1 p1] (.Tuple [a, b] k2 p2) p3 ∧
    (py.line == px.line) = true ∧ (x == y) = false ∧ notStar a = true ∧ notStar b = true ∧ [a, b].all (foldedForSure 8) = false ∧ [a, b].all (constantsAlone 8) = false ∧ f x y a b = true := by
  unfold kPar at h; split at h
  · simp only [Bool.and_eq_true, Bool.not_eq_true'] at h
    obtain ⟨⟨⟨⟨⟨⟨⟨_, h1⟩, h2⟩, h3⟩, h4⟩, h5⟩, h6⟩, h7⟩ := h
    exact ⟨_, _, _, _, _, _, _, _, _, _, _, rfl, h1, h2, h3, h4, h5, h6, h7⟩
  · cases h
def kRaise (s : Stmt) (f : Str → Bool) : Bool := match s with
  | .Raise (some (.Call (.Name x _) [.Constant (.str _) _ _] [] _)) none _ => f x
  | _ => false
theorem kRaise_inv {s : Stmt} {f : Str → Bool} (h : kRaise s f = true) : ∃ x p m j p2 p3 p4, s = .Raise (some (.Call (.Name x p) [.Constant (.str m) j p2] [] p3)) none p4 ∧ f x = true := by
  unfold kRaise at h; split at h
  · exact ⟨_, _, _, _, _, _, _, rfl, h⟩
  · cases h
def kTry (s : Stmt) (f : List Stmt → Str → Option Str → List Stmt → Bool) : Bool := match s with
  | .Try body [.ExceptHandler (some (.Name x _)) n (b₀ :: suite) _] [] [] _ => f body x n (b₀ :: suite)
  | _ => false
theorem kTry_inv {s : Stmt} {f : List Stmt → Str → Option Str → List Stmt → Bool} (h : kTry s f = true) : ∃ body x p n b₀ suite p2 p3, s = .Try body [.ExceptHandler (some (.Name x p)) n (b₀ :: suite) p2] [] [] p3 ∧ f body x n (b₀ :: suite) = true := by
  unfold kTry at h; split at h
  · exact ⟨_, _, _, _, _, _, _, _, rfl, h⟩
  · cases h
def kTry2 (s : Stmt) (f : List Stmt → Str → List Stmt → Str → List Stmt → Bool) : Bool := match s with
  | .Try body [.ExceptHandler (some (.Name x _)) none (b₀ :: suite) _, .ExceptHandler (some (.Name y _)) none (c₀ :: suite2) _] [] [] _ => f body x (b₀ :: suite) y (c₀ :: suite2)
  | _ => false
theorem kTry2_inv {s : Stmt} {f : List Stmt → Str → List Stmt → Str → List Stmt → Bool} (h : kTry2 s f = true) : ∃ body x p b₀ suite p2 y q c₀ suite2 q2 p3, s = .Try body [.ExceptHandler (some (.Name x p)) none (b₀ :: suite) p2, .ExceptHandler (some (.Name y q)) none (c₀ :: suite2) q2] [] [] p3 ∧ f body x (b₀ :: suite) y (c₀ :: suite2) = true := by
  unfold kTry2 at h; split at h
  · exact ⟨_, _, _, _, _, _, _, _, _, _, _, _, rfl, h⟩
  · cases h
def kAugF (x : Stmt) (f : Expr → Str → Operator → Expr → Bool) : Bool := match x with
  | .AugAssign (.Attribute a m _) o e _ => f a m o e
  | _ => false
theorem kAugF_inv {x : Stmt} {f : Expr → Str → Operator → Expr → Bool} (h : kAugF x f = true) : ∃ a m q o e p, x = .AugAssign (.Attribute a m q) o e p ∧ f a m o e = true := by
  unfold kAugF at h; split at h
  · exact ⟨_, _, _, _, _, _, rfl, h⟩
  · cases h
/-- x.f, x.g = e -/
def kUnp (s : Stmt) (f : Str → Str → Str → Str → Expr → Bool) : Bool := match s with
  | .Assign [.Tuple [.Attribute (.Name x _) m _, .Attribute (.Name y _) n _] _ _] e _ => notComp e && notTup e && f x m y n e
  | _ => false
theorem kUnp_inv {s : Stmt} {f : Str → Str → Str → Str → Expr → Bool} (h : kUnp s f = true) : ∃ x m y n e p1 q1 p2 q2 kt pt p3, s = .Assign [.Tuple [.Attribute (.Name x p1) m q1, .Attribute (.Name y p2) n q2] kt pt] e p3 ∧ notComp e = true ∧ notTup e = true ∧ f x m y n e = true := by
  unfold kUnp at h; split at h
  · simp only [Bool.and_eq_true] at h
    exact ⟨_, _, _, _, _, _, _, _, _, _, _, _, rfl, h.1.1, h.1.2, h.2⟩
  · cases h
def isNone {α : Type} : Option α → Bool
  | none => true
  | some _ => false
def locB (sc : Scope) (x : Str) : Bool := match sc.names.lookup x with
  | some .local => true
  | _ => false
mutual
def okS (T : Tb) (sc : Scope) : S → Stmt → Bool
  | .set t e, s => kAsg s fun g x => notStar g && okE T false sc e x && okTg T.N sc none none t g && (notPair g x || cellPair sc g x) && (notComp x || (lcSet sc g x && isLc e) || cellT sc g)
  | .aug i o e, s => kAug s fun x p y => isPM o && decide (opOf o = p) && decide (T.N[i]? = some x) && stoB sc none x && okE T false sc e y
  | .put o i e, s => kAsg s fun g z => kSub g fun x y => notComp z && notSlice y && okE T false sc e z && okE T false sc o x && okE T false sc i y
  | .expr e, s => kExp s fun x => notComp x && okE T false sc e x
  | .app o e, s => kExp s fun z => kMeth z fun x m xs => one xs fun y => decide (m = "append") && notStar y && okE T false sc o x && okE T false sc e y
  | .ret e, s => kRet s fun z => match z with | some x => okE T false sc e x | none => false
  | .retN, s => kRet s fun z => match z with | some _ => false | none => true
  | .ite c a b, s => kIfS s fun x xs ys => okE T true sc c x && okSs T sc a xs && okSs T sc b ys
  | .loop c b, s => kWhile s fun x xs => okE T true sc c x && okSs T sc b xs
  | .each t it b, s => kFor s fun g x xs => notSet x && okWk T sc it g x && okTg T.N sc none none t g && okSs T sc b xs
  | .brk, s => kBrk s
  | .cont, s => kCont s
  | .pass, s => kPass s
  | .fz _, _ => false
  | .rais c, s => kRaise s fun x => decide (T.xc c = some x) && glB sc x && okNm x
  | .tri b c none h, s => kTry s fun body x n suite => decide (T.xc c = some x) && glB sc x && okNm x && isNone n && okSu T.N sc none T.bs h suite && okSs T sc b body
  | .tri b c (some i) h, s => kTry s fun body x n suite => decide (T.xc c = some x) && glB sc x && okNm x && (match n with | some n => decide (T.N[i]? = some n) && (match sc.names.lookup n with | some .local => true | _ => false) | none => false) && okSu T.N sc (some i) T.bs h suite && okSs T sc b body
  | .tri2 b c1 h1 c2 h2, s => kTry2 s fun body x suite y suite2 => decide (T.xc c1 = some x) && glB sc x && okNm x && decide (T.xc c2 = some y) && glB sc y && okNm y && okSu T.N sc none T.bs h1 suite && okSu T.N sc none T.bs h2 suite2 && okSs T sc b body
  | .ext o e, s => kExp s fun z => kMeth z fun x m xs => one xs fun y => decide (m = "extend") && notStar y && okE T false sc o x && okE T false sc e y
  | .putf c o f e, s => kAsg s fun g z => kAttr g fun x m => decide (m = mkS f) && fldB T c f && notComp z && okE T false sc e z && okE T false sc o x
  | .unp2 c i f1 f2 e, s => kUnp s fun x m y n z => decide (x = y) && decide (T.N[i]? = some x) && visB sc x && okNm x && decide (m = mkS f1) && decide (n = mkS f2) && fldB T c f1 && fldB T c f2 && okE T false sc e z
  | .augf c o f op e, s => kAugF s fun x m p y => isPM op && decide (opOf op = p) && decide (m = mkS f) && fldB T c f && okE T false sc o x && okE T false sc e y
  | .par i j a b, s => kPar s fun x y e1 e2 => decide (T.N[i]? = some x) && decide (T.N[j]? = some y) && decide (i ≠ j) && locB sc x && locB sc y && okE T false sc a e1 && okE T false sc b e2
def okSs (T : Tb) (sc : Scope) : List S → List Stmt → Bool
  | [], [] => true
  | .fz _ :: r, xs => okSs T sc r xs
  | s :: r, x :: xs => okS T sc s x && okSs T sc r xs
  | _, _ => false
end
end DL
/-! DL10: what the check says of expressions. -/
namespace DL
open PySem PySem.Spec PyProof.Rows L2

/-! ### another wording -/
section
variable {B : Bx} {Y : Dl → Prop} {W : WX} {C : XC} {xq : QX} {x tg : Expr} {xs : List Expr}
theorem SE.cg {w w' : Env → Sto → QD → Prop} (h : SE B Y W C xq x w) (k : ∀ ρ St q, w' ρ St q → w ρ St q) : SE B Y W C xq x w' := by
  obtain ⟨t, p, kk⟩ := h.ex
  exact ⟨⟨t, p, fun ρ St F σ H q Q r e x w => kk ρ St F σ H q Q r e x (k _ _ _ w)⟩⟩
theorem ST.cg {w w' : Env → Sto → (Bool → Sto → Prop) → Prop} (h : ST B Y W C xq x w) (k : ∀ ρ St q, w' ρ St q → w ρ St q) : ST B Y W C xq x w' := by
  obtain ⟨t, p, kk⟩ := h.ex
  exact ⟨⟨t, p, fun ρ St F σ H q Q r e x w => kk ρ St F σ H q Q r e x (k _ _ _ w)⟩⟩
theorem SW.cg {w w' : Env → Sto → (Bool → Sto → Prop) → Prop} (h : SW B Y W C xq x w) (k : ∀ ρ St q, w' ρ St q → w ρ St q) : SW B Y W C xq x w' := by
  obtain ⟨t, p, kk⟩ := h.ex
  exact ⟨⟨t, p, fun ρ St F σ H q Q r e x w => kk ρ St F σ H q Q r e x (k _ _ _ w)⟩⟩
theorem STs.cg {w w' : Env → Sto → (Bool → Sto → Prop) → Prop} (h : STs B Y W C xq xs w) (k : ∀ ρ St q, w' ρ St q → w ρ St q) : STs B Y W C xq xs w' := by
  obtain ⟨t, p, kk⟩ := h.ex
  exact ⟨⟨t, p, fun ρ St F σ H q Q r e x w => kk ρ St F σ H q Q r e x (k _ _ _ w)⟩⟩
theorem SA.cg {w w' : Env → Sto → (List D → Sto → Prop) → Prop} (h : SA B Y W C xq xs w) (k : ∀ ρ St q, w' ρ St q → w ρ St q) : SA B Y W C xq xs w' := by
  obtain ⟨t, p, kk⟩ := h.ex
  exact ⟨⟨t, p, fun ρ St F σ H q Q r e x w => kk ρ St F σ H q Q r e x (k _ _ _ w)⟩⟩
theorem SI.cg {w w' : Env → Sto → (List D → Sto → Prop) → Prop} (h : SI B Y W C xq tg x w) (k : ∀ ρ St q, w' ρ St q → w ρ St q) : SI B Y W C xq tg x w' := by
  obtain ⟨t, p, kk⟩ := h.ex
  exact ⟨⟨t, p, fun ρ St F σ H q Q r e x w => kk ρ St F σ H q Q r e x (k _ _ _ w)⟩⟩
theorem SO.cg {x : Option Expr} {w w' : Env → Sto → (Option Int → Sto → Prop) → Prop} (h : SO B Y W C xq x w) (k : ∀ ρ St q, w' ρ St q → w ρ St q) : SO B Y W C xq x w' := by
  obtain ⟨t, p, kk⟩ := h.ex
  exact ⟨⟨t, p, fun ρ St F σ H q Q r e x w => kk ρ St F σ H q Q r e x (k _ _ _ w)⟩⟩
theorem SPp.cg {pos : Pos} {ks : List (Option Expr)} {w w' : Env → Sto → (List D → Sto → Prop) → Prop} (h : SPp B Y W C xq pos ks xs w) (k : ∀ ρ St q, w' ρ St q → w ρ St q) : SPp B Y W C xq pos ks xs w' := by
  obtain ⟨t, p, l, s, kk⟩ := h.ex
  exact ⟨⟨t, p, l, s, fun ρ St F σ H q Q r e x w => kk ρ St F σ H q Q r e x (k _ _ _ w)⟩⟩
theorem SG.cg {vs : List Nat} {b b' : D → Env → (Env → Prop) → Prop} (h : SG B Y tg vs b) (k : ∀ d ρ q, b' d ρ q → b d ρ q) : SG B Y tg vs b' := by
  obtain ⟨t, p, kk⟩ := h.ex
  exact ⟨⟨t, p, fun d ρ σ v F St H q Q i r e w => kk d ρ σ v F St H q Q i r e (k _ _ _ w)⟩⟩
theorem SGs.cg {vs : List Nat} {b b' : List D → Env → (Env → Prop) → Prop} (h : SGs B Y xs vs b) (k : ∀ d ρ q, b' d ρ q → b d ρ q) : SGs B Y xs vs b' := by
  obtain ⟨t, p, l, kk⟩ := h.ex
  exact ⟨⟨t, p, fun d ρ q w => l d ρ q (k _ _ _ w), fun d ρ σ v F St H q Q i r e w => kk d ρ σ v F St H q Q i r e (k _ _ _ w)⟩⟩
end

/-- the program: callees, kept globals, written dicts -/
structure Gd (B : Bx) (C : XC) (T : Tb) (G : Gx) (j : Nat) : Prop where
  N : B.N = T.N
  nd : T.N.Nodup
  blt : ∀ x, x ∈ blts → B.mg x = none
  fs : ∀ i nm, T.fs i = some nm → ∃ f fd ps, B.mg nm = some (.ref f) ∧ PySem.W.keepIn B.K (.ref f) = true ∧ Binds B.K fd ps [] ∧ FnOk B.prog B.w B.K B.mg B.base (L2.CX B.prog B.w) j f fd ps (lift B.K B.w C (G.spec i))
  gl : ∀ nm d, (nm, d) ∈ T.gl → ∃ u v, B.mg nm = some u ∧ RelV v u ∧ Is B.K (fun _ => none) v d
  wd : ∀ nm kvs, (nm, kvs) ∈ T.wd → ∃ p0, B.mg nm = some (.ref p0) ∧ (∀ s d, lookD kvs (.str s) = some d → ∃ v, KDct B.K B.w p0 (mkS s) v ∧ Is B.K (fun _ => none) v d) ∧ (∀ y, isKey y = true → (∀ s, y ≠ .str s) → lookD kvs y = none)
  xf : ∀ c x, T.xc c = some x → XF B C c x
  xi : ∀ c x, T.xc c = some x → XI B C T.bs
  cl : ∀ c fs, T.cl c = some fs → Cls B.K (He.ga B.K (mkS c)) ∧ ∀ f ∈ fs, NoAttr B.K (He.ga B.K (mkS c)) (mkS f)
  ms : ∀ i c m, T.ms i = some (c, m) → Cls B.K (He.ga B.K (mkS c)) ∧ ∃ f fd ps, Meth B.K (He.ga B.K (mkS c)) (mkS m) f ∧ Binds B.K fd ps [] ∧ FnOk B.prog B.w B.K B.mg B.base (L2.CX B.prog B.w) j f fd ps (lift B.K B.w C (G.spec i))
  mkr : ∀ i c, T.ms i = some (c, initS) → ∃ f fd ps j', j = j' + 1 ∧ Mk B.K (He.ga B.K (mkS c)) f ∧ B.mg (mkS c) = some (.ref (He.ga B.K (mkS c))) ∧ Binds B.K fd ps [] ∧ FnOk B.prog B.w B.K B.mg B.base (L2.CX B.prog B.w) j' f fd ps (lift B.K B.w C (G.spc i))
theorem Gd.nox {B : Bx} {C : XC} {T : Tb} {G : Gx} {j : Nat} (D : Gd B C T G j) : Gd B C T G.nox j := ⟨D.N, D.nd, D.blt, D.fs, D.gl, D.wd, D.xf, D.xi, D.cl, D.ms, D.mkr⟩
/-- the place: a def's body or a comprehension's block -/
structure Gy (B : Bx) (Y : Dl → Prop) (sc : Scope) (fc : Option Scope) (W : WX) (j : Nat) : Prop where
  calm : ∀ δ, Y δ → δ.calm = true
  room : ∀ δ, Y δ → Room j δ.A
  sc : ∀ δ, Y δ → δ.env.scope = sc
  fn : ∀ δ, Y δ → ∀ x, fcB fc x = true → δ.fn x = true
  tk : ∀ δ, Y δ → Takes (cx B δ) W
theorem Gy.blk {B : Bx} {Y : Dl → Prop} {sc : Scope} {fc : Option Scope} {W : WX} {j : Nat} (g : Gy B Y sc fc W j) (scope : Scope) : Gy B (blkY Y scope) (relS scope sc) (some scope) W0 j := by
  refine ⟨?_, ?_, ?_, ?_, fun δ _ => takes0⟩
  · rintro _ ⟨δ, s, H, C, cl, fp, hδ, rfl⟩; exact g.calm δ hδ
  · rintro _ ⟨δ, s, H, C, cl, fp, hδ, rfl⟩; exact g.room δ hδ
  · rintro _ ⟨δ, s, H, C, cl, fp, hδ, rfl⟩; rw [← g.sc δ hδ]; rfl
  · rintro _ ⟨δ, s, H, C, cl, fp, hδ, rfl⟩ x h; exact h

theorem glB_inv {sc : Scope} {x : Str} (h : glB sc x = true) : sc.names.lookup x = some .globalImplicit := by
  unfold glB at h; split at h
  · assumption
  · cases h
theorem visB_inv {sc : Scope} {x : Str} (h : visB sc x = true) : Vis sc x := by
  unfold visB at h; split at h
  · exact .inl (by assumption)
  · exact .inr (.inl (by assumption))
  · exact .inr (.inr (by assumption))
  · cases h
theorem okNm_inv {x : Str} (h : okNm x = true) : (x == ("__debug__" : Str)) = false ∧ (x == ("__classdict__" : Str)) = false := by
  simpa [okNm] using h
theorem map_ownOf (N : List Str) : ∀ vs : List Nat, (ownOf N vs).map (·.2) = vs
  | [] => rfl
  | v :: vs => by rw [ownOf, List.map_cons, map_ownOf N vs]

mutual
theorem bindT_ex : ∀ (t : Tg) (d : D) (ρ : Env) (q : Env → Prop), bindT t d ρ q → ∃ ρ', q ρ'
  | .nm i, d, ρ, q, h => ⟨_, h⟩
  | .tup ts, d, ρ, q, h => by
    cases d with
    | tup ds => exact bindTs_ex ts ds ρ q h
    | _ => exact h.elim
theorem bindTs_ex : ∀ (t : Tgs) (d : List D) (ρ : Env) (q : Env → Prop), bindTs t d ρ q → ∃ ρ', q ρ'
  | .nil, [], ρ, q, h => ⟨_, h⟩
  | .nil, _ :: _, ρ, q, h => h.elim
  | .cons t ts, [], ρ, q, h => h.elim
  | .cons t ts, d :: ds, ρ, q, h => by
    obtain ⟨ρ', h⟩ := bindT_ex t d ρ _ h
    exact bindTs_ex ts ds ρ' q h
end
section
variable {B : Bx} {Y : Dl → Prop} {sc : Scope} {fc : Option Scope} {W : WX} {j : Nat}
theorem sto_ok (g : Gy B Y sc fc W j) {x : Str} (h : stoB sc fc x = true) : ∀ δ, Y δ → Loc δ.env.scope x ∧ (δ.fn x = true ∨ δ.env.scope.names.lookup x = some .local) := by
  intro δ hδ
  rw [g.sc δ hδ]
  unfold stoB at h; split at h
  · next e => exact ⟨.inl e, .inr e⟩
  · next e => exact ⟨.inr e, .inl (g.fn δ hδ x h)⟩
  · cases h
mutual
theorem sG (g : Gy B Y sc fc W j) {N : List Str} (hN : B.N = N) (nd : N.Nodup) {own : Option (List Nat)} {vs : List Nat} (hv : ∀ i x, N[i]? = some x → ownB own i = true → i ∈ vs) :
    ∀ (t : Tg) (e : Expr), okTg N sc fc own t e = true → SG B Y e vs (bindT t)
  | .nm i, e, h => by
    obtain ⟨x, p, rfl, h1⟩ := kName_inv h
    simp only [Bool.and_eq_true] at h1
    have hi := of_decide_eq_true h1.1.1
    refine SG.cg (SG.name (by rw [hN]; exact nd) (by rw [hN]; exact hi) (sto_ok g h1.1.2) (hv i x hi h1.2)) fun d ρ q w => ?_
    exact w
  | .tup ts, e, h => by
    obtain ⟨es, k, p, rfl, h1⟩ := kTuple_inv h
    rw [Bool.and_eq_true] at h1
    refine SG.cg (SG.tup g.calm (sGs g hN nd hv ts es h1.2) h1.1) fun d ρ q w => ?_
    cases d <;> exact w
theorem sGs (g : Gy B Y sc fc W j) {N : List Str} (hN : B.N = N) (nd : N.Nodup) {own : Option (List Nat)} {vs : List Nat} (hv : ∀ i x, N[i]? = some x → ownB own i = true → i ∈ vs) :
    ∀ (t : Tgs) (e : List Expr), okTgs N sc fc own t e = true → SGs B Y e vs (bindTs t)
  | .nil, [], h => SGs.cg SGs.nil fun d ρ q w => by
    cases d with
    | nil => exact ⟨rfl, w⟩
    | cons => exact w.elim
  | .nil, _ :: _, h => by cases h
  | .cons t ts, [], h => by cases h
  | .cons t ts, e :: es, h => by
    have h' : (okTg N sc fc own t e && okTgs N sc fc own ts es) = true := h
    rw [Bool.and_eq_true] at h'
    have hs : notStar e = true := by
      cases t with
      | nm => obtain ⟨x, p, rfl, _⟩ := kName_inv h'.1; rfl
      | tup => obtain ⟨x, k, p, rfl, _⟩ := kTuple_inv h'.1; rfl
    refine SGs.cg (SGs.cons (sG g hN nd hv t e h'.1) (sGs g hN nd hv ts es h'.2) hs fun d ρ q w => bindT_ex t d ρ q w) fun d ρ q w => ?_
    cases d with
    | nil => exact w.elim
    | cons d ds => exact ⟨d, ds, rfl, w⟩
end
end

def isGen : E → Bool
  | .not _ => false
  | .boo _ _ => false
  | .cmp _ _ _ => false
  | .chn _ _ _ _ _ => false
  | .ite _ _ _ => false
  | _ => true
theorem wT_gen {G : Gx} {e : E} {ρ : Env} {St : Sto} {Q : Bool → Sto → Prop} (h : isGen e = true) : wT G e ρ St Q = wE G e ρ St fun x S1 => ∃ b, tru S1 x = some b ∧ Q b S1 := by
  cases e <;> first | (cases h; done) | rfl
theorem gen_plain {T : Tb} {sc : Scope} {e : E} {x : Expr} (g : isGen e = true) (h : okE T true sc e x = true) : plainTest x = true ∧ okE T false sc e x = true := by
  cases e with
  | var => obtain ⟨_, _, rfl, _⟩ := kName_inv h; exact ⟨rfl, h⟩
  | non => obtain ⟨_, _, _, rfl, _⟩ := kConst_inv h; exact ⟨rfl, h⟩
  | bl => obtain ⟨_, _, _, rfl, _⟩ := kConst_inv h; exact ⟨rfl, h⟩
  | int => obtain ⟨_, _, _, rfl, _⟩ := kConst_inv h; exact ⟨rfl, h⟩
  | str => obtain ⟨_, _, _, rfl, _⟩ := kConst_inv h; exact ⟨rfl, h⟩
  | glb => obtain ⟨_, _, rfl, _⟩ := kName_inv h; exact ⟨rfl, h⟩
  | tup => obtain ⟨_, _, _, rfl, _⟩ := kTuple_inv h; exact ⟨rfl, h⟩
  | lst => obtain ⟨_, _, rfl, _⟩ := kList_inv h; exact ⟨rfl, h⟩
  | newl => obtain ⟨_, _, rfl, _⟩ := kList_inv h; exact ⟨rfl, h⟩
  | dct => obtain ⟨_, _, _, rfl, _⟩ := kDict_inv h; exact ⟨rfl, h⟩
  | newk => obtain ⟨_, _, _, rfl, _⟩ := kDict_inv h; exact ⟨rfl, h⟩
  | newd => obtain ⟨_, _, _, rfl, _⟩ := kDict_inv h; exact ⟨rfl, h⟩
  | bin => obtain ⟨_, _, _, _, rfl, _⟩ := kBin_inv h; exact ⟨rfl, h⟩
  | neg => obtain ⟨_, _, rfl, _⟩ := kNeg_inv h; exact ⟨rfl, h⟩
  | idx => obtain ⟨_, _, _, rfl, _⟩ := kSub_inv h; exact ⟨rfl, h⟩
  | wget => obtain ⟨_, _, _, rfl, _⟩ := kSub_inv h; exact ⟨rfl, h⟩
  | sl => obtain ⟨_, _, _, rfl, _⟩ := kSub_inv h; exact ⟨rfl, h⟩
  | rev => obtain ⟨_, _, _, rfl, _⟩ := kSub_inv h; exact ⟨rfl, h⟩
  | call => obtain ⟨_, _, _, _, rfl, _⟩ := kCall_inv h; exact ⟨rfl, h⟩
  | «bif» => obtain ⟨_, _, _, _, rfl, _⟩ := kCall_inv h; exact ⟨rfl, h⟩
  | isi => obtain ⟨_, _, _, _, rfl, _⟩ := kCall_inv h; exact ⟨rfl, h⟩
  | join => obtain ⟨_, _, _, _, _, rfl, _⟩ := kMeth_inv h; exact ⟨rfl, h⟩
  | lc => obtain ⟨_, _, _, _, _, _, rfl, _⟩ := kLc_inv h; exact ⟨rfl, h⟩
  | frz a =>
    have h' : (okE T false sc a x && (!true || plainTest x)) = true := h
    rw [Bool.and_eq_true] at h'
    exact ⟨h'.2, by show (okE T false sc a x && (!false || plainTest x)) = true; rw [h'.1]; rfl⟩
  | popl => obtain ⟨_, _, _, _, _, rfl, _⟩ := kMeth_inv h; exact ⟨rfl, h⟩
  | copyd => obtain ⟨_, _, _, _, rfl, _⟩ := kCall_inv h; exact ⟨rfl, h⟩
  | b1 => obtain ⟨_, _, _, _, rfl, _⟩ := kCall_inv h; exact ⟨rfl, h⟩
  | ssrt => obtain ⟨_, _, _, _, rfl, _⟩ := kCall_inv h; exact ⟨rfl, h⟩
  | slen => obtain ⟨_, _, _, _, rfl, _⟩ := kCall_inv h; exact ⟨rfl, h⟩
  | dpop => obtain ⟨_, _, _, _, _, rfl, _⟩ := kMeth_inv h; exact ⟨rfl, h⟩
  | newt => obtain ⟨_, _, _, rfl, _⟩ := kDict_inv h; exact ⟨rfl, h⟩
  | dc => obtain ⟨_, _, _, _, _, _, rfl, _⟩ := kDc_inv h; exact ⟨rfl, h⟩
  | lc2 => obtain ⟨_, _, _, _, _, _, _, rfl, _⟩ := kLc2_inv h; exact ⟨rfl, h⟩
  | revt => obtain ⟨_, _, _, rfl, _⟩ := kSub_inv h; exact ⟨rfl, h⟩
  | revs => obtain ⟨_, _, _, rfl, _⟩ := kSub_inv h; exact ⟨rfl, h⟩
  | slN => obtain ⟨_, _, _, rfl, _⟩ := kSub_inv h; exact ⟨rfl, h⟩
  | fld => obtain ⟨_, _, _, rfl, _⟩ := kAttr_inv h; exact ⟨rfl, h⟩
  | mk => obtain ⟨_, _, _, _, rfl, _⟩ := kCall_inv h; exact ⟨rfl, h⟩
  | meth => obtain ⟨_, _, _, _, _, rfl, _⟩ := kMeth_inv h; exact ⟨rfl, h⟩
  | _ => cases g
end DL
/-! DL11: soundness of the check of expressions. -/
namespace DL
open PySem PySem.Spec PyProof.Rows L2

section
variable {B : Bx} {Y : Dl → Prop} {sc : Scope} {fc : Option Scope} {W : WX} {j : Nat} {C : XC} {T : Tb} {G : Gx}
theorem cm_of (g : Gy B Y sc fc W j) (o : Cm) : CmR B Y (cmOf o) o := by
  cases o with
  | eq => exact cm_eq g.room
  | ne => exact cm_ne g.room
  | lt => exact cm_lt
  | le => exact cm_le
  | gt => exact cm_gt
  | ge => exact cm_ge
  | is => exact cm_is
  | isnt => exact cm_isnt
  | isin => exact cm_in g.room
  | notin => exact cm_notin g.room
theorem gl_of (g : Gy B Y sc fc W j) {x : Str} (h : glB sc x = true) : ∀ δ, Y δ → Gl (cx B δ) x := fun δ hδ => by
  show δ.env.scope.names.lookup x = _
  rw [g.sc δ hδ]
  exact glB_inv h
theorem bin_of (g : Gy B Y sc fc W j) {o : Op2} {a b : Expr} {wa wb : Env → Sto → QD → Prop} {xq : QX} {pos : Pos} (ha : SE B Y W C xq a wa) (hb : SE B Y W C xq b wb) :
    SE B Y W C xq (.BinOp a (opOf o) b pos) (fun ρ St q => wa ρ St fun x S1 => wb ρ S1 fun y S2 => wBin o x y fun d => q d S2) := by
  cases o with
  | add => exact SE.add ha hb
  | sub => exact SE.sub ha hb
  | mul => exact SE.mul ha hb
  | fdiv => exact SE.fdiv ha hb
  | mod => exact SE.mod ha hb
theorem bif_of (D : Gd B C T G j) (g : Gy B Y sc fc W j) {f : Bf} {x : Str} {a : Expr} {wa : Env → Sto → QD → Prop} {xq : QX} {p pos : Pos} (hf : bfNm f = some x) (hg : ∀ δ, Y δ → Gl (cx B δ) x) (ha : SE B Y W C xq a wa) (st : notStar a = true) :
    SE B Y W C xq (.Call (.Name x p) [a] [] pos) (fun ρ St q => wa ρ St fun x S1 => wBf f x S1 fun d => q d S1) := by
  have hm : ∀ y, y ∈ blts → B.mg y = none := D.blt
  cases f with
  | len => cases hf; exact SE.len hg (hm _ (by decide +kernel)) ha st
  | abs => cases hf; exact SE.abs hg (hm _ (by decide +kernel)) ha st
  | int => cases hf; exact SE.intf hg (hm _ (by decide +kernel)) ha st
  | list => cases hf; exact SE.listf hg (hm _ (by decide +kernel)) ha st
  | tuple => cases hf; exact SE.tuplef hg (hm _ (by decide +kernel)) ha st
  | any => cases hf; exact SE.anyf g.calm hg (hm _ (by decide +kernel)) ha st
  | all => cases hf; exact SE.allf g.calm hg (hm _ (by decide +kernel)) ha st
  | sum => cases hf; exact SE.sumf g.calm hg (hm _ (by decide +kernel)) ha st
  | sorted => cases hf; exact SE.sortedf g.room hg (hm _ (by decide +kernel)) ha st
  | dict => cases hf
theorem fld_of (D : Gd B C T G j) {c f : Bs} (h : fldB T c f = true) : Cls B.K (He.ga B.K (mkS c)) ∧ NoAttr B.K (He.ga B.K (mkS c)) (mkS f) := by
  unfold fldB at h
  split at h
  · next fs e =>
    obtain ⟨k1, k2⟩ := D.cl c fs e
    exact ⟨k1, k2 f (List.contains_iff_mem.mp h)⟩
  · cases h
theorem ty_mem (u : Ty) : Str.ofString (tyNm u) ∈ blts := by cases u <;> decide +kernel
theorem no_marks {o q : CmpOp} {b c : Expr} (h : notSet b = true) (h2 : notSet c = true) : lastMarks [o, q] [b, c] = false := by
  show behindInMarks q c = false
  exact marks_set h2 q
end

set_option maxHeartbeats 0
mutual
theorem sE {B : Bx} {Y : Dl → Prop} {sc : Scope} {fc : Option Scope} {W : WX} {j : Nat} {C : XC} {T : Tb} {G : Gx} (D : Gd B C T G j) (g : Gy B Y sc fc W j) :
    ∀ (e : E) (x : Expr), okE T false sc e x = true → SE B Y W C G.xq x (wE G e)
  | .var i, x, h => by
    obtain ⟨y, p, rfl, h1⟩ := kName_inv h
    simp only [Bool.and_eq_true] at h1
    refine (SE.var (i := i) (by rw [D.N]; exact of_decide_eq_true h1.1.1) (fun δ hδ => by rw [g.sc δ hδ]; exact visB_inv h1.1.2) (okNm_inv h1.2).1 (okNm_inv h1.2).2).cg fun ρ St q w => ?_
    exact w
  | .non, x, h => by
    obtain ⟨c, k, p, rfl, h1⟩ := kConst_inv h
    cases c <;> first | (cases h1; done) | exact SE.non.cg fun ρ St q w => w
  | .bl b, x, h => by
    obtain ⟨c, k, p, rfl, h1⟩ := kConst_inv h
    cases c with
    | bool c =>
      have e : b = c := by simpa using h1
      subst e
      exact SE.bl.cg fun ρ St q w => w
    | _ => cases h1
  | .int i, x, h => by
    obtain ⟨c, k, p, rfl, h1⟩ := kConst_inv h
    cases c with
    | int c =>
      have e : i = c := of_decide_eq_true h1
      subst e
      exact SE.int.cg fun ρ St q w => w
    | _ => cases h1
  | .str s, x, h => by
    obtain ⟨c, k, p, rfl, h1⟩ := kConst_inv h
    cases c with
    | str z =>
      simp only [Bool.and_eq_true] at h1
      exact (SE.str (of_decide_eq_true h1.1) (Nat.le_of_lt (small1000 (of_decide_eq_true h1.2)))).cg fun ρ St q w => w
    | _ => cases h1
  | .glb nm d, x, h => by
    obtain ⟨y, p, rfl, h1⟩ := kName_inv h
    simp only [Bool.and_eq_true] at h1
    obtain ⟨⟨⟨h2, h3⟩, h4⟩, h5⟩ := h1
    have e := of_decide_eq_true h2
    subst e
    obtain ⟨u, v, hm, rv, is⟩ := D.gl _ _ (inGl_mem h5)
    exact (SE.glb (gl_of g h3) hm rv is (okNm_inv h4).1).cg fun ρ St q w => w
  | .tup es, x, h => by
    obtain ⟨xs, k, p, rfl, h1⟩ := kTuple_inv h
    simp only [Bool.and_eq_true] at h1
    exact (SE.tup (sEs D g es xs h1.1.2 h1.2) (of_decide_eq_true h1.1.1)).cg fun ρ St q w => w
  | .lst es, x, h => by
    obtain ⟨xs, p, rfl, h1⟩ := kList_inv h
    simp only [Bool.and_eq_true] at h1
    exact (SE.lst (sEs D g es xs h1.1.2 h1.2) (of_decide_eq_true h1.1.1)).cg fun ρ St q w => w
  | .newl es, x, h => by
    obtain ⟨xs, p, rfl, h1⟩ := kList_inv h
    simp only [Bool.and_eq_true] at h1
    exact (SE.newl (sEs D g es xs h1.1.2 h1.2) (of_decide_eq_true h1.1.1)).cg fun ρ St q w => w
  | .dct es, x, h => by
    obtain ⟨ks, xs, p, rfl, h1⟩ := kDict_inv h
    simp only [Bool.and_eq_true] at h1
    exact (SE.dct (sPs D g es ks xs p h1.2) (by rintro rfl; simp at h1) (of_decide_eq_true h1.1.2)).cg fun ρ St q w => w
  | .newk es, x, h => by
    obtain ⟨ks, xs, p, rfl, h1⟩ := kDict_inv h
    simp only [Bool.and_eq_true] at h1
    exact (SE.newk (sPs D g es ks xs p h1.2) (by rintro rfl; simp at h1) (of_decide_eq_true h1.1.2)).cg fun ρ St q w => w
  | .newd, x, h => by
    obtain ⟨ks, xs, p, rfl, h1⟩ := kDict_inv h
    simp only [Bool.and_eq_true, List.isEmpty_iff] at h1
    obtain ⟨rfl, rfl⟩ := h1
    exact SE.newd.cg fun ρ St q w => w
  | .bin o a b, x, h => by
    obtain ⟨y, op, z, p, rfl, h1⟩ := kBin_inv h
    simp only [Bool.and_eq_true] at h1
    have e := of_decide_eq_true h1.1.1
    subst e
    exact (bin_of g (sE D g a y h1.1.2) (sE D g b z h1.2)).cg fun ρ St q w => w
  | .neg a, x, h => by
    obtain ⟨y, p, rfl, h1⟩ := kNeg_inv h
    exact (SE.neg (sE D g a y h1)).cg fun ρ St q w => w
  | .not a, x, h => by
    obtain ⟨y, p, rfl, h1⟩ := kNot_inv h
    exact (SE.not (sE D g a y h1)).cg fun ρ St q w => w
  | .boo an es, x, h => by
    obtain ⟨op, xs, p, rfl, h1⟩ := kBool_inv h
    simp only [Bool.and_eq_true] at h1
    exact (sBs D g es xs op p an h1.1.1 (by rintro rfl; simp at h1) h1.2).cg fun ρ St q w => w
  | .cmp o a b, x, h => by
    obtain ⟨y, op, z, p, rfl, h1⟩ := kCmp_inv h
    simp only [Bool.and_eq_true] at h1
    have e := of_decide_eq_true h1.1.1.1
    subst e
    exact (SE.cmp (cm_of g o) (marks_set h1.1.1.2 _) (sE D g a y h1.1.2) (sE D g b z h1.2)).cg fun ρ St q w => w
  | .chn o q a b c, x, h => by
    obtain ⟨y, op, z, op2, z2, p, rfl, h1⟩ := kChn_inv h
    simp only [Bool.and_eq_true] at h1
    obtain ⟨⟨⟨⟨⟨⟨e1, e2⟩, n1⟩, n2⟩, h2⟩, h3⟩, h4⟩ := h1
    have e1 := of_decide_eq_true e1
    have e2 := of_decide_eq_true e2
    subst e1; subst e2
    exact (SE.chn (cm_of g o) (cm_of g q) (no_marks n1 n2) (sE D g a y h2) (sE D g b z h3) (sE D g c z2 h4)).cg fun ρ St q w => w
  | .ite c a b, x, h => by
    obtain ⟨z, y, v, p, rfl, h1⟩ := kIf_inv h
    simp only [Bool.and_eq_true] at h1
    exact (SE.ite (sT D g c z h1.1.1.2) (sE D g a y h1.1.2) (sE D g b v h1.2)).cg fun ρ St q w => w
  | .idx a i, x, h => by
    obtain ⟨y, z, p, rfl, h1⟩ := kSub_inv h
    simp only [Bool.and_eq_true] at h1
    exact (SE.idx g.room (sE D g a y h1.1.2) (sE D g i z h1.2) (plain_ix h1.1.1)).cg fun ρ St q w => w
  | .wget u kvs a, x, h => by
    obtain ⟨y, z, p, rfl, h1⟩ := kSub_inv h
    obtain ⟨nm, p2, rfl, g1⟩ := kName_inv h1
    simp only [Bool.and_eq_true] at g1
    obtain ⟨⟨⟨⟨⟨h2, h3⟩, h4⟩, h5⟩, h6⟩, h7⟩ := g1
    have e := of_decide_eq_true h2
    subst e
    obtain ⟨p0, hm, hk, hn⟩ := D.wd _ _ (inWd_mem h7)
    exact (SE.wget (gl_of g h3) hm (okNm_inv h4).1 hk hn (sE D g a z h6) (plain_ix h5)).cg fun ρ St q w => w
  | .sl a lo hi, x, h => by
    obtain ⟨y, z, p, rfl, h1⟩ := kSub_inv h
    simp only [Bool.and_eq_true] at h1
    obtain ⟨l, r, p2, rfl, h2⟩ := kSl_inv h1.2
    simp only [Bool.and_eq_true] at h2
    exact (SE.sl (sE D g a y h1.1) (sO D g lo l h2.1) (sO D g hi r h2.2)).cg fun ρ St q w => w
  | .slN a lo hi, x, h => by
    obtain ⟨y, z, p, rfl, h1⟩ := kSub_inv h
    simp only [Bool.and_eq_true] at h1
    obtain ⟨l, r, p2, rfl, h2⟩ := kSl_inv h1.2
    simp only [Bool.and_eq_true] at h2
    exact (SE.slN (sE D g a y h1.1) (sO D g lo l h2.1) (sO D g hi r h2.2)).cg fun ρ St q w => w
  | .rev a, x, h => by
    obtain ⟨y, z, p, rfl, h1⟩ := kSub_inv h
    simp only [Bool.and_eq_true] at h1
    obtain ⟨k, p1, p2, p3, rfl⟩ := kRev_inv h1.1
    exact (SE.rev (sE D g a y h1.2)).cg fun ρ St q w => w
  | .call f es, x, h => by
    obtain ⟨nm, p, xs, q, rfl, h1⟩ := kCall_inv h
    simp only [Bool.and_eq_true] at h1
    obtain ⟨⟨⟨⟨⟨h2, h3⟩, h4⟩, h5⟩, h6⟩, h7⟩ := h1
    obtain ⟨fa, fd, ps, hm, hk, hb, F⟩ := D.fs f nm (of_decide_eq_true h2)
    cases xs with
    | nil => simp at h5
    | cons a xs =>
      exact (SE.call g.tk F g.room (gl_of g h3) hm hk hb (okNm_inv h4).1 (sEs D g es (a :: xs) h6 h7) h6).cg fun ρ St q w => w
  | .bif f a, x, h => by
    obtain ⟨nm, p, xs, q, rfl, h1⟩ := kCall_inv h
    obtain ⟨y, rfl, g1⟩ := one_inv h1
    simp only [Bool.and_eq_true] at g1
    obtain ⟨⟨⟨h2, h3⟩, h4⟩, h5⟩ := g1
    exact (bif_of D g (of_decide_eq_true h2) (gl_of g h3) (sE D g a y h5) h4).cg fun ρ St q w => w
  | .isi u a, x, h => by
    obtain ⟨nm, p, xs, q, rfl, h1⟩ := kCall_inv h
    obtain ⟨y, z, rfl, g1⟩ := two_inv h1
    obtain ⟨nm2, p2, rfl, g2⟩ := kName_inv g1
    simp only [Bool.and_eq_true] at g2
    obtain ⟨⟨⟨⟨⟨h2, h3⟩, h4⟩, h5⟩, h6⟩, h7⟩ := g2
    have e1 := of_decide_eq_true h2
    have e2 := of_decide_eq_true h3
    subst e1; subst e2
    exact (SE.isi (gl_of g h4) (D.blt _ (by decide +kernel)) (gl_of g h5) (D.blt _ (ty_mem u)) (sE D g a y h7) h6).cg fun ρ St q w => w
  | .join a b, x, h => by
    obtain ⟨y, m, p, xs, q, rfl, hl, hc, h1⟩ := kMeth_inv h
    obtain ⟨z, rfl, g1⟩ := one_inv h1
    simp only [Bool.and_eq_true] at g1
    obtain ⟨⟨⟨h2, h3⟩, h4⟩, h5⟩ := g1
    have e1 := of_decide_eq_true h2
    subst e1
    exact (SE.join (sE D g a y h4) (sE D g b z h5) hc h3 hl).cg fun ρ St q w => w
  | .lc elt tg it tt own, x, h => by
    obtain ⟨y, t, i, cs, scope, p, rfl, h1⟩ := kLc_inv h
    simp only [Bool.and_eq_true] at h1
    obtain ⟨⟨⟨⟨⟨h2, h3⟩, h4⟩, h5⟩, h6⟩, h7⟩ := h1
    have g2 := g.blk scope
    exact (SE.lc (vs := own) g.calm (by rw [D.N]; exact D.nd) (sI D g it t i h4) (fun δ hδ => by rw [g.sc δ hδ, D.N]; exact blkOk_by h3) (map_ownOf T.N own)
      (sG (own := some own) g2 D.N D.nd (fun i x _ h => List.contains_iff_mem.mp (show own.contains i = true from h)) tg t h5) (sTt D.nox g2 tt cs h6) (sE D.nox g2 elt y h7) h2).cg fun ρ St q w => w
  | .frz a, x, h => by
    have h1 : (okE T false sc a x && (!false || plainTest x)) = true := h
    rw [Bool.and_eq_true] at h1
    exact (SE.frz (sE D g a x h1.1)).cg fun ρ St q w => w
  | .popl a, x, h => by
    obtain ⟨y, m, p, xs, q, rfl, hl, hc, h1⟩ := kMeth_inv h
    simp only [Bool.and_eq_true, List.isEmpty_iff] at h1
    obtain ⟨⟨h2, h3⟩, h4⟩ := h1
    have e1 := of_decide_eq_true h3
    subst e1; subst h2
    exact (SE.popl (sE D g a y h4) hc hl).cg fun ρ St q w => w
  | .copyd a, x, h => by
    obtain ⟨nm, p, xs, q, rfl, h1⟩ := kCall_inv h
    obtain ⟨y, rfl, g1⟩ := one_inv h1
    simp only [Bool.and_eq_true] at g1
    obtain ⟨⟨⟨h2, h3⟩, h4⟩, h5⟩ := g1
    have e1 := of_decide_eq_true h2
    subst e1
    exact (SE.copyd (gl_of g h3) (D.blt _ (by decide +kernel)) (sE D g a y h5) h4).cg fun ρ St q w => w
  | .b1 f a, x, h => by
    obtain ⟨nm, p, xs, q, rfl, h1⟩ := kCall_inv h
    obtain ⟨y, rfl, g1⟩ := one_inv h1
    simp only [Bool.and_eq_true] at g1
    obtain ⟨⟨⟨h2, h3⟩, h4⟩, h5⟩ := g1
    have e1 := of_decide_eq_true h2
    subst e1
    exact (SE.b1 g.calm (by cases f <;> rfl) (gl_of g h3) (D.blt _ (by cases f <;> decide +kernel)) (sE D g a y h5) h4).cg fun ρ St q w => w
  | .ssrt a, x, h => by
    obtain ⟨nm, p, xs, q, rfl, h1⟩ := kCall_inv h
    obtain ⟨z, rfl, g1⟩ := one_inv h1
    obtain ⟨nm2, p2, ys, q2, rfl, h6⟩ := kCall_inv g1
    obtain ⟨y, rfl, g2⟩ := one_inv h6
    simp only [Bool.and_eq_true] at g2
    obtain ⟨⟨⟨⟨⟨h2, h3⟩, h4⟩, h5⟩, h7⟩, h8⟩ := g2
    have e1 := of_decide_eq_true h2
    have e2 := of_decide_eq_true h3
    subst e1; subst e2
    exact (SE.ssrt g.calm (gl_of g h4) (D.blt _ (by decide +kernel)) (gl_of g h5) (D.blt _ (by decide +kernel)) (sE D g a y h8) h7).cg fun ρ St q w => w
  | .slen a, x, h => by
    obtain ⟨nm, p, xs, q, rfl, h1⟩ := kCall_inv h
    obtain ⟨z, rfl, g1⟩ := one_inv h1
    obtain ⟨nm2, p2, ys, q2, rfl, h6⟩ := kCall_inv g1
    obtain ⟨y, rfl, g2⟩ := one_inv h6
    simp only [Bool.and_eq_true] at g2
    obtain ⟨⟨⟨⟨⟨h2, h3⟩, h4⟩, h5⟩, h7⟩, h8⟩ := g2
    have e1 := of_decide_eq_true h2
    have e2 := of_decide_eq_true h3
    subst e1; subst e2
    exact (SE.slen g.calm (gl_of g h4) (D.blt _ (by decide +kernel)) (gl_of g h5) (D.blt _ (by decide +kernel)) (sE D g a y h8) h7).cg fun ρ St q w => w
  | .dpop a k d, x, h => by
    obtain ⟨y, m, p, xs, q, rfl, hl, hc, h1⟩ := kMeth_inv h
    obtain ⟨u, v, rfl, g1⟩ := two_inv h1
    simp only [Bool.and_eq_true] at g1
    obtain ⟨⟨⟨⟨⟨h2, h3⟩, h4⟩, h5⟩, h6⟩, h7⟩ := g1
    have e1 := of_decide_eq_true h2
    subst e1
    exact (SE.dpop (sE D g a y h5) (sE D g k u h6) (sE D g d v h7) hc h3 h4 hl).cg fun ρ St q w => w
  | .newt, x, h => by
    obtain ⟨ks, xs, p, rfl, h1⟩ := kDict_inv h
    simp only [Bool.and_eq_true, List.isEmpty_iff] at h1
    obtain ⟨rfl, rfl⟩ := h1
    exact SE.newt.cg fun ρ St q w => w
  | .dc tk kx vx tg it own, x, h => by
    obtain ⟨y, z, t, i, scope, p, rfl, h1⟩ := kDc_inv h
    simp only [Bool.and_eq_true] at h1
    obtain ⟨⟨⟨⟨⟨h2, h3⟩, h4⟩, h5⟩, h6⟩, h7⟩ := h1
    have g2 := g.blk scope
    exact (SE.dc (tkb := tk) (vs := own) g.calm g.room (by rw [D.N]; exact D.nd) (sI D g it t i h4) (fun δ hδ => by rw [g.sc δ hδ, D.N]; exact blkOk_by h3) (map_ownOf T.N own)
      (sG (own := some own) g2 D.N D.nd (fun i x _ h => List.contains_iff_mem.mp (show own.contains i = true from h)) tg t h5) (sE D.nox g2 kx y h6) (sE D.nox g2 vx z h7) h2).cg fun ρ St q w => w
  | .lc2 elt tg it tg1 it1 own own1, x, h => by
    obtain ⟨y, t, i, t1, i1, scope, p, rfl, h1⟩ := kLc2_inv h
    simp only [Bool.and_eq_true] at h1
    obtain ⟨⟨⟨⟨⟨⟨⟨⟨h2, h3⟩, h4⟩, h5⟩, h6⟩, h7⟩, h8⟩, h9⟩, h10⟩ := h1
    have g2 := g.blk scope
    exact (SE.lc2 (vs := own) (vs1 := own1) g.calm (by rw [D.N]; exact D.nd) (sI D g it t i h6) (fun δ hδ => by rw [g.sc δ hδ, D.N]; exact blkOk_by h5) (map_ownOf T.N own) (fun v hv => List.contains_iff_mem.mp (List.all_eq_true.mp h4 v hv))
      (sG (own := some own) g2 D.N D.nd (fun i x _ h => List.contains_iff_mem.mp (show own.contains i = true from h)) tg t h7) (sI D.nox g2 it1 t1 i1 h8)
      (sG (own := some own1) g2 D.N D.nd (fun i x _ h => List.contains_iff_mem.mp (show own1.contains i = true from h)) tg1 t1 h9) (sE D.nox g2 elt y h10) h2 h3).cg fun ρ St q w => w
  | .revt a, x, h => by
    obtain ⟨y, z, p, rfl, h1⟩ := kSub_inv h
    rw [Bool.and_eq_true] at h1
    obtain ⟨k, p1, p2, p3, rfl⟩ := kRev_inv h1.1
    exact (SE.revt (sE D g a y h1.2)).cg fun ρ St q w => w
  | .revs a, x, h => by
    obtain ⟨y, z, p, rfl, h1⟩ := kSub_inv h
    rw [Bool.and_eq_true] at h1
    obtain ⟨n, p0, k, p1, p2, p3, rfl⟩ := kRev0_inv h1.1
    exact (SE.revs (sE D g a y h1.2)).cg fun ρ St q w => w
  | .fld c a f, x, h => by
    obtain ⟨y, m, p, rfl, h1⟩ := kAttr_inv h
    simp only [Bool.and_eq_true] at h1
    obtain ⟨⟨⟨h2, h3⟩, h4⟩, h5⟩ := h1
    have e1 := of_decide_eq_true h2
    subst e1
    obtain ⟨k1, k2⟩ := fld_of D h4
    exact (SE.fld k1 k2 (sE D g a y h5) h3).cg fun ρ St q w => w
  | .mk c i es, x, h => by
    obtain ⟨nm, p, xs, q, rfl, h1⟩ := kCall_inv h
    simp only [Bool.and_eq_true, Bool.not_eq_true'] at h1
    obtain ⟨⟨⟨⟨⟨⟨h2, h3⟩, h4⟩, h5⟩, h6⟩, h7⟩, h8⟩ := h1
    have e1 := of_decide_eq_true h2
    subst e1
    obtain ⟨f, fd, ps, j', ej, m1, m2, m3, m4⟩ := D.mkr i c (of_decide_eq_true h3)
    cases xs with
    | nil => simp at h6
    | cons y ys => exact (SE.made g.tk m4 (fun δ hδ => by rw [← ej]; exact g.room δ hδ) m1 (gl_of g h4) m2 m3 (okNm_inv h5).1 (sEs D g es (y :: ys) h7 h8) h7).cg fun ρ St q w => w
  | .meth c m i a es, x, h => by
    obtain ⟨y, n, p, xs, q, rfl, hl, hc, h1⟩ := kMeth_inv h
    simp only [Bool.and_eq_true] at h1
    obtain ⟨⟨⟨⟨⟨h2, h3⟩, h4⟩, h5⟩, h6⟩, h7⟩ := h1
    have e1 := of_decide_eq_true h2
    subst e1
    obtain ⟨k1, f, fd, ps, m1, m2, m3⟩ := D.ms i c m (of_decide_eq_true h3)
    cases xs with
    | nil =>
      cases es with
      | nil => exact (SE.meth0 g.tk m3 g.room k1 m1 m2 (sE D g a y h6) hc hl).cg fun ρ St q w => w
      | cons => exact absurd h7 (by simp [okEs])
    | cons z zs => exact (SE.meth g.tk m3 g.room k1 m1 m2 (sE D g a y h6) (sEs D g es (z :: zs) h4 h7) h4 (of_decide_eq_true h5) hc hl).cg fun ρ St q w => w
  termination_by e => (sizeOf e, 0)
theorem sT {B : Bx} {Y : Dl → Prop} {sc : Scope} {fc : Option Scope} {W : WX} {j : Nat} {C : XC} {T : Tb} {G : Gx} (D : Gd B C T G j) (g : Gy B Y sc fc W j) :
    ∀ (e : E) (x : Expr), okE T true sc e x = true → ST B Y W C G.xq x (wT G e)
  | .not a, x, h => by
    obtain ⟨y, p, rfl, h1⟩ := kNot_inv h
    exact (ST.not (sT D g a y h1)).cg fun ρ St q w => w
  | .boo an es, x, h => by
    obtain ⟨op, xs, p, rfl, h1⟩ := kBool_inv h
    simp only [Bool.and_eq_true] at h1
    exact (SW.st (sWs D g es xs op p an h1.1.1 (by rintro rfl; simp at h1) h1.2)).cg fun ρ St q w => w
  | .cmp o a b, x, h => by
    obtain ⟨y, op, z, p, rfl, h1⟩ := kCmp_inv h
    simp only [Bool.and_eq_true] at h1
    have e := of_decide_eq_true h1.1.1.1
    subst e
    exact (ST.cmp (cm_of g o) (marks_set h1.1.1.2 _) (sE D g a y h1.1.2) (sE D g b z h1.2)).cg fun ρ St q w => w
  | .chn o q a b c, x, h => by
    obtain ⟨y, op, z, op2, z2, p, rfl, h1⟩ := kChn_inv h
    simp only [Bool.and_eq_true] at h1
    obtain ⟨⟨⟨⟨⟨⟨e1, e2⟩, n1⟩, n2⟩, h2⟩, h3⟩, h4⟩ := h1
    have e1 := of_decide_eq_true e1
    have e2 := of_decide_eq_true e2
    subst e1; subst e2
    exact (ST.chn (cm_of g o) (cm_of g q) (no_marks n1 n2) (sE D g a y h2) (sE D g b z h3) (sE D g c z2 h4)).cg fun ρ St q w => w
  | .ite c a b, x, h => by
    obtain ⟨z, y, v, p, rfl, h1⟩ := kIf_inv h
    simp at h1
  | .var a, x, h => (ST.val (sE D g _ x (gen_plain rfl h).2) (plain_test (gen_plain rfl h).1)).cg fun ρ St q w => w
  | .non, x, h => (ST.val (sE D g _ x (gen_plain rfl h).2) (plain_test (gen_plain rfl h).1)).cg fun ρ St q w => w
  | .bl a, x, h => (ST.val (sE D g _ x (gen_plain rfl h).2) (plain_test (gen_plain rfl h).1)).cg fun ρ St q w => w
  | .int a, x, h => (ST.val (sE D g _ x (gen_plain rfl h).2) (plain_test (gen_plain rfl h).1)).cg fun ρ St q w => w
  | .str a, x, h => (ST.val (sE D g _ x (gen_plain rfl h).2) (plain_test (gen_plain rfl h).1)).cg fun ρ St q w => w
  | .glb a b, x, h => (ST.val (sE D g _ x (gen_plain rfl h).2) (plain_test (gen_plain rfl h).1)).cg fun ρ St q w => w
  | .tup a, x, h => (ST.val (sE D g _ x (gen_plain rfl h).2) (plain_test (gen_plain rfl h).1)).cg fun ρ St q w => w
  | .lst a, x, h => (ST.val (sE D g _ x (gen_plain rfl h).2) (plain_test (gen_plain rfl h).1)).cg fun ρ St q w => w
  | .newl a, x, h => (ST.val (sE D g _ x (gen_plain rfl h).2) (plain_test (gen_plain rfl h).1)).cg fun ρ St q w => w
  | .dct a, x, h => (ST.val (sE D g _ x (gen_plain rfl h).2) (plain_test (gen_plain rfl h).1)).cg fun ρ St q w => w
  | .newk a, x, h => (ST.val (sE D g _ x (gen_plain rfl h).2) (plain_test (gen_plain rfl h).1)).cg fun ρ St q w => w
  | .newd, x, h => (ST.val (sE D g _ x (gen_plain rfl h).2) (plain_test (gen_plain rfl h).1)).cg fun ρ St q w => w
  | .bin a b c, x, h => (ST.val (sE D g _ x (gen_plain rfl h).2) (plain_test (gen_plain rfl h).1)).cg fun ρ St q w => w
  | .neg a, x, h => (ST.val (sE D g _ x (gen_plain rfl h).2) (plain_test (gen_plain rfl h).1)).cg fun ρ St q w => w
  | .idx a b, x, h => (ST.val (sE D g _ x (gen_plain rfl h).2) (plain_test (gen_plain rfl h).1)).cg fun ρ St q w => w
  | .wget a b c, x, h => (ST.val (sE D g _ x (gen_plain rfl h).2) (plain_test (gen_plain rfl h).1)).cg fun ρ St q w => w
  | .sl a b c, x, h => (ST.val (sE D g _ x (gen_plain rfl h).2) (plain_test (gen_plain rfl h).1)).cg fun ρ St q w => w
  | .rev a, x, h => (ST.val (sE D g _ x (gen_plain rfl h).2) (plain_test (gen_plain rfl h).1)).cg fun ρ St q w => w
  | .call a b, x, h => (ST.val (sE D g _ x (gen_plain rfl h).2) (plain_test (gen_plain rfl h).1)).cg fun ρ St q w => w
  | .bif a b, x, h => (ST.val (sE D g _ x (gen_plain rfl h).2) (plain_test (gen_plain rfl h).1)).cg fun ρ St q w => w
  | .isi a b, x, h => (ST.val (sE D g _ x (gen_plain rfl h).2) (plain_test (gen_plain rfl h).1)).cg fun ρ St q w => w
  | .join a b, x, h => (ST.val (sE D g _ x (gen_plain rfl h).2) (plain_test (gen_plain rfl h).1)).cg fun ρ St q w => w
  | .lc a b c d e, x, h => (ST.val (sE D g _ x (gen_plain rfl h).2) (plain_test (gen_plain rfl h).1)).cg fun ρ St q w => w
  | .frz a, x, h => (ST.val (sE D g _ x (gen_plain rfl h).2) (plain_test (gen_plain rfl h).1)).cg fun ρ St q w => w
  | .popl a, x, h => (ST.val (sE D g _ x (gen_plain rfl h).2) (plain_test (gen_plain rfl h).1)).cg fun ρ St q w => w
  | .copyd a, x, h => (ST.val (sE D g _ x (gen_plain rfl h).2) (plain_test (gen_plain rfl h).1)).cg fun ρ St q w => w
  | .b1 a b, x, h => (ST.val (sE D g _ x (gen_plain rfl h).2) (plain_test (gen_plain rfl h).1)).cg fun ρ St q w => w
  | .ssrt a, x, h => (ST.val (sE D g _ x (gen_plain rfl h).2) (plain_test (gen_plain rfl h).1)).cg fun ρ St q w => w
  | .slen a, x, h => (ST.val (sE D g _ x (gen_plain rfl h).2) (plain_test (gen_plain rfl h).1)).cg fun ρ St q w => w
  | .dpop a b c, x, h => (ST.val (sE D g _ x (gen_plain rfl h).2) (plain_test (gen_plain rfl h).1)).cg fun ρ St q w => w
  | .newt, x, h => (ST.val (sE D g _ x (gen_plain rfl h).2) (plain_test (gen_plain rfl h).1)).cg fun ρ St q w => w
  | .dc a b c d e f, x, h => (ST.val (sE D g _ x (gen_plain rfl h).2) (plain_test (gen_plain rfl h).1)).cg fun ρ St q w => w
  | .lc2 a b c d e f i, x, h => (ST.val (sE D g _ x (gen_plain rfl h).2) (plain_test (gen_plain rfl h).1)).cg fun ρ St q w => w
  | .revt a, x, h => (ST.val (sE D g _ x (gen_plain rfl h).2) (plain_test (gen_plain rfl h).1)).cg fun ρ St q w => w
  | .slN a lo hi, x, h => (ST.val (sE D g _ x (gen_plain rfl h).2) (plain_test (gen_plain rfl h).1)).cg fun ρ St q w => w
  | .revs a, x, h => (ST.val (sE D g _ x (gen_plain rfl h).2) (plain_test (gen_plain rfl h).1)).cg fun ρ St q w => w
  | .fld a b c, x, h => (ST.val (sE D g _ x (gen_plain rfl h).2) (plain_test (gen_plain rfl h).1)).cg fun ρ St q w => w
  | .mk a b c, x, h => (ST.val (sE D g _ x (gen_plain rfl h).2) (plain_test (gen_plain rfl h).1)).cg fun ρ St q w => w
  | .meth a b c d e, x, h => (ST.val (sE D g _ x (gen_plain rfl h).2) (plain_test (gen_plain rfl h).1)).cg fun ρ St q w => w
  termination_by e => (sizeOf e, 1)
theorem sEs {B : Bx} {Y : Dl → Prop} {sc : Scope} {fc : Option Scope} {W : WX} {j : Nat} {C : XC} {T : Tb} {G : Gx} (D : Gd B C T G j) (g : Gy B Y sc fc W j) :
    ∀ (es : Es) (xs : List Expr), xs.all notStar = true → okEs T sc es xs = true → SA B Y W C G.xq xs (wEs G es)
  | .nil, [], _, h => SA.nil.cg fun ρ St q w => w
  | .nil, _ :: _, _, h => by cases h
  | .cons a es, [], _, h => by cases h
  | .cons a es, x :: xs, n, h => by
    have h1 : (okE T false sc a x && okEs T sc es xs) = true := h
    rw [Bool.and_eq_true] at h1
    rw [List.all_cons, Bool.and_eq_true] at n
    exact (SA.cons (sE D g a x h1.1) (sEs D g es xs n.2 h1.2) (star_cons n.1)).cg fun ρ St q w => w
  termination_by es => (sizeOf es, 0)
theorem sPs {B : Bx} {Y : Dl → Prop} {sc : Scope} {fc : Option Scope} {W : WX} {j : Nat} {C : XC} {T : Tb} {G : Gx} (D : Gd B C T G j) (g : Gy B Y sc fc W j) :
    ∀ (es : Es) (ks : List (Option Expr)) (xs : List Expr) (pos : Pos), okPs T sc es ks xs = true → SPp B Y W C G.xq pos ks xs (wEs G es)
  | .nil, [], [], pos, h => SPp.nil.cg fun ρ St q w => w
  | .nil, [], _ :: _, pos, h => by cases h
  | .nil, _ :: _, _, pos, h => by cases h
  | .cons a .nil, _, _, pos, h => by cases h
  | .cons a (.cons b es), [], _, pos, h => by cases h
  | .cons a (.cons b es), none :: _, _, pos, h => by cases h
  | .cons a (.cons b es), some _ :: _, [], pos, h => by cases h
  | .cons a (.cons b es), some x :: ks, y :: ys, pos, h => by
    have h1 : (okE T false sc a x && okE T false sc b y && okPs T sc es ks ys) = true := h
    simp only [Bool.and_eq_true] at h1
    exact (SPp.cons (sE D g a x h1.1.1) (sE D g b y h1.1.2) (sPs D g es ks ys pos h1.2)).cg fun ρ St q w => w
  termination_by es => (sizeOf es, 0)
theorem sBs {B : Bx} {Y : Dl → Prop} {sc : Scope} {fc : Option Scope} {W : WX} {j : Nat} {C : XC} {T : Tb} {G : Gx} (D : Gd B C T G j) (g : Gy B Y sc fc W j) :
    ∀ (es : Es) (xs : List Expr) (op : BoolOp) (pos : Pos) (an : Bool), ((match op with | .And => true | .Or => false) == an) = true → xs ≠ [] → okBs T false sc es xs = true → SE B Y W C G.xq (.BoolOp op xs pos) (wB G false an es)
  | .nil, [], op, pos, an, e, n, h => absurd rfl n
  | .nil, _ :: _, op, pos, an, e, n, h => by cases h
  | .cons a es, [], op, pos, an, e, n, h => by cases h
  | .cons a .nil, x :: xs, op, pos, an, e, n, h => by
    have h1 : (okE T false sc a x && okBs T false sc .nil xs) = true := h
    rw [Bool.and_eq_true] at h1
    cases xs with
    | nil => exact (SE.bool1 (sE D g a x h1.1)).cg fun ρ St q w => w
    | cons => exact absurd h1.2 (by simp [okBs])
  | .cons a (.cons b es), x :: xs, op, pos, an, e, n, h => by
    have h1 : (okE T false sc a x && okBs T false sc (.cons b es) xs) = true := h
    rw [Bool.and_eq_true] at h1
    cases xs with
    | nil => exact absurd h1.2 (by simp [okBs])
    | cons y ys =>
      have r := sBs D g (.cons b es) (y :: ys) op pos an e (by simp) h1.2
      cases op with
      | And =>
        have e : an = true := by simpa using e
        subst e
        exact (SE.and (sE D g a x h1.1) r).cg fun ρ St q w => w
      | Or =>
        have e : an = false := by simpa using e
        subst e
        exact (SE.or (sE D g a x h1.1) r).cg fun ρ St q w => w
  termination_by es => (sizeOf es, 0)
theorem sWs {B : Bx} {Y : Dl → Prop} {sc : Scope} {fc : Option Scope} {W : WX} {j : Nat} {C : XC} {T : Tb} {G : Gx} (D : Gd B C T G j) (g : Gy B Y sc fc W j) :
    ∀ (es : Es) (xs : List Expr) (op : BoolOp) (pos : Pos) (an : Bool), ((match op with | .And => true | .Or => false) == an) = true → xs ≠ [] → okBs T true sc es xs = true → SW B Y W C G.xq (.BoolOp op xs pos) (fun ρ St Q => wB G true an es ρ St (mB Q))
  | .nil, [], op, pos, an, e, n, h => absurd rfl n
  | .nil, _ :: _, op, pos, an, e, n, h => by cases h
  | .cons a es, [], op, pos, an, e, n, h => by cases h
  | .cons a .nil, x :: xs, op, pos, an, e, n, h => by
    have h1 : (okE T true sc a x && okBs T true sc .nil xs) = true := h
    rw [Bool.and_eq_true] at h1
    cases xs with
    | nil => cases op with
      | And => exact (SW.and1 (sT D g a x h1.1)).cg fun ρ St q w => w
      | Or => exact (SW.or1 (sT D g a x h1.1)).cg fun ρ St q w => w
    | cons => exact absurd h1.2 (by simp [okBs])
  | .cons a (.cons b es), x :: xs, op, pos, an, e, n, h => by
    have h1 : (okE T true sc a x && okBs T true sc (.cons b es) xs) = true := h
    rw [Bool.and_eq_true] at h1
    cases xs with
    | nil => exact absurd h1.2 (by simp [okBs])
    | cons y ys =>
      have r := sWs D g (.cons b es) (y :: ys) op pos an e (by simp) h1.2
      cases op with
      | And =>
        have e : an = true := by simpa using e
        subst e
        exact (SW.and (sT D g a x h1.1) r).cg fun ρ St q w => w
      | Or =>
        have e : an = false := by simpa using e
        subst e
        exact (SW.or (sT D g a x h1.1) r).cg fun ρ St q w => w
  termination_by es => (sizeOf es, 0)
theorem sTt {B : Bx} {Y : Dl → Prop} {sc : Scope} {fc : Option Scope} {W : WX} {j : Nat} {C : XC} {T : Tb} {G : Gx} (D : Gd B C T G j) (g : Gy B Y sc fc W j) :
    ∀ (es : Es) (xs : List Expr), okTt T sc es xs = true → STs B Y W C G.xq xs (wTs G es)
  | .nil, [], h => STs.nil.cg fun ρ St q w => w
  | .nil, _ :: _, h => by cases h
  | .cons a .nil, [], h => by cases h
  | .cons a .nil, [x], h => (STs.one (sT D g a x h)).cg fun ρ St q w => w
  | .cons a .nil, _ :: _ :: _, h => by cases h
  | .cons a (.cons _ _), _, h => by cases h
  termination_by es => (sizeOf es, 0)
theorem sO {B : Bx} {Y : Dl → Prop} {sc : Scope} {fc : Option Scope} {W : WX} {j : Nat} {C : XC} {T : Tb} {G : Gx} (D : Gd B C T G j) (g : Gy B Y sc fc W j) :
    ∀ (es : Eo) (xs : Option Expr), okO T sc es xs = true → SO B Y W C G.xq xs (wEo G es)
  | .none, none, h => SO.none.cg fun ρ St q w => w
  | .none, some _, h => by cases h
  | .some a, none, h => by cases h
  | .some a, some x, h => (SO.some (sE D g a x h)).cg fun ρ St q w => w
  termination_by es => (sizeOf es, 0)
theorem sI {B : Bx} {Y : Dl → Prop} {sc : Scope} {fc : Option Scope} {W : WX} {j : Nat} {C : XC} {T : Tb} {G : Gx} (D : Gd B C T G j) (g : Gy B Y sc fc W j) :
    ∀ (it : Wk) (t x : Expr), okWk T sc it t x = true → SI B Y W C G.xq t x (wIt G it)
  | .over a, t, x, h => (SI.over (sE D g a x h)).cg fun ρ St q w => w
  | .rng1 a, t, x, h => by
    obtain ⟨nm, p, xs, q, rfl, h1⟩ := kCall_inv h
    obtain ⟨y, rfl, g1⟩ := one_inv h1
    simp only [Bool.and_eq_true] at g1
    obtain ⟨⟨⟨h2, h3⟩, h4⟩, h5⟩ := g1
    have e1 := of_decide_eq_true h2
    subst e1
    exact (SI.rng1 (gl_of g h3) (D.blt _ (by decide +kernel)) (sE D g a y h5) h4).cg fun ρ St q w => w
  | .rng2 a b, t, x, h => by
    obtain ⟨nm, p, xs, q, rfl, h1⟩ := kCall_inv h
    obtain ⟨y, z, rfl, g1⟩ := two_inv h1
    simp only [Bool.and_eq_true] at g1
    obtain ⟨⟨⟨⟨⟨h2, h3⟩, h4⟩, h5⟩, h6⟩, h7⟩ := g1
    have e1 := of_decide_eq_true h2
    subst e1
    exact (SI.rng2 (gl_of g h3) (D.blt _ (by decide +kernel)) (sE D g a y h6) (sE D g b z h7) h4 h5).cg fun ρ St q w => w
  | .enum a, t, x, h => by
    obtain ⟨ts, k, p0, rfl, h0⟩ := kTuple_inv h
    obtain ⟨nm, p, xs, q, rfl, h1⟩ := kCall_inv h0
    obtain ⟨y, rfl, g1⟩ := one_inv h1
    simp only [Bool.and_eq_true] at g1
    obtain ⟨⟨⟨h2, h3⟩, h4⟩, h5⟩ := g1
    have e1 := of_decide_eq_true h2
    subst e1
    exact (SI.enum (gl_of g h3) (D.blt _ (by decide +kernel)) (sE D g a y h5) h4).cg fun ρ St q w => w
  | .zip a b, t, x, h => by
    obtain ⟨ts, k, p0, rfl, h0⟩ := kTuple_inv h
    obtain ⟨nm, p, xs, q, rfl, h1⟩ := kCall_inv h0
    obtain ⟨y, z, rfl, g1⟩ := two_inv h1
    simp only [Bool.and_eq_true] at g1
    obtain ⟨⟨⟨⟨⟨h2, h3⟩, h4⟩, h5⟩, h6⟩, h7⟩ := g1
    have e1 := of_decide_eq_true h2
    subst e1
    exact (SI.zip (gl_of g h3) (D.blt _ (by decide +kernel)) (sE D g a y h6) (sE D g b z h7) h4 h5).cg fun ρ St q w => w
  termination_by it => (sizeOf it, 0)
end
end DL
/-! DL12: soundness of the check of statements; defs; programs. -/
namespace DL
open PySem PySem.Spec PyProof.Rows L2

section
variable {B : Bx} {Y : Dl → Prop} {W : WX} {C : XC} {xq : QX} {vs : List Nat}
theorem SS.cg {x : Stmt} {w w' : Env → Sto → Ks → Prop} (h : SS B Y W C xq vs x w) (k : ∀ ρ St q, w' ρ St q → w ρ St q) : SS B Y W C xq vs x w' := by
  obtain ⟨t, p, kk⟩ := h.ex
  exact ⟨⟨t, p, fun ρ St F σ H q E r e x w => kk ρ St F σ H q E r e x (k _ _ _ w)⟩⟩
theorem SSs.cg {x : List Stmt} {w w' : Env → Sto → Ks → Prop} (h : SSs B Y W C xq vs x w) (k : ∀ ρ St q, w' ρ St q → w ρ St q) : SSs B Y W C xq vs x w' := by
  obtain ⟨t, p, kk⟩ := h.ex
  exact ⟨⟨t, p, fun ρ St F σ H q E r e x w => kk ρ St F σ H q E r e x (k _ _ _ w)⟩⟩
end
section
variable {B : Bx} {Y : Dl → Prop} {sc : Scope} {W : WX} {j : Nat} {C : XC} {T : Tb} {G : Gx}
theorem all_in {N : List Str} : ∀ i x, N[i]? = some x → ownB none i = true → i ∈ List.range N.length := fun i x h _ => by
  obtain ⟨hi, _⟩ := List.getElem?_eq_some_iff.mp h
  exact List.mem_range.mpr hi
theorem aug_ok {i : Nat} {x : Str} {px pos : Pos} {o : Op2} {a : Expr} {wa : Env → Sto → QD → Prop} {vs : List Nat} {xq : QX} (hp : isPM o = true) (hN : B.N.Nodup) (hi : B.N[i]? = some x) (hx : ∀ δ, Y δ → Loc δ.env.scope x ∧ (δ.fn x = true ∨ δ.env.scope.names.lookup x = some .local)) (hv : i ∈ vs)
    (ha : SE B Y W C xq a wa) : SS B Y W C xq vs (.AugAssign (.Name x px) (opOf o) a pos) (fun ρ St k => ∃ d, get ρ i = some d ∧ wa ρ St fun y S1 => wAug o d y fun e => k.nx (put ρ i e) S1) := by
  cases o with
  | add =>
    refine SS.aug (ti := ipI fun i j => i + j) (z := wAug .add) hN hi hx hv (fun δ _ => ip_add) ha fun F St H v u x y q Q r ix iy w k => ?_
    cases ix with
    | int i => cases iy with
      | int j => exact ⟨i, j, rfl, rfl, k _ F _ H Fr.refl r (.int _) w⟩
      | _ => exact False.elim w
    | _ => exact False.elim (by cases iy <;> exact w)
  | sub =>
    refine SS.aug (ti := ipI fun i j => i - j) (z := wAug .sub) hN hi hx hv (fun δ _ => ip_sub) ha fun F St H v u x y q Q r ix iy w k => ?_
    cases ix with
    | int i => cases iy with
      | int j => exact ⟨i, j, rfl, rfl, k _ F _ H Fr.refl r (.int _) w⟩
      | _ => exact False.elim w
    | _ => exact False.elim (by cases iy <;> exact w)
  | _ => cases hp
theorem locB_inv {sc : Scope} {x : Str} (h : locB sc x = true) : sc.names.lookup x = some .local := by
  unfold locB at h; split at h
  · assumption
  · cases h
theorem swaps_two {x y : Str} {px py p1 p2 : Pos} {k1 k2 : Nat} {a b : Expr} {env : PySem.Env} (kd : env.scope.kind = .function) (hx : env.scope.names.lookup x = some .local) (hy : env.scope.names.lookup y = some .local) (hl : (py.line == px.line) = true) (hne : (x == y) = false)
    (sa : notStar a = true) (sb : notStar b = true) (hf : [a, b].all (foldedForSure 8) = false) (hc : [a, b].all (constantsAlone 8) = false) :
    swappedStores [.Tuple [.Name x px, .Name y py] k1 p1] (.Tuple [a, b] k2 p2) env = pure (some [x, y]) := by
  have hb : env.blockKind = .function := by unfold PySem.Env.blockKind; rw [kd]; rfl
  have kx : env.kindOf x = some .local := hx
  have ky : env.kindOf y = some .local := hy
  have hl' : py.line = px.line := by simpa using hl
  have hn' : ¬ x = y := by simpa using hne
  have hyx : (y == x) = false := beq_eq_false_iff_ne.mpr fun e => hn' e.symm
  rw [List.all_cons, List.all_cons, List.all_nil, Bool.and_true] at hf hc
  simp [swappedStores, hb, kx, ky, hl', Expr.pos, List.filterMap, List.any, hf, hc, hyx, List.eraseDups, List.eraseDupsBy, List.eraseDupsBy.loop]
  rintro (h | h)
  · cases a <;> first | (cases h; done) | (cases sa; done)
  · cases b <;> first | (cases h; done) | (cases sb; done)
mutual
theorem okTg_own {N : List Str} {sc : Scope} {fc : Option Scope} {vs : List Nat} : ∀ (t : Tg) (e : Expr), okTg N sc fc none t e = true → (∀ i ∈ asgTg t, i ∈ vs) → okTg N sc fc (some vs) t e = true
  | .nm i, e, h, m => by
    obtain ⟨x, p, rfl, h1⟩ := kName_inv h
    simp only [Bool.and_eq_true] at h1
    show (decide (N[i]? = some x) && stoB sc fc x && ownB (some vs) i) = true
    simp only [Bool.and_eq_true]
    exact ⟨h1.1, List.contains_iff_mem.mpr (m i (by simp [asgTg]))⟩
  | .tup ts, e, h, m => by
    obtain ⟨es, k, p, rfl, h1⟩ := kTuple_inv h
    rw [Bool.and_eq_true] at h1
    show (es.all notStar && okTgs N sc fc (some vs) ts es) = true
    rw [Bool.and_eq_true]
    exact ⟨h1.1, okTgs_own ts es h1.2 m⟩
theorem okTgs_own {N : List Str} {sc : Scope} {fc : Option Scope} {vs : List Nat} : ∀ (t : Tgs) (e : List Expr), okTgs N sc fc none t e = true → (∀ i ∈ asgTgs t, i ∈ vs) → okTgs N sc fc (some vs) t e = true
  | .nil, [], h, m => h
  | .nil, _ :: _, h, m => by cases h
  | .cons t ts, [], h, m => by cases h
  | .cons t ts, e :: es, h, m => by
    have h' : (okTg N sc fc none t e && okTgs N sc fc none ts es) = true := h
    rw [Bool.and_eq_true] at h'
    show (okTg N sc fc (some vs) t e && okTgs N sc fc (some vs) ts es) = true
    rw [Bool.and_eq_true]
    exact ⟨okTg_own t e h'.1 fun i hi => m i (List.mem_append_left _ hi), okTgs_own ts es h'.2 fun i hi => m i (List.mem_append_right _ hi)⟩
end
theorem sGv (g : Gy B Y sc none W j) {N : List Str} (hN : B.N = N) (nd : N.Nodup) {vs : List Nat} (t : Tg) (e : Expr) (h : okTg N sc none none t e = true) (m : ∀ i ∈ asgTg t, i ∈ vs) : SG B Y e vs (bindT t) :=
  sG g hN nd (own := some vs) (fun i x _ h => List.contains_iff_mem.mp h) t e (okTg_own t e h m)
theorem Gy.tr (g : Gy B Y sc none W j) (W' : WX) : Gy B (trY B Y W') sc none W' j := by
  refine ⟨?_, ?_, ?_, ?_, ?_⟩
  · rintro _ ⟨δ, pn, xe, hδ, _, _, rfl⟩; exact g.calm δ hδ
  · rintro _ ⟨δ, pn, xe, hδ, _, _, rfl⟩; exact g.room δ hδ
  · rintro _ ⟨δ, pn, xe, hδ, _, _, rfl⟩; exact g.sc δ hδ
  · rintro _ ⟨δ, pn, xe, hδ, _, _, rfl⟩; exact g.fn δ hδ
  · rintro _ ⟨δ, pn, xe, hδ, tk, _, rfl⟩; exact tk
theorem po_tr (W' : WX) : ∀ δ, trY B Y W' δ → PassesOwn (model B.prog B.w) δ.A δ.env δ.xe := by
  rintro _ ⟨δ, pn, xe, hδ, _, po, rfl⟩; exact po
theorem fr_tr (fr : ∀ δ, Y δ → δ.stack = δ.env :: δ.outer ∧ δ.env.frame = some δ.env.locals) (W' : WX) : ∀ δ, trY B Y W' δ → δ.stack = δ.env :: δ.outer ∧ δ.env.frame = some δ.env.locals := by
  rintro _ ⟨δ, pn, xe, hδ, _, _, rfl⟩; exact fr δ hδ
def Gx.xat (G : Gx) (qx : QX) : Gx := { G with xq := qx }
theorem Gd.xat (D : Gd B C T G j) (qx : QX) : Gd B C T (G.xat qx) j := ⟨D.N, D.nd, D.blt, D.fs, D.gl, D.wd, D.xf, D.xi, D.cl, D.ms, D.mkr⟩
theorem isNone_inv {α : Type} {o : Option α} (h : isNone o = true) : o = none := by cases o <;> first | rfl | cases h
mutual
theorem sS {B : Bx} {Y : Dl → Prop} {sc : Scope} {W : WX} {j : Nat} {C : XC} {T : Tb} {G : Gx} (D : Gd B C T G j) (g : Gy B Y sc none W j) (po : ∀ δ, Y δ → PassesOwn (model B.prog B.w) δ.A δ.env δ.xe) (fr : ∀ δ, Y δ → δ.stack = δ.env :: δ.outer ∧ δ.env.frame = some δ.env.locals) (kd : sc.kind = .function) :
    ∀ (s : S) (x : Stmt) (vs : List Nat), okS T sc s x = true → (∀ i ∈ asgS s, i ∈ vs) → SS B Y W C G.xq vs x (wS G s)
  | .set t e, x, vs, h, hv => by
    obtain ⟨y, z, p, rfl, h1⟩ := kAsg_inv h
    simp only [Bool.and_eq_true, Bool.or_eq_true] at h1
    obtain ⟨⟨⟨⟨h2, h3⟩, h4⟩, h5⟩, h6⟩ := h1
    have h5 : ∀ δ, Y δ → swappedStores [y] z δ.env = pure none := fun δ hδ => by
      rcases h5 with h5 | h5
      · exact no_pair h5 _
      · exact no_cell h5 _ (g.sc δ hδ)
    rcases h6 with (h6 | ⟨h6, h7⟩) | h6
    · exact (SS.set (sE D g e z h3) (sGv g D.N D.nd t y h4 hv).ag (fun δ _ => no_swap h6 _ _ _) h5 h2).cg fun ρ St q w => w
    · obtain ⟨c1, c2, scope, cpos, nm, py, rfl, rfl, l1, l2, l3⟩ := lcSet_inv h6
      cases e with
      | lc elt tg it tt own =>
        obtain ⟨elt', t', i', cs, scope', p', e1, g1⟩ := kLc_inv h3
        injection e1 with e1 e2 e3 e4
        subst e1; subst e2; subst e3; subst e4
        simp only [Bool.and_eq_true] at g1
        obtain ⟨⟨⟨⟨⟨f2, f3⟩, f4⟩, f5⟩, f6⟩, f7⟩ := g1
        have g2 := g.blk scope
        obtain ⟨te, a1, a2, a3⟩ := lc_ex (pos := cpos) (vs := own) g.calm (by rw [D.N]; exact D.nd) (sI D g it t' i' f4) (fun δ hδ => by rw [g.sc δ hδ, D.N]; exact blkOk_by f3) (map_ownOf T.N own)
          (sG (own := some own) g2 D.N D.nd (fun i x _ h => List.contains_iff_mem.mp (show own.contains i = true from h)) tg t' f5) (sTt D.nox g2 tt cs f6) (sE D.nox g2 elt c1 f7) f2
        cases t with
        | nm k =>
          have k1 : (decide (T.N[k]? = some nm) && stoB sc none nm && ownB none k) = true := h4
          simp only [Bool.and_eq_true] at k1
          have hi := of_decide_eq_true k1.1.1
          exact (SS.setLc (t := te) (fun δ hδ i y py spos => a2 δ hδ i y py spos) a3 (by rw [D.N]; exact hi) (fun δ hδ => by rw [g.sc δ hδ]; exact ⟨l1, kd⟩) l2 l3 (hv k List.mem_cons_self)).cg fun ρ St q w => w
        | tup ts =>
          exact Bool.noConfusion (show false = true from h4)
      | lc2 elt tg it tg1 it1 own own1 =>
        obtain ⟨elt', t', i', t1', i1', scope', p', e1, g1⟩ := kLc2_inv h3
        injection e1 with e1 e2 e3 e4
        subst e1; subst e2; subst e3; subst e4
        simp only [Bool.and_eq_true] at g1
        obtain ⟨⟨⟨⟨⟨⟨⟨⟨f2, f3⟩, f4⟩, f5⟩, f6⟩, f7⟩, f8⟩, f9⟩, f10⟩ := g1
        have g2 := g.blk scope
        obtain ⟨te, a1, a2, a3⟩ := lc2_ex (pos := cpos) (vs := own) (vs1 := own1) g.calm (by rw [D.N]; exact D.nd) (sI D g it t' i' f6) (fun δ hδ => by rw [g.sc δ hδ, D.N]; exact blkOk_by f5) (map_ownOf T.N own) (fun v hv => List.contains_iff_mem.mp (List.all_eq_true.mp f4 v hv))
          (sG (own := some own) g2 D.N D.nd (fun i x _ h => List.contains_iff_mem.mp (show own.contains i = true from h)) tg t' f7) (sI D.nox g2 it1 t1' i1' f8)
          (sG (own := some own1) g2 D.N D.nd (fun i x _ h => List.contains_iff_mem.mp (show own1.contains i = true from h)) tg1 t1' f9) (sE D.nox g2 elt c1 f10) f2 f3
        cases t with
        | nm k =>
          have k1 : (decide (T.N[k]? = some nm) && stoB sc none nm && ownB none k) = true := h4
          simp only [Bool.and_eq_true] at k1
          have hi := of_decide_eq_true k1.1.1
          exact (SS.setLc (t := te) (fun δ hδ i y py spos => a2 δ hδ i y py spos) a3 (by rw [D.N]; exact hi) (fun δ hδ => by rw [g.sc δ hδ]; exact ⟨l1, kd⟩) l2 l3 (hv k List.mem_cons_self)).cg fun ρ St q w => w
        | tup ts =>
          exact Bool.noConfusion (show false = true from h4)
      | _ => cases h7
    · exact (SS.set (sE D g e z h3) (sGv g D.N D.nd t y h4 hv).ag (fun δ hδ => cell_swap h6 _ _ (g.sc δ hδ)) h5 h2).cg fun ρ St q w => w
  | .aug i o e, x, vs, h, hv => by
    obtain ⟨y, p2, op, z, p, rfl, h1⟩ := kAug_inv h
    simp only [Bool.and_eq_true] at h1
    obtain ⟨⟨⟨⟨h2, h3⟩, h4⟩, h5⟩, h6⟩ := h1
    have e1 := of_decide_eq_true h3
    subst e1
    have hi := of_decide_eq_true h4
    exact (aug_ok h2 (by rw [D.N]; exact D.nd) (by rw [D.N]; exact hi) (sto_ok g h5) (hv i List.mem_cons_self) (sE D g e z h6)).cg fun ρ St q w => w
  | .put o i e, x, vs, h, hv => by
    obtain ⟨y, z, p, rfl, h1⟩ := kAsg_inv h
    obtain ⟨y1, y2, p2, rfl, g1⟩ := kSub_inv h1
    simp only [Bool.and_eq_true] at g1
    obtain ⟨⟨⟨⟨h2, h3⟩, h4⟩, h5⟩, h6⟩ := g1
    exact (SS.put g.room (sE D g e z h4) (sE D g o y1 h5) (sE D g i y2 h6) h2 h3).cg fun ρ St q w => w
  | .expr e, x, vs, h, hv => by
    obtain ⟨y, p, rfl, h1⟩ := kExp_inv h
    rw [Bool.and_eq_true] at h1
    exact (SS.expr (sE D g e y h1.2) h1.1).cg fun ρ St q w => w
  | .app o e, x, vs, h, hv => by
    obtain ⟨y, p, rfl, h1⟩ := kExp_inv h
    obtain ⟨z, m, p2, xs, q, rfl, hl, hc, g1⟩ := kMeth_inv h1
    obtain ⟨y, rfl, g2⟩ := one_inv g1
    simp only [Bool.and_eq_true] at g2
    obtain ⟨⟨⟨h2, h3⟩, h4⟩, h5⟩ := g2
    have e1 := of_decide_eq_true h2
    subst e1
    exact (SS.app (sE D g o z h4) (sE D g e y h5) hc h3 hl).cg fun ρ St q w => w
  | .ret e, x, vs, h, hv => by
    obtain ⟨y, p, rfl, h1⟩ := kRet_inv h
    cases y with
    | none => cases h1
    | some y => exact (SS.ret (sE D g e y h1)).cg fun ρ St q w => w
  | .retN, x, vs, h, hv => by
    obtain ⟨y, p, rfl, h1⟩ := kRet_inv h
    cases y with
    | none => exact SS.retN.cg fun ρ St q w => w
    | some y => cases h1
  | .ite c a b, x, vs, h, hv => by
    obtain ⟨y, xs, ys, p, rfl, h1⟩ := kIfS_inv h
    simp only [Bool.and_eq_true] at h1
    exact (SS.ite (sT D g c y h1.1.1) (sSs D g po fr kd a xs vs h1.1.2 fun i hi => hv i (List.mem_append_left _ hi)) (sSs D g po fr kd b ys vs h1.2 fun i hi => hv i (List.mem_append_right _ hi))).cg fun ρ St q w => w
  | .loop c b, x, vs, h, hv => by
    obtain ⟨y, xs, p, rfl, h1⟩ := kWhile_inv h
    rw [Bool.and_eq_true] at h1
    exact (SS.loop po (sT D g c y h1.1) (sSs D g po fr kd b xs vs h1.2 hv)).cg fun ρ St q w => w
  | .each t it b, x, vs, h, hv => by
    obtain ⟨y, z, xs, p, rfl, h1⟩ := kFor_inv h
    simp only [Bool.and_eq_true] at h1
    obtain ⟨⟨⟨h2, h3⟩, h4⟩, h5⟩ := h1
    exact (SS.each po g.calm (sI D g it y z h3) (sGv g D.N D.nd t y h4 fun i hi => hv i (List.mem_append_left _ hi)).ag (sSs D g po fr kd b xs vs h5 fun i hi => hv i (List.mem_append_right _ hi)) h2).cg fun ρ St q w => w
  | .brk, x, vs, h, hv => by
    cases x <;> first | (cases h; done) | exact SS.brk.cg fun ρ St q w => w
  | .cont, x, vs, h, hv => by
    cases x <;> first | (cases h; done) | exact SS.cont.cg fun ρ St q w => w
  | .pass, x, vs, h, hv => by
    cases x <;> first | (cases h; done) | exact SS.pass.cg fun ρ St q w => w
  | .fz i, x, vs, h, hv => by cases h
  | .rais c, x, vs, h, hv => by
    obtain ⟨y, p, m, k, p2, p3, p4, rfl, h1⟩ := kRaise_inv h
    simp only [Bool.and_eq_true] at h1
    obtain ⟨⟨h2, h3⟩, h4⟩ := h1
    exact (SS.rais g.calm g.tk (D.xf c y (of_decide_eq_true h2)) (gl_of g h3) (okNm_inv h4).1).cg fun ρ St q w => w.2
  | .tri b c none hh, x, vs, h, hv => by
    rw [okS] at h
    obtain ⟨body, y, p, n, b0, su, p2, p3, rfl, h1⟩ := kTry_inv h
    simp only [Bool.and_eq_true] at h1
    obtain ⟨⟨⟨⟨⟨h2, h3⟩, h4⟩, h5⟩, h6⟩, h7⟩ := h1
    have e1 := isNone_inv h5
    subst e1
    have hx := of_decide_eq_true h2
    have h6' : okSu B.N sc none T.bs hh (b0 :: su) = true := by rw [D.N]; exact h6
    exact (SS.tri (vb := asgSs b) fr g.sc g.tk (D.xf c y hx) (gl_of g h3) (okNm_inv h4).1 (fun _ _ => D.xi c y hx) h6' hv fun ρ k W' => sSs (D.xat (xq1 G.xq c hh (asgSs b) ρ k)) (g.tr W') (po_tr W') (fr_tr fr W') kd b body (asgSs b) h7 fun i hi => hi).cg fun ρ St q w => w
  | .tri b c (some i) hh, x, vs, h, hv => by
    rw [okS] at h
    obtain ⟨body, y, p, n, b0, su, p2, p3, rfl, h1⟩ := kTry_inv h
    simp only [Bool.and_eq_true] at h1
    obtain ⟨⟨⟨⟨⟨h2, h3⟩, h4⟩, h5⟩, h6⟩, h7⟩ := h1
    cases n with
    | none => cases h5
    | some n =>
      have h5 : (decide (T.N[i]? = some n) && (match sc.names.lookup n with | some .local => true | _ => false)) = true := h5
      rw [Bool.and_eq_true] at h5
      have hx := of_decide_eq_true h2
      have h6' : okSu B.N sc (some i) T.bs hh (b0 :: su) = true := by rw [D.N]; exact h6
      have hl : sc.names.lookup n = some .local := by
        have := h5.2
        split at this
        · assumption
        · cases this
      exact (SS.triA (vb := asgSs b) fr g.sc g.tk (D.xf c y hx) (by rw [D.N]; exact D.nd) (by rw [D.N]; exact of_decide_eq_true h5.1) hl (gl_of g h3) (okNm_inv h4).1 (fun _ _ => D.xi c y hx) h6' (fun k hk => hv k (List.mem_cons_of_mem _ hk)) fun ρ k W' => sSs (D.xat (xq1 G.xq c hh (i :: asgSs b) ρ k)) (g.tr W') (po_tr W') (fr_tr fr W') kd b body (asgSs b) h7 fun i hi => hi).cg fun ρ St q w => w
  | .tri2 b c1 hh1 c2 hh2, x, vs, h, hv => by
    rw [okS] at h
    obtain ⟨body, y, p, b0, su, p2, z, q, c0, su2, q2, p3, rfl, h1⟩ := kTry2_inv h
    simp only [Bool.and_eq_true] at h1
    obtain ⟨⟨⟨⟨⟨⟨⟨⟨h2, h3⟩, h4⟩, h5⟩, h6⟩, h7⟩, h8⟩, h9⟩, h10⟩ := h1
    have hx := of_decide_eq_true h2
    have hy := of_decide_eq_true h5
    exact (SS.tri2 (vb := asgSs b) fr g.sc g.tk (D.xf c1 y hx) (D.xf c2 z hy) (gl_of g h3) (okNm_inv h4).1 (gl_of g h6) (okNm_inv h7).1 (fun _ _ => D.xi c1 y hx) (by rw [D.N]; exact h8) (by rw [D.N]; exact h9) hv fun ρ k W' => sSs (D.xat (xq2 G.xq c1 hh1 c2 hh2 (asgSs b) ρ k)) (g.tr W') (po_tr W') (fr_tr fr W') kd b body (asgSs b) h10 fun i hi => hi).cg fun ρ St q w => w
  | .ext o e, x, vs, h, hv => by
    obtain ⟨z, p, rfl, h1⟩ := kExp_inv h
    obtain ⟨y, m, p2, xs, q, rfl, hl, hc, h2⟩ := kMeth_inv h1
    obtain ⟨v, rfl, g1⟩ := one_inv h2
    simp only [Bool.and_eq_true] at g1
    obtain ⟨⟨⟨h3, h4⟩, h5⟩, h6⟩ := g1
    have e1 := of_decide_eq_true h3
    subst e1
    exact (SS.ext (sE D g o y h5) (sE D g e v h6) hc h4 hl).cg fun ρ St q w => w
  | .putf c o f e, x, vs, h, hv => by
    obtain ⟨y, z, p, rfl, h1⟩ := kAsg_inv h
    obtain ⟨v, m, p2, rfl, h2⟩ := kAttr_inv h1
    simp only [Bool.and_eq_true] at h2
    obtain ⟨⟨⟨⟨h3, h4⟩, h5⟩, h6⟩, h7⟩ := h2
    have e1 := of_decide_eq_true h3
    subst e1
    obtain ⟨k1, k2⟩ := fld_of D h4
    exact (SS.putf k1 k2 (sE D g e z h6) (sE D g o v h7) h5).cg fun ρ St q w => w
  | .unp2 c i f1 f2 e, x, vs, h, hv => by
    obtain ⟨y, m, y2, n, z, p1, q1, p2, q2, kt, pt, p3, rfl, nc, np, h1⟩ := kUnp_inv h
    simp only [Bool.and_eq_true] at h1
    obtain ⟨⟨⟨⟨⟨⟨⟨⟨h2, h3⟩, h4⟩, h5⟩, h6⟩, h7⟩, h8⟩, h9⟩, h10⟩ := h1
    have e0 := of_decide_eq_true h2
    have e1 := of_decide_eq_true h6
    have e2 := of_decide_eq_true h7
    subst e0; subst e1; subst e2
    obtain ⟨k1, k2⟩ := fld_of D h8
    obtain ⟨_, k3⟩ := fld_of D h9
    exact (SS.unp2 g.calm k1 k2 k3 (sE D g e z h10) (by rw [D.N]; exact of_decide_eq_true h3) (fun δ hδ => by rw [g.sc δ hδ]; exact visB_inv h4) (okNm_inv h5).1 (okNm_inv h5).2 nc np).cg fun ρ St q w => w
  | .augf c o f op e, x, vs, h, hv => by
    obtain ⟨v, m, p2, op', y, p, rfl, h1⟩ := kAugF_inv h
    simp only [Bool.and_eq_true] at h1
    obtain ⟨⟨⟨⟨⟨h2, h3⟩, h4⟩, h5⟩, h6⟩, h7⟩ := h1
    have e1 := of_decide_eq_true h4
    have e2 := of_decide_eq_true h3
    subst e1; subst e2
    obtain ⟨k1, k2⟩ := fld_of D h5
    cases op with
    | add => exact (SS.augf (op := .add) (.inl rfl) k1 k2 (sE D g o v h6) (sE D g e y h7)).cg fun ρ St q w => w
    | sub => exact (SS.augf (op := .sub) (.inr rfl) k1 k2 (sE D g o v h6) (sE D g e y h7)).cg fun ρ St q w => w
    | _ => cases h2
  | .par i j a b, x, vs, h, hv => by
    obtain ⟨y, z, px, py, k1, p1, e1, e2, k2, p2, p3, rfl, hl, hne, sa, sb, hf, hc, h1⟩ := kPar_inv h
    simp only [Bool.and_eq_true] at h1
    obtain ⟨⟨⟨⟨⟨⟨h2, h3⟩, h4⟩, h5⟩, h6⟩, h7⟩, h8⟩ := h1
    have hi := of_decide_eq_true h2
    have hj := of_decide_eq_true h3
    exact (SS.par g.calm (by rw [D.N]; exact D.nd) (by rw [D.N]; exact hi) (by rw [D.N]; exact hj) (of_decide_eq_true h4) (fun δ hδ => by rw [g.sc δ hδ]; exact ⟨locB_inv h5, locB_inv h6⟩)
      (fun δ hδ => swaps_two (by rw [g.sc δ hδ]; exact kd) (by rw [g.sc δ hδ]; exact locB_inv h5) (by rw [g.sc δ hδ]; exact locB_inv h6) hl hne sa sb hf hc) (sE D g a e1 h7) (sE D g b e2 h8) sa sb (hv i List.mem_cons_self) (hv j (List.mem_cons_of_mem _ List.mem_cons_self))).cg fun ρ St q w => w
theorem sSs {B : Bx} {Y : Dl → Prop} {sc : Scope} {W : WX} {j : Nat} {C : XC} {T : Tb} {G : Gx} (D : Gd B C T G j) (g : Gy B Y sc none W j) (po : ∀ δ, Y δ → PassesOwn (model B.prog B.w) δ.A δ.env δ.xe  ) (fr : ∀ δ, Y δ → δ.stack = δ.env :: δ.outer ∧ δ.env.frame = some δ.env.locals) (kd : sc.kind = .function) :
    ∀ (s : List S) (x : List Stmt) (vs : List Nat), okSs T sc s x = true → (∀ i ∈ asgSs s, i ∈ vs) → SSs B Y W C G.xq vs x (wSs G s)
  | [], [], vs, h, hv => SSs.nil.cg fun ρ St q w => w
  | [], _ :: _, vs, h, hv => by cases h
  | s :: r, xs, vs, h, hv => by
    by_cases hf : ∃ i, s = .fz i
    · obtain ⟨i, rfl⟩ := hf
      have h1 : okSs T sc r xs = true := by cases xs <;> exact h
      exact (SSs.fz (i := i) (sSs D g po fr kd r xs vs h1 fun i hi => hv i (List.mem_append_right _ hi))).cg fun ρ St q w => w
    · cases xs with
      | nil => cases s <;> first | exact absurd ⟨_, rfl⟩ hf | cases h
      | cons x xs =>
        have h1 : (okS T sc s x && okSs T sc r xs) = true := by cases s <;> first | exact absurd ⟨_, rfl⟩ hf | exact h
        rw [Bool.and_eq_true] at h1
        exact (SSs.cons (sS D g po fr kd s x vs h1.1 fun i hi => hv i (List.mem_append_left _ hi)) (sSs D g po fr kd r xs vs h1.2 fun i hi => hv i (List.mem_append_right _ hi))).cg fun ρ St q w => w
end
end

/-! ### a def -/
def startE (n : Nat) (ds : List D) : Env := ds.map some ++ List.replicate (n - ds.length) none
def bodyK (q : QD) : Ks := { nx := fun _ S => q .non S, rt := q, bk := fun _ _ => False, ct := fun _ _ => False }
theorem get_eq : ∀ (ρ : Env) (i : Nat) (d : D), get ρ i = some d → ρ[i]? = some (some d)
  | [], _, _, h => by cases h
  | x :: r, 0, d, h => by
    have h : x = some d := h
    rw [h]; rfl
  | x :: r, i + 1, d, h => by
    rw [List.getElem?_cons_succ]
    exact get_eq r i d h
theorem re_start {K : PySem.W.Frag} {F : Hp} {N : List Str} {vs : List V} {ds : List D} (h : IsL K F vs ds) : RE K F (startE N.length ds) (L2.start N vs) := by
  refine ⟨?_, fun i d g => ?_⟩
  · simp [startE, L2.start, h.length]
  · have g := get_eq _ _ _ g
    unfold startE at g
    by_cases hi : i < ds.length
    · rw [List.getElem?_append_left (by rw [List.length_map]; exact hi), List.getElem?_map] at g
      cases e : ds[i]? with
      | none => rw [e] at g; cases g
      | some d2 =>
        rw [e] at g
        have : d2 = d := by simpa using g
        subst this
        obtain ⟨u, hu, is⟩ := h.get e
        refine ⟨u, ?_, is⟩
        unfold L2.start
        rw [List.getElem?_append_left (by rw [List.length_map, h.length]; exact hi), List.getElem?_map, hu]
        rfl
    · rw [List.getElem?_append_right (by rw [List.length_map]; omega)] at g
      rw [List.getElem?_replicate] at g
      split at g <;> simp at g
def Gx.at (G : Gx) (qx : QX) : Gx := { G with xq := qx }
theorem def_ok {P : Program} {w : World} {K : PySem.W.Frag} {mg : Str → Option Value} {base : Heap} {x qual : Str} {params : Arguments} {body : List Stmt} {scope : Scope} {dvs : List V} {kws : List (Str × V)} {f : Addr} {fd : FuncData} {T : Tb} {ps : List Str} {C : XC} {G : Gx} {k : Nat} {own : List S}
    (F : FunD K x qual params body scope dvs kws f fd) (Sc : FnScope T.N ps scope) (D : Gd ⟨P, w, K, mg, base, T.N⟩ C T G k) (hok : okSs T scope own body = true) :
    FnOk P w K mg base (L2.CX P w) (k + 1) f fd ps (lift K w C fun ds St q qx => ds.length = ps.length ∧ wSs (G.at qx) own (startE T.N.length ds) St (bodyK q)) := by
  refine F.ok Sc (fun vs H Q E h => ?_) (fun cdv A outer s H vs Q E hr hsp => ?_)
  · obtain ⟨ds, St, F0, q, qx, r, il, ⟨hlen, _⟩, _⟩ := h
    rw [il.length, hlen]
  · obtain ⟨ds, St, F0, q, qx, r, il, ⟨hlen, w0⟩, kq, kx⟩ := hsp
    let X := cxOf (L2.CX P w) P w K mg base T.N qual scope f cdv A outer s H E
    let δ : Dl := ⟨X.A, X.s_0, X.H_0, X.env, X.outer, X.stack, X.ex, X.fn, X.calm, X.pn, X.xe⟩
    have D' : Gd ⟨P, w, K, mg, base, T.N⟩ C T (G.at qx) k := ⟨D.N, D.nd, D.blt, D.fs, D.gl, D.wd, D.xf, D.xi, D.cl, D.ms, D.mkr⟩
    have g : Gy ⟨P, w, K, mg, base, T.N⟩ (fun δ' => δ' = δ) scope none (fun cls d _ H => E cls d H) k := by
      refine ⟨?_, ?_, ?_, ?_, ?_⟩
      · rintro _ rfl; rfl
      · rintro _ rfl; exact hr
      · rintro _ rfl; rfl
      · rintro _ rfl x _; rfl
      · rintro _ rfl; exact takes_of (X := X) rfl rfl rfl rfl
    have po : ∀ δ', δ' = δ → PassesOwn (model P w) δ'.A δ'.env δ'.xe := by
      rintro _ rfl
      exact passes_of (X := X) rfl
    obtain ⟨t, p, kk⟩ := (sSs D' g po (by rintro _ rfl; exact ⟨rfl, rfl⟩) Sc.kind own body _ hok fun i hi => hi).ex
    refine ⟨t, p δ rfl, kk (startE T.N.length ds) St F0 (L2.start T.N vs) H (bodyK q) _ r (re_start il) ?_ w0 ?_⟩
    · intro c d S' F' H' dx σ' _ f r' p hq
      exact kx c d S' F' H' dx hq f r' p
    · exact ⟨fun ρ' S' F' σ' H' _ f r' _ hq => kq .non S' .non F' H' hq f r' .non, fun d S' F' v H' f r' i hq => kq d S' v F' H' hq f r' i, fun _ _ _ _ _ _ _ _ _ hq => hq.elim, fun _ _ _ _ _ _ _ _ _ hq => hq.elim⟩
end DL
/-! DL13: a program of own defs; all of them hold what they say. -/
namespace DL
open PySem PySem.Spec PyProof.Rows L2

structure Fn where
  np : Nat
  N : List Str
  body : List S
structure Pg where
  fs : List (Nat × Str × Fn)
  gl : List (Str × D)
  wd : List (Str × List (D × D))
  xc : List (Nat × Str) := []
  bs : Str := ""
  cl : List (Bs × List Bs) := []
  mt : List (Nat × Bs × Bs) := []
def lkC : List (Bs × List Bs) → Bs → Option (List Bs)
  | [], _ => none
  | (c, fs) :: r, x => if c = x then some fs else lkC r x
theorem lkC_mem : ∀ {l : List (Bs × List Bs)} {c : Bs} {fs : List Bs}, lkC l c = some fs → (c, fs) ∈ l
  | [], _, _, h => by cases h
  | (c', fs') :: r, c, fs, h => by
    unfold lkC at h
    split at h
    · next e => cases h; subst e; exact List.mem_cons_self
    · exact List.mem_cons_of_mem _ (lkC_mem h)
def lk {α : Type} : List (Nat × α) → Nat → Option α
  | [], _ => none
  | (j, a) :: r, i => if j = i then some a else lk r i
theorem lk_mem {α : Type} : ∀ {l : List (Nat × α)} {i : Nat} {a : α}, lk l i = some a → (i, a) ∈ l
  | [], _, _, h => by cases h
  | (j, b) :: r, i, a, h => by
    unfold lk at h
    split at h
    · next e => cases h; subst e; exact List.mem_cons_self
    · exact List.mem_cons_of_mem _ (lk_mem h)
def Pg.at (P : Pg) (i : Nat) : Option (Str × Fn) := lk P.fs i
/-- the i-th def has f's text, its names aside -/
def Pg.Has (P : Pg) (i : Nat) (f : Fn) : Prop := ∃ (nm : Str) (N : List Str), P.at i = some (nm, ⟨f.np, N, f.body⟩) ∧ N.length = f.N.length
theorem Pg.has {P : Pg} {i : Nat} {f : Fn} {nm : Str} {N : List Str} (h : P.at i = some (nm, ⟨f.np, N, f.body⟩)) (hl : N.length = f.N.length) : P.Has i f := ⟨nm, N, h, hl⟩
/-- the i-th def as a global function, as a method -/
def Pg.fsN (P : Pg) (i : Nat) : Option Str := match lk P.mt i with
  | none => (P.at i).map (·.1)
  | some _ => none
def Pg.ms (P : Pg) (i : Nat) : Option (Bs × Bs) := match P.at i with
  | none => none
  | some _ => lk P.mt i
def Pg.tb (P : Pg) (f : Fn) : Tb := ⟨f.N, P.fsN, P.gl, P.wd, lk P.xc, P.bs, lkC P.cl, P.ms⟩
def noSp : Nat → DSp := fun _ _ _ _ _ => False
/-- what the i-th def says, k calls deep -/
def Pg.spec (P : Pg) : Nat → Nat → DSp
  | 0, _ => fun _ _ _ _ => False
  | 1, i => fun ds St q qx => match P.at i with
    | some (_, f) => ds.length = f.np ∧ ∃ (q' : QD) (qx' : QX), (∀ d S', q' d S' → ∃ S2, Sub S2 S' ∧ q d S2) ∧ (∀ c d S', qx' c d S' → ∃ S2, Sub S2 S' ∧ qx c d S2) ∧
      wSs ⟨Pg.spec P 0, noSp, qx'⟩ f.body (startE f.N.length ds) St (bodyK q')
    | none => False
  | k + 2, i => fun ds St q qx => match P.at i with
    | some (_, f) => ds.length = f.np ∧ ∃ (q' : QD) (qx' : QX), (∀ d S', q' d S' → ∃ S2, Sub S2 S' ∧ q d S2) ∧ (∀ c d S', qx' c d S' → ∃ S2, Sub S2 S' ∧ qx c d S2) ∧
      wSs ⟨Pg.spec P (k + 1), Pg.spec P k, qx'⟩ f.body (startE f.N.length ds) St (bodyK q')
    | none => False
def Pg.spc (P : Pg) : Nat → Nat → DSp
  | 0 => noSp
  | k + 1 => P.spec k
def Pg.G (P : Pg) (k : Nat) (qx : QX) : Gx := ⟨P.spec k, P.spc k, qx⟩
theorem Pg.spec_eq (P : Pg) (k i : Nat) (ds : List D) (St : Sto) (q : QD) (qx : QX) : P.spec (k + 1) i ds St q qx = (match P.at i with
    | some (_, f) => ds.length = f.np ∧ ∃ (q' : QD) (qx' : QX), (∀ d S', q' d S' → ∃ S2, Sub S2 S' ∧ q d S2) ∧ (∀ c d S', qx' c d S' → ∃ S2, Sub S2 S' ∧ qx c d S2) ∧
      wSs (P.G k qx') f.body (startE f.N.length ds) St (bodyK q')
    | none => False) := by
  cases k <;> rfl
theorem Pg.spec_gen {P : Pg} {k i : Nat} {f : Fn} {ds : List D} {St : Sto} {q q' : QD} {qx qx' : QX} (h : P.Has i f) (hl : ds.length = f.np) (c1 : ∀ d S', q' d S' → ∃ S2, Sub S2 S' ∧ q d S2) (c2 : ∀ c d S', qx' c d S' → ∃ S2, Sub S2 S' ∧ qx c d S2)
    (w : wSs (P.G k qx') f.body (startE f.N.length ds) St (bodyK q')) : P.spec (k + 1) i ds St q qx := by
  obtain ⟨nm, N, h, e⟩ := h
  rw [Pg.spec_eq, h]
  refine ⟨hl, q', qx', c1, c2, ?_⟩
  show wSs (P.G k qx') f.body (startE N.length ds) St (bodyK q')
  rw [e]
  exact w
/-- .. part of the store is forgotten at the end -/
theorem Pg.spec_fgt {P : Pg} {k i : Nat} {f : Fn} {ds : List D} {St : Sto} {q : QD} {qx : QX} (h : P.Has i f) (hl : ds.length = f.np) (w : wSs (P.G k fun c d S' => ∃ S2, Sub S2 S' ∧ qx c d S2) f.body (startE f.N.length ds) St (bodyK fun d S' => ∃ S2, Sub S2 S' ∧ q d S2)) : P.spec (k + 1) i ds St q qx :=
  Pg.spec_gen h hl (fun _ _ z => z) (fun _ _ _ z => z) w
theorem Pg.spec_succ {P : Pg} {k i : Nat} {f : Fn} {ds : List D} {St : Sto} {q : QD} {qx : QX} (h : P.Has i f) (hl : ds.length = f.np) (w : wSs (P.G k qx) f.body (startE f.N.length ds) St (bodyK q)) : P.spec (k + 1) i ds St q qx :=
  Pg.spec_gen h hl (fun _ S z => ⟨S, Sub.refl S, z⟩) (fun _ _ S z => ⟨S, Sub.refl S, z⟩) w
/-- the program's text as own terms, in a world's heap -/
structure Lnk (P : Pg) (C : XC) (prog : Program) (w : World) (K : PySem.W.Frag) (mg : Str → Option Value) (base : Heap) (fa : Nat → Addr) (fd : Nat → FuncData) : Prop where
  fs : ∀ (i : Nat) (nm : Str) (f : Fn), P.at i = some (nm, f) → (lk P.mt i = none → mg nm = some (.ref (fa i))) ∧ Binds K (fd i) (f.N.take f.np) [] ∧ f.np ≤ f.N.length ∧
    ∃ x qual params body scope dvs kws, FunD K x qual params body scope dvs kws (fa i) (fd i) ∧ FnScope f.N (f.N.take f.np) scope ∧ okSs (P.tb f) scope f.body body = true
  blt : ∀ x, x ∈ blts → mg x = none
  gl : ∀ (nm : Str) (d : D), (nm, d) ∈ P.gl → ∃ u v, mg nm = some u ∧ RelV v u ∧ Is K (fun _ => none) v d
  wd : ∀ (nm : Str) (d : List (D × D)), (nm, d) ∈ P.wd → ∃ p0, mg nm = some (.ref p0) ∧ (∀ s e, lookD d (.str s) = some e → ∃ v, KDct K w p0 (mkS s) v ∧ Is K (fun _ => none) v e) ∧ (∀ y, isKey y = true → (∀ s, y ≠ .str s) → lookD d y = none)
  xf : ∀ N c x, lk P.xc c = some x → XF ⟨prog, w, K, mg, base, N⟩ C c x
  xi : ∀ N c x, lk P.xc c = some x → XI ⟨prog, w, K, mg, base, N⟩ C P.bs
  cl : ∀ c fs, (c, fs) ∈ P.cl → Cls K (He.ga K (mkS c)) ∧ ∀ f ∈ fs, NoAttr K (He.ga K (mkS c)) (mkS f)
  mt : ∀ i c m, lk P.mt i = some (c, m) → Cls K (He.ga K (mkS c)) ∧ Meth K (He.ga K (mkS c)) (mkS m) (fa i)
  mkr : ∀ i c, lk P.mt i = some (c, initS) → Mk K (He.ga K (mkS c)) (fa i) ∧ mg (mkS c) = some (.ref (He.ga K (mkS c)))
theorem lift_imp {K : PySem.W.Frag} {ω : World} {C : XC} {a b : DSp} (h : ∀ ds St q qx, a ds St q qx → b ds St q qx) (vs : List V) (H : Hp) (Q : VK) (E : XK) (l : lift K ω C a vs H Q E) : lift K ω C b vs H Q E := by
  obtain ⟨ds, St, F, q, qx, r, i, s, k1, k2⟩ := l
  exact ⟨ds, St, F, q, qx, r, i, h _ _ _ _ s, k1, k2⟩
theorem no_ok {prog : Program} {w : World} {K : PySem.W.Frag} {mg : Str → Option Value} {base : Heap} {C : XC} {fa : Addr} {fd : FuncData} {ps : List Str} {j : Nat} {sp : DSp} (h : ∀ ds St q qx, ¬ sp ds St q qx) : FnOk prog w K mg base (L2.CX prog w) j fa fd ps (lift K w C sp) :=
  ⟨fun vs H Q E s => by
      obtain ⟨_, _, _, _, _, _, _, s, _⟩ := s
      exact (h _ _ _ _ s).elim, fun _ _ _ _ _ _ _ _ _ _ _ _ _ s => by
      obtain ⟨_, _, _, _, _, _, _, s, _⟩ := s
      exact (h _ _ _ _ s).elim⟩
theorem ms_inv {P : Pg} {i : Nat} {c m : Bs} (h : P.ms i = some (c, m)) : (∃ nm f, P.at i = some (nm, f)) ∧ lk P.mt i = some (c, m) := by
  unfold Pg.ms at h
  split at h
  · cases h
  · next q e => exact ⟨⟨q.1, q.2, e⟩, h⟩
theorem fsN_inv {P : Pg} {i : Nat} {nm : Str} (h : P.fsN i = some nm) : (∃ f, P.at i = some (nm, f)) ∧ lk P.mt i = none := by
  unfold Pg.fsN at h
  split at h
  · next e =>
    obtain ⟨⟨nm2, f2⟩, e1, rfl⟩ := Option.map_eq_some_iff.mp h
    exact ⟨⟨f2, e1⟩, e⟩
  · cases h
theorem prog_ok {P : Pg} {C : XC} {prog : Program} {w : World} {K : PySem.W.Frag} {mg : Str → Option Value} {base : Heap} {fa : Nat → Addr} {fd : Nat → FuncData} (L : Lnk P C prog w K mg base fa fd) :
    ∀ (k i : Nat) (nm : Str) (f : Fn), P.at i = some (nm, f) → FnOk prog w K mg base (L2.CX prog w) (k + 1) (fa i) (fd i) (f.N.take f.np) (lift K w C (P.spec k i))
  | 0, i, nm, f, h => no_ok fun _ _ _ _ s => s
  | k + 1, i, nm, f, h => by
    obtain ⟨hm, hb, hn, x, qual, params, body, scope, dvs, kws, F, Sc, hok⟩ := L.fs i nm f h
    have low : ∀ i' nm' f', P.at i' = some (nm', f') → FnOk prog w K mg base (L2.CX prog w) k (fa i') (fd i') (f'.N.take f'.np) (lift K w C (P.spc k i')) := by
      intro i' nm' f' e'
      cases k with
      | zero => exact no_ok fun _ _ _ _ s => s
      | succ k => exact prog_ok L k i' nm' f' e'
    have D : Gd ⟨prog, w, K, mg, base, (P.tb f).N⟩ C (P.tb f) (P.G k fun _ _ _ => False) (k + 1) := by
      refine ⟨rfl, Sc.nd, L.blt, fun i' nm' h' => ?_, fun nm' d h' => L.gl nm' d h', fun nm' d h' => L.wd nm' d h', fun c x h' => L.xf _ c x h', fun c x h' => L.xi _ c x h', fun c fs h' => L.cl c fs (lkC_mem h'), fun i' c m h' => ?_, fun i' c h' => ?_⟩
      · obtain ⟨⟨f2, e1⟩, en⟩ := fsN_inv (P := P) (i := i') (nm := nm') h'
        obtain ⟨hm2, hb2, _, x2, q2, p2, b2, s2, d2, k2, F2, _, _⟩ := L.fs i' nm' f2 e1
        exact ⟨fa i', fd i', _, hm2 en, F2.kp, hb2, prog_ok L k i' nm' f2 e1⟩
      · obtain ⟨⟨nm2, f2, e1⟩, en⟩ := ms_inv (P := P) (i := i') (c := c) (m := m) h'
        obtain ⟨hm2, hb2, _, x2, q2, p2, b2, s2, d2, k2, F2, _, _⟩ := L.fs i' nm2 f2 e1
        obtain ⟨m1, m2⟩ := L.mt i' c m en
        exact ⟨m1, fa i', fd i', _, m2, hb2, prog_ok L k i' nm2 f2 e1⟩
      · obtain ⟨⟨nm2, f2, e1⟩, en⟩ := ms_inv (P := P) (i := i') (c := c) (m := initS) h'
        obtain ⟨hm2, hb2, _, x2, q2, p2, b2, s2, d2, k2, F2, _, _⟩ := L.fs i' nm2 f2 e1
        obtain ⟨m1, m2⟩ := L.mkr i' c en
        exact ⟨fa i', fd i', _, k, rfl, m1, m2, hb2, low i' nm2 f2 e1⟩
    refine (def_ok (ps := f.N.take f.np) F Sc D hok).imp fun vs H Q E s => ?_
    obtain ⟨ds, St, F0, q, qx, r, il, s, k1, k2⟩ := s
    rw [Pg.spec_eq, h] at s
    obtain ⟨hl, q', qx', c1, c2, w0⟩ := s
    refine ⟨ds, St, F0, q', qx', r, il, ⟨by rw [hl, List.length_take]; omega, w0⟩, fun d S' v F' H' hq fr sr is => ?_, fun c d S' F' H' dx hq fr sr pay => ?_⟩
    · obtain ⟨S2, sb, hq2⟩ := c1 d S' hq
      exact k1 d S2 v F' H' hq2 (fr.sub' sb) (sr.sub' sb) is
    · obtain ⟨S2, sb, hq2⟩ := c2 c d S' hq
      exact k2 c d S2 F' H' dx hq2 (fr.sub' sb) (sr.sub' sb) pay
end DL
/-! DL14: from the text and the head's facts to the link; the law's end. -/
namespace DL
open PySem PySem.Spec PyProof.Rows L2

/-- a def of the top -/
def dOf (p : Program) (i : Nat) : He.DefD := match p.main.body[i]? with
  | some (.FunctionDef name args body _ _ _ sc _ _ _) => ⟨(name, none), name, name, args, body, sc, [], []⟩
  | _ => ⟨("", none), "", "", ⟨[], [], none, [], [], none, []⟩, [], ⟨.function, [], false, false, []⟩, [], []⟩
/-- a method of a class of the top -/
def findM (m : Str) : List Stmt → Option He.DefD
  | [] => none
  | .FunctionDef name args body _ _ _ sc _ _ _ :: r => if name = m then some ⟨("", some name), name, "", args, body, sc, [], []⟩ else findM m r
  | _ :: r => findM m r
def dOfM (p : Program) (i : Nat) (m : Str) : He.DefD := match p.main.body[i]? with
  | some (.ClassDef c _ _ body _ _ _ _ _ _ _) => match findM m body with
    | some d => { d with at_ := (c, some m), qual := c ++ "." ++ m }
    | none => ⟨("", none), "", "", ⟨[], [], none, [], [], none, []⟩, [], ⟨.function, [], false, false, []⟩, [], []⟩
  | _ => ⟨("", none), "", "", ⟨[], [], none, [], [], none, []⟩, [], ⟨.function, [], false, false, []⟩, [], []⟩
def BindsP (params : Arguments) (ps : List Str) : Prop := ∀ (x qual : Str) (body : List Stmt) (scope : Scope) (kV doc pm : Value) (an : Option Addr) (cdv ct : Value) (us : List Value), us.length = ps.length →
  bindArgs (PySem.W.fnOf x qual params body scope .none kV doc pm an cdv ct) ⟨us, []⟩ = pure (ps.zip us)
inductive AllB : List (Nat × Str × Fn) → List He.DefD → Prop
  | nil : AllB [] []
  | cons {q : Nat × Str × Fn} {fs : List (Nat × Str × Fn)} {d : He.DefD} {ds : List He.DefD} : BindsP d.params (q.2.2.N.take q.2.2.np) → AllB fs ds → AllB (q :: fs) (d :: ds)
theorem AllB.get : ∀ {fs : List (Nat × Str × Fn)} {ds : List He.DefD} {i : Nat} {q : Nat × Str × Fn} {d : He.DefD}, AllB fs ds → fs[i]? = some q → ds[i]? = some d → BindsP d.params (q.2.2.N.take q.2.2.np)
  | _, _, 0, _, _, .cons h _, e1, e2 => by cases e1; cases e2; exact h
  | _, _, i + 1, _, _, .cons _ t, e1, e2 => AllB.get t (by simpa using e1) (by simpa using e2)
def scB (N ps : List Str) (sc : Scope) : Bool := (match sc.kind with | .function => true | _ => false) && !sc.isCoroutine && !sc.isGenerator && decide N.Nodup &&
  (ps.all fun x => match sc.names.lookup x with | some .local => true | some .cell => true | _ => false) && sc.names.all fun y => match y.2 with | .free => false | _ => true
theorem scB_ok {N : List Str} {n : Nat} {sc : Scope} (h : scB N (N.take n) sc = true) : FnScope N (N.take n) sc := by
  unfold scB at h
  simp only [Bool.and_eq_true, Bool.not_eq_true'] at h
  obtain ⟨⟨⟨⟨⟨h1, h2⟩, h3⟩, h4⟩, h5⟩, h6⟩ := h
  refine ⟨?_, h2, h3, of_decide_eq_true h4, by rw [List.length_take, List.take_eq_take_iff]; omega, fun x hx => ?_, fun y hy e => ?_⟩
  · split at h1
    · assumption
    · cases h1
  · have := List.all_eq_true.mp h5 x hx
    split at this
    · exact .inl (by assumption)
    · exact .inr (by assumption)
    · cases this
  · have := List.all_eq_true.mp h6 y hy
    rw [e] at this
    cases this
/-- where the i-th def stands -/
def Pg.at_ (P : Pg) (i : Nat) (nm : Str) : Str × Option Str := match lk P.mt i with
  | none => (nm, none)
  | some (c, m) => (mkS c, some (mkS m))
def chkB (P : Pg) (i : Nat) (q : Str × Fn) (d : He.DefD) : Bool := decide (d.at_ = P.at_ i q.1) && d.dfl.isEmpty && d.kwd.isEmpty && decide (q.2.np ≤ q.2.N.length) && scB q.2.N (q.2.N.take q.2.np) d.scope && okSs (P.tb q.2) d.scope q.2.body d.body
def chkAll (P : Pg) : List (Nat × Str × Fn) → List He.DefD → Bool
  | [], [] => true
  | q :: fs, d :: ds => chkB P q.1 q.2 d && chkAll P fs ds
  | _, _ => false
def ix {α : Type} : List (Nat × α) → Nat → Nat
  | [], _ => 0
  | (j, _) :: r, i => if j = i then 0 else ix r i + 1
theorem lk_ix {α : Type} : ∀ {l : List (Nat × α)} {i : Nat} {a : α}, lk l i = some a → l[ix l i]? = some (i, a)
  | [], _, _, h => by cases h
  | (j, b) :: r, i, a, h => by
    unfold lk at h
    unfold ix
    by_cases e : j = i
    · rw [if_pos e] at h ⊢
      cases h; subst e; rfl
    · rw [if_neg e] at h ⊢
      rw [List.getElem?_cons_succ]
      exact lk_ix h
theorem chk_get {P : Pg} : ∀ {fs : List (Nat × Str × Fn)} {ds : List He.DefD} {i : Nat} {q : Nat × Str × Fn}, chkAll P fs ds = true → fs[i]? = some q → ∃ d, ds[i]? = some d ∧ chkB P q.1 q.2 d = true
  | q :: fs, d :: ds, 0, _, h, e => by
    cases e
    exact ⟨d, rfl, by rw [chkAll, Bool.and_eq_true] at h; exact h.1⟩
  | q :: fs, d :: ds, i + 1, _, h, e => by
    rw [chkAll, Bool.and_eq_true] at h
    obtain ⟨d2, a, b⟩ := chk_get h.2 (i := i) (by simpa using e)
    exact ⟨d2, by simpa using a, b⟩
  | [], _, _, _, _, e => by simp at e
  | _ :: _, [], _, _, h, _ => by cases h
/-- a kept global's fact -/
def glFa (q : Str × D) : He.Fa := match q.2 with
  | .int i => .int q.1 i
  | .str s => .str q.1 (mkS s)
  | _ => .glo q.1
/-- the facts asked of the head -/
def clF (P : Pg) : List He.Fa := (P.cl.map fun q => .cls (mkS q.1)) ++ (P.cl.flatMap fun q => q.2.map fun f => .noat (mkS q.1) (mkS f)) ++ (P.mt.map fun q => .cls (mkS q.2.1)) ++ (P.mt.map fun q => .meth (mkS q.2.1) (mkS q.2.2)) ++
  ((P.mt.filter fun q => decide (q.2.2 = initS)).flatMap fun q => [.mkr (mkS q.2.1), .glo (mkS q.2.1)])
def factsOf (P : Pg) : List He.Fa := ((P.fs.filter fun q => (lk P.mt q.1).isNone).map fun q => .glo q.2.1) ++ (P.gl.map glFa) ++ (P.wd.map fun q => .glo q.1) ++ ((P.xc.map fun q => .glo q.2) ++ (if P.xc.isEmpty then [] else [.glo P.bs])) ++ blts.map .free ++ clF P
/-- the class of an error -/
def xcNm (P : Pg) (c : Nat) : Str := (lk P.xc c).getD P.bs
def xcOf (P : Pg) (K : PySem.W.Frag) : XC := ⟨fun c => .ref (He.ga K (xcNm P c)), fun _ => "start"⟩
def excB (K : PySem.W.Frag) (Ca : Addr) : Bool := PySem.W.excIn K Ca [.type "ValueError", .type "Exception", .type "BaseException", .type "object"] "ValueError.__new__" && PySem.W.keepIn K (.ref Ca) && decide (PySem.W.subIn K (.ref Ca) (.type "BaseException") = some true) && decide (PySem.W.typeIn K (.ref Ca) = some (.type "type"))
def eccB (K : PySem.W.Frag) (Ca : Addr) : Bool := decide (PySem.W.findIn K (.ref Ca) "__getattribute__" = some (some (.builtin "BaseException.__getattribute__"))) && decide (PySem.W.findIn K (.ref Ca) "__getattr__" = some none) &&
  decide (PySem.W.subIn K (.ref Ca) (.type "BaseException") = some true) && PySem.W.hasDictIn K Ca && decide (PySem.W.findIn K (.ref Ca) "__class__" = some (some (.builtin "object.__class__"))) &&
  decide (PySem.W.specialIn K (.builtin "object.__class__") "__get__" = some (some (.builtin "getset_descriptor.__get__"))) && decide (PySem.W.takesIn K (.builtin "object.__class__") = some true) && decide (PySem.W.mroIn K Ca (.type "object") = some true)
theorem eccB_ok {K : PySem.W.Frag} {Ca : Addr} (h : eccB K Ca = true) : ExcC K Ca := by
  unfold eccB at h
  simp only [Bool.and_eq_true] at h
  obtain ⟨⟨⟨⟨⟨⟨⟨h1, h2⟩, h3⟩, h4⟩, h5⟩, h6⟩, h7⟩, h8⟩ := h
  exact ⟨of_decide_eq_true h1, of_decide_eq_true h2, of_decide_eq_true h3, h4, of_decide_eq_true h5, of_decide_eq_true h6, of_decide_eq_true h7, of_decide_eq_true h8⟩
/-- the classes of errors, looked at in the head's heap -/
def xcB (P : Pg) (K : PySem.W.Frag) : Bool := (P.xc.all fun q => decide (q.1 < NX) && excB K (He.ga K q.2)) &&
  (List.range NX).all fun c => (P.xc.all fun q => decide (PySem.W.exmOne K (.ref (He.ga K (xcNm P c))) (.ref (He.ga K q.2)) = some (decide (c = q.1)))) && eccB K (He.ga K (xcNm P c)) && decide (PySem.W.kitOne K (.ref (He.ga K (xcNm P c))) (.ref (He.ga K P.bs)) = some true)
theorem fact_of {fa : List He.Fa} {fn : List He.DefD} {K : PySem.W.Frag} (c : He.SaysD fa fn K) {f : He.Fa} (h : f ∈ fa) : f.ok K = true := by
  obtain ⟨i, hi, e⟩ := List.mem_iff_getElem.mp h
  exact c.fact i (by rw [List.getElem?_eq_getElem hi, e])
def faOf (K : PySem.W.Frag) (P : Pg) (i : Nat) : Addr := match P.at i with
  | some (nm, _) => He.fAd K (P.at_ i nm)
  | none => 0
theorem init_eq : mkS initS = "__init__" := by decide +kernel
open Classical in
noncomputable def fdOf (K : PySem.W.Frag) (fn : List He.DefD) (i : Nat) : FuncData := if h : ∃ d fd, fn[i]? = some d ∧ FunD K d.name d.qual d.params d.body d.scope (d.dvs K) (d.kws K) (He.fAd K d.at_) fd then Classical.choose (Classical.choose_spec h) else default
/-- a tuple of texts and ints of the module -/
inductive GlD (K : PySem.W.Frag) : V → D → Prop
  | tup {x : Str} {vs : List He.Dv} {ds : List D} : He.tupB K x vs = true → IsL K (fun _ => none) (vs.map (He.Dv.v K)) ds → GlD K (.ref (He.ga K x)) (.tup ds)
theorem lnk_of {P : Pg} {prog : Program} {w : World} {K : PySem.W.Frag} {h : Heap} {mg : Str → Option Value} {base : Heap} {fn : List He.DefD} (X : K.In h) (N : h.Ns mainGlobals mg) (c : He.SaysD (factsOf P) fn K) (ck : chkAll P P.fs fn = true) (bd : AllB P.fs fn)
    (gl : ∀ (nm : Str) (d : D), (nm, d) ∈ P.gl → (∀ i, d ≠ .int i) → (∀ s, d ≠ .str s) → Is K (fun _ => none) (.ref (He.ga K nm)) d) (gz : P.gl.all (fun q => match q.2 with | .str s => decide (s.length ≤ 1000) | _ => true) = true)
    (xb : P.xc = [] ∨ xcB P K = true) (mi : (P.mt.all fun q => (P.at q.1).isSome) = true)
    (wd : ∀ (nm : Str) (d : List (D × D)), (nm, d) ∈ P.wd → (∀ s e, lookD d (.str s) = some e → ∃ v, KDct K w (He.ga K nm) (mkS s) v ∧ Is K (fun _ => none) v e) ∧ (∀ y, isKey y = true → (∀ s, y ≠ .str s) → lookD d y = none)) :
    Lnk P (xcOf P K) prog w K mg base (faOf K P) (fun i => fdOf K fn (ix P.fs i)) := by
  have glo : ∀ nm, (He.Fa.glo nm) ∈ factsOf P → mg nm = some (.ref (He.ga K nm)) := fun nm m => He.glo_ok X N (fact_of c m)
  have clm : ∀ f ∈ clF P, f ∈ factsOf P := fun f m => List.mem_append_right _ m
  have mts : ∀ i cc m, lk P.mt i = some (cc, m) → He.fAd K (P.at_ i "") = He.ma K (He.ga K (mkS cc)) (mkS m) := fun i cc m e => by
    unfold Pg.at_
    rw [e]
    rfl
  have fam : ∀ i cc m, lk P.mt i = some (cc, m) → (∃ q, P.at i = some q) → faOf K P i = He.ma K (He.ga K (mkS cc)) (mkS m) := fun i cc m e h => by
    obtain ⟨q, hq⟩ := h
    unfold faOf
    rw [hq]
    show He.fAd K (P.at_ i q.1) = _
    unfold Pg.at_
    rw [e]
    rfl
  have atm : ∀ i cc m, lk P.mt i = some (cc, m) → ∃ q, P.at i = some q := fun i cc m e => by
    have := List.all_eq_true.mp mi _ (lk_mem e)
    exact Option.isSome_iff_exists.mp this
  refine ⟨fun i nm f e => ?_, fun x hx => He.free_ok X N (fact_of c (List.mem_append_left _ (List.mem_append_right _ (List.mem_map_of_mem hx)))), fun nm d e => ?_, fun nm d e => ?_, fun N0 cc x e => ?_, fun N0 cc x e => ?_, fun cc fs e => ?_, fun i cc m e => ?_, fun i cc e => ?_⟩
  · have e0 := lk_ix e
    obtain ⟨d, e2, ch⟩ := chk_get ck e0
    show (lk P.mt i = none → mg nm = some (.ref (faOf K P i))) ∧ Binds K (fdOf K fn (ix P.fs i)) (f.N.take f.np) [] ∧ _
    unfold chkB at ch
    simp only [Bool.and_eq_true, List.isEmpty_iff] at ch
    obtain ⟨⟨⟨⟨⟨c1, c2⟩, c3⟩, c4⟩, c5⟩, c6⟩ := ch
    have c1 := of_decide_eq_true c1
    have hex : ∃ d fd, fn[ix P.fs i]? = some d ∧ FunD K d.name d.qual d.params d.body d.scope (d.dvs K) (d.kws K) (He.fAd K d.at_) fd := by
      obtain ⟨fd, F⟩ := c.def_ _ e2
      exact ⟨d, fd, e2, F⟩
    obtain ⟨e3, F⟩ := Classical.choose_spec (Classical.choose_spec hex)
    have ef : fdOf K fn (ix P.fs i) = Classical.choose (Classical.choose_spec hex) := by unfold fdOf; rw [dif_pos hex]
    rw [← ef] at F
    have ed : Classical.choose hex = d := Option.some.inj (e3.symm.trans e2)
    rw [ed] at F
    have ea : He.fAd K d.at_ = faOf K P i := by
      unfold faOf
      rw [e, c1]
    rw [ea] at F
    have hd1 : d.dvs K = [] := by unfold He.DefD.dvs; rw [c2]; rfl
    have hd2 : d.kws K = [] := by unfold He.DefD.kws; rw [c3]; rfl
    have F2 := F
    rw [hd1] at F2
    refine ⟨?_, FunD.bindsN F2 fun kV doc pm an cdv ct us hl => bd.get e0 e2 _ _ _ _ _ _ _ _ _ _ us hl, of_decide_eq_true c4, _, _, _, _, _, _, _, F, scB_ok c5, c6⟩
    intro en
    have := glo nm (by
      unfold factsOf
      exact List.mem_append_left _ (List.mem_append_left _ (List.mem_append_left _ (List.mem_append_left _ (List.mem_append_left _ (List.mem_map.mpr ⟨(i, nm, f), List.mem_filter.mpr ⟨lk_mem e, by rw [en]; rfl⟩, rfl⟩))))))
    rw [this]
    unfold faOf
    rw [e]
    show _ = some (Value.ref (He.fAd K (P.at_ i nm)))
    unfold Pg.at_
    rw [en]
    rfl
  · have hm : glFa (nm, d) ∈ factsOf P := by
      unfold factsOf
      exact List.mem_append_left _ (List.mem_append_left _ (List.mem_append_left _ (List.mem_append_left _ (List.mem_append_right _ (List.mem_map.mpr ⟨(nm, d), e, rfl⟩)))))
    cases d with
    | int i =>
      obtain ⟨t, ht⟩ := He.int_ok X N (fact_of c hm)
      exact ⟨_, .int i, ht, ⟨t, rfl⟩, .int i⟩
    | str s =>
      obtain ⟨t, ht⟩ := He.str_ok X N (fact_of c hm)
      have hz := List.all_eq_true.mp gz _ e
      exact ⟨_, .str (mkS s), ht, ⟨t, rfl⟩, .str s (Nat.le_of_lt (small1000 (of_decide_eq_true hz)))⟩
    | _ => exact ⟨_, .ref (He.ga K nm), glo nm hm, rfl, gl nm _ e (fun i z => by cases z) (fun s z => by cases z)⟩
  · obtain ⟨h1, h2⟩ := wd nm d e
    exact ⟨_, glo nm (by
      unfold factsOf
      exact List.mem_append_left _ (List.mem_append_left _ (List.mem_append_left _ (List.mem_append_right _ (List.mem_map.mpr ⟨(nm, d), e, rfl⟩))))), h1, h2⟩
  · have hx : xcB P K = true := by
      rcases xb with h | h
      · rw [h] at e; cases e
      · exact h
    unfold xcB at hx
    rw [Bool.and_eq_true] at hx
    obtain ⟨x1, x2⟩ := hx
    have h1 := List.all_eq_true.mp x1 _ (lk_mem e)
    simp only [excB, Bool.and_eq_true] at h1
    obtain ⟨h0, ⟨⟨⟨h1, h2⟩, h3⟩, h4⟩⟩ := h1
    have hc : (xcOf P K).cls cc = .ref (He.ga K x) := by show Value.ref (He.ga K (xcNm P cc)) = _; unfold xcNm; rw [e]; rfl
    refine ⟨⟨_, glo x (by
      unfold factsOf
      exact List.mem_append_left _ (List.mem_append_left _ (List.mem_append_right _ (List.mem_append_left _ (List.mem_map.mpr ⟨(cc, x), lk_mem e, rfl⟩))))), hc, h1, h2, of_decide_eq_true h3, of_decide_eq_true h4⟩, of_decide_eq_true h0, fun c' hlt => ?_⟩
    have h5 := List.all_eq_true.mp x2 c' (List.mem_range.mpr hlt)
    simp only [Bool.and_eq_true] at h5
    have h6 := of_decide_eq_true (List.all_eq_true.mp h5.1.1 _ (lk_mem e))
    rw [hc]
    exact h6
  · have hx : xcB P K = true := by
      rcases xb with h | h
      · rw [h] at e; cases e
      · exact h
    have hb : mg P.bs = some (.ref (He.ga K P.bs)) := glo P.bs (by
      unfold factsOf
      refine List.mem_append_left _ (List.mem_append_left _ (List.mem_append_right _ (List.mem_append_right _ ?_)))
      cases h : P.xc with
      | nil => rw [h] at e; cases e
      | cons q r => exact List.mem_cons_self)
    unfold xcB at hx
    rw [Bool.and_eq_true] at hx
    refine ⟨⟨_, hb⟩, He.free_ok X N (fact_of c (List.mem_append_left _ (List.mem_append_right _ (List.mem_map_of_mem (by decide +kernel))))), fun c' hlt => ?_⟩
    have h5 := List.all_eq_true.mp hx.2 c' (List.mem_range.mpr hlt)
    simp only [Bool.and_eq_true] at h5
    exact ⟨_, _, rfl, hb, eccB_ok h5.1.2, of_decide_eq_true h5.2⟩
  · refine ⟨He.cls_ok (fact_of c (clm _ ?_)), fun f hf => He.noat_ok (fact_of c (clm _ ?_))⟩
    · exact List.mem_append_left _ (List.mem_append_left _ (List.mem_append_left _ (List.mem_append_left _ (List.mem_map.mpr ⟨(cc, fs), e, rfl⟩))))
    · exact List.mem_append_left _ (List.mem_append_left _ (List.mem_append_left _ (List.mem_append_right _ (List.mem_flatMap.mpr ⟨(cc, fs), e, List.mem_map.mpr ⟨f, hf, rfl⟩⟩))))
  · rw [fam i cc m e (atm i cc m e)]
    refine ⟨He.cls_ok (fact_of c (clm _ ?_)), He.meth_ok (fact_of c (clm _ ?_))⟩
    · exact List.mem_append_left _ (List.mem_append_left _ (List.mem_append_right _ (List.mem_map.mpr ⟨(i, cc, m), lk_mem e, rfl⟩)))
    · exact List.mem_append_left _ (List.mem_append_right _ (List.mem_map.mpr ⟨(i, cc, m), lk_mem e, rfl⟩))
  · rw [fam i cc initS e (atm i cc initS e), init_eq]
    have hm : ∀ f, f ∈ [He.Fa.mkr (mkS cc), He.Fa.glo (mkS cc)] → f ∈ clF P := fun f hf =>
      List.mem_append_right _ (List.mem_flatMap.mpr ⟨(i, cc, initS), List.mem_filter.mpr ⟨lk_mem e, decide_eq_true rfl⟩, hf⟩)
    exact ⟨He.mkr_ok (fact_of c (clm _ (hm _ List.mem_cons_self))), glo _ (clm _ (hm _ (List.mem_cons_of_mem _ List.mem_cons_self)))⟩
/-- the law's end over k_head -/
theorem fin_walk {l : PySem.W.OpenLaw} {q : Program} {loose : List Str} {XP : (Str → Option Value) → Heap → Prop} {YP : World → Heap → Prop} {d : DefRec} {K : Params → PySem.W.Frag} {P : Pg} {fn : List He.DefD} {i k : Nat} {f : Fn} {x : Str}
    (hn : l.most = some 63) (hdf : d.params.defaults = []) (hr : Room (k + 1) callerA)
    (hY : ∀ (w : World) (h : Heap), YP w h → (K w.params).In h)
    (hi : P.at i = some (d.name, f)) (hl : lk P.mt i = none) (mi : (P.mt.all fun q => (P.at q.1).isSome) = true) (hx : f.N.take f.np = [x])
    (c : ∀ w : World, He.SaysD (factsOf P) fn (K w.params)) (ck : chkAll P P.fs fn = true) (bd : AllB P.fs fn)
    (gl : ∀ (w : World) (nm : Str) (d : D), (nm, d) ∈ P.gl → (∀ i, d ≠ .int i) → (∀ s, d ≠ .str s) → Is (K w.params) (fun _ => none) (.ref (He.ga (K w.params) nm)) d) (gz : P.gl.all (fun q => match q.2 with | .str s => decide (s.length ≤ 1000) | _ => true) = true)
    (xb : ∀ w : World, P.xc = [] ∨ xcB P (K w.params) = true)
    (wd : ∀ (w : World) (nm : Str) (d : List (D × D)), (nm, d) ∈ P.wd → (∀ s e, lookD d (.str s) = some e → ∃ v, KDct (K w.params) w (He.ga (K w.params) nm) (mkS s) v ∧ Is (K w.params) (fun _ => none) v e) ∧ (∀ y, isKey y = true → (∀ s, y ≠ .str s) → lookD d y = none))
    (plain : ∀ ns : List Int, ns.length ≤ 63 → P.spec k i [.scr ns] (fun _ => none) (fun d _ => d = .bl true) fun _ _ _ => False) :
    PySem.W.WalkO q loose XP YP l.row.toRowW d [] (fun f vs => PySem.call f vs) := by
  refine L2.walk_of (n := 63) (k := k + 1) (x := x) (K := K) (CX := fun w => L2.CX l.prog w) (sp := fun w => lift (K w.params) w (xcOf P (K w.params)) (P.spec k i)) hn (by decide) hdf hr hY (fun w mg fa h X N hm => ?_) (fun w H a ns hl ho hS => ?_) fun w H s e s' z => ?_
  · have L : ∀ base, Lnk P (xcOf P (K w.params)) l.prog w (K w.params) mg base (faOf (K w.params) P) (fun i => fdOf (K w.params) fn (ix P.fs i)) := fun base => lnk_of X N (c w) ck bd (gl w) gz (xb w) mi (wd w)
    obtain ⟨hm2, hb, _, x', qual, params, body, scope, dvs, kws, F, Sc, _⟩ := (L h).fs i _ f hi
    have e : fa = faOf (K w.params) P i := by
      have := hm.symm.trans (hm2 hl)
      cases this
      rfl
    subst e
    have hi0 := lk_ix hi
    refine ⟨fdOf (K w.params) fn (ix P.fs i), fun s u => ?_, fun base _ _ => ?_⟩
    · obtain ⟨dd, e2, ch⟩ := chk_get ck hi0
      unfold chkB at ch
      simp only [Bool.and_eq_true, List.isEmpty_iff] at ch
      obtain ⟨⟨⟨⟨⟨c1, c2⟩, c3⟩, c4⟩, c5⟩, c6⟩ := ch
      have hex : ∃ d fd, fn[ix P.fs i]? = some d ∧ FunD (K w.params) d.name d.qual d.params d.body d.scope (d.dvs (K w.params)) (d.kws (K w.params)) (He.fAd (K w.params) d.at_) fd := by
        obtain ⟨fd, F⟩ := (c w).def_ _ e2
        exact ⟨dd, fd, e2, F⟩
      obtain ⟨e3, F2⟩ := Classical.choose_spec (Classical.choose_spec hex)
      have ef : fdOf (K w.params) fn (ix P.fs i) = Classical.choose (Classical.choose_spec hex) := by unfold fdOf; rw [dif_pos hex]
      rw [← ef] at F2
      have ed : Classical.choose hex = dd := Option.some.inj (e3.symm.trans e2)
      rw [ed] at F2
      have hd1 : dd.dvs (K w.params) = [] := by unfold He.DefD.dvs; rw [c2]; rfl
      rw [hd1] at F2
      have := FunD.bindsA (ps := [x]) F2 (fun kV doc pm an cdv ct us hl => by
        have := bd.get hi0 e2 dd.name dd.qual dd.body dd.scope kV doc pm an cdv ct us (by rw [hx]; exact hl)
        rw [hx] at this
        exact this) s [u] rfl
      exact this
    · have := prog_ok (L base) k i _ f hi
      rw [hx] at this
      exact this
  · refine ⟨[.scr ns], fun _ => none, H, _, _, ⟨Same.refl _, fun a o e => by cases e⟩, .cons (.scr hS (Nat.le_trans hl (by decide))) .nil, plain ns hl, fun d S' v F' H' e _ _ is => ?_, fun c d S' F' H' dx e => e.elim⟩
    subst e
    cases is
    rfl
  · obtain ⟨_, _, _, _, _, _, _, _, _, _, _, _, z⟩ := z
    exact z.elim
end DL
/-! DL15: the module's tuples and dicts of texts, looked at in the head's heap. -/
namespace DL
open PySem PySem.Spec PyProof.Rows L2

def flatD : D → Bool
  | .non => true
  | .bl _ => true
  | .int _ => true
  | .str s => decide (s.length ≤ 1000)
  | _ => false
def dvOf : D → He.Dv
  | .bl b => .bl b
  | .int i => .int i
  | .str s => .str (mkS s)
  | _ => .non
theorem is_flat {K : PySem.W.Frag} {F : Hp} {d : D} (h : flatD d = true) : Is K F ((dvOf d).v K) d := by
  cases d with
  | non => exact .non
  | bl b => exact .bl b
  | int i => exact .int i
  | str s => exact .str s (Nat.le_of_lt (small1000 (of_decide_eq_true h)))
  | _ => cases h
theorem isl_flat {K : PySem.W.Frag} {F : Hp} : ∀ {ds : List D}, ds.all flatD = true → IsL K F ((ds.map dvOf).map (He.Dv.v K)) ds
  | [], _ => .nil
  | d :: ds, h => by
    rw [List.all_cons, Bool.and_eq_true] at h
    exact .cons (is_flat h.1) (isl_flat h.2)
def glAll (K : PySem.W.Frag) (gl : List (Str × D)) : Bool := gl.all fun q => match q.2 with
  | .tup ds => ds.all flatD && decide (ds.length ≤ 1000) && He.tupB K q.1 (ds.map dvOf)
  | .int _ => true
  | .str _ => true
  | _ => false
theorem gl_ok {K : PySem.W.Frag} {gl : List (Str × D)} (h : glAll K gl = true) {nm : Str} {d : D} (e : (nm, d) ∈ gl) (n1 : ∀ i, d ≠ .int i) (n2 : ∀ s, d ≠ .str s) : Is K (fun _ => none) (.ref (He.ga K nm)) d := by
  have := List.all_eq_true.mp h _ e
  cases d with
  | tup ds =>
    simp only [Bool.and_eq_true] at this
    exact .tup (He.tupB_ok this.2 _) (by rw [List.length_map, List.length_map]; exact Nat.le_of_lt (small1000 (of_decide_eq_true this.1.2))) (isl_flat this.1.1)
  | int i => exact absurd rfl (n1 i)
  | str s => exact absurd rfl (n2 s)
  | _ => cases this
def esOf (K : PySem.W.Frag) (nm : Str) : List DictEntry := match K.lookup (He.ga K nm) with
  | some ⟨_, _, .dict es _, _⟩ => es.toList
  | _ => []
def isStrD : D → Bool
  | .str _ => true
  | _ => false
def wdB (K : PySem.W.Frag) (nm : Str) (d : List (D × D)) : Bool := (match K.lookup (He.ga K nm) with
  | some ⟨.type c, none, .dict _ _, sl⟩ => decide (c = "dict") && sl.isEmpty
  | _ => false) && d.all fun p => match p.1 with
    | .str s => flatD p.2 && (match PySem.W.nsIn K (He.ga K nm) (mkS s) with
      | some (some u) => He.relB ((dvOf p.2).v K) u
      | _ => false)
    | _ => false
theorem look_mem : ∀ {d : List (D × D)} {s : Bs} {e : D}, lookD d (.str s) = some e → (.str s, e) ∈ d
  | [], _, _, h => by cases h
  | (k, v) :: r, s, e, h => by
    unfold lookD at h
    split at h
    · next hk =>
      cases h
      cases k with
      | str t =>
        have : t = s := by simpa [keyb] using hk
        subst this
        exact List.mem_cons_self
      | _ => cases hk
    · exact List.mem_cons_of_mem _ (look_mem h)
theorem look_none : ∀ {d : List (D × D)} {y : D}, (d.all fun p => isStrD p.1) = true → isKey y = true → (∀ s, y ≠ .str s) → lookD d y = none
  | [], _, _, _, _ => rfl
  | (k, v) :: r, y, h, hk, hs => by
    rw [List.all_cons, Bool.and_eq_true] at h
    unfold lookD
    have : keyb k y = false := by
      cases k with
      | str t =>
        cases y with
        | int i => rfl
        | str s => exact absurd rfl (hs s)
        | _ => cases hk
      | _ => cases h.1
    rw [this, if_neg Bool.false_ne_true]
    exact look_none h.2 hk hs
theorem wd_ok {K : PySem.W.Frag} {w : World} {nm : Str} {d : List (D × D)} (h : wdB K nm d = true) (k : PySem.W.KeysLit w.params (esOf K nm)) :
    (∀ s e, lookD d (.str s) = some e → ∃ v, KDct K w (He.ga K nm) (mkS s) v ∧ Is K (fun _ => none) v e) ∧ (∀ y, isKey y = true → (∀ s, y ≠ .str s) → lookD d y = none) := by
  unfold wdB at h
  rw [Bool.and_eq_true] at h
  obtain ⟨h1, h2⟩ := h
  refine ⟨fun s e he => ?_, fun y hk hs => look_none (List.all_eq_true.mpr fun p hp => ?_) hk hs⟩
  · have := List.all_eq_true.mp h2 _ (look_mem he)
    simp only [Bool.and_eq_true] at this
    obtain ⟨f1, f2⟩ := this
    cases e1 : PySem.W.nsIn K (He.ga K nm) (mkS s) with
    | none => rw [e1] at f2; cases f2
    | some u =>
      rw [e1] at f2
      cases u with
      | none => cases f2
      | some u =>
        refine ⟨(dvOf e).v K, ?_, is_flat f1⟩
        cases q : K.lookup (He.ga K nm) with
        | none => rw [q] at h1; cases h1
        | some o =>
          obtain ⟨oc, od, dt, sl⟩ := o
          rw [q] at h1
          cases oc with
          | type c =>
            cases od with
            | none =>
              cases dt with
              | dict es n =>
                have h1 : (decide (c = "dict") && sl.isEmpty) = true := h1
                rw [Bool.and_eq_true] at h1
                have e2 := of_decide_eq_true h1.1
                have e3 : sl = #[] := by simpa using h1.2
                subst e2; subst e3
                refine ⟨es, n, u, q, ?_, e1, He.relB_ok f2⟩
                unfold esOf at k
                rw [q] at k
                exact k
              | _ => cases h1
            | some => cases dt <;> cases h1
          | _ => cases od <;> cases dt <;> cases h1
  · have := List.all_eq_true.mp h2 p hp
    obtain ⟨a, b⟩ := p
    cases a with
    | str => rfl
    | _ => cases this
end DL
/-! UF_k06: own terms of defs (printed by ugen.py), what a program must hold of them. -/
namespace U
open PySem DL
/-- all_elements -/
def f_all_elements : Fn := ⟨1, ["shape", "result", "waiting", "path", "current", "way", "child"], [
  .set (.nm 1) (.newl .nil),
  .set (.nm 2) (.newl (.cons (.tup (.cons (.tup .nil) (.cons (.var 0) .nil))) .nil)),
  .loop (.var 2) [
    .set (.tup (.cons (.nm 3) (.cons (.nm 4) .nil))) (.popl (.var 2)),
    .ite (.var 4) [
      .app (.var 1) (.tup (.cons (.var 3) (.cons (.var 4) .nil))),
      .each (.tup (.cons (.nm 5) (.cons (.nm 6) .nil))) (.enum (.sl (.var 4) (.some (.int 1)) .none)) [
        .app (.var 2) (.tup (.cons (.bin .add (.var 3) (.tup (.cons (.var 5) .nil))) (.cons (.var 6) .nil)))]] []],
  .ret (.frz (.var 1))]⟩
/-- paths -/
def f_paths : Fn := ⟨1, ["shape", "path", "_"], [
  .ret (.bif .sorted (.lc (.var 1) (.tup (.cons (.nm 1) (.cons (.nm 2) .nil))) (.over (.call 0 (.cons (.var 0) .nil))) .nil [1, 2]))]⟩
/-- label_at -/
def f_label_at : Fn := ⟨2, ["shape", "path", "other", "current"], [
  .each (.tup (.cons (.nm 2) (.cons (.nm 3) .nil))) (.over (.call 0 (.cons (.var 0) .nil))) [
    .ite (.cmp .eq (.var 2) (.var 1)) [
      .ret (.idx (.var 3) (.int 0))] []],
  .ret (.str [])]⟩
/-- atom_holds -/
def f_atom_holds : Fn := ⟨3, ["formula", "shape", "values", "word", "first", "second", "path"], [
  .set (.nm 3) (.idx (.var 0) (.int 0)),
  .ite (.cmp .eq (.var 3) (.str [116, 114, 117, 101])) [
    .ret (.bl true)] [],
  .ite (.cmp .eq (.var 3) (.str [108, 97, 98, 101, 108])) [
    .ret (.cmp .eq (.call 2 (.cons (.var 1) (.cons (.idx (.var 2) (.idx (.var 0) (.int 2))) .nil))) (.idx (.var 0) (.int 1)))] [],
  .ite (.cmp .eq (.var 3) (.str [99, 104, 105, 108, 100])) [
    .ret (.cmp .eq (.idx (.var 2) (.idx (.var 0) (.int 3))) (.bin .add (.idx (.var 2) (.idx (.var 0) (.int 2))) (.tup (.cons (.idx (.var 0) (.int 1)) .nil))))] [],
  .ite (.cmp .eq (.var 3) (.str [116, 111, 112])) [
    .ret (.cmp .eq (.idx (.var 2) (.idx (.var 0) (.int 1))) (.tup .nil))] [],
  .set (.tup (.cons (.nm 4) (.cons (.nm 5) .nil))) (.tup (.cons (.idx (.var 2) (.idx (.var 0) (.int 1))) (.cons (.idx (.var 2) (.idx (.var 0) (.int 2))) .nil))),
  .ite (.cmp .eq (.var 3) (.str [98, 101, 108, 111, 119])) [
    .ret (.boo true (.cons (.cmp .gt (.bif .len (.var 5)) (.bif .len (.var 4))) (.cons (.cmp .eq (.sl (.var 5) .none (.some (.bif .len (.var 4)))) (.var 4)) .nil)))] [],
  .ite (.cmp .eq (.var 3) (.str [115, 97, 109, 101])) [
    .ret (.cmp .eq (.var 4) (.var 5))] [],
  .ite (.cmp .eq (.var 3) (.str [105, 110])) [
    .ret (.cmp .isin (.var 4) (.var 5))] [],
  .ret (.bif .all (.lc (.cmp .isin (.var 6) (.var 5)) (.nm 6) (.over (.var 4)) .nil [6]))]⟩
/-- subsets -/
def f_subsets : Fn := ⟨1, ["every", "result", "path", "one"], [
  .set (.nm 1) (.lst (.cons (.tup .nil) .nil)),
  .each (.nm 2) (.over (.var 0)) [
    .set (.nm 1) (.bin .add (.var 1) (.lc (.bin .add (.var 3) (.tup (.cons (.var 2) .nil))) (.nm 3) (.over (.var 1)) .nil [3]))],
  .ret (.var 1)]⟩
/-- with_value -/
def f_with_value : Fn := ⟨3, ["values", "name", "value", "result"], [
  .set (.nm 3) (.copyd (.var 0)),
  .put (.var 3) (.var 1) (.var 2),
  .ret (.frz (.var 3))]⟩
/-- holds -/
def f_holds : Fn := ⟨3, ["formula", "shape", "values", "word", "every", "wanted", "value"], [
  .set (.nm 3) (.idx (.var 0) (.int 0)),
  .ite (.cmp .eq (.var 3) (.str [110, 111, 116])) [
    .ret (.not (.call 6 (.cons (.idx (.var 0) (.int 1)) (.cons (.var 1) (.cons (.var 2) .nil)))))] [],
  .ite (.cmp .eq (.var 3) (.str [97, 110, 100])) [
    .ret (.boo true (.cons (.call 6 (.cons (.idx (.var 0) (.int 1)) (.cons (.var 1) (.cons (.var 2) .nil)))) (.cons (.call 6 (.cons (.idx (.var 0) (.int 2)) (.cons (.var 1) (.cons (.var 2) .nil)))) .nil)))] [],
  .ite (.cmp .eq (.var 3) (.str [111, 114])) [
    .ret (.boo false (.cons (.call 6 (.cons (.idx (.var 0) (.int 1)) (.cons (.var 1) (.cons (.var 2) .nil)))) (.cons (.call 6 (.cons (.idx (.var 0) (.int 2)) (.cons (.var 1) (.cons (.var 2) .nil)))) .nil)))] [],
  .ite (.cmp .isin (.var 3) (.tup (.cons (.str [115, 111, 109, 101]) (.cons (.str [97, 108, 108]) (.cons (.str [115, 111, 109, 101, 115, 101, 116]) (.cons (.str [97, 108, 108, 115, 101, 116]) .nil)))))) [
    .set (.nm 4) (.call 1 (.cons (.var 1) .nil)),
    .ite (.cmp .eq (.sl (.var 3) (.some (.neg (.int 3))) .none) (.str [115, 101, 116])) [
      .set (.nm 4) (.call 4 (.cons (.var 4) .nil))] [],
    .set (.nm 5) (.cmp .eq (.sl (.var 3) .none (.some (.int 4))) (.str [115, 111, 109, 101])),
    .each (.nm 6) (.over (.var 4)) [
      .ite (.cmp .eq (.call 6 (.cons (.idx (.var 0) (.int 2)) (.cons (.var 1) (.cons (.call 5 (.cons (.var 2) (.cons (.idx (.var 0) (.int 1)) (.cons (.var 6) .nil)))) .nil)))) (.var 5)) [
        .ret (.var 5)] []],
    .ret (.not (.var 5))] [],
  .ret (.call 3 (.cons (.var 0) (.cons (.var 1) (.cons (.var 2) .nil))))]⟩
/-- _law_tape -/
def f__law_tape : Fn := ⟨1, ["_law_script", "_law_cells", "_law_seed", "_law_cell"], [
  .set (.nm 1) (.lc (.bif .abs (.bif .int (.var 3))) (.nm 3) (.over (.var 0)) .nil [3]),
  .set (.nm 2) (.int 7),
  .each (.nm 3) (.over (.var 1)) [
    .set (.nm 2) (.bin .mod (.bif .int (.bin .add (.bin .mul (.var 2) (.int 31)) (.var 3))) (.int 2147483647))],
  .ret (.newk (.cons (.str [99, 101, 108, 108, 115]) (.cons (.var 1) (.cons (.str [97, 116]) (.cons (.int 0) (.cons (.str [108, 101, 102, 116]) (.cons (.int 0) (.cons (.str [115, 101, 101, 100]) (.cons (.var 2) (.cons (.str [115, 97, 108, 116]) (.cons (.int 0) .nil)))))))))))]⟩
/-- _law_take -/
def f__law_take : Fn := ⟨2, ["_law_tape_here", "_law_many", "_law_mixed", "_law_drawn"], [
  .ite (.boo true (.cons (.cmp .eq (.idx (.var 0) (.str [108, 101, 102, 116])) (.int 0)) (.cons (.cmp .lt (.idx (.var 0) (.str [97, 116])) (.bif .len (.idx (.var 0) (.str [99, 101, 108, 108, 115])))) .nil))) [
    .put (.var 0) (.str [108, 101, 102, 116]) (.idx (.idx (.var 0) (.str [99, 101, 108, 108, 115])) (.idx (.var 0) (.str [97, 116]))),
    .put (.var 0) (.str [97, 116]) (.bin .add (.idx (.var 0) (.str [97, 116])) (.int 1))] [],
  .ite (.cmp .gt (.idx (.var 0) (.str [108, 101, 102, 116])) (.int 0)) [
    .set (.nm 3) (.bin .mod (.bif .int (.idx (.var 0) (.str [108, 101, 102, 116]))) (.var 1)),
    .put (.var 0) (.str [108, 101, 102, 116]) (.bin .fdiv (.idx (.var 0) (.str [108, 101, 102, 116])) (.var 1)),
    .ret (.var 3)] [],
  .put (.var 0) (.str [115, 97, 108, 116]) (.bin .add (.idx (.var 0) (.str [115, 97, 108, 116])) (.int 1)),
  .set (.nm 2) (.bin .mod (.bif .int (.bin .add (.bin .mul (.idx (.var 0) (.str [115, 101, 101, 100])) (.int 48271)) (.bin .mul (.idx (.var 0) (.str [115, 97, 108, 116])) (.int 69621)))) (.int 2147483647)),
  .set (.nm 2) (.bin .mod (.bif .int (.bin .add (.bin .add (.bin .mul (.var 2) (.var 2)) (.bin .mul (.idx (.var 0) (.str [115, 97, 108, 116])) (.int 40692))) (.int 12345))) (.int 2147483399)),
  .ret (.bin .mod (.bif .int (.var 2)) (.var 1))]⟩
/-- _law_is_integer -/
def f__law_is_integer : Fn := ⟨1, ["_law_actual"], [
  .ret (.boo true (.cons (.isi .int (.var 0)) (.cons (.not (.isi .bool (.var 0))) .nil)))]⟩
/-- _law_same -/
def f__law_same : Fn := ⟨2, ["_law_actual", "_law_expected", "_law_key"], [
  .ite (.cmp .is (.var 1) .non) [
    .ret (.cmp .is (.var 0) .non)] [],
  .ite (.isi .bool (.var 1)) [
    .ret (.boo true (.cons (.isi .bool (.var 0)) (.cons (.cmp .eq (.var 0) (.var 1)) .nil)))] [],
  .ite (.isi .int (.var 1)) [
    .ret (.boo true (.cons (.call 9 (.cons (.var 0) .nil)) (.cons (.cmp .eq (.var 0) (.var 1)) .nil)))] [],
  .ite (.isi .str (.var 1)) [
    .ret (.boo true (.cons (.isi .str (.var 0)) (.cons (.cmp .eq (.var 0) (.var 1)) .nil)))] [],
  .ite (.isi .tuple (.var 1)) [
    .ret (.boo true (.cons (.isi .tuple (.var 0)) (.cons (.call 10 (.cons (.var 0) (.cons (.var 1) .nil))) .nil)))] [],
  .ite (.isi .list (.var 1)) [
    .ret (.boo true (.cons (.isi .list (.var 0)) (.cons (.call 10 (.cons (.var 0) (.cons (.var 1) .nil))) .nil)))] [],
  .ite (.boo false (.cons (.not (.isi .dict (.var 0))) (.cons (.cmp .ne (.bif .len (.var 0)) (.bif .len (.var 1))) .nil))) [
    .ret (.bl false)] [],
  .each (.nm 2) (.over (.var 1)) [
    .ite (.boo false (.cons (.cmp .notin (.var 2) (.var 0)) (.cons (.not (.call 11 (.cons (.idx (.var 0) (.var 2)) (.cons (.idx (.var 1) (.var 2)) .nil)))) .nil))) [
      .ret (.bl false)] []],
  .each (.nm 2) (.over (.var 0)) [
    .ite (.isi .bool (.var 2)) [
      .ret (.bl false)] []],
  .ret (.bl true)]⟩
/-- _law_same_items -/
def f__law_same_items : Fn := ⟨2, ["_law_actual", "_law_expected", "_law_k"], [
  .ite (.cmp .ne (.bif .len (.var 0)) (.bif .len (.var 1))) [
    .ret (.bl false)] [],
  .each (.nm 2) (.rng1 (.bif .len (.var 1))) [
    .ite (.not (.call 11 (.cons (.idx (.var 0) (.var 2)) (.cons (.idx (.var 1) (.var 2)) .nil)))) [
      .ret (.bl false)] []],
  .ret (.bl true)]⟩
/-- _law_kind -/
def f__law_kind : Fn := ⟨1, ["_law_tape_here", "_law_labels"], [
  .set (.nm 1) (.idx (.tup (.cons (.tup (.cons (.str [97]) .nil)) (.cons (.tup (.cons (.str [97]) (.cons (.str [98]) .nil))) (.cons (.tup (.cons (.str [97]) (.cons (.str [98]) .nil))) (.cons (.tup (.cons (.str [98]) (.cons (.str [100]) (.cons (.str [122]) .nil)))) .nil))))) (.call 8 (.cons (.var 0) (.cons (.int 4) .nil)))),
  .ret (.tup (.cons (.bin .add (.int 1) (.bin .fdiv (.call 8 (.cons (.var 0) (.cons (.int 5) .nil))) (.int 3))) (.cons (.var 1) .nil)))]⟩
/-- _law_shape -/
def f__law_shape : Fn := ⟨3, ["_law_tape_here", "_law_kind_here", "_law_count", "_law_label", "_law_left"], [
  .ite (.cmp .eq (.var 2) (.int 0)) [
    .ret (.tup .nil)] [],
  .set (.nm 3) (.idx (.idx (.var 1) (.int 1)) (.call 8 (.cons (.var 0) (.cons (.bif .len (.idx (.var 1) (.int 1))) .nil)))),
  .ite (.cmp .eq (.idx (.var 1) (.int 0)) (.int 1)) [
    .ret (.tup (.cons (.var 3) (.cons (.call 13 (.cons (.var 0) (.cons (.var 1) (.cons (.bin .sub (.var 2) (.int 1)) .nil)))) .nil)))] [],
  .set (.nm 4) (.call 8 (.cons (.var 0) (.cons (.var 2) .nil))),
  .ret (.tup (.cons (.var 3) (.cons (.call 13 (.cons (.var 0) (.cons (.var 1) (.cons (.var 4) .nil)))) (.cons (.call 13 (.cons (.var 0) (.cons (.var 1) (.cons (.bin .sub (.bin .sub (.var 2) (.int 1)) (.var 4)) .nil)))) .nil))))]⟩
/-- _law_paths -/
def f__law_paths : Fn := ⟨2, ["_law_shape_here", "_law_path", "_law_found", "_law_way"], [
  .ite (.cmp .eq (.var 0) (.tup .nil)) [
    .ret (.lst .nil)] [],
  .set (.nm 2) (.lst (.cons (.var 1) .nil)),
  .each (.nm 3) (.rng1 (.bin .sub (.bif .len (.var 0)) (.int 1))) [
    .set (.nm 2) (.bin .add (.var 2) (.call 14 (.cons (.idx (.var 0) (.bin .add (.var 3) (.int 1))) (.cons (.bin .add (.var 1) (.tup (.cons (.var 3) .nil))) .nil))))],
  .ret (.var 2)]⟩
/-- _law_part -/
def f__law_part : Fn := ⟨2, ["_law_shape_here", "_law_path", "_law_way"], [
  .each (.nm 2) (.over (.var 1)) [
    .set (.nm 0) (.idx (.var 0) (.bin .add (.var 2) (.int 1)))],
  .ret (.var 0)]⟩
/-- _law_atom -/
def f__law_atom : Fn := ⟨4, ["_law_tape_here", "_law_kind_here", "_law_singles", "_law_sets", "_law_choice", "_law_x", "_law_y"], [
  .set (.nm 4) (.call 8 (.cons (.var 0) (.cons (.int 12) .nil))),
  .ite (.boo true (.cons (.cmp .ne (.var 3) (.lst .nil)) (.cons (.boo false (.cons (.cmp .lt (.var 4) (.int 4)) (.cons (.cmp .eq (.var 2) (.lst .nil)) .nil))) .nil))) [
    .ite (.boo false (.cons (.cmp .eq (.var 2) (.lst .nil)) (.cons (.cmp .eq (.var 4) (.int 0)) .nil))) [
      .ret (.tup (.cons (.str [105, 110, 115, 105, 100, 101]) (.cons (.idx (.var 3) (.call 8 (.cons (.var 0) (.cons (.bif .len (.var 3)) .nil)))) (.cons (.idx (.var 3) (.call 8 (.cons (.var 0) (.cons (.bif .len (.var 3)) .nil)))) .nil))))] [],
    .ret (.tup (.cons (.str [105, 110]) (.cons (.idx (.var 2) (.call 8 (.cons (.var 0) (.cons (.bif .len (.var 2)) .nil)))) (.cons (.idx (.var 3) (.call 8 (.cons (.var 0) (.cons (.bif .len (.var 3)) .nil)))) .nil))))] [],
  .ite (.cmp .eq (.var 2) (.lst .nil)) [
    .ret (.tup (.cons (.str [116, 114, 117, 101]) .nil))] [],
  .set (.nm 5) (.idx (.var 2) (.call 8 (.cons (.var 0) (.cons (.bif .len (.var 2)) .nil)))),
  .set (.nm 6) (.idx (.var 2) (.call 8 (.cons (.var 0) (.cons (.bif .len (.var 2)) .nil)))),
  .ite (.cmp .lt (.var 4) (.int 7)) [
    .ret (.tup (.cons (.str [108, 97, 98, 101, 108]) (.cons (.idx (.idx (.var 1) (.int 1)) (.call 8 (.cons (.var 0) (.cons (.bif .len (.idx (.var 1) (.int 1))) .nil)))) (.cons (.var 5) .nil))))] [],
  .ite (.cmp .eq (.var 4) (.int 7)) [
    .ret (.tup (.cons (.str [116, 111, 112]) (.cons (.var 5) .nil)))] [],
  .ite (.cmp .eq (.var 4) (.int 8)) [
    .ret (.tup (.cons (.str [115, 97, 109, 101]) (.cons (.var 5) (.cons (.var 6) .nil))))] [],
  .ret (.ite (.cmp .lt (.var 4) (.int 11)) (.tup (.cons (.str [99, 104, 105, 108, 100]) (.cons (.call 8 (.cons (.var 0) (.cons (.idx (.var 1) (.int 0)) .nil))) (.cons (.var 5) (.cons (.var 6) .nil))))) (.tup (.cons (.str [98, 101, 108, 111, 119]) (.cons (.var 5) (.cons (.var 6) .nil)))))]⟩
/-- _law_matrix -/
def f__law_matrix : Fn := ⟨5, ["_law_tape_here", "_law_kind_here", "_law_singles", "_law_sets", "_law_depth", "_law_choice", "_law_word", "_law_name", "_law_left"], [
  .set (.nm 5) (.ite (.cmp .gt (.var 4) (.int 0)) (.call 8 (.cons (.var 0) (.cons (.int 8) .nil))) (.int 0)),
  .ite (.cmp .lt (.var 5) (.int 3)) [
    .ret (.call 16 (.cons (.var 0) (.cons (.var 1) (.cons (.var 2) (.cons (.var 3) .nil)))))] [],
  .ite (.cmp .eq (.var 5) (.int 3)) [
    .ret (.tup (.cons (.str [110, 111, 116]) (.cons (.call 17 (.cons (.var 0) (.cons (.var 1) (.cons (.var 2) (.cons (.var 3) (.cons (.bin .sub (.var 4) (.int 1)) .nil)))))) .nil)))] [],
  .ite (.cmp .lt (.var 5) (.int 7)) [
    .set (.nm 6) (.idx (.lst (.cons (.str [97, 110, 100]) (.cons (.str [111, 114]) .nil))) (.call 8 (.cons (.var 0) (.cons (.int 2) .nil)))),
    .set (.nm 8) (.call 17 (.cons (.var 0) (.cons (.var 1) (.cons (.var 2) (.cons (.var 3) (.cons (.bin .sub (.var 4) (.int 1)) .nil)))))),
    .ret (.tup (.cons (.var 6) (.cons (.var 8) (.cons (.call 17 (.cons (.var 0) (.cons (.var 1) (.cons (.var 2) (.cons (.var 3) (.cons (.bin .sub (.var 4) (.int 1)) .nil)))))) .nil))))] [],
  .set (.nm 6) (.idx (.lst (.cons (.str [115, 111, 109, 101]) (.cons (.str [97, 108, 108]) .nil))) (.call 8 (.cons (.var 0) (.cons (.int 2) .nil)))),
  .set (.nm 7) (.idx (.lst (.cons (.str [120]) (.cons (.str [121]) (.cons (.str [122]) .nil)))) (.call 8 (.cons (.var 0) (.cons (.int 3) .nil)))),
  .ret (.tup (.cons (.var 6) (.cons (.var 7) (.cons (.call 17 (.cons (.var 0) (.cons (.var 1) (.cons (.bin .add (.var 2) (.lst (.cons (.var 7) .nil))) (.cons (.var 3) (.cons (.bin .sub (.var 4) (.int 1)) .nil)))))) .nil))))]⟩
/-- _law_closed -/
def f__law_closed : Fn := ⟨4, ["_law_tape_here", "_law_formula", "_law_singles", "_law_sets", "_law_name"], [
  .each (.nm 4) (.over (.var 2)) [
    .set (.nm 1) (.tup (.cons (.idx (.lst (.cons (.str [115, 111, 109, 101]) (.cons (.str [97, 108, 108]) .nil))) (.call 8 (.cons (.var 0) (.cons (.int 2) .nil)))) (.cons (.var 4) (.cons (.var 1) .nil))))],
  .each (.nm 4) (.over (.var 3)) [
    .set (.nm 1) (.tup (.cons (.idx (.lst (.cons (.str [115, 111, 109, 101, 115, 101, 116]) (.cons (.str [97, 108, 108, 115, 101, 116]) .nil))) (.call 8 (.cons (.var 0) (.cons (.int 2) .nil)))) (.cons (.var 4) (.cons (.var 1) .nil))))],
  .ret (.var 1)]⟩
/-- _law_sentence -/
def f__law_sentence : Fn := ⟨3, ["_law_tape_here", "_law_kind_here", "_law_depth", "_law_singles", "_law_sets"], [
  .set (.nm 3) (.sl (.lst (.cons (.str [120]) (.cons (.str [121]) .nil))) .none (.some (.bin .add (.int 1) (.call 8 (.cons (.var 0) (.cons (.int 2) .nil)))))),
  .set (.nm 4) (.sl (.lst (.cons (.str [88]) .nil)) .none (.some (.bin .fdiv (.call 8 (.cons (.var 0) (.cons (.int 3) .nil))) (.int 2)))),
  .ret (.call 18 (.cons (.var 0) (.cons (.call 17 (.cons (.var 0) (.cons (.var 1) (.cons (.var 3) (.cons (.var 4) (.cons (.var 2) .nil)))))) (.cons (.var 3) (.cons (.var 4) .nil)))))]⟩
/-- _law_subsets -/
def f__law_subsets : Fn := ⟨1, ["_law_every", "_law_found", "_law_path", "_law_one"], [
  .set (.nm 1) (.lst (.cons (.tup .nil) .nil)),
  .each (.nm 2) (.over (.var 0)) [
    .set (.nm 1) (.bin .add (.var 1) (.lc (.bin .add (.var 3) (.tup (.cons (.var 2) .nil))) (.nm 3) (.over (.var 1)) .nil [3]))],
  .ret (.var 1)]⟩
/-- _law_atom_holds -/
def f__law_atom_holds : Fn := ⟨3, ["_law_formula", "_law_shape_here", "_law_values", "_law_word", "_law_one", "_law_two", "_law_path"], [
  .set (.nm 3) (.idx (.var 0) (.int 0)),
  .ite (.cmp .eq (.var 3) (.str [116, 114, 117, 101])) [
    .ret (.bl true)] [],
  .ite (.cmp .eq (.var 3) (.str [108, 97, 98, 101, 108])) [
    .ret (.cmp .eq (.idx (.call 15 (.cons (.var 1) (.cons (.idx (.var 2) (.idx (.var 0) (.int 2))) .nil))) (.int 0)) (.idx (.var 0) (.int 1)))] [],
  .ite (.cmp .eq (.var 3) (.str [116, 111, 112])) [
    .ret (.cmp .eq (.idx (.var 2) (.idx (.var 0) (.int 1))) (.tup .nil))] [],
  .set (.nm 4) (.idx (.var 2) (.idx (.var 0) (.neg (.int 2)))),
  .set (.nm 5) (.idx (.var 2) (.idx (.var 0) (.neg (.int 1)))),
  .ite (.cmp .eq (.var 3) (.str [99, 104, 105, 108, 100])) [
    .ret (.cmp .eq (.var 5) (.bin .add (.var 4) (.tup (.cons (.idx (.var 0) (.int 1)) .nil))))] [],
  .ite (.cmp .eq (.var 3) (.str [98, 101, 108, 111, 119])) [
    .ret (.boo true (.cons (.cmp .gt (.bif .len (.var 5)) (.bif .len (.var 4))) (.cons (.cmp .eq (.sl (.var 5) .none (.some (.bif .len (.var 4)))) (.var 4)) .nil)))] [],
  .ite (.cmp .eq (.var 3) (.str [115, 97, 109, 101])) [
    .ret (.cmp .eq (.var 4) (.var 5))] [],
  .ite (.cmp .eq (.var 3) (.str [105, 110])) [
    .ret (.cmp .isin (.var 4) (.var 5))] [],
  .ret (.cmp .eq (.lc (.var 6) (.nm 6) (.over (.var 4)) (.cons (.cmp .notin (.var 6) (.var 5)) .nil) [6]) (.lst .nil))]⟩
/-- _law_holds -/
def f__law_holds : Fn := ⟨3, ["_law_formula", "_law_shape_here", "_law_values", "_law_word", "_law_every", "_law_wanted", "_law_value", "_law_more"], [
  .set (.nm 3) (.idx (.var 0) (.int 0)),
  .ite (.cmp .eq (.var 3) (.str [110, 111, 116])) [
    .ret (.not (.call 22 (.cons (.idx (.var 0) (.int 1)) (.cons (.var 1) (.cons (.var 2) .nil)))))] [],
  .ite (.cmp .eq (.var 3) (.str [97, 110, 100])) [
    .ret (.boo true (.cons (.call 22 (.cons (.idx (.var 0) (.int 1)) (.cons (.var 1) (.cons (.var 2) .nil)))) (.cons (.call 22 (.cons (.idx (.var 0) (.int 2)) (.cons (.var 1) (.cons (.var 2) .nil)))) .nil)))] [],
  .ite (.cmp .eq (.var 3) (.str [111, 114])) [
    .ret (.boo false (.cons (.call 22 (.cons (.idx (.var 0) (.int 1)) (.cons (.var 1) (.cons (.var 2) .nil)))) (.cons (.call 22 (.cons (.idx (.var 0) (.int 2)) (.cons (.var 1) (.cons (.var 2) .nil)))) .nil)))] [],
  .ite (.cmp .isin (.var 3) (.lst (.cons (.str [115, 111, 109, 101]) (.cons (.str [97, 108, 108]) (.cons (.str [115, 111, 109, 101, 115, 101, 116]) (.cons (.str [97, 108, 108, 115, 101, 116]) .nil)))))) [
    .set (.nm 4) (.call 14 (.cons (.var 1) (.cons (.tup .nil) .nil))),
    .ite (.cmp .isin (.var 3) (.lst (.cons (.str [115, 111, 109, 101, 115, 101, 116]) (.cons (.str [97, 108, 108, 115, 101, 116]) .nil)))) [
      .set (.nm 4) (.call 20 (.cons (.var 4) .nil))] [],
    .set (.nm 5) (.cmp .isin (.var 3) (.lst (.cons (.str [115, 111, 109, 101]) (.cons (.str [115, 111, 109, 101, 115, 101, 116]) .nil)))),
    .each (.nm 6) (.over (.var 4)) [
      .set (.nm 7) (.copyd (.var 2)),
      .put (.var 7) (.idx (.var 0) (.int 1)) (.var 6),
      .ite (.cmp .eq (.call 22 (.cons (.idx (.var 0) (.int 2)) (.cons (.var 1) (.cons (.frz (.var 7)) .nil)))) (.var 5)) [
        .ret (.var 5)] []],
    .ret (.not (.var 5))] [],
  .ret (.call 21 (.cons (.var 0) (.cons (.var 1) (.cons (.var 2) .nil))))]⟩
structure Up_all_elements (P : Pg) : Prop where
  self : P.Has 0 f_all_elements
structure Up_paths (P : Pg) : Prop where
  self : P.Has 1 f_paths
  to_all_elements : Up_all_elements P
structure Up_label_at (P : Pg) : Prop where
  self : P.Has 2 f_label_at
  to_all_elements : Up_all_elements P
structure Up_atom_holds (P : Pg) : Prop where
  self : P.Has 3 f_atom_holds
  to_label_at : Up_label_at P
structure Up_subsets (P : Pg) : Prop where
  self : P.Has 4 f_subsets
structure Up_with_value (P : Pg) : Prop where
  self : P.Has 5 f_with_value
structure Up_holds (P : Pg) : Prop where
  self : P.Has 6 f_holds
  to_atom_holds : Up_atom_holds P
  to_paths : Up_paths P
  to_subsets : Up_subsets P
  to_with_value : Up_with_value P
structure Up__law_tape (P : Pg) : Prop where
  self : P.Has 7 f__law_tape
structure Up__law_take (P : Pg) : Prop where
  self : P.Has 8 f__law_take
structure Up__law_is_integer (P : Pg) : Prop where
  self : P.Has 9 f__law_is_integer
structure Up__law_same_items (P : Pg) : Prop where
  self__law_same_items : P.Has 10 f__law_same_items
  self__law_same : P.Has 11 f__law_same
  to__law_is_integer : Up__law_is_integer P
structure Up__law_kind (P : Pg) : Prop where
  self : P.Has 12 f__law_kind
  to__law_take : Up__law_take P
structure Up__law_shape (P : Pg) : Prop where
  self : P.Has 13 f__law_shape
  to__law_take : Up__law_take P
structure Up__law_paths (P : Pg) : Prop where
  self : P.Has 14 f__law_paths
structure Up__law_part (P : Pg) : Prop where
  self : P.Has 15 f__law_part
structure Up__law_atom (P : Pg) : Prop where
  self : P.Has 16 f__law_atom
  to__law_take : Up__law_take P
structure Up__law_matrix (P : Pg) : Prop where
  self : P.Has 17 f__law_matrix
  to__law_take : Up__law_take P
  to__law_atom : Up__law_atom P
structure Up__law_closed (P : Pg) : Prop where
  self : P.Has 18 f__law_closed
  to__law_take : Up__law_take P
structure Up__law_sentence (P : Pg) : Prop where
  self : P.Has 19 f__law_sentence
  to__law_closed : Up__law_closed P
  to__law_matrix : Up__law_matrix P
  to__law_take : Up__law_take P
structure Up__law_subsets (P : Pg) : Prop where
  self : P.Has 20 f__law_subsets
structure Up__law_atom_holds (P : Pg) : Prop where
  self : P.Has 21 f__law_atom_holds
  to__law_part : Up__law_part P
structure Up__law_holds (P : Pg) : Prop where
  self : P.Has 22 f__law_holds
  to__law_atom_holds : Up__law_atom_holds P
  to__law_paths : Up__law_paths P
  to__law_subsets : Up__law_subsets P
end U
/-! U1: steps, loops, the store; the tape. For any program that holds the texts. -/
namespace U
open PySem DL
local macro_rules | `(tactic| and_intros) => `(tactic| repeat (first | refine ⟨_, rfl, ?_⟩ | refine ⟨rfl, ?_⟩))
theorem if_t {c : Bool} {A B : Prop} (h : c = true) (a : A) : if c = true then A else B := by rw [if_pos h]; exact a
theorem if_f {c : Bool} {A B : Prop} (h : c = false) (b : B) : if c = true then A else B := by rw [if_neg (by rw [h]; exact Bool.false_ne_true)]; exact b
theorem if_nf {c : Bool} {A B : Prop} (h : c = true) (b : B) : if c = false then A else B := by rw [if_neg (by rw [h]; exact fun e => Bool.noConfusion e)]; exact b
theorem if_nt {c : Bool} {A B : Prop} (h : c = false) (a : A) : if c = false then A else B := by rw [if_pos h]; exact a
/-- a test whose outcome is open -/
theorem if_c {c : Bool} {A B : Prop} (a : c = true → A) (b : c = false → B) : if c = true then A else B := by
  cases c with
  | true => exact a rfl
  | false => exact b rfl
theorem if_nc {c : Bool} {A B : Prop} (a : c = false → A) (b : c = true → B) : if c = false then A else B := by
  cases c with
  | true => exact b rfl
  | false => exact a rfl
theorem int_ne {i j : Int} (h : i ≠ j) : dEq (.int i) (.int j) = false := beq_eq_false_iff_ne.mpr h
theorem int_eq {i j : Int} (h : dEq (.int i) (.int j) = true) : i = j := by simpa [dEq] using h
theorem int_nf {i j : Int} (h : dEq (.int i) (.int j) = false) : i ≠ j := by simpa [dEq] using h
theorem dec_t {p : Prop} [Decidable p] (h : decide p = true) : p := of_decide_eq_true h
theorem dec_f {p : Prop} [Decidable p] (h : decide p = false) : ¬ p := of_decide_eq_false h
/-! ### the store -/
theorem ups_same {S : Sto} {p : Addr} {o : DO} : ups S p o p = some o := if_pos rfl
theorem ups_ne {S : Sto} {p a : Addr} {o : DO} (h : a ≠ p) : ups S p o a = S a := if_neg h
theorem del_ne {S : Sto} {p a : Addr} (h : a ≠ p) : del S p a = S a := if_neg h
theorem idx_ref {S : Sto} {p : Addr} {kvs : List (D × D)} {y d : D} {Q : D → Prop} (h : S p = some (.dct kvs)) (hk : isKey y = true) (hl : lookD kvs y = some d) (q : Q d) : wIdx S (.ref p) y Q := by
  unfold wIdx
  simp only [h]
  exact ⟨hk, d, hl, q⟩
theorem idx_lst {S : Sto} {p : Addr} {ds : List D} {i : Int} {d : D} {Q : D → Prop} (h : S p = some (.lst ds)) (hl : atD ds i = some d) (q : Q d) : wIdx S (.ref p) (.int i) Q := by
  unfold wIdx
  simp only [h]
  exact ⟨d, hl, q⟩
theorem put_ref {S : Sto} {p : Addr} {kvs : List (D × D)} {y v : D} {k : Sto → Prop} (h : S p = some (.dct kvs)) (hk : isKey y = true) (hz : kvs.length < SZ) (q : k (ups S p (.dct (putD kvs y v)))) :
    match S p with
      | some (.dct kvs) => isKey y = true ∧ kvs.length < SZ ∧ k (ups S p (.dct (putD kvs y v)))
      | some (.tdc kvs) => isTK y = true ∧ kvs.length < SZ ∧ k (ups S p (.tdc (putT kvs y v)))
      | some (.lst ds) => (match y with
        | .int i => ∃ j, L2.ixN ds.length i = some j ∧ k (ups S p (.lst (ds.set j v)))
        | _ => False)
      | _ => False := by
  simp only [h]
  exact ⟨hk, hz, q⟩
theorem put_tdc {S : Sto} {p : Addr} {kvs : List (D × D)} {y v : D} {k : Sto → Prop} (h : S p = some (.tdc kvs)) (hk : isTK y = true) (hz : kvs.length < SZ) (q : k (ups S p (.tdc (putT kvs y v)))) :
    match S p with
      | some (.dct kvs) => isKey y = true ∧ kvs.length < SZ ∧ k (ups S p (.dct (putD kvs y v)))
      | some (.tdc kvs) => isTK y = true ∧ kvs.length < SZ ∧ k (ups S p (.tdc (putT kvs y v)))
      | some (.lst ds) => (match y with
        | .int i => ∃ j, L2.ixN ds.length i = some j ∧ k (ups S p (.lst (ds.set j v)))
        | _ => False)
      | _ => False := by
  simp only [h]
  exact ⟨hk, hz, q⟩
theorem idx_tdc {S : Sto} {p : Addr} {kvs : List (D × D)} {y d : D} {Q : D → Prop} (h : S p = some (.tdc kvs)) (hk : isTK y = true) (hl : lookT kvs y = some d) (q : Q d) : wIdx S (.ref p) y Q := by
  unfold wIdx
  simp only [h]
  exact ⟨hk, d, hl, q⟩
theorem in_tdc {S : Sto} {p : Addr} {kvs : List (D × D)} {y : D} {Q : Bool → Prop} (h : S p = some (.tdc kvs)) (hk : isTK y = true) (q : Q (lookT kvs y).isSome) : wCmp .isin y (.ref p) S Q := by
  unfold wCmp
  simp only [h]
  exact ⟨hk, q⟩
theorem frz_lst {S : Sto} {p : Addr} {ds : List D} {Q : QD} (h : S p = some (.lst ds)) (q : Q (.lst ds) (del S p)) :
    match S p with
      | some (.lst ds) => fin false (.lst ds) (del S p) Q
      | some (.dct kvs) => fin false (.dct kvs) (del S p) Q
      | _ => False := by
  simp only [h]
  exact q
theorem frz_dct {S : Sto} {p : Addr} {kvs : List (D × D)} {Q : QD} (h : S p = some (.dct kvs)) (q : Q (.dct kvs) (del S p)) :
    match S p with
      | some (.lst ds) => fin false (.lst ds) (del S p) Q
      | some (.dct kvs) => fin false (.dct kvs) (del S p) Q
      | _ => False := by
  simp only [h]
  exact q
theorem popl_lst {S : Sto} {p : Addr} {ds : List D} {x : D} {Q : QD} (h : S p = some (.lst (ds ++ [x]))) (q : Q x (ups S p (.lst ds))) :
    match S p with
      | some (.lst ds) => ∃ (init : List D) (last : D), ds = init ++ [last] ∧ fin false last (ups S p (.lst init)) Q
      | _ => False := by
  simp only [h]
  exact ⟨ds, x, rfl, q⟩
theorem tru_lst {S : Sto} {p : Addr} {ds : List D} (h : S p = some (.lst ds)) : tru S (.ref p) = some (!ds.isEmpty) := by
  unfold tru
  simp only [h]
theorem len_lst {S : Sto} {p : Addr} {ds : List D} (h : S p = some (.lst ds)) : lenD S (.ref p) = some ds.length := by
  unfold lenD
  simp only [h]
theorem vw_lst {S : Sto} {p : Addr} {ds : List D} (h : S p = some (.lst ds)) : vw S (.ref p) = some ds := by
  unfold vw
  simp only [h]
/-! ### loops -/
/-- a comprehension: each item gives one or none, the store may change under J -/
theorem loopL_ind {α : Type} (J : Sto → Prop) {f : D → Sto → (List D → Sto → Prop) → Prop} {e : α → D} (g : α → D) :
    ∀ (xs : List α) (St : Sto) (Q : List D → Sto → Prop), J St →
    (∀ x ∈ xs, ∀ (S : Sto) (k : List D → Sto → Prop), J S → (∀ S', J S' → k [g x] S') → (∀ S', J S' → k [] S') → f (e x) S k) →
    (∀ (zs : List α) (S : Sto), J S → zs.Sublist xs → Q (zs.map g) S) → loopL f (xs.map e) St Q
  | [], St, Q, j, _, h => h [] St j (List.Sublist.refl _)
  | x :: xs, St, Q, j, hf, h => by
    refine hf x List.mem_cons_self St _ j (fun S' j' => ?_) fun S' j' => ?_
    · refine loopL_ind J g xs S' _ j' (fun y hy => hf y (List.mem_cons_of_mem _ hy)) fun zs S j2 hz => ?_
      exact h (x :: zs) S j2 (hz.cons_cons x)
    · refine loopL_ind J g xs S' _ j' (fun y hy => hf y (List.mem_cons_of_mem _ hy)) fun zs S j2 hz => ?_
      exact h zs S j2 (hz.cons x)
/-- each item gives one -/
theorem loopL_map {α : Type} {f : D → Sto → (List D → Sto → Prop) → Prop} {e : α → D} (g : α → D) :
    ∀ (xs : List α) (St : Sto) (Q : List D → Sto → Prop), (∀ x ∈ xs, ∀ (k : List D → Sto → Prop), k [g x] St → f (e x) St k) → Q (xs.map g) St → loopL f (xs.map e) St Q
  | [], St, Q, _, h => h
  | x :: xs, St, Q, hf, h => by
    refine hf x List.mem_cons_self _ ?_
    exact loopL_map g xs St _ (fun y hy => hf y (List.mem_cons_of_mem _ hy)) h
/-- each item gives several -/
theorem loopL_flat {α : Type} {f : D → Sto → (List D → Sto → Prop) → Prop} {e : α → D} (g : α → List D) :
    ∀ (xs : List α) (St : Sto) (Q : List D → Sto → Prop), (∀ x ∈ xs, ∀ (k : List D → Sto → Prop), k (g x) St → f (e x) St k) → Q (xs.flatMap g) St → loopL f (xs.map e) St Q
  | [], St, Q, _, h => h
  | x :: xs, St, Q, hf, h => by
    refine hf x List.mem_cons_self _ ?_
    exact loopL_flat g xs St _ (fun y hy => hf y (List.mem_cons_of_mem _ hy)) h
/-- under an invariant of the items done, what they gave and the store -/
theorem loopL_pre {α : Type} {f : D → Sto → (List D → Sto → Prop) → Prop} {e : α → D} {Q : List D → Sto → Prop} (I : List α → List D → Sto → Prop) (all : List α) :
    ∀ (dn xs : List α) (ys : List D) (St : Sto), all = dn ++ xs → I dn ys St → (∀ dn x r ys S, all = dn ++ x :: r → I dn ys S → ∀ k : List D → Sto → Prop, (∀ zs S', I (dn ++ [x]) (ys ++ zs) S' → k zs S') → f (e x) S k) → (∀ ys S, I all ys S → Q ys S) → loopL f (xs.map e) St fun zs S' => Q (ys ++ zs) S'
  | dn, [], ys, St, ha, i, _, h => by
    rw [List.append_nil] at ha
    subst ha
    show Q (ys ++ []) St
    rw [List.append_nil]
    exact h ys St i
  | dn, x :: xs, ys, St, ha, i, hf, h => hf dn x xs ys St ha i _ fun zs S' i' => by
    have := loopL_pre (Q := Q) I all (dn ++ [x]) xs (ys ++ zs) S' (by rw [ha]; simp) i' hf h
    simp only [List.append_assoc] at this
    exact this
/-- some items are left out -/
theorem loopL_filter {α : Type} {f : D → Sto → (List D → Sto → Prop) → Prop} {e : α → D} (p : α → Bool) (g : α → D) :
    ∀ (xs : List α) (St : Sto) (Q : List D → Sto → Prop), (∀ x ∈ xs, ∀ (k : List D → Sto → Prop), (if p x = true then k [g x] St else k [] St) → f (e x) St k) → Q ((xs.filter p).map g) St → loopL f (xs.map e) St Q
  | [], St, Q, _, h => h
  | x :: xs, St, Q, hf, h => by
    refine hf x List.mem_cons_self _ ?_
    cases c : p x with
    | true =>
      rw [if_pos rfl]
      refine loopL_filter p g xs St _ (fun y hy => hf y (List.mem_cons_of_mem _ hy)) ?_
      rw [List.filter_cons_of_pos c] at h
      exact h
    | false =>
      rw [if_neg Bool.false_ne_true]
      refine loopL_filter p g xs St _ (fun y hy => hf y (List.mem_cons_of_mem _ hy)) ?_
      rw [List.filter_cons_of_neg (by rw [c]; exact Bool.false_ne_true)] at h
      exact h
/-- a for loop under an invariant of the items still to come -/
theorem forL_ind {α : Type} {f : D → DL.Env → Sto → (DL.Env → Sto → Prop) → Prop} {e : α → D} {q : DL.Env → Sto → Prop} (I : List α → DL.Env → Sto → Prop) :
    ∀ (xs : List α) (ρ : DL.Env) (St : Sto), I xs ρ St → (∀ x r ρ St, I (x :: r) ρ St → ∀ k : DL.Env → Sto → Prop, (∀ ρ' S', I r ρ' S' → k ρ' S') → f (e x) ρ St k) → (∀ ρ St, I [] ρ St → q ρ St) → forL f (xs.map e) ρ St q
  | [], ρ, St, i, _, h => h ρ St i
  | x :: xs, ρ, St, i, hf, h => hf x xs ρ St i _ fun ρ' S' i' => forL_ind I xs ρ' S' i' hf h
/-- .. of the items done and still to come -/
theorem forL_pre {α : Type} {f : D → DL.Env → Sto → (DL.Env → Sto → Prop) → Prop} {e : α → D} {q : DL.Env → Sto → Prop} (I : List α → DL.Env → Sto → Prop) (all : List α) :
    ∀ (dn xs : List α) (ρ : DL.Env) (St : Sto), all = dn ++ xs → I dn ρ St → (∀ dn x r ρ St, all = dn ++ x :: r → I dn ρ St → ∀ k : DL.Env → Sto → Prop, (∀ ρ' S', I (dn ++ [x]) ρ' S' → k ρ' S') → f (e x) ρ St k) → (∀ ρ St, I all ρ St → q ρ St) → forL f (xs.map e) ρ St q
  | dn, [], ρ, St, ha, i, _, h => by
    rw [List.append_nil] at ha
    subst ha
    exact h ρ St i
  | dn, x :: xs, ρ, St, ha, i, hf, h => hf dn x xs ρ St ha i _ fun ρ' S' i' => forL_pre I all (dn ++ [x]) xs ρ' S' (by rw [ha]; simp) i' hf h
theorem while_ind {α : Type} {c : DL.Env → Sto → (Bool → Sto → Prop) → Prop} {b : DL.Env → Sto → (DL.Env → Sto → Prop) → Prop} {q : DL.Env → Sto → Prop} (I : α → DL.Env → Sto → Prop) (m : α → Nat)
    (hs : ∀ a ρ St, I a ρ St → ∀ kk : DL.Env → Sto → Prop, (∀ a' ρ' S', I a' ρ' S' → m a' < m a → kk ρ' S') → c ρ St fun k S1 => if k = true then b ρ S1 kk else q ρ S1) {a : α} {ρ : DL.Env} {St : Sto} (h : I a ρ St) : ∃ n, whileN c b n ρ St q := by
  have gen : ∀ n a ρ St, I a ρ St → m a < n → whileN c b n ρ St q := by
    intro n
    induction n with
    | zero => intro a ρ St _ h; omega
    | succ n ih =>
      intro a ρ St i hm
      exact hs a ρ St i (fun ρ' S' => whileN c b n ρ' S' q) fun a' ρ' S' i' hlt => ih a' ρ' S' i' (by omega)
  exact ⟨m a + 1, gen _ a ρ St h (by omega)⟩
theorem atD_nat {α : Type} {xs : List α} {i : Nat} : atD xs (i : Int) = xs[i]? := by
  unfold atD
  rw [if_pos (by omega)]
  rfl
theorem idx_list {α : Type} {xs : List α} {e : α → D} {r : Int} (h0 : 0 ≤ r) (h1 : r < xs.length) : ∃ x, x ∈ xs ∧ atD (xs.map e) r = some (e x) := by
  obtain ⟨j, rfl⟩ := Int.eq_ofNat_of_zero_le h0
  have hj : j < xs.length := by omega
  exact ⟨xs[j], List.getElem_mem hj, by rw [atD_nat, List.getElem?_map, List.getElem?_eq_getElem hj]; rfl⟩
theorem ne_tup {l t : List D} : D.lst l ≠ D.tup t := fun e => by cases e
theorem ne_tupr {a : Addr} {t : List D} : D.ref a ≠ D.tup t := fun e => by cases e
abbrev okS' (s : Bs) : Bool := s.all (· < 0x110000)
theorem okd_str' {n : Nat} {s : Bs} (h : okS' s = true) : okd n (.str s) = true := by cases n <;> exact h
theorem okS'_lit {s : Bs} (h : okS' s = true) : okD (.str s) := okd_str' h
theorem okd_int {n : Nat} {i : Int} : okd n (.int i) = true := by cases n <;> rfl
theorem okd_bl {n : Nat} {i : Bool} : okd n (.bl i) = true := by cases n <;> rfl
theorem okX {X : List Bs} (h : ∀ x ∈ X, okS' x = true) : okD (.lst (X.map .str)) := by
  show (X.map D.str).all (okd 59) = true
  refine List.all_eq_true.mpr fun d hd => ?_
  obtain ⟨x, hx, rfl⟩ := List.mem_map.mp hd
  exact okd_str' (h x hx)
theorem bools_all {bs : List Bool} : boolsD (bs.map .bl) = some bs := by
  induction bs with
  | nil => rfl
  | cons b bs ih => rw [List.map_cons, boolsD, ih]; rfl
theorem ints_map : ∀ (p : List Int), intsD (p.map D.int) = some p
  | [] => rfl
  | i :: p => by rw [List.map_cons, intsD, ints_map p]; rfl
theorem its_map : ∀ ps : List (List Int), itsD (ps.map itD) = some ps
  | [] => rfl
  | p :: ps => by
    rw [List.map_cons, itsD, its_map ps]
    have : tupInts (itD p) = some p := ints_map p
    rw [this]
theorem okd_it {n : Nat} (p : List Int) : okd (n + 1) (itD p) = true := by
  show (p.map D.int).all (okd n) = true
  refine List.all_eq_true.mpr fun d hd => ?_
  obtain ⟨i, _, rfl⟩ := List.mem_map.mp hd
  exact okd_int
theorem okd_its {n : Nat} (ps : List (List Int)) : okd (n + 2) (.tup (ps.map itD)) = true := by
  show (ps.map itD).all (okd (n + 1)) = true
  refine List.all_eq_true.mpr fun d hd => ?_
  obtain ⟨i, _, rfl⟩ := List.mem_map.mp hd
  exact okd_it i
/-! ### the tape -/
abbrev kCells : D := .str [99, 101, 108, 108, 115]
abbrev kAt : D := .str [97, 116]
abbrev kLeft : D := .str [108, 101, 102, 116]
abbrev kSeed : D := .str [115, 101, 101, 100]
abbrev kSalt : D := .str [115, 97, 108, 116]
abbrev tp (cs : List Int) (a : Nat) (l s t : Int) : List (D × D) := [(kCells, .lst (cs.map .int)), (kAt, .int a), (kLeft, .int l), (kSeed, .int s), (kSalt, .int t)]
def TapeOk (p : Addr) (S : Sto) : Prop := ∃ cs a l s t, S p = some (.dct (tp cs a l s t)) ∧ (∀ c ∈ cs, 0 ≤ c) ∧ 0 ≤ l
theorem TapeOk.at {p : Addr} {S S' : Sto} (h : TapeOk p S) (e : S' p = S p) : TapeOk p S' := by
  obtain ⟨cs, a, l, s, t, h1, h2⟩ := h
  exact ⟨cs, a, l, s, t, e.trans h1, h2⟩
section
variable {P : Pg} {q : QD} {k : Nat} {p : Addr}
theorem mod_rng {i n : Int} (hn : 0 < n) : 0 ≤ i % n ∧ i % n < n := ⟨Int.emod_nonneg _ (by omega), Int.emod_lt_of_pos _ hn⟩
/-- all but the tape stays -/
def Oth (p : Addr) (S S' : Sto) : Prop := ∀ a, a ≠ p → S' a = S a
theorem Oth.refl {p : Addr} {S : Sto} : Oth p S S := fun _ _ => rfl
theorem Oth.trans {p : Addr} {S S1 S2 : Sto} (h : Oth p S S1) (g : Oth p S1 S2) : Oth p S S2 := fun a n => (g a n).trans (h a n)
theorem Oth.ups {p : Addr} {S : Sto} {o : DO} : Oth p S (DL.ups S p o) := fun a n => ups_ne n
/-- a draw below n -/
theorem w_take (H : Up__law_take P) {n : Int} (hn : 0 < n) (hn2 : n < 1073741824) {S : Sto} (ht : TapeOk p S) (qx : QX) (hk : 1 ≤ k) (h : ∀ r S', 0 ≤ r → r < n → TapeOk p S' → Oth p S S' → q (.int r) S') : P.spec k 8 [.ref p, .int n] S q qx := by
  obtain ⟨k, rfl⟩ : ∃ j, k = j + 1 := ⟨k - 1, by omega⟩
  refine Pg.spec_succ H.self rfl ?_
  -- the second half, from any tape
  have rest : ∀ (S1 : Sto) (cs : List Int) (a : Nat) (l s t : Int), S1 p = some (.dct (tp cs a l s t)) → (∀ c ∈ cs, 0 ≤ c) → 0 ≤ l → Oth p S S1 → wSs (P.G k qx) (f__law_take.body.drop 1) (startE 4 [.ref p, .int n]) S1 (bodyK q) := by
    intro S1 cs a l s t e hc hl ot
    refine ⟨_, rfl, idx_ref (y := kLeft) e rfl rfl ?_⟩
    by_cases c : 0 < l
    · refine if_t (decide_eq_true c) ?_
      refine ⟨_, rfl, idx_ref (y := kLeft) e rfl rfl ?_⟩
      refine ⟨_, rfl, ?_⟩
      refine ⟨hn, ?_⟩
      refine ⟨_, rfl, idx_ref (y := kLeft) e rfl rfl ?_⟩
      refine ⟨_, rfl, ?_⟩
      refine ⟨⟨hn, hn2⟩, ?_⟩
      refine ⟨_, rfl, ?_⟩
      refine put_ref e rfl (by show 5 < 16777216; omega) ?_
      refine ⟨_, rfl, ?_⟩
      exact h _ _ (mod_rng hn).1 (mod_rng hn).2 ⟨cs, a, l / n, s, t, ups_same, hc, Int.ediv_nonneg hl (by omega)⟩ (ot.trans .ups)
    · refine if_f (decide_eq_false c) ?_
      refine ⟨_, rfl, idx_ref (y := kSalt) e rfl rfl ?_⟩
      refine ⟨_, rfl, ?_⟩
      refine put_ref e rfl (by show 5 < 16777216; omega) ?_
      generalize e0 : ups S1 p _ = S2
      have e' : S2 p = some (.dct (tp cs a l s (t + 1))) := by rw [← e0]; exact ups_same
      have ot' : Oth p S S2 := by rw [← e0]; exact ot.trans .ups
      refine ⟨_, rfl, idx_ref (y := kSeed) e' rfl rfl ?_⟩
      refine ⟨.inr ⟨by decide, by decide⟩, ?_⟩
      refine ⟨_, rfl, idx_ref (y := kSalt) e' rfl rfl ?_⟩
      refine ⟨.inr ⟨by decide, by decide⟩, ?_⟩
      refine ⟨by decide, ?_⟩
      refine ⟨_, rfl, _, rfl, ?_⟩
      have mr := mod_rng (i := s * 48271 + (t + 1) * 69621) (n := 2147483647) (by decide)
      refine ⟨.inl ⟨by omega, by omega⟩, ?_⟩
      refine ⟨_, rfl, idx_ref (y := kSalt) e' rfl rfl ?_⟩
      refine ⟨.inr ⟨by decide, by decide⟩, ?_⟩
      refine ⟨by decide, ?_⟩
      refine ⟨_, rfl, ?_⟩
      refine ⟨_, rfl, ?_⟩
      refine ⟨hn, ?_⟩
      exact h _ _ (mod_rng hn).1 (mod_rng hn).2 ⟨cs, a, l, s, t + 1, e', hc, hl⟩ ot'
  obtain ⟨cs, a, l, s, t, e, hc, hl⟩ := ht
  refine ⟨_, rfl, idx_ref (y := kLeft) e rfl rfl ?_⟩
  refine ⟨rfl, rfl, ?_⟩
  by_cases c : l = 0
  · subst c
    refine ⟨_, rfl, idx_ref (y := kAt) e rfl rfl ?_⟩
    refine ⟨_, rfl, idx_ref (y := kCells) e rfl rfl ?_⟩
    refine ⟨_, rfl, ?_⟩
    by_cases c2 : a < cs.length
    · have c3 : (a : Int) < ((cs.map D.int).length : Nat) := by rw [List.length_map]; omega
      refine if_t (decide_eq_true c3) ?_
      refine ⟨_, rfl, idx_ref (y := kCells) e rfl rfl ?_⟩
      refine ⟨_, rfl, idx_ref (y := kAt) e rfl rfl ?_⟩
      refine ⟨.int cs[a], by rw [atD_nat, List.getElem?_map, List.getElem?_eq_getElem c2]; rfl, ?_⟩
      refine ⟨_, rfl, ?_⟩
      refine put_ref e rfl (by show 5 < 16777216; omega) ?_
      generalize e0 : ups S p _ = S1
      have e1 : S1 p = some (.dct (tp cs a cs[a] s t)) := by rw [← e0]; exact ups_same
      have ot : Oth p S S1 := by rw [← e0]; exact .ups
      refine ⟨_, rfl, idx_ref (y := kAt) e1 rfl rfl ?_⟩
      refine ⟨_, rfl, ?_⟩
      refine put_ref e1 rfl (by show 5 < 16777216; omega) ?_
      exact rest _ cs (a + 1) cs[a] s t ups_same hc (hc _ (List.getElem_mem c2)) (ot.trans .ups)
    · have c3 : ¬ (a : Int) < ((cs.map D.int).length : Nat) := by rw [List.length_map]; omega
      refine if_f (decide_eq_false c3) ?_
      exact rest S cs a 0 s t e hc hl .refl
  · have c4 : dEq (.int l) (.int 0) = false := int_ne c
    refine if_f c4 ?_
    refine if_f c4 ?_
    exact rest S cs a l s t e hc hl .refl
abbrev ab (i : Int) : Int := if i < 0 then -i else i
theorem w_tape (H : Up__law_tape P) {S : Sto} (ns : List Int) (qx : QX) (hk : 1 ≤ k) (h : ∀ p S', TapeOk p S' → S p = none → Oth p S S' → q (.ref p) S') : P.spec k 7 [.scr ns] S q qx := by
  obtain ⟨k, rfl⟩ : ∃ j, k = j + 1 := ⟨k - 1, by omega⟩
  refine Pg.spec_succ H.self rfl ?_
  refine ⟨_, rfl, ?_⟩
  refine loopL_map (e := D.int) (fun i => D.int (ab i)) ns _ _ (fun x _ k h => ⟨_, rfl, h⟩) ?_
  refine ⟨_, rfl, ?_⟩
  refine forL_ind (e := fun i => D.int (ab i)) (fun r ρ S' => S' = S ∧ ∃ (s : Int) (x : Option D), ρ = [some (.scr ns), some (.lst (ns.map fun i => D.int (ab i))), some (.int s), x]) ns _ _ ⟨rfl, 7, none, rfl⟩ ?_ ?_
  · rintro x r ρ S' ⟨rfl, s, y, rfl⟩ kk hh
    refine ⟨_, rfl, ?_⟩
    refine ⟨.inr ⟨by decide, by decide⟩, ?_⟩
    refine ⟨_, rfl, ?_⟩
    refine ⟨by decide, ?_⟩
    exact hh _ _ ⟨rfl, _, _, rfl⟩
  · rintro ρ S' ⟨rfl, s, y, rfl⟩
    refine ⟨_, rfl, ?_⟩
    refine ⟨_, rfl, ?_⟩
    refine ⟨_, rfl, rfl, by simp, fun p hp => ?_⟩
    refine h p _ ⟨ns.map ab, 0, 0, s, 0, ?_, fun c hc => ?_, by decide⟩ hp .ups
    · rw [ups_same]
      refine congrArg (fun z => some (DO.dct [(kCells, D.lst z), (kAt, .int 0), (kLeft, .int 0), (kSeed, .int s), (kSalt, .int 0)])) (?_ : ns.map (fun i => D.int (ab i)) = (ns.map ab).map .int)
      rw [List.map_map]
      rfl
    · obtain ⟨i, _, rfl⟩ := List.mem_map.mp hc
      show 0 ≤ if i < 0 then -i else i
      split <;> omega
/-- (ways, labels) -/
def KindOk (d : D) (ways : Int) (labels : List Bs) : Prop := d = .tup [.int ways, .tup (labels.map .str)] ∧ (ways = 1 ∨ ways = 2) ∧ (labels = [[97]] ∨ labels = [[97], [98]] ∨ labels = [[98], [100], [122]])
theorem KindOk.pos {d : D} {ways : Int} {labels : List Bs} (h : KindOk d ways labels) : 0 < labels.length ∧ labels.length ≤ 3 ∧ ∀ l ∈ labels, okS' l = true := by
  rcases h.2.2 with rfl | rfl | rfl <;> decide
theorem w_kind (H : Up__law_kind P) {S : Sto} (ht : TapeOk p S) (qx : QX) (hk : 2 ≤ k) (h : ∀ d ways labels S', KindOk d ways labels → TapeOk p S' → Oth p S S' → q d S') : P.spec k 12 [.ref p] S q qx := by
  obtain ⟨k, rfl⟩ : ∃ j, k = j + 1 := ⟨k - 1, by omega⟩
  refine Pg.spec_succ H.self rfl ?_
  and_intros
  refine w_take H.to__law_take (by decide) (by decide) ht _ (by omega) fun r S1 h0 h1 ht1 o1 => ?_
  have fin : ∀ (labels : List Bs), (labels = [[97]] ∨ labels = [[97], [98]] ∨ labels = [[98], [100], [122]]) → wSs (P.G k qx) (f__law_kind.body.drop 1) [some (.ref p), some (.tup (labels.map .str))] S1 (bodyK q) := by
    intro labels a
    and_intros
    refine w_take H.to__law_take (by decide) (by decide) ht1 _ (by omega) fun r S2 h0 h1 ht2 o2 => ?_
    refine ⟨by decide, ?_⟩
    and_intros
    have : 1 + r / 3 = 1 ∨ 1 + r / 3 = 2 := by omega
    exact h _ (1 + r / 3) labels S2 ⟨rfl, this, a⟩ ht2 (o1.trans o2)
  have : r = 0 ∨ r = 1 ∨ r = 2 ∨ r = 3 := by omega
  rcases this with rfl | rfl | rfl | rfl
  · exact ⟨_, rfl, fin [[97]] (by decide)⟩
  · exact ⟨_, rfl, fin [[97], [98]] (by decide)⟩
  · exact ⟨_, rfl, fin [[97], [98]] (by decide)⟩
  · exact ⟨_, rfl, fin [[98], [100], [122]] (by decide)⟩
end
end U
/-! U2: shapes, paths, elements. -/
namespace U
open PySem DL
local macro_rules | `(tactic| and_intros) => `(tactic| repeat (first | refine ⟨_, rfl, ?_⟩ | refine ⟨rfl, ?_⟩))
inductive Sh where
  | e | n1 (l : Bs) (c : Sh) | n2 (l : Bs) (a b : Sh)
deriving DecidableEq
def encS : Sh → D
  | .e => .tup []
  | .n1 l c => .tup [.str l, encS c]
  | .n2 l a b => .tup [.str l, encS a, encS b]
def size : Sh → Nat
  | .e => 0
  | .n1 _ c => size c + 1
  | .n2 _ a b => size a + size b + 1
def okSh : Sh → Prop
  | .e => True
  | .n1 l c => okS' l = true ∧ okSh c
  | .n2 l a b => okS' l = true ∧ okSh a ∧ okSh b
/-- a shape of a kind -/
def shOf (ways : Int) (labels : List Bs) : Sh → Prop
  | .e => True
  | .n1 l c => ways = 1 ∧ l ∈ labels ∧ shOf ways labels c
  | .n2 l a b => ways = 2 ∧ l ∈ labels ∧ shOf ways labels a ∧ shOf ways labels b
theorem shOf.ok {ways : Int} {labels : List Bs} (hl : ∀ l ∈ labels, okS' l = true) : ∀ {s : Sh}, shOf ways labels s → okSh s
  | .e, _ => trivial
  | .n1 l c, h => ⟨hl l h.2.1, shOf.ok hl h.2.2⟩
  | .n2 l a b, h => ⟨hl l h.2.1, shOf.ok hl h.2.2.1, shOf.ok hl h.2.2.2⟩
theorem okd_encS : ∀ (s : Sh) (n : Nat), okSh s → size s + 1 ≤ n → okd n (encS s) = true
  | _, 0, _, h => by omega
  | .e, n + 1, _, _ => rfl
  | .n1 l c, n + 1, ⟨h1, h2⟩, h => by
    have := okd_encS c n h2 (by unfold size at h; omega)
    simp [encS, okd, this, okd_str' (n := n) h1]
  | .n2 l a b, n + 1, ⟨h1, h2, h3⟩, h => by
    have e1 := okd_encS a n h2 (by unfold size at h; omega)
    have e2 := okd_encS b n h3 (by unfold size at h; omega)
    simp [encS, okd, e1, e2, okd_str' (n := n) h1]
section
variable {P : Pg} {p : Addr}
theorem w_shape (H : Up__law_shape P) {d : D} {ways : Int} {labels : List Bs} (kd : KindOk d ways labels) : ∀ (n k : Nat) (c : Int) (S : Sto) (q : QD) (qx : QX), c = n → n ≤ 1000 → n + 2 ≤ k → TapeOk p S → (∀ s S', size s = n → shOf ways labels s → TapeOk p S' → Oth p S S' → q (encS s) S') → P.spec k 13 [.ref p, d, .int c] S q qx
  | n, 0, _, _, _, _, _, _, hk, _, _ => by omega
  | 0, k + 1, c, S, q, qx, hc, hn, hk, ht, h => by
    refine Pg.spec_succ H.self rfl ?_
    subst hc
    and_intros
    exact h .e S rfl trivial ht .refl
  | n + 1, k + 1, c, S, q, qx, hc, hn, hk, ht, h => by
    refine Pg.spec_succ H.self rfl ?_
    obtain ⟨hl0, hl3, _⟩ := kd.pos
    obtain ⟨rfl, hw, hls⟩ := kd
    have kd : KindOk (.tup [.int ways, .tup (labels.map .str)]) ways labels := ⟨rfl, hw, hls⟩
    refine ⟨_, rfl, ?_⟩
    refine ⟨rfl, rfl, ?_⟩
    refine if_f (show (c == 0) = false from beq_eq_false_iff_ne.mpr (by omega)) ?_
    and_intros
    have hz : (((labels.map D.str).length : Nat) : Int) = labels.length := by rw [List.length_map]
    refine w_take H.to__law_take (by omega) (by omega) ht _ (by omega) fun r S1 h0 h1 ht1 o1 => ?_
    obtain ⟨l, hl, e1⟩ := idx_list (xs := labels) (e := D.str) h0 (by omega)
    refine ⟨_, e1, ?_⟩
    rcases hw with rfl | rfl
    · and_intros
      refine w_shape H kd n k _ _ _ _ (by omega) (by omega) (by omega) ht1 fun s S2 hs os ht2 o2 => ?_
      exact h (.n1 l s) S2 (by unfold size; omega) ⟨rfl, hl, os⟩ ht2 (o1.trans o2)
    · and_intros
      refine w_take H.to__law_take (by omega) (by omega) ht1 _ (by omega) fun r2 S2 g0 g1 ht2 o2 => ?_
      obtain ⟨j, rfl⟩ := Int.eq_ofNat_of_zero_le g0
      and_intros
      refine w_shape H kd j k _ _ _ _ rfl (by omega) (by omega) ht2 fun s1 S3 hs1 os1 ht3 o3 => ?_
      and_intros
      refine w_shape H kd (n - j) k _ _ _ _ (by omega) (by omega) (by omega) ht3 fun s2 S4 hs2 os2 ht4 o4 => ?_
      exact h (.n2 l s1 s2) S4 (by unfold size; omega) ⟨rfl, hl, os1, os2⟩ ht4 (((o1.trans o2).trans o3).trans o4)
end
/-! ### paths -/
def pathsS : Sh → List Int → List (List Int)
  | .e, _ => []
  | .n1 _ c, p => p :: pathsS c (p ++ [0])
  | .n2 _ a b, p => p :: (pathsS a (p ++ [0]) ++ pathsS b (p ++ [1]))
theorem paths_len : ∀ (s : Sh) (p : List Int), (pathsS s p).length = size s
  | .e, _ => rfl
  | .n1 _ c, p => by simp [pathsS, size, paths_len c]
  | .n2 _ a b, p => by simp [pathsS, size, paths_len a, paths_len b]
section
variable {P : Pg} {q : QD} {k : Nat}
theorem w_paths (H : Up__law_paths P) : ∀ (s : Sh) (p : List Int) (dd : D) (k : Nat) (S : Sto) (q : QD) (qx : QX), okSh s → size s ≤ 40 → p.length + size s ≤ 1000 → size s + 1 ≤ k → dd = itD p → q (.lst ((pathsS s p).map itD)) S → P.spec k 14 [encS s, dd] S q qx
  | s, p, dd, 0, _, _, _, _, _, _, hk, _, _ => by omega
  | s, p, dd, k + 1, S, q, qx, os, h10, hp, hk, hd, h => by
    refine Pg.spec_succ H.self rfl ?_
    subst hd
    refine ⟨_, rfl, ?_⟩
    refine ⟨okd_encS s 60 os (by omega), rfl, ?_⟩
    cases s with
    | e => exact h
    | n1 l c =>
      and_intros
      refine ⟨⟨by simp, by simp⟩, ?_⟩
      and_intros
      refine ⟨by rw [List.length_map]; show p.length + 1 ≤ 16777216; unfold size at hp; omega, ?_⟩
      refine w_paths H c (p ++ [0]) _ k _ _ _ os.2 (by unfold size at h10; omega) (by rw [List.length_append]; show p.length + 1 + _ ≤ _; unfold size at hp; omega) (by unfold size at hk; omega) (by simp [itD]) ?_
      have hz : ((pathsS c (p ++ [0])).map itD).length ≤ 40 := by rw [List.length_map, paths_len]; unfold size at h10; omega
      refine ⟨by show 1 + _ ≤ 16777216; omega, ?_⟩
      and_intros
      exact h
    | n2 l a b =>
      and_intros
      refine ⟨⟨by simp, by simp⟩, ?_⟩
      and_intros
      refine ⟨by rw [List.length_map]; show p.length + 1 ≤ 16777216; unfold size at hp; omega, ?_⟩
      refine w_paths H a (p ++ [0]) _ k _ _ _ os.2.1 (by unfold size at h10; omega) (by rw [List.length_append]; show p.length + 1 + _ ≤ _; unfold size at hp; omega) (by unfold size at hk; omega) (by simp [itD]) ?_
      have hz : ((pathsS a (p ++ [0])).map itD).length ≤ 40 := by rw [List.length_map, paths_len]; unfold size at h10; omega
      refine ⟨by show 1 + _ ≤ 16777216; omega, ?_⟩
      and_intros
      refine ⟨by rw [List.length_map]; show p.length + 1 ≤ 16777216; unfold size at hp; omega, ?_⟩
      refine w_paths H b (p ++ [1]) _ k _ _ _ os.2.2 (by unfold size at h10; omega) (by rw [List.length_append]; show p.length + 1 + _ ≤ _; unfold size at hp; omega) (by unfold size at hk; omega) (by simp [itD]) ?_
      have hz2 : ((pathsS b (p ++ [1])).map itD).length ≤ 40 := by rw [List.length_map, paths_len]; unfold size at h10; omega
      refine ⟨by rw [List.length_append]; show 1 + _ + _ ≤ 16777216; omega, ?_⟩
      and_intros
      have e : (pathsS (.n2 l a b) p).map itD = ([itD p] ++ (pathsS a (p ++ [0])).map itD) ++ (pathsS b (p ++ [1])).map itD := by simp [pathsS]
      rw [e] at h
      exact h
def sub : Sh → List Int → Option Sh
  | s, [] => some s
  | .n1 _ c, 0 :: r => sub c r
  | .n2 _ a _, 0 :: r => sub a r
  | .n2 _ _ b, 1 :: r => sub b r
  | _, _ => none
/-- a node of the shape -/
def Node (s : Sh) (p : List Int) : Prop := ∃ t, sub s p = some t ∧ t ≠ .e ∧ p.length ≤ size s
theorem sub_nil (s : Sh) : sub s [] = some s := by cases s <;> rfl
theorem sub_e {x : Int} {p : List Int} : sub .e (x :: p) = none := by simp [sub]
theorem sub_n1 {l : Bs} {c t : Sh} {x : Int} {p : List Int} (e : sub (.n1 l c) (x :: p) = some t) : x = 0 ∧ sub c p = some t := by
  by_cases hx : x = 0
  · subst hx; exact ⟨rfl, e⟩
  · unfold sub at e
    split at e <;> first | contradiction | (exfalso; simp_all)
theorem sub_n2 {l : Bs} {a b t : Sh} {x : Int} {p : List Int} (e : sub (.n2 l a b) (x :: p) = some t) : (x = 0 ∧ sub a p = some t) ∨ (x = 1 ∧ sub b p = some t) := by
  by_cases hx : x = 0
  · subst hx; exact .inl ⟨rfl, e⟩
  · by_cases hx1 : x = 1
    · subst hx1; exact .inr ⟨rfl, e⟩
    · unfold sub at e
      split at e <;> first | contradiction | (exfalso; simp_all)
theorem node_paths : ∀ (s : Sh) (p r : List Int), r ∈ pathsS s p → ∃ u, r = p ++ u ∧ Node s u
  | .e, _, _, h => by cases h
  | .n1 l c, p, r, h => by
    rcases List.mem_cons.mp (show r ∈ p :: pathsS c (p ++ [0]) from h) with rfl | h
    · exact ⟨[], by simp, _, sub_nil _, (by simp), Nat.zero_le _⟩
    · obtain ⟨u, rfl, t, e, n, z⟩ := node_paths c _ _ h
      exact ⟨0 :: u, by simp, t, e, n, by rw [List.length_cons]; show _ ≤ size c + 1; omega⟩
  | .n2 l a b, p, r, h => by
    rcases List.mem_cons.mp (show r ∈ p :: (pathsS a (p ++ [0]) ++ pathsS b (p ++ [1])) from h) with rfl | h
    · exact ⟨[], by simp, _, sub_nil _, (by simp), Nat.zero_le _⟩
    · rcases List.mem_append.mp h with h | h
      · obtain ⟨u, rfl, t, e, n, z⟩ := node_paths a _ _ h
        exact ⟨0 :: u, by simp, t, e, n, by rw [List.length_cons]; show _ ≤ size a + size b + 1; omega⟩
      · obtain ⟨u, rfl, t, e, n, z⟩ := node_paths b _ _ h
        exact ⟨1 :: u, by simp, t, e, n, by rw [List.length_cons]; show _ ≤ size a + size b + 1; omega⟩
theorem w_part (H : Up__law_part P) (s t : Sh) (p : List Int) {S : Sto} (qx : QX) (hk : 1 ≤ k) (e : sub s p = some t) (h : q (encS t) S) : P.spec k 15 [encS s, itD p] S q qx := by
  obtain ⟨k, rfl⟩ : ∃ j, k = j + 1 := ⟨k - 1, by omega⟩
  refine Pg.spec_succ H.self rfl ?_
  refine ⟨_, rfl, ?_⟩
  refine forL_ind (e := D.int) (fun r ρ S' => S' = S ∧ ∃ (u : Sh) (x : Option D), ρ = [some (encS u), some (itD p), x] ∧ sub u r = some t) p _ _ ⟨rfl, s, none, rfl, e⟩ ?_ ?_
  · rintro x r ρ S' ⟨rfl, u, y, rfl, e⟩ kk hh
    and_intros
    cases u with
    | e => simp [sub] at e
    | n1 l c =>
      obtain ⟨rfl, e⟩ := sub_n1 e
      refine ⟨_, rfl, ?_⟩
      exact hh _ _ ⟨rfl, c, _, rfl, e⟩
    | n2 l a b =>
      rcases sub_n2 e with ⟨rfl, e⟩ | ⟨rfl, e⟩
      · refine ⟨_, rfl, ?_⟩
        exact hh _ _ ⟨rfl, a, _, rfl, e⟩
      · refine ⟨_, rfl, ?_⟩
        exact hh _ _ ⟨rfl, b, _, rfl, e⟩
  · rintro ρ S' ⟨rfl, u, y, rfl, e⟩
    rw [sub_nil] at e
    cases e
    exact ⟨_, rfl, h⟩
/-! ### the order of paths -/
theorem lt_pre : ∀ (p u : List Int), ltInts (p ++ u) p = false
  | [], [] => rfl
  | [], _ :: _ => rfl
  | a :: p, u => by
    show (if a = a then ltInts (p ++ u) p else decide (a < a)) = false
    rw [if_pos rfl]; exact lt_pre p u
theorem lt_fork : ∀ (p u v : List Int), ltInts (p ++ (1 :: v)) (p ++ (0 :: u)) = false
  | [], u, v => by
    show (if (1 : Int) = 0 then ltInts v u else decide ((1 : Int) < 0)) = false
    rfl
  | a :: p, u, v => by
    show (if a = a then ltInts (p ++ (1 :: v)) (p ++ (0 :: u)) else decide (a < a)) = false
    rw [if_pos rfl]; exact lt_fork p u v
theorem lt_anti : ∀ (a b : List Int), ltInts a b = false → ltInts b a = false → a = b
  | [], [], _, _ => rfl
  | [], _ :: _, h, _ => by cases h
  | _ :: _, [], _, h => by cases h
  | a :: s, b :: t, h, g => by
    have h : (if a = b then ltInts s t else decide (a < b)) = false := h
    have g : (if b = a then ltInts t s else decide (b < a)) = false := g
    by_cases e : a = b
    · subst e
      rw [if_pos rfl] at h g
      rw [lt_anti s t h g]
    · rw [if_neg e] at h
      rw [if_neg (Ne.symm e)] at g
      have := of_decide_eq_false h
      have := of_decide_eq_false g
      omega
theorem paths_sorted : ∀ (s : Sh) (p : List Int), (pathsS s p).Pairwise fun a b => ltInts b a = false
  | .e, _ => .nil
  | .n1 l c, p => by
    refine List.pairwise_cons.mpr ⟨fun r h => ?_, paths_sorted c _⟩
    obtain ⟨u, rfl, _⟩ := node_paths c _ _ h
    rw [List.append_assoc]
    exact lt_pre _ _
  | .n2 l a b, p => by
    refine List.pairwise_cons.mpr ⟨fun r h => ?_, List.pairwise_append.mpr ⟨paths_sorted a _, paths_sorted b _, fun x hx y hy => ?_⟩⟩
    · rcases List.mem_append.mp h with h | h
      · obtain ⟨u, rfl, _⟩ := node_paths a _ _ h
        rw [List.append_assoc]; exact lt_pre _ _
      · obtain ⟨u, rfl, _⟩ := node_paths b _ _ h
        rw [List.append_assoc]; exact lt_pre _ _
    · obtain ⟨u, rfl, _⟩ := node_paths a _ _ hx
      obtain ⟨v, rfl, _⟩ := node_paths b _ _ hy
      rw [List.append_assoc, List.append_assoc]
      exact lt_fork p u v
theorem perm_sorted {α : Type} {le : α → α → Prop} (anti : ∀ a b, le a b → le b a → a = b) (rf : ∀ a, le a a) : ∀ {xs ys : List α}, xs.Perm ys → xs.Pairwise le → ys.Pairwise le → xs = ys
  | [], ys, h, _, _ => (List.nil_perm.mp h).symm
  | x :: xs, [], h, _, _ => absurd h.length_eq (by simp)
  | x :: xs, y :: ys, h, hx, hy => by
    have h1 := List.pairwise_cons.mp hx
    have h2 := List.pairwise_cons.mp hy
    have e : x = y := by
      have m1 : x ∈ y :: ys := h.mem_iff.mp List.mem_cons_self
      have m2 : y ∈ x :: xs := h.mem_iff.mpr List.mem_cons_self
      rcases List.mem_cons.mp m1 with e | m1
      · exact e
      · rcases List.mem_cons.mp m2 with e | m2
        · exact e.symm
        · exact anti _ _ (h1.1 _ m2) (h2.1 _ m1)
    subst e
    rw [perm_sorted anti rf (List.Perm.cons_inv h) h1.2 h2.2]
theorem lt_irr : ∀ a, ltInts a a = false
  | [] => rfl
  | a :: s => by
    show (if a = a then ltInts s s else decide (a < a)) = false
    rw [if_pos rfl]; exact lt_irr s
theorem sorted_paths {s : Sh} {ys : List (List Int)} (h : ys.Perm (pathsS s [])) (hp : ys.Pairwise fun a b => ltInts b a = false) : ys = pathsS s [] :=
  perm_sorted (le := fun a b => ltInts b a = false) (fun a b x y => lt_anti a b y x) lt_irr h hp (paths_sorted s [])
theorem paths_root {s : Sh} {ns : List Int} {rest : List (List Int)} (e : pathsS s [] = ns :: rest) : ns = [] := by
  cases s with
  | e => cases e
  | n1 l c => exact (List.cons.inj e).1.symm
  | n2 l c d => exact (List.cons.inj e).1.symm
/-! ### all elements -/
abbrev El := List Int × Sh
def elems : Sh → List Int → List El
  | .e, _ => []
  | .n1 l c, p => (p, .n1 l c) :: elems c (p ++ [0])
  | .n2 l a b, p => (p, .n2 l a b) :: (elems b (p ++ [1]) ++ elems a (p ++ [0]))
def encE (x : El) : D := .tup [itD x.1, encS x.2]
theorem elems_len : ∀ (s : Sh) (p : List Int), (elems s p).length = size s
  | .e, _ => rfl
  | .n1 _ c, p => by simp [elems, size, elems_len c]
  | .n2 _ a b, p => by simp [elems, size, elems_len a, elems_len b]; omega
theorem elems_perm : ∀ (s : Sh) (p : List Int), ((elems s p).map (·.1)).Perm (pathsS s p)
  | .e, _ => .nil
  | .n1 _ c, p => .cons _ (elems_perm c _)
  | .n2 _ a b, p => by
    refine .cons _ ?_
    rw [List.map_append]
    exact (List.perm_append_comm).trans ((elems_perm a _).append (elems_perm b _))
theorem mem_elems : ∀ (s : Sh) (p : List Int) (x : El), x ∈ elems s p → ∃ u, x.1 = p ++ u ∧ sub s u = some x.2 ∧ x.2 ≠ .e
  | .e, _, _, h => by cases h
  | .n1 l c, p, x, h => by
    rcases List.mem_cons.mp (show x ∈ (p, Sh.n1 l c) :: elems c (p ++ [0]) from h) with rfl | h
    · exact ⟨[], by simp, sub_nil _, by simp⟩
    · obtain ⟨u, e, t, n⟩ := mem_elems c _ _ h
      exact ⟨0 :: u, by rw [e]; simp, t, n⟩
  | .n2 l a b, p, x, h => by
    rcases List.mem_cons.mp (show x ∈ (p, Sh.n2 l a b) :: (elems b (p ++ [1]) ++ elems a (p ++ [0])) from h) with rfl | h
    · exact ⟨[], by simp, sub_nil _, by simp⟩
    · rcases List.mem_append.mp h with h | h
      · obtain ⟨u, e, t, n⟩ := mem_elems b _ _ h
        exact ⟨1 :: u, by rw [e]; simp, t, n⟩
      · obtain ⟨u, e, t, n⟩ := mem_elems a _ _ h
        exact ⟨0 :: u, by rw [e]; simp, t, n⟩
theorem elems_mem : ∀ (u : List Int) (s : Sh) (p : List Int) (t : Sh), sub s u = some t → t ≠ .e → (p ++ u, t) ∈ elems s p
  | [], s, p, t, h, n => by
    rw [sub_nil] at h
    cases h
    cases s with
    | e => exact absurd rfl n
    | n1 l c => simp [elems]
    | n2 l a b => simp [elems]
  | x :: u, s, p, t, h, n => by
    cases s with
    | e => simp [sub] at h
    | n1 l c =>
      obtain ⟨rfl, h⟩ := sub_n1 h
      have := elems_mem u c (p ++ [0]) t h n
      rw [List.append_assoc] at this
      exact List.mem_cons_of_mem _ this
    | n2 l a b =>
      rcases sub_n2 h with ⟨rfl, h⟩ | ⟨rfl, h⟩
      · have := elems_mem u a (p ++ [0]) t h n
        rw [List.append_assoc] at this
        exact List.mem_cons_of_mem _ (List.mem_append_right _ this)
      · have := elems_mem u b (p ++ [1]) t h n
        rw [List.append_assoc] at this
        exact List.mem_cons_of_mem _ (List.mem_append_left _ this)
/-- what a stack stands for -/
def rest (st : List El) : List El := st.reverse.flatMap fun x => elems x.2 x.1
def wgt (st : List El) : Nat := (st.map fun x => 2 * size x.2 + 1).sum
theorem rest_snoc (st : List El) (x : El) : rest (st ++ [x]) = elems x.2 x.1 ++ rest st := by
  unfold rest
  rw [List.reverse_append]
  rfl
theorem wgt_snoc (st : List El) (x : El) : wgt (st ++ [x]) = wgt st + (2 * size x.2 + 1) := by simp [wgt]
theorem isE {α : Type} {l : List α} (h : (!l.isEmpty) = true) : ∃ init last, l = init ++ [last] := by
  cases l with
  | nil => cases h
  | cons a l => exact ⟨_, _, (List.dropLast_concat_getLast (by simp)).symm⟩
set_option maxHeartbeats 1000000 in
theorem w_elements (H : Up_all_elements P) (s : Sh) {S : Sto} (qx : QX) (hk : 1 ≤ k) (hs : size s ≤ 1000) (h : q (.lst ((elems s []).map encE)) S) : P.spec k 0 [encS s] S q qx := by
  obtain ⟨k, rfl⟩ : ∃ j, k = j + 1 := ⟨k - 1, by omega⟩
  refine Pg.spec_fgt H.self rfl ?_
  intro p hp
  and_intros
  intro w hw
  have hpw : w ≠ p := fun e => by rw [e, ups_same] at hw; cases hw
  have hw0 : S w = none := by rw [ups_ne hpw] at hw; exact hw
  have hpw2 : p ≠ w := Ne.symm hpw
  refine while_ind (α := List El × List El) (fun a ρ S' => S' p = some (.lst (a.1.map encE)) ∧ S' w = some (.lst (a.2.map encE)) ∧ (∀ b, b ≠ p → b ≠ w → S' b = S b) ∧ a.1 ++ rest a.2 = elems s [] ∧ (∀ x ∈ a.2, x.1.length + size x.2 ≤ 1000) ∧ a.1.length + (a.2.map fun x => size x.2).sum ≤ 1000 ∧ a.2.length ≤ 1001 + a.1.length ∧
      ∃ (x1 x2 x3 x4 : Option D), ρ = [some (encS s), some (.ref p), some (.ref w), x1, x2, x3, x4]) (fun a => wgt a.2) ?_ (a := ([], [([], s)])) ?_
  · rintro ⟨res, st⟩ ρ S' ⟨h1, h2, h3, h4, h5, h7, h8, x1, x2, x3, x4, rfl⟩ kk hh
    have h1 : S' p = some (.lst (res.map encE)) := h1
    have h2 : S' w = some (.lst (st.map encE)) := h2
    have h4 : res ++ rest st = elems s [] := h4
    have h5 : ∀ x ∈ st, x.1.length + size x.2 ≤ 1000 := h5
    have h7 : res.length + (st.map fun x => size x.2).sum ≤ 1000 := h7
    have h8 : st.length ≤ 1001 + res.length := h8
    refine ⟨_, rfl, _, tru_lst h2, ?_⟩
    refine if_c (fun cc => ?_) (fun cc => ?_)
    · obtain ⟨init, last, rfl⟩ := isE (l := st) (by cases st with | nil => cases cc | cons => rfl)
      obtain ⟨lp, ls⟩ := last
      rw [List.map_append] at h2
      rw [rest_snoc] at h4
      rw [List.map_append, List.sum_append] at h7
      rw [List.length_append] at h8
      have hl := h5 (lp, ls) (by simp)
      have h7 : res.length + ((init.map fun x => size x.2).sum + (size ls + 0)) ≤ 1000 := h7
      have h8 : init.length + 1 ≤ 1001 + res.length := h8
      have hl : lp.length + size ls ≤ 1000 := hl
      refine ⟨_, rfl, popl_lst h2 ?_⟩
      generalize e1 : ups S' w _ = S1
      have g1 : S1 p = some (.lst (res.map encE)) := by rw [← e1, ups_ne hpw2]; exact h1
      have g2 : S1 w = some (.lst (init.map encE)) := by rw [← e1]; exact ups_same
      have g3 : ∀ b, b ≠ p → b ≠ w → S1 b = S b := fun b n1 n2 => by rw [← e1, ups_ne n2]; exact h3 b n1 n2
      cases ls with
      | e =>
        refine ⟨_, rfl, _, rfl, ?_⟩
        refine hh (res, init) _ _ ⟨g1, g2, g3, h4, fun x hx => h5 x (by simp [hx]), by show res.length + (init.map fun x => size x.2).sum ≤ 1000; omega, by show init.length ≤ 1001 + res.length; omega, _, _, _, _, rfl⟩ ?_
        show wgt init < wgt (init ++ [(lp, .e)])
        rw [wgt_snoc]; omega
      | n1 l c =>
        refine ⟨_, rfl, _, rfl, ?_⟩
        refine ⟨_, rfl, _, rfl, ⟨_, g1⟩, ?_⟩
        and_intros
        refine ⟨_, g1, by rw [List.length_map]; show res.length < 16777216; omega, ?_⟩
        refine ⟨_, rfl, _, rfl, ?_⟩
        generalize e2 : ups S1 p _ = S2
        have k1 : S2 p = some (.lst ((res ++ [(lp, Sh.n1 l c)]).map encE)) := by rw [← e2, ups_same, List.map_append]; rfl
        have k2 : S2 w = some (.lst (init.map encE)) := by rw [← e2, ups_ne hpw]; exact g2
        have k3 : ∀ b, b ≠ p → b ≠ w → S2 b = S b := fun b n1 n2 => by rw [← e2, ups_ne n1]; exact g3 b n1 n2
        refine ⟨_, rfl, ⟨_, k2⟩, ?_⟩
        and_intros
        refine ⟨by rw [List.length_map]; show lp.length + 1 ≤ 16777216; omega, ?_⟩
        and_intros
        refine ⟨_, k2, by rw [List.length_map]; show init.length < 16777216; omega, ?_⟩
        have sz : size (Sh.n1 l c) = size c + 1 := rfl
        refine hh (res ++ [(lp, .n1 l c)], init ++ [(lp ++ [0], c)]) _ _ ⟨?_, ?_, ?_, ?_, ?_, ?_, ?_, _, _, _, _, rfl⟩ ?_
        · rw [ups_ne hpw2]; exact k1
        · rw [ups_same, List.map_append]; simp [encE, itD]
        · intro b n1 n2; rw [ups_ne n2]; exact k3 b n1 n2
        · rw [rest_snoc, ← h4]; simp [elems]
        · intro x hx
          rcases List.mem_append.mp hx with hx | hx
          · exact h5 x (List.mem_append_left _ hx)
          · obtain rfl : x = (lp ++ [0], c) := by simpa using hx
            show (lp ++ [0]).length + size c ≤ 1000
            rw [List.length_append]; show lp.length + 1 + size c ≤ 1000; omega
        · show (res ++ [(lp, Sh.n1 l c)]).length + ((init ++ [(lp ++ [0], c)]).map fun x : El => size x.2).sum ≤ 1000
          rw [List.length_append, List.map_append, List.sum_append]
          show res.length + 1 + ((init.map fun x : El => size x.2).sum + (size c + 0)) ≤ 1000
          omega
        · show (init ++ [(lp ++ [0], c)]).length ≤ 1001 + (res ++ [(lp, Sh.n1 l c)]).length
          rw [List.length_append, List.length_append]; show init.length + 1 ≤ 1001 + (res.length + 1); omega
        · show wgt (init ++ [(lp ++ [0], c)]) < wgt (init ++ [(lp, .n1 l c)])
          rw [wgt_snoc, wgt_snoc]; show _ + (2 * size c + 1) < _ + (2 * (size c + 1) + 1); omega
      | n2 l a b =>
        refine ⟨_, rfl, _, rfl, ?_⟩
        refine ⟨_, rfl, _, rfl, ⟨_, g1⟩, ?_⟩
        and_intros
        refine ⟨_, g1, by rw [List.length_map]; show res.length < 16777216; omega, ?_⟩
        refine ⟨_, rfl, _, rfl, ?_⟩
        generalize e2 : ups S1 p _ = S2
        have k1 : S2 p = some (.lst ((res ++ [(lp, Sh.n2 l a b)]).map encE)) := by rw [← e2, ups_same, List.map_append]; rfl
        have k2 : S2 w = some (.lst (init.map encE)) := by rw [← e2, ups_ne hpw]; exact g2
        have k3 : ∀ b, b ≠ p → b ≠ w → S2 b = S b := fun b n1 n2 => by rw [← e2, ups_ne n1]; exact g3 b n1 n2
        have sz : size (.n2 l a b) = size a + size b + 1 := rfl
        refine ⟨_, rfl, ⟨_, k2⟩, ?_⟩
        and_intros
        refine ⟨by rw [List.length_map]; show lp.length + 1 ≤ 16777216; omega, ?_⟩
        and_intros
        refine ⟨_, k2, by rw [List.length_map]; show init.length < 16777216; omega, ?_⟩
        generalize e3 : ups S2 w _ = S3
        have m1 : S3 p = some (.lst ((res ++ [(lp, Sh.n2 l a b)]).map encE)) := by rw [← e3, ups_ne hpw2]; exact k1
        have m2 : S3 w = some (.lst ((init ++ [(lp ++ [0], a)]).map encE)) := by rw [← e3, ups_same, List.map_append]; simp [encE, itD]
        have m3 : ∀ b, b ≠ p → b ≠ w → S3 b = S b := fun b n1 n2 => by rw [← e3, ups_ne n2]; exact k3 b n1 n2
        refine ⟨_, rfl, _, rfl, ⟨_, m2⟩, ?_⟩
        and_intros
        refine ⟨by rw [List.length_map]; show lp.length + 1 ≤ 16777216; omega, ?_⟩
        and_intros
        refine ⟨_, m2, by rw [List.length_map, List.length_append]; show init.length + 1 < 16777216; omega, ?_⟩
        refine hh (res ++ [(lp, .n2 l a b)], (init ++ [(lp ++ [0], a)]) ++ [(lp ++ [1], b)]) _ _ ⟨?_, ?_, ?_, ?_, ?_, ?_, ?_, _, _, _, _, rfl⟩ ?_
        · rw [ups_ne hpw2]; exact m1
        · rw [ups_same, List.map_append]; simp [encE, itD]
        · intro b n1 n2; rw [ups_ne n2]; exact m3 b n1 n2
        · rw [rest_snoc, rest_snoc, ← h4]; simp [elems]
        · intro x hx
          rcases List.mem_append.mp hx with hx | hx
          · rcases List.mem_append.mp hx with hx | hx
            · exact h5 x (List.mem_append_left _ hx)
            · obtain rfl : x = (lp ++ [0], a) := by simpa using hx
              show (lp ++ [0]).length + size a ≤ 1000
              rw [List.length_append]; show lp.length + 1 + size a ≤ 1000; omega
          · obtain rfl : x = (lp ++ [1], b) := by simpa using hx
            show (lp ++ [1]).length + size b ≤ 1000
            rw [List.length_append]; show lp.length + 1 + size b ≤ 1000; omega
        · show (res ++ [(lp, Sh.n2 l a b)]).length + (((init ++ [(lp ++ [0], a)]) ++ [(lp ++ [1], b)]).map fun x : El => size x.2).sum ≤ 1000
          rw [List.length_append, List.map_append, List.sum_append, List.map_append, List.sum_append]
          show res.length + 1 + ((init.map fun x : El => size x.2).sum + (size a + 0) + (size b + 0)) ≤ 1000
          omega
        · show ((init ++ [(lp ++ [0], a)]) ++ [(lp ++ [1], b)]).length ≤ 1001 + (res ++ [(lp, Sh.n2 l a b)]).length
          rw [List.length_append, List.length_append, List.length_append]; show init.length + 1 + 1 ≤ 1001 + (res.length + 1); omega
        · show wgt ((init ++ [(lp ++ [0], a)]) ++ [(lp ++ [1], b)]) < wgt (init ++ [(lp, .n2 l a b)])
          rw [wgt_snoc, wgt_snoc, wgt_snoc]; show _ + (2 * size a + 1) + (2 * size b + 1) < _ + (2 * (size a + size b + 1) + 1); omega
    · have : st = [] := by cases st with | nil => rfl | cons => cases cc
      subst this
      have h4 : res = elems s [] := by rw [← h4]; simp [rest]
      subst h4
      refine ⟨_, rfl, frz_lst h1 ?_⟩
      refine ⟨S, fun a o e => ?_, h⟩
      have n1 : a ≠ p := fun z => by rw [z, hp] at e; cases e
      have n2 : a ≠ w := fun z => by rw [z, hw0] at e; cases e
      rw [del_ne n1, h3 a n1 n2]; exact e
  · refine ⟨?_, ?_, ?_, ?_, ?_, ?_, ?_, none, none, none, none, rfl⟩
    · rw [ups_ne hpw2, ups_same]; rfl
    · rw [ups_same]; rfl
    · intro b n1 n2; rw [ups_ne n2, ups_ne n1]
    · show [] ++ rest [([], s)] = _; simp [rest]
    · intro x hx
      obtain rfl : x = ([], s) := by simpa using hx
      show 0 + size s ≤ 1000; omega
    · show 0 + (size s + 0) ≤ 1000; omega
    · show 1 ≤ 1001 + 0; omega
theorem w_ppaths (H : Up_paths P) (s : Sh) {S : Sto} (qx : QX) (hk : 2 ≤ k) (hs : size s ≤ 1000) (h : q (.lst ((pathsS s []).map itD)) S) : P.spec k 1 [encS s] S q qx := by
  obtain ⟨k, rfl⟩ : ∃ j, k = j + 1 := ⟨k - 1, by omega⟩
  refine Pg.spec_succ H.self rfl ?_
  and_intros
  refine w_elements H.to_all_elements s _ (by omega) hs ?_
  refine loopL_map (e := encE) (fun x : El => itD x.1) (elems s []) _ _ (fun x _ kk hh => ?_) ?_
  · exact ⟨_, rfl, hh⟩
  have hp := elems_perm s []
  refine ⟨_, (elems s []).map (·.1), rfl, fun t => ne_tup, ?_, fun ns rest e => ?_, fun ys hy hs => ?_⟩
  · have : (elems s []).map (fun x : El => itD x.1) = ((elems s []).map (·.1)).map itD := by rw [List.map_map]; rfl
    rw [this, its_map]
  · cases s with
    | e => cases e
    | n1 l c => exact (List.cons.inj e).1.symm
    | n2 l c d => exact (List.cons.inj e).1.symm
  · rw [sorted_paths (hy.trans hp) hs]
    exact h
theorem itD_eq {a b : List Int} : dEq (itD a) (itD b) = decide (a = b) := by
  show dEqL (a.map D.int) (b.map D.int) = _
  induction a generalizing b with
  | nil => cases b with
    | nil => rfl
    | cons => rfl
  | cons x a ih => cases b with
    | nil => rfl
    | cons y b =>
      show ((x == y) && dEqL (a.map D.int) (b.map D.int)) = _
      rw [ih]
      by_cases e : x = y
      · subst e; simp
      · rw [beq_eq_false_iff_ne.mpr e]; simp [e]
def labD : Sh → D
  | .n1 l _ => .str l
  | .n2 l _ _ => .str l
  | .e => .non
theorem w_label_at (H : Up_label_at P) (s t : Sh) (p : List Int) {S : Sto} (qx : QX) (hk : 2 ≤ k) (hs : size s ≤ 1000) (e : sub s p = some t) (ne : t ≠ .e) (h : q (labD t) S) : P.spec k 2 [encS s, itD p] S q qx := by
  obtain ⟨k, rfl⟩ : ∃ j, k = j + 1 := ⟨k - 1, by omega⟩
  refine Pg.spec_succ H.self rfl ?_
  and_intros
  refine w_elements H.to_all_elements s _ (by omega) hs ?_
  refine forL_pre (e := encE) (fun dn ρ S' => S' = S ∧ (∀ x ∈ dn, x.1 ≠ p) ∧ ∃ (x y : Option D), ρ = [some (encS s), some (itD p), x, y]) (elems s []) [] _ _ _ rfl ⟨rfl, by simp, none, none, rfl⟩ ?_ ?_
  · rintro dn ⟨xp, xs⟩ r ρ S' ha ⟨rfl, hd, x, y, rfl⟩ kk hh
    refine ⟨_, rfl, _, rfl, okd_it _, okd_it _, ?_⟩
    rw [itD_eq]
    refine if_c (fun c => ?_) (fun c => ?_)
    · have c := dec_t c
      subst c
      have hm : (xp, xs) ∈ elems s [] := by rw [ha]; simp
      obtain ⟨u, e1, e2, _⟩ := mem_elems s [] _ hm
      have e1 : xp = u := by simpa using e1
      subst e1
      have e3 : xs = t := Option.some.inj (e2.symm.trans e)
      subst e3
      cases xs with
      | e => exact absurd rfl ne
      | n1 l c => exact ⟨_, rfl, _, rfl, h⟩
      | n2 l a b => exact ⟨_, rfl, _, rfl, h⟩
    · refine hh _ _ ⟨rfl, fun z hz => ?_, _, _, rfl⟩
      rcases List.mem_append.mp hz with hz | hz
      · exact hd z hz
      · obtain rfl : z = (xp, xs) := by simpa using hz
        exact dec_f c
  · rintro ρ S' ⟨rfl, hd, x, y, rfl⟩
    exact absurd rfl (hd (p, t) (by simpa using elems_mem p s [] t e ne))
end
end U
/-! U3: formulas; how the laws draw them. -/
namespace U
open PySem DL
local macro_rules | `(tactic| and_intros) => `(tactic| repeat (first | refine ⟨_, rfl, ?_⟩ | refine ⟨rfl, ?_⟩))
inductive Atm where
  | inside (a b : Bs) | inn (a b : Bs) | tru | label (l x : Bs) | top (x : Bs) | same (x y : Bs) | child (w : Int) (x y : Bs) | below (x y : Bs)
deriving DecidableEq
inductive Qw where
  | some | all | someset | allset
deriving DecidableEq
inductive Fm where
  | at_ (a : Atm) | not (f : Fm) | bin (an : Bool) (f g : Fm) | q (w : Qw) (x : Bs) (f : Fm)
deriving DecidableEq
def encA : Atm → D
  | .inside a b => .tup [.str [105, 110, 115, 105, 100, 101], .str a, .str b]
  | .inn a b => .tup [.str [105, 110], .str a, .str b]
  | .tru => .tup [.str [116, 114, 117, 101]]
  | .label l x => .tup [.str [108, 97, 98, 101, 108], .str l, .str x]
  | .top x => .tup [.str [116, 111, 112], .str x]
  | .same x y => .tup [.str [115, 97, 109, 101], .str x, .str y]
  | .child w x y => .tup [.str [99, 104, 105, 108, 100], .int w, .str x, .str y]
  | .below x y => .tup [.str [98, 101, 108, 111, 119], .str x, .str y]
def encQ : Qw → Bs
  | .some => [115, 111, 109, 101]
  | .all => [97, 108, 108]
  | .someset => [115, 111, 109, 101, 115, 101, 116]
  | .allset => [97, 108, 108, 115, 101, 116]
def encB : Bool → Bs
  | true => [97, 110, 100]
  | false => [111, 114]
def enc : Fm → D
  | .at_ a => encA a
  | .not f => .tup [.str [110, 111, 116], enc f]
  | .bin an f g => .tup [.str (encB an), enc f, enc g]
  | .q w x f => .tup [.str (encQ w), .str x, enc f]
def dep : Fm → Nat
  | .at_ _ => 1
  | .not f => dep f + 1
  | .bin _ f g => max (dep f) (dep g) + 1
  | .q _ _ f => dep f + 1
theorem dep_pos : ∀ f, 1 ≤ dep f
  | .at_ _ => Nat.le_refl _
  | .not f => by unfold dep; omega
  | .bin _ f g => by unfold dep; omega
  | .q _ _ f => by unfold dep; omega
/-- a name of an element, of a set -/
def eN : Bs → Bool
  | c :: r => decide (r.length ≤ 1000) && (decide (97 ≤ c) && decide (c ≤ 122))
  | [] => false
def sN : Bs → Bool
  | c :: r => decide (r.length ≤ 1000) && (decide (65 ≤ c) && decide (c ≤ 90))
  | [] => false
theorem eN_sN {x : Bs} (h : eN x = true) (g : sN x = true) : False := by
  cases x with
  | nil => cases h
  | cons c r =>
    simp only [eN, sN, Bool.and_eq_true, decide_eq_true_eq] at h g
    omega
def isSq : Qw → Bool
  | .someset => true
  | .allset => true
  | _ => false
/-- which names stand there, fits the kind -/
def WSa (ways : Int) (labels : List Bs) (X Y : List Bs) : Atm → Prop
  | .inside a b => a ∈ Y ∧ b ∈ Y
  | .inn a b => a ∈ X ∧ b ∈ Y
  | .tru => True
  | .label l x => x ∈ X ∧ l ∈ labels
  | .top x => x ∈ X
  | .same x y => x ∈ X ∧ y ∈ X
  | .child w x y => x ∈ X ∧ y ∈ X ∧ 0 ≤ w ∧ w < ways
  | .below x y => x ∈ X ∧ y ∈ X
def WS (ways : Int) (labels : List Bs) : List Bs → List Bs → Fm → Prop
  | X, Y, .at_ a => WSa ways labels X Y a
  | X, Y, .not f => WS ways labels X Y f
  | X, Y, .bin _ f g => WS ways labels X Y f ∧ WS ways labels X Y g
  | X, Y, .q .some x f => (okS' x = true ∧ eN x = true) ∧ WS ways labels (x :: X) Y f
  | X, Y, .q .all x f => (okS' x = true ∧ eN x = true) ∧ WS ways labels (x :: X) Y f
  | X, Y, .q .someset x f => (okS' x = true ∧ sN x = true) ∧ WS ways labels X (x :: Y) f
  | X, Y, .q .allset x f => (okS' x = true ∧ sN x = true) ∧ WS ways labels X (x :: Y) f
theorem cons_sub {X X' : List Bs} {x : Bs} (h : ∀ z ∈ X, z ∈ X') : ∀ z ∈ x :: X, z ∈ x :: X' := fun z hz => by
  rcases List.mem_cons.mp hz with e | e
  · rw [e]; exact List.mem_cons_self
  · exact List.mem_cons_of_mem _ (h z e)
theorem WS.mono {ways : Int} {labels : List Bs} : ∀ {f : Fm} {X Y X' Y' : List Bs}, (∀ z ∈ X, z ∈ X') → (∀ z ∈ Y, z ∈ Y') → WS ways labels X Y f → WS ways labels X' Y' f
  | .at_ a, X, Y, X', Y', hx, hy, h => by
    cases a with
    | inside a b => exact ⟨hy _ h.1, hy _ h.2⟩
    | inn a b => exact ⟨hx _ h.1, hy _ h.2⟩
    | tru => trivial
    | label l x => exact ⟨hx _ h.1, h.2⟩
    | top x => exact hx _ h
    | same x y => exact ⟨hx _ h.1, hx _ h.2⟩
    | child w x y => exact ⟨hx _ h.1, hx _ h.2.1, h.2.2⟩
    | below x y => exact ⟨hx _ h.1, hx _ h.2⟩
  | .not f, X, Y, X', Y', hx, hy, h => WS.mono (f := f) hx hy h
  | .bin _ f g, X, Y, X', Y', hx, hy, h => ⟨WS.mono (f := f) hx hy h.1, WS.mono (f := g) hx hy h.2⟩
  | .q .some x f, X, Y, X', Y', hx, hy, h => ⟨h.1, WS.mono (f := f) (cons_sub hx) hy h.2⟩
  | .q .all x f, X, Y, X', Y', hx, hy, h => ⟨h.1, WS.mono (f := f) (cons_sub hx) hy h.2⟩
  | .q .someset x f, X, Y, X', Y', hx, hy, h => ⟨h.1, WS.mono (f := f) hx (cons_sub hy) h.2⟩
  | .q .allset x f, X, Y, X', Y', hx, hy, h => ⟨h.1, WS.mono (f := f) hx (cons_sub hy) h.2⟩
section
variable {P : Pg} {p : Addr}
abbrev nms (X : List Bs) : D := .lst (X.map .str)
theorem empty_eq (X : List Bs) : dEq (nms X) (.lst []) = decide (X = []) := by cases X <;> rfl
theorem empty_eqL (X : List Bs) : dEqL (X.map .str) [] = decide (X = []) := by cases X <;> rfl
/-- one of the names -/
theorem w_pick (H : Up__law_take P) {X : List Bs} (hX : X ≠ []) (hl : X.length ≤ 1000) {k : Nat} {S : Sto} {q : QD} {qx : QX} (hk : 1 ≤ k) (ht : TapeOk p S)
    (h : ∀ x S', x ∈ X → TapeOk p S' → Oth p S S' → ∀ (r : Int), atD (X.map D.str) r = some (.str x) → q (.int r) S') : P.spec k 8 [.ref p, .int ((X.map D.str).length : Nat)] S q qx := by
  have hz : ((X.map D.str).length : Int) = X.length := by rw [List.length_map]
  have hp : 0 < X.length := List.length_pos_iff.mpr hX
  refine w_take H (by omega) (by omega) ht _ hk fun r S1 h0 h1 ht1 o1 => ?_
  obtain ⟨x, hx, e⟩ := idx_list (xs := X) (e := D.str) h0 (by omega)
  exact h x S1 hx ht1 o1 r e
theorem w_atom (H : Up__law_atom P) {d : D} {ways : Int} {labels : List Bs} (kd : KindOk d ways labels) (X Y : List Bs) (hX : ∀ x ∈ X, okS' x = true) (hXl : X.length ≤ 1000) (hY : ∀ x ∈ Y, okS' x = true) (hYl : Y.length ≤ 1000) {k : Nat} {S : Sto} {q : QD} (qx : QX) (hk : 2 ≤ k) (ht : TapeOk p S)
    (h : ∀ a S', WSa ways labels X Y a → TapeOk p S' → Oth p S S' → q (encA a) S') : P.spec k 16 [.ref p, d, nms X, nms Y] S q qx := by
  obtain ⟨k, rfl⟩ : ∃ j, k = j + 1 := ⟨k - 1, by omega⟩
  refine Pg.spec_succ H.self rfl ?_
  obtain ⟨hl0, hl3, hls⟩ := kd.pos
  obtain ⟨rfl, hw, _⟩ := kd
  have ox := okX hX
  have oy := okX hY
  have T := H.to__law_take
  and_intros
  refine w_take T (by decide) (by decide) ht _ (by omega) fun r S1 h0 h1 ht1 o1 => ?_
  -- what follows if there is an element variable
  have single : X ≠ [] → (Y = [] ∨ ¬ r < 4) → wSs (P.G k qx) (f__law_atom.body.drop 2) [some (.ref p), some (.tup [.int ways, .tup (labels.map .str)]), some (nms X), some (nms Y), some (.int r), none, none] S1 (bodyK q) := by
    intro hx0 _
    refine ⟨_, rfl, ox, rfl, ?_⟩
    rw [empty_eq]
    refine if_f (decide_eq_false hx0) ?_
    and_intros
    refine w_pick T hx0 hXl (by omega) ht1 fun x S2 hx ht2 o2 r1 e1 => ?_
    refine ⟨_, e1, ?_⟩
    and_intros
    refine w_pick T hx0 hXl (by omega) ht2 fun y S3 hy ht3 o3 r2 e2 => ?_
    refine ⟨_, e2, ?_⟩
    and_intros
    have o13 := (o1.trans o2).trans o3
    by_cases c7 : r < 7
    · refine if_t (decide_eq_true c7) ?_
      and_intros
      refine w_pick T (by intro e; rw [e] at hl0; simp at hl0) (by omega) (by omega) ht3 fun l S4 hl ht4 o4 r3 e3 => ?_
      refine ⟨_, e3, ?_⟩
      and_intros
      exact h (.label l x) S4 ⟨hx, hl⟩ ht4 (o13.trans o4)
    · refine if_f (decide_eq_false c7) ?_
      and_intros
      by_cases c77 : r = 7
      · subst c77
        and_intros
        exact h (.top x) S3 hx ht3 o13
      · refine if_f (int_ne c77) ?_
        and_intros
        by_cases c8 : r = 8
        · subst c8
          and_intros
          exact h (.same x y) S3 ⟨hx, hy⟩ ht3 o13
        · refine if_f (int_ne c8) ?_
          and_intros
          by_cases c11 : r < 11
          · refine if_t (decide_eq_true c11) ?_
            and_intros
            refine w_take T (by omega) (by omega) ht3 _ (by omega) fun w S4 g0 g1 ht4 o4 => ?_
            and_intros
            exact h (.child w x y) S4 ⟨hx, hy, g0, g1⟩ ht4 (o13.trans o4)
          · refine if_f (decide_eq_false c11) ?_
            and_intros
            exact h (.below x y) S3 ⟨hx, hy⟩ ht3 o13
  have none_ : X = [] → Y = [] → wSs (P.G k qx) (f__law_atom.body.drop 2) [some (.ref p), some (.tup [.int ways, .tup (labels.map .str)]), some (nms X), some (nms Y), some (.int r), none, none] S1 (bodyK q) := by
    rintro rfl rfl
    and_intros
    exact h .tru S1 trivial ht1 o1
  refine ⟨_, rfl, oy, rfl, ?_⟩
  by_cases hy0 : Y = []
  · refine if_f (show (!dEq (nms Y) (.lst [])) = false by rw [empty_eq, decide_eq_true hy0]; rfl) ?_
    refine if_f (show (!dEq (nms Y) (.lst [])) = false by rw [empty_eq, decide_eq_true hy0]; rfl) ?_
    by_cases hx0 : X = []
    · exact none_ hx0 hy0
    · exact single hx0 (.inl hy0)
  · refine if_t (show (!dEq (nms Y) (.lst [])) = true by rw [empty_eq, decide_eq_false hy0]; rfl) ?_
    and_intros
    -- a set's atom
    have setA : (X = [] ∨ r < 4) → wSs (P.G k qx) [.ite (.boo false (.cons (.cmp .eq (.var 2) (.lst .nil)) (.cons (.cmp .eq (.var 4) (.int 0)) .nil))) [
      .ret (.tup (.cons (.str [105, 110, 115, 105, 100, 101]) (.cons (.idx (.var 3) (.call 8 (.cons (.var 0) (.cons (.bif .len (.var 3)) .nil)))) (.cons (.idx (.var 3) (.call 8 (.cons (.var 0) (.cons (.bif .len (.var 3)) .nil)))) .nil))))] [],
    .ret (.tup (.cons (.str [105, 110]) (.cons (.idx (.var 2) (.call 8 (.cons (.var 0) (.cons (.bif .len (.var 2)) .nil)))) (.cons (.idx (.var 3) (.call 8 (.cons (.var 0) (.cons (.bif .len (.var 3)) .nil)))) .nil))))]
        [some (.ref p), some (.tup [.int ways, .tup (labels.map .str)]), some (nms X), some (nms Y), some (.int r), none, none] S1 ⟨fun ρ' S' => wSs (P.G k qx) (f__law_atom.body.drop 2) ρ' S' (bodyK q), q, fun _ _ => False, fun _ _ => False⟩ := by
      intro _
      have ins : wSs (P.G k qx) [.ret (.tup (.cons (.str [105, 110, 115, 105, 100, 101]) (.cons (.idx (.var 3) (.call 8 (.cons (.var 0) (.cons (.bif .len (.var 3)) .nil)))) (.cons (.idx (.var 3) (.call 8 (.cons (.var 0) (.cons (.bif .len (.var 3)) .nil)))) .nil))))]
        [some (.ref p), some (.tup [.int ways, .tup (labels.map .str)]), some (nms X), some (nms Y), some (.int r), none, none] S1 ⟨fun ρ' S' => wSs (P.G k qx) [.ret (.tup (.cons (.str [105, 110]) (.cons (.idx (.var 2) (.call 8 (.cons (.var 0) (.cons (.bif .len (.var 2)) .nil)))) (.cons (.idx (.var 3) (.call 8 (.cons (.var 0) (.cons (.bif .len (.var 3)) .nil)))) .nil))))] ρ' S' ⟨fun ρ' S' => wSs (P.G k qx) (f__law_atom.body.drop 2) ρ' S' (bodyK q), q, fun _ _ => False, fun _ _ => False⟩, q, fun _ _ => False, fun _ _ => False⟩ := by
        and_intros
        refine w_pick T hy0 hYl (by omega) ht1 fun x S2 hx ht2 o2 r1 e1 => ?_
        refine ⟨_, e1, ?_⟩
        and_intros
        refine w_pick T hy0 hYl (by omega) ht2 fun y S3 hy ht3 o3 r2 e2 => ?_
        refine ⟨_, e2, ?_⟩
        and_intros
        exact h (.inside x y) S3 ⟨hx, hy⟩ ht3 ((o1.trans o2).trans o3)
      refine ⟨_, rfl, ox, rfl, ?_⟩
      by_cases hx0 : X = []
      · refine if_nf (show dEq (nms X) (.lst []) = true by rw [empty_eq, decide_eq_true hx0]) ?_
        refine if_t (show dEq (nms X) (.lst []) = true by rw [empty_eq, decide_eq_true hx0]) ?_
        exact ins
      · refine if_nt (show dEq (nms X) (.lst []) = false by rw [empty_eq, decide_eq_false hx0]) ?_
        and_intros
        by_cases c0 : r = 0
        · subst c0
          exact ins
        · refine if_f (int_ne c0) ?_
          and_intros
          refine w_pick T hx0 hXl (by omega) ht1 fun x S2 hx ht2 o2 r1 e1 => ?_
          refine ⟨_, e1, ?_⟩
          and_intros
          refine w_pick T hy0 hYl (by omega) ht2 fun y S3 hy ht3 o3 r2 e2 => ?_
          refine ⟨_, e2, ?_⟩
          and_intros
          exact h (.inn x y) S3 ⟨hx, hy⟩ ht3 ((o1.trans o2).trans o3)
    by_cases c : r < 4
    · refine if_nf (decide_eq_true c) ?_
      refine if_t (decide_eq_true c) ?_
      exact setA (.inr c)
    · refine if_nt (decide_eq_false c) ?_
      refine ⟨_, rfl, ox, rfl, ?_⟩
      by_cases hx0 : X = []
      · refine if_t (show dEq (nms X) (.lst []) = true by rw [empty_eq, decide_eq_true hx0]) ?_
        exact setA (.inl hx0)
      · refine if_f (show dEq (nms X) (.lst []) = false by rw [empty_eq, decide_eq_false hx0]) ?_
        exact single hx0 (.inr c)
theorem w_matrix (H : Up__law_matrix P) {d : D} {ways : Int} {labels : List Bs} (kd : KindOk d ways labels) (Y : List Bs) (hY : ∀ x ∈ Y, okS' x = true) (hYl : Y.length ≤ 1000) : ∀ (n : Nat) (X : List Bs) (k : Nat) (c : Int) (sg : D) (S : Sto) (q : QD) (qx : QX), (∀ x ∈ X, okS' x = true) → X.length + n ≤ 1000 → c = n → n + 3 ≤ k → sg = nms X → TapeOk p S →
    (∀ f S', WS ways labels X Y f → dep f ≤ n + 1 → TapeOk p S' → Oth p S S' → q (enc f) S') → P.spec k 17 [.ref p, d, sg, nms Y, .int c] S q qx
  | _, _, 0, _, _, _, _, _, _, _, _, hk, _, _, _ => by omega
  | 0, X, k + 1, c, sg, S, q, qx, hX, hl, hc, hk, hs, ht, h => by
    refine Pg.spec_succ H.self rfl ?_
    subst hc; subst hs
    and_intros
    refine w_atom H.to__law_atom kd X Y hX (by omega) hY hYl qx (by omega) ht fun a S' wa ht' o1 => ?_
    exact h (.at_ a) S' wa (by unfold dep; omega) ht' o1
  | n + 1, X, k + 1, c, sg, S, q, qx, hX, hl, hc, hk, hs, ht, h => by
    refine Pg.spec_succ H.self rfl ?_
    subst hs
    have T := H.to__law_take
    and_intros
    refine if_t (decide_eq_true (show (0 : Int) < c by omega)) ?_
    and_intros
    refine w_take T (by decide) (by decide) ht _ (by omega) fun r S1 h0 h1 ht1 o1 => ?_
    and_intros
    by_cases c3 : r < 3
    · refine if_t (decide_eq_true c3) ?_
      and_intros
      refine w_atom H.to__law_atom kd X Y hX (by omega) hY hYl qx (by omega) ht1 fun a S' wa ht' o2 => ?_
      exact h (.at_ a) S' wa (by unfold dep; omega) ht' (o1.trans o2)
    refine if_f (decide_eq_false c3) ?_
    and_intros
    by_cases c33 : r = 3
    · subst c33
      and_intros
      refine w_matrix H kd Y hY hYl n X k _ _ _ _ _ hX (by omega) (by omega) (by omega) rfl ht1 fun f S2 wf df ht2 o2 => ?_
      and_intros
      exact h (.not f) S2 wf (by unfold dep; omega) ht2 (o1.trans o2)
    refine if_f (int_ne c33) ?_
    and_intros
    by_cases c7 : r < 7
    · refine if_t (decide_eq_true c7) ?_
      and_intros
      refine w_take T (by decide) (by decide) ht1 _ (by omega) fun r1 S2 g0 g1 ht2 o2 => ?_
      have o12 := o1.trans o2
      have : r1 = 0 ∨ r1 = 1 := by omega
      rcases this with rfl | rfl
      · refine ⟨_, rfl, ?_⟩
        and_intros
        refine w_matrix H kd Y hY hYl n X k _ _ _ _ _ hX (by omega) (by omega) (by omega) rfl ht2 fun f S3 wf df ht3 o3 => ?_
        and_intros
        refine w_matrix H kd Y hY hYl n X k _ _ _ _ _ hX (by omega) (by omega) (by omega) rfl ht3 fun g S4 wg dg ht4 o4 => ?_
        exact h (.bin true f g) S4 ⟨wf, wg⟩ (by unfold dep; omega) ht4 ((o12.trans o3).trans o4)
      · refine ⟨_, rfl, ?_⟩
        and_intros
        refine w_matrix H kd Y hY hYl n X k _ _ _ _ _ hX (by omega) (by omega) (by omega) rfl ht2 fun f S3 wf df ht3 o3 => ?_
        and_intros
        refine w_matrix H kd Y hY hYl n X k _ _ _ _ _ hX (by omega) (by omega) (by omega) rfl ht3 fun g S4 wg dg ht4 o4 => ?_
        exact h (.bin false f g) S4 ⟨wf, wg⟩ (by unfold dep; omega) ht4 ((o12.trans o3).trans o4)
    refine if_f (decide_eq_false c7) ?_
    and_intros
    refine w_take T (by decide) (by decide) ht1 _ (by omega) fun r1 S2 g0 g1 ht2 o2 => ?_
    have o12 := o1.trans o2
    have last : ∀ (al : Bool) (y : Bs) (S3 : Sto), (okS' y = true ∧ eN y = true) → TapeOk p S3 → Oth p S S3 → wSs (P.G k qx) [.ret (.tup (.cons (.var 6) (.cons (.var 7) (.cons (.call 17 (.cons (.var 0) (.cons (.var 1) (.cons (.bin .add (.var 2) (.lst (.cons (.var 7) .nil))) (.cons (.var 3) (.cons (.bin .sub (.var 4) (.int 1)) .nil)))))) .nil))))]
        [some (.ref p), some d, some (nms X), some (nms Y), some (.int c), some (.int r), some (.str (encQ (if al = true then .all else .some))), some (.str y), none] S3 (bodyK q) := by
      intro al y S3 oy ht3 o3
      and_intros
      refine ⟨by rw [List.length_map]; show X.length + 1 ≤ 16777216; omega, ?_⟩
      and_intros
      refine w_matrix H kd Y hY hYl n (X ++ [y]) k _ _ _ _ _ (fun x hx => ?_) (by simp at hl ⊢; omega) (by omega) (by omega) (by simp [nms]) ht3 fun f S4 wf df ht4 o4 => ?_
      · rcases List.mem_append.mp hx with h | h
        · exact hX x h
        · rw [show x = y by simpa using h]; exact oy.1
      · have wf : WS ways labels (y :: X) Y f := wf.mono (fun z hz => by
          rcases List.mem_append.mp hz with h | h
          · exact List.mem_cons_of_mem _ h
          · rw [show z = y by simpa using h]; exact List.mem_cons_self) (fun _ h => h)
        cases al
        · exact h (.q .some y f) S4 ⟨oy, wf⟩ (by unfold dep; omega) ht4 (o3.trans o4)
        · exact h (.q .all y f) S4 ⟨oy, wf⟩ (by unfold dep; omega) ht4 (o3.trans o4)
    have nm : ∀ (al : Bool), wSs (P.G k qx) [.set (.nm 7) (.idx (.lst (.cons (.str [120]) (.cons (.str [121]) (.cons (.str [122]) .nil)))) (.call 8 (.cons (.var 0) (.cons (.int 3) .nil)))),
          .ret (.tup (.cons (.var 6) (.cons (.var 7) (.cons (.call 17 (.cons (.var 0) (.cons (.var 1) (.cons (.bin .add (.var 2) (.lst (.cons (.var 7) .nil))) (.cons (.var 3) (.cons (.bin .sub (.var 4) (.int 1)) .nil)))))) .nil))))]
        [some (.ref p), some d, some (nms X), some (nms Y), some (.int c), some (.int r), some (.str (encQ (if al = true then .all else .some))), none, none] S2 (bodyK q) := by
      intro al
      and_intros
      refine w_take T (by decide) (by decide) ht2 _ (by omega) fun r2 S3 g0 g1 ht3 o3 => ?_
      have o13 := o12.trans o3
      have : r2 = 0 ∨ r2 = 1 ∨ r2 = 2 := by omega
      rcases this with rfl | rfl | rfl
      · exact ⟨_, rfl, last al [120] S3 ⟨by decide, by decide⟩ ht3 o13⟩
      · exact ⟨_, rfl, last al [121] S3 ⟨by decide, by decide⟩ ht3 o13⟩
      · exact ⟨_, rfl, last al [122] S3 ⟨by decide, by decide⟩ ht3 o13⟩
    have : r1 = 0 ∨ r1 = 1 := by omega
    rcases this with rfl | rfl
    · exact ⟨_, rfl, nm false⟩
    · exact ⟨_, rfl, nm true⟩
/-- names quantified one after the other -/
theorem w_closed (H : Up__law_closed P) {ways : Int} {labels : List Bs} (X Y : List Bs) (hX : ∀ x ∈ X, okS' x = true ∧ eN x = true) (hY : ∀ x ∈ Y, okS' x = true ∧ sN x = true) {f : Fm} (wf : WS ways labels X Y f) {k : Nat} {S : Sto} {q : QD} (qx : QX) (hk : 2 ≤ k) (ht : TapeOk p S)
    (h : ∀ g S', WS ways labels [] [] g → dep g = dep f + X.length + Y.length → TapeOk p S' → Oth p S S' → q (enc g) S') : P.spec k 18 [.ref p, enc f, nms X, nms Y] S q qx := by
  obtain ⟨k, rfl⟩ : ∃ j, k = j + 1 := ⟨k - 1, by omega⟩
  refine Pg.spec_succ H.self rfl ?_
  have T := H.to__law_take
  and_intros
  refine forL_ind (e := D.str) (fun r ρ S' => TapeOk p S' ∧ Oth p S S' ∧ (∀ x ∈ r, okS' x = true ∧ eN x = true) ∧ ∃ (g : Fm) (x : Option D), ρ = [some (.ref p), some (enc g), some (nms X), some (nms Y), x] ∧ WS ways labels r Y g ∧ dep g + r.length = dep f + X.length) X _ _ ⟨ht, .refl, hX, f, none, rfl, wf, rfl⟩ ?_ ?_
  · rintro x r ρ S1 ⟨ht1, o1, hr, g, y, rfl, wg, dg⟩ kk hh
    have ox := hr x List.mem_cons_self
    have hr' := fun z hz => hr z (List.mem_cons_of_mem _ hz)
    have dg : dep g + (r.length + 1) = dep f + X.length := dg
    and_intros
    refine w_take T (by decide) (by decide) ht1 _ (by omega) fun r1 S2 g0 g1 ht2 o2 => ?_
    have : r1 = 0 ∨ r1 = 1 := by omega
    rcases this with rfl | rfl
    · refine ⟨_, rfl, ?_⟩
      and_intros
      exact hh _ _ ⟨ht2, o1.trans o2, hr', .q .some x g, _, rfl, ⟨ox, wg⟩, by show dep g + 1 + _ = _; omega⟩
    · refine ⟨_, rfl, ?_⟩
      and_intros
      exact hh _ _ ⟨ht2, o1.trans o2, hr', .q .all x g, _, rfl, ⟨ox, wg⟩, by show dep g + 1 + _ = _; omega⟩
  · rintro ρ S1 ⟨ht1, o1, _, g, y, rfl, wg, dg⟩
    have dg : dep g + 0 = dep f + X.length := dg
    and_intros
    refine forL_ind (e := D.str) (fun r ρ S' => TapeOk p S' ∧ Oth p S S' ∧ (∀ x ∈ r, okS' x = true ∧ sN x = true) ∧ ∃ (g : Fm) (x : Option D), ρ = [some (.ref p), some (enc g), some (nms X), some (nms Y), x] ∧ WS ways labels [] r g ∧ dep g + r.length = dep f + X.length + Y.length) Y _ _ ⟨ht1, o1, hY, g, _, rfl, wg, by omega⟩ ?_ ?_
    · rintro x r ρ S1 ⟨ht1, o1, hr, g, y, rfl, wg, dg⟩ kk hh
      have ox := hr x List.mem_cons_self
      have hr' := fun z hz => hr z (List.mem_cons_of_mem _ hz)
      have dg : dep g + (r.length + 1) = dep f + X.length + Y.length := dg
      and_intros
      refine w_take T (by decide) (by decide) ht1 _ (by omega) fun r1 S2 g0 g1 ht2 o2 => ?_
      have : r1 = 0 ∨ r1 = 1 := by omega
      rcases this with rfl | rfl
      · refine ⟨_, rfl, ?_⟩
        and_intros
        exact hh _ _ ⟨ht2, o1.trans o2, hr', .q .someset x g, _, rfl, ⟨ox, wg⟩, by show dep g + 1 + _ = _; omega⟩
      · refine ⟨_, rfl, ?_⟩
        and_intros
        exact hh _ _ ⟨ht2, o1.trans o2, hr', .q .allset x g, _, rfl, ⟨ox, wg⟩, by show dep g + 1 + _ = _; omega⟩
    · rintro ρ S1 ⟨ht1, o1, _, g, y, rfl, wg, dg⟩
      have dg : dep g + 0 = dep f + X.length + Y.length := dg
      and_intros
      exact h g S1 wg (by omega) ht1 o1
theorem w_sentence (H : Up__law_sentence P) {d : D} {ways : Int} {labels : List Bs} (kd : KindOk d ways labels) {k : Nat} (n : Nat) {S : Sto} {q : QD} (qx : QX) (hn : n ≤ 900) (hk : n + 4 ≤ k) (ht : TapeOk p S)
    (h : ∀ g S', WS ways labels [] [] g → dep g ≤ n + 4 → TapeOk p S' → Oth p S S' → q (enc g) S') : P.spec k 19 [.ref p, d, .int n] S q qx := by
  obtain ⟨k, rfl⟩ : ∃ j, k = j + 1 := ⟨k - 1, by omega⟩
  refine Pg.spec_succ H.self rfl ?_
  have T := H.to__law_take
  and_intros
  refine w_take T (by decide) (by decide) ht _ (by omega) fun r S1 h0 h1 ht1 o1 => ?_
  have go : ∀ (X Y : List Bs) (S2 : Sto), (∀ x ∈ X, okS' x = true ∧ eN x = true) → X.length ≤ 2 → (∀ x ∈ Y, okS' x = true ∧ sN x = true) → Y.length ≤ 1 → TapeOk p S2 → Oth p S S2 → wSs (P.G k qx) (f__law_sentence.body.drop 2) [some (.ref p), some d, some (.int n), some (nms X), some (nms Y)] S2 (bodyK q) := by
    intro X Y S2 hX lX hY lY ht2 o2
    and_intros
    refine w_matrix H.to__law_matrix kd Y (fun y hy => (hY y hy).1) (by omega) n X k _ _ _ _ _ (fun x hx => (hX x hx).1) (by omega) rfl (by omega) rfl ht2 fun f S3 wf df ht3 o3 => ?_
    and_intros
    refine w_closed H.to__law_closed X Y hX hY wf _ (by omega) ht3 fun g S4 wg dg ht4 o4 => ?_
    exact h g S4 wg (by omega) ht4 ((o2.trans o3).trans o4)
  have two : ∀ (X : List Bs), (∀ x ∈ X, okS' x = true ∧ eN x = true) → X.length ≤ 2 → wSs (P.G k qx) (f__law_sentence.body.drop 1) [some (.ref p), some d, some (.int n), some (nms X), none] S1 (bodyK q) := by
    intro X hX lX
    and_intros
    refine w_take T (by decide) (by decide) ht1 _ (by omega) fun r1 S2 g0 g1 ht2 o2 => ?_
    refine ⟨by decide, ?_⟩
    have : r1 = 0 ∨ r1 = 1 ∨ r1 = 2 := by omega
    rcases this with rfl | rfl | rfl
    · exact go X [] S2 hX lX (by simp) (by simp) ht2 (o1.trans o2)
    · exact go X [] S2 hX lX (by simp) (by simp) ht2 (o1.trans o2)
    · exact go X [[88]] S2 hX lX (by decide) (by decide) ht2 (o1.trans o2)
  have : r = 0 ∨ r = 1 := by omega
  rcases this with rfl | rfl
  · exact two [[120]] (by decide) (by decide)
  · exact two [[120], [121]] (by decide) (by decide)
end
end U
/-! U4: what holds in a shape; the law's own trying. -/
namespace U
open PySem DL
local macro_rules | `(tactic| and_intros) => `(tactic| repeat (first | refine ⟨_, rfl, ?_⟩ | refine ⟨rfl, ?_⟩))
theorem okSh_sub : ∀ (p : List Int) (s t : Sh), okSh s → sub s p = some t → okSh t
  | [], s, t, h, e => by rw [sub_nil] at e; cases e; exact h
  | x :: p, .e, t, h, e => by simp [sub] at e
  | x :: p, .n1 l c, t, h, e => okSh_sub p c t h.2 (sub_n1 e).2
  | x :: p, .n2 l a b, t, h, e => by
    rcases sub_n2 e with ⟨_, e⟩ | ⟨_, e⟩
    · exact okSh_sub p a t h.2.1 e
    · exact okSh_sub p b t h.2.2 e
/-- the values: paths for X, sets of paths for Y -/
structure VE (s : Sh) (kvs : List (D × D)) (X Y : List Bs) : Prop where
  nd : (kvs.map (·.1)).Nodup
  ex : ∀ x ∈ X, eN x = true
  sy : ∀ y ∈ Y, sN y = true
  len : kvs.length ≤ 100
  one : ∀ x ∈ X, ∃ p, lookD kvs (.str x) = some (itD p) ∧ Node s p
  set_ : ∀ y ∈ Y, ∃ ps, lookD kvs (.str y) = some (.tup (List.map itD ps)) ∧ (∀ p ∈ ps, Node s p)
def val (kvs : List (D × D)) (x : Bs) : D := (lookD kvs (.str x)).getD .non
def items : D → List D
  | .tup ds => ds
  | _ => []
def holdA (s : Sh) (kvs : List (D × D)) : Atm → Bool
  | .tru => true
  | .label l x => dEq (labD (((tupInts (val kvs x)).bind (sub s)).getD .e)) (.str l)
  | .top x => dEq (val kvs x) (.tup [])
  | .child w x y => dEq (val kvs y) (.tup (items (val kvs x) ++ [.int w]))
  | .below x y => decide (((items (val kvs x)).length : Int) < (items (val kvs y)).length) && dEq (.tup (cutD (items (val kvs y)) none (some (items (val kvs x)).length))) (val kvs x)
  | .same x y => dEq (val kvs x) (val kvs y)
  | .inn x y => (items (val kvs y)).any fun z => dEq z (val kvs x)
  | .inside a b => dEq (.lst ((items (val kvs a)).filter fun z => !(items (val kvs b)).any fun w => dEq w z)) (.lst [])
theorem okd_cut {ps : List D} {n : Nat} {lo hi : Option Int} (h : ps.all (okd n) = true) : (cutD ps lo hi).all (okd n) = true := by
  refine List.all_eq_true.mpr fun d hd => List.all_eq_true.mp h d ?_
  unfold cutD at hd
  exact List.mem_of_mem_drop (List.mem_of_mem_take hd)
section
variable {P : Pg} {q : QD} {k : Nat}
theorem w_atom_holds (H : Up__law_atom_holds P) {s : Sh} {kvs : List (D × D)} {X Y : List Bs} (os : okSh s) (hs : size s ≤ 14) (ve : VE s kvs X Y) (a : Atm) {ways : Int} {labels : List Bs} (hlb : ∀ l ∈ labels, okS' l = true) (wa : WSa ways labels X Y a) {S : Sto} (qx : QX) (hk : 2 ≤ k) (h : q (.bl (holdA s kvs a)) S) : P.spec k 21 [encA a, encS s, .dct kvs] S q qx := by
  obtain ⟨k, rfl⟩ : ∃ j, k = j + 1 := ⟨k - 1, by omega⟩
  refine Pg.spec_succ H.self rfl ?_
  cases a with
  | tru => exact ⟨_, rfl, _, rfl, _, rfl, rfl, rfl, h⟩
  | label l x =>
    obtain ⟨p, e, t, e2, ne, _⟩ := ve.one x wa.1
    and_intros
    refine ⟨_, e, ?_⟩
    refine w_part H.to__law_part s t p _ (by omega) e2 ?_
    have ot := okSh_sub p s t os e2
    have hv : holdA s kvs (.label l x) = dEq (labD t) (.str l) := by
      show dEq (labD (((tupInts (val kvs x)).bind (sub s)).getD .e)) (.str l) = _
      unfold val
      rw [e]
      show dEq (labD (((intsD (p.map D.int)).bind (sub s)).getD .e)) (.str l) = _
      rw [ints_map]
      show dEq (labD ((sub s p).getD .e)) (.str l) = _
      rw [e2]
      rfl
    rw [hv] at h
    cases t with
    | e => exact absurd rfl ne
    | n1 l' c =>
      and_intros
      exact ⟨okS'_lit ot.1, okS'_lit (hlb _ wa.2), h⟩
    | n2 l' c d =>
      and_intros
      exact ⟨okS'_lit ot.1, okS'_lit (hlb _ wa.2), h⟩
  | top x =>
    obtain ⟨p, e, _⟩ := ve.one x wa
    and_intros
    refine ⟨_, e, ?_⟩
    have hv : holdA s kvs (.top x) = dEq (itD p) (.tup []) := by show dEq (val kvs x) _ = _; unfold val; rw [e]; rfl
    rw [hv] at h
    exact ⟨okd_it p, rfl, h⟩
  | same x y =>
    obtain ⟨p, e, _⟩ := ve.one x wa.1
    obtain ⟨r, e2, _⟩ := ve.one y wa.2
    have hv : holdA s kvs (.same x y) = dEq (itD p) (itD r) := by show dEq (val kvs x) (val kvs y) = _; unfold val; rw [e, e2]; rfl
    rw [hv] at h
    and_intros
    refine ⟨_, e, ?_⟩
    and_intros
    refine ⟨_, e2, ?_⟩
    and_intros
    exact ⟨okd_it p, okd_it r, h⟩
  | child w x y =>
    obtain ⟨p, e, _, _, _, zp⟩ := ve.one x wa.1
    obtain ⟨r, e2, _⟩ := ve.one y wa.2.1
    have hv : holdA s kvs (.child w x y) = dEq (itD r) (.tup (p.map D.int ++ [.int w])) := by show dEq (val kvs y) (.tup (items (val kvs x) ++ [.int w])) = _; unfold val; rw [e, e2]; rfl
    rw [hv] at h
    and_intros
    refine ⟨_, e, ?_⟩
    and_intros
    refine ⟨_, e2, ?_⟩
    and_intros
    refine ⟨by rw [List.length_map]; show p.length + 1 ≤ 16777216; omega, ?_⟩
    refine ⟨okd_it r, ?_, h⟩
    show (p.map D.int ++ [D.int w]).all (okd 59) = true
    refine List.all_eq_true.mpr fun d hd => ?_
    rcases List.mem_append.mp hd with hd | hd
    · obtain ⟨i, _, rfl⟩ := List.mem_map.mp hd; exact okd_int
    · obtain rfl : d = D.int w := by simpa using hd
      exact okd_int
  | below x y =>
    obtain ⟨p, e, _⟩ := ve.one x wa.1
    obtain ⟨r, e2, _⟩ := ve.one y wa.2
    have hv : holdA s kvs (.below x y) = (decide (((p.map D.int).length : Int) < (r.map D.int).length) && dEq (.tup (cutD (r.map D.int) none (some (p.map D.int).length))) (itD p)) := by
      show (decide (((items (val kvs x)).length : Int) < (items (val kvs y)).length) && dEq (.tup (cutD (items (val kvs y)) none (some (items (val kvs x)).length))) (val kvs x)) = _
      unfold val; rw [e, e2]; rfl
    rw [hv] at h
    and_intros
    refine ⟨_, e, ?_⟩
    and_intros
    refine ⟨_, e2, ?_⟩
    and_intros
    cases c : decide (((p.map D.int).length : Int) < (r.map D.int).length) with
    | false =>
      rw [c] at h
      exact h
    | true =>
      rw [c] at h
      and_intros
      refine ⟨?_, okd_it p, h⟩
      exact okd_cut (List.all_eq_true.mpr fun d hd => by
        obtain ⟨i, _, rfl⟩ := List.mem_map.mp hd
        exact okd_int)
  | inn x y =>
    obtain ⟨p, e, _⟩ := ve.one x wa.1
    obtain ⟨ps, e2, _⟩ := ve.set_ y wa.2
    have hv : holdA s kvs (.inn x y) = (ps.map itD).any fun z => dEq z (itD p) := by
      show ((items (val kvs y)).any fun z => dEq z (val kvs x)) = _
      unfold val; rw [e, e2]; rfl
    rw [hv] at h
    and_intros
    refine ⟨_, e, ?_⟩
    and_intros
    refine ⟨_, e2, ?_⟩
    and_intros
    exact ⟨okd_it p, okd_its ps, h⟩
  | inside a b =>
    obtain ⟨ps, e, _⟩ := ve.set_ a wa.1
    obtain ⟨rs, e2, _⟩ := ve.set_ b wa.2
    have hv : holdA s kvs (.inside a b) = dEq (.lst ((ps.map itD).filter fun z => !(rs.map itD).any fun w => dEq w z)) (.lst []) := by
      show dEq (.lst ((items (val kvs a)).filter fun z => !(items (val kvs b)).any fun w => dEq w z)) (.lst []) = _
      unfold val; rw [e, e2]; rfl
    rw [hv] at h
    and_intros
    refine ⟨_, e, ?_⟩
    and_intros
    refine ⟨_, e2, ?_⟩
    and_intros
    refine loopL_filter (e := itD) (fun z => !(rs.map itD).any fun w => dEq w (itD z)) itD ps _ _ (fun z _ kk hh => ?_) ?_
    · and_intros
      refine ⟨okd_it z, okd_its rs, ?_⟩
      cases c : !((rs.map itD).any fun w => dEq w (itD z)) with
      | true => rw [c] at hh; exact ⟨_, rfl, hh⟩
      | false => rw [c] at hh; exact hh
    · and_intros
      have e3 : (ps.map itD).filter (fun z => !(rs.map itD).any fun w => dEq w z) = (ps.filter fun z => !(rs.map itD).any fun w => dEq w (itD z)).map itD := by
        rw [List.filter_map]
        rfl
      rw [e3] at h
      refine ⟨?_, rfl, h⟩
      exact List.all_eq_true.mpr fun d hd => by
        obtain ⟨i, _, rfl⟩ := List.mem_map.mp hd
        exact okd_it i
end
abbrev setD (a : List (List Int)) : D := .tup (a.map itD)
def step (acc : List (List (List Int))) (p : List Int) : List (List (List Int)) := acc ++ acc.map (· ++ [p])
def subs (ps : List (List Int)) : List (List (List Int)) := ps.foldl step [[]]
theorem subs_ok : ∀ (ps : List (List Int)) (acc : List (List (List Int))) (n m : Nat) (P : List Int → Prop), (∀ p ∈ ps, P p) → (∀ a ∈ acc, a.length ≤ n ∧ ∀ z ∈ a, P z) → acc.length ≤ m →
    (∀ a ∈ ps.foldl step acc, a.length ≤ n + ps.length ∧ ∀ z ∈ a, P z) ∧ (ps.foldl step acc).length ≤ m * 2 ^ ps.length
  | [], acc, n, m, P, _, ha, hm => ⟨ha, by simpa using hm⟩
  | p :: ps, acc, n, m, P, hp, ha, hm => by
    have := subs_ok ps (step acc p) (n + 1) (m * 2) P (fun x hx => hp x (List.mem_cons_of_mem _ hx)) (fun a h => ?_) (by unfold step; rw [List.length_append, List.length_map]; omega)
    · refine ⟨fun a h => ?_, ?_⟩
      · obtain ⟨h1, h2⟩ := this.1 a h
        exact ⟨by rw [List.length_cons]; omega, h2⟩
      · refine Nat.le_trans this.2 ?_
        rw [List.length_cons, Nat.pow_succ]
        exact Nat.le_of_eq (by rw [Nat.mul_assoc, Nat.mul_comm 2])
    · unfold step at h
      rcases List.mem_append.mp h with h | h
      · obtain ⟨h1, h2⟩ := ha a h
        exact ⟨by omega, h2⟩
      · obtain ⟨b, hb, rfl⟩ := List.mem_map.mp h
        obtain ⟨h1, h2⟩ := ha b hb
        refine ⟨by rw [List.length_append]; show b.length + 1 ≤ n + 1; omega, fun z hz => ?_⟩
        rcases List.mem_append.mp hz with hz | hz
        · exact h2 z hz
        · obtain rfl : z = p := by simpa using hz
          exact hp z List.mem_cons_self
theorem pow14 {n : Nat} (h : n ≤ 14) : 2 ^ n ≤ 16384 := Nat.pow_le_pow_right (n := 2) (by decide) h
section
variable {P : Pg} {q : QD} {k : Nat}
theorem w_subsets (H : Up__law_subsets P) (ps : List (List Int)) (h10 : ps.length ≤ 14) {S : Sto} (qx : QX) (hk : 1 ≤ k) (h : q (.lst ((subs ps).map setD)) S) : P.spec k 20 [.lst (ps.map itD)] S q qx := by
  obtain ⟨k, rfl⟩ : ∃ j, k = j + 1 := ⟨k - 1, by omega⟩
  refine Pg.spec_succ H.self rfl ?_
  and_intros
  refine forL_ind (e := itD) (fun r ρ S' => S' = S ∧ ∃ (acc : List (List (List Int))) (x y : Option D) (n : Nat), ρ = [some (.lst (ps.map itD)), some (.lst (acc.map setD)), x, y] ∧ r.foldl step acc = subs ps ∧ (∀ a ∈ acc, a.length ≤ n) ∧ n + r.length ≤ 14 ∧ acc.length ≤ 2 ^ n) ps _ _ ⟨rfl, [[]], none, none, 0, rfl, rfl, by simp, by omega, by simp⟩ ?_ ?_
  · rintro p r ρ S' ⟨rfl, acc, x, y, n, rfl, e, ha, hn, hl⟩ kk hh
    have hn : n + (r.length + 1) ≤ 14 := hn
    have hb := pow14 (show n ≤ 14 by omega)
    and_intros
    refine loopL_map (e := setD) (fun a => .tup (a.map itD ++ [itD p])) acc _ _ (fun a hm kk h => ?_) ?_
    · and_intros
      exact ⟨by have := ha a hm; rw [List.length_map]; show a.length + 1 ≤ 16777216; omega, h⟩
    · and_intros
      refine ⟨by rw [List.length_map, List.length_map]; show acc.length + acc.length ≤ 16777216; omega, ?_⟩
      have e2 : acc.map setD ++ acc.map (fun a => D.tup (a.map itD ++ [itD p])) = (step acc p).map setD := by
        unfold step
        rw [List.map_append, List.map_map]
        congr 1
        refine List.map_congr_left fun a _ => ?_
        show D.tup (a.map itD ++ [itD p]) = .tup ((a ++ [p]).map itD)
        rw [List.map_append]
        rfl
      refine hh _ _ ⟨rfl, step acc p, _, _, n + 1, by rw [← e2]; rfl, e, fun a hm => ?_, by omega, ?_⟩
      · unfold step at hm
        rcases List.mem_append.mp hm with hm | hm
        · have := ha a hm; omega
        · obtain ⟨b, hb, rfl⟩ := List.mem_map.mp hm
          have := ha b hb
          rw [List.length_append]
          show b.length + 1 ≤ n + 1
          omega
      · unfold step
        rw [List.length_append, List.length_map, Nat.pow_succ]
        omega
  · rintro ρ S' ⟨rfl, acc, x, y, n, rfl, e, _⟩
    have e : acc = subs ps := e
    subst e
    exact ⟨_, rfl, h⟩
end
/-- is f so in s -/
def hold (s : Sh) : List (D × D) → Fm → Bool
  | kvs, .at_ a => holdA s kvs a
  | kvs, .not f => !hold s kvs f
  | kvs, .bin true f g => hold s kvs f && hold s kvs g
  | kvs, .bin false f g => hold s kvs f || hold s kvs g
  | kvs, .q .some x f => (pathsS s []).any fun p => hold s (putD kvs (.str x) (itD p)) f
  | kvs, .q .all x f => (pathsS s []).all fun p => hold s (putD kvs (.str x) (itD p)) f
  | kvs, .q .someset x f => (subs (pathsS s [])).any fun a => hold s (putD kvs (.str x) (setD a)) f
  | kvs, .q .allset x f => (subs (pathsS s [])).all fun a => hold s (putD kvs (.str x) (setD a)) f
theorem all_any {α : Type} (p : α → Bool) : ∀ l : List α, (l.any fun x => !p x) = !(l.all p)
  | [] => rfl
  | x :: l => by rw [List.any_cons, List.all_cons, all_any p l]; cases p x <;> simp
theorem any_all {α : Type} (p : α → Bool) : ∀ l : List α, (l.all fun x => !p x) = !(l.any p)
  | [] => rfl
  | x :: l => by rw [List.any_cons, List.all_cons, any_all p l]; cases p x <;> simp
/-! ### the values grow -/
theorem look_put (x : Bs) (d : D) : ∀ (kvs : List (D × D)) (y : Bs), lookD (putD kvs (.str x) d) (.str y) = if x = y then some d else lookD kvs (.str y)
  | [], y => by
    show (if keyb (.str x) (.str y) = true then some d else none) = _
    by_cases e : x = y
    · rw [if_pos (by simpa [keyb] using e), if_pos e]
    · rw [if_neg (by simpa [keyb] using e), if_neg e]; rfl
  | (k, v) :: r, y => by
    unfold putD
    by_cases hk : keyb k (.str x) = true
    · rw [if_pos hk]
      have : k = .str x := by
        cases k with
        | str t => rw [show t = x by simpa [keyb] using hk]
        | _ => cases hk
      subst this
      show (if keyb (.str x) (.str y) = true then some d else lookD r (.str y)) = if x = y then some d else (if keyb (.str x) (.str y) = true then some v else lookD r (.str y))
      by_cases e : x = y
      · rw [if_pos (by simpa [keyb] using e), if_pos e]
      · rw [if_neg (by simpa [keyb] using e), if_neg e, if_neg (by simpa [keyb] using e)]
    · rw [if_neg hk]
      show (if keyb k (.str y) = true then some v else lookD (putD r (.str x) d) (.str y)) = if x = y then some d else (if keyb k (.str y) = true then some v else lookD r (.str y))
      rw [look_put x d r y]
      by_cases hy : keyb k (.str y) = true
      · rw [if_pos hy, if_pos hy]
        have : x ≠ y := fun e => hk (by rw [e]; exact hy)
        rw [if_neg this]
      · rw [if_neg hy, if_neg hy]
theorem put_keys (x : Bs) (d : D) : ∀ (kvs : List (D × D)), (kvs.map (·.1)).Nodup → ((putD kvs (.str x) d).map (·.1)).Nodup ∧ (putD kvs (.str x) d).length ≤ kvs.length + 1 ∧ ∀ k, k ∈ (putD kvs (.str x) d).map (·.1) → k = .str x ∨ k ∈ kvs.map (·.1)
  | [], _ => ⟨by simp [putD], by simp [putD], fun k h => by simpa [putD] using h⟩
  | (k, v) :: r, nd => by
    have nd' := List.nodup_cons.mp (show (k :: r.map (·.1)).Nodup from nd)
    obtain ⟨a, b, c⟩ := put_keys x d r nd'.2
    unfold putD
    by_cases hk : keyb k (.str x) = true
    · rw [if_pos hk]
      exact ⟨nd, by simp, fun z hz => .inr hz⟩
    · rw [if_neg hk]
      refine ⟨List.nodup_cons.mpr ⟨fun h => ?_, a⟩, by rw [List.length_cons, List.length_cons]; omega, fun z hz => ?_⟩
      · rcases c k h with h | h
        · subst h; exact hk (by simp [keyb])
        · exact nd'.1 h
      · rcases List.mem_cons.mp (show z ∈ k :: (putD r (.str x) d).map (·.1) from hz) with h | h
        · exact .inr (by rw [h]; exact List.mem_cons_self)
        · rcases c z h with h | h
          · exact .inl h
          · exact .inr (List.mem_cons_of_mem _ h)
theorem cons_all {p : Bs → Bool} {X : List Bs} {x : Bs} (h : ∀ z ∈ X, p z = true) (hx : p x = true) : ∀ z ∈ x :: X, p z = true := fun z hz => by
  rcases List.mem_cons.mp hz with e | e
  · rw [e]; exact hx
  · exact h z e
/-- n more may come -/
structure VN (s : Sh) (kvs : List (D × D)) (X Y : List Bs) (n : Nat) : Prop where
  ve : VE s kvs X Y
  room : kvs.length + n ≤ 100
theorem VN.one {s : Sh} {kvs : List (D × D)} {X Y : List Bs} {n : Nat} {x : Bs} {p : List Int} (v : VN s kvs X Y (n + 1)) (hx : eN x = true) (hp : Node s p) : VN s (putD kvs (.str x) (itD p)) (x :: X) Y n := by
  obtain ⟨a, b, c⟩ := put_keys x (itD p) kvs v.ve.nd
  have := v.room
  refine ⟨⟨a, cons_all v.ve.ex hx, v.ve.sy, by omega, fun y hy => ?_, fun y hy => ?_⟩, by omega⟩
  · rw [look_put]
    by_cases e : x = y
    · rw [if_pos e]; exact ⟨p, rfl, hp⟩
    · rw [if_neg e]
      rcases List.mem_cons.mp hy with hy | hy
      · exact absurd hy.symm e
      · exact v.ve.one y hy
  · rw [look_put, if_neg (fun e => eN_sN hx (by rw [e]; exact v.ve.sy y hy))]
    exact v.ve.set_ y hy
theorem VN.set_ {s : Sh} {kvs : List (D × D)} {X Y : List Bs} {n : Nat} {x : Bs} {ps : List (List Int)} (v : VN s kvs X Y (n + 1)) (hx : sN x = true) (hp : ∀ p ∈ ps, Node s p) : VN s (putD kvs (.str x) (setD ps)) X (x :: Y) n := by
  obtain ⟨a, b, c⟩ := put_keys x (setD ps) kvs v.ve.nd
  have := v.room
  refine ⟨⟨a, v.ve.ex, cons_all v.ve.sy hx, by omega, fun y hy => ?_, fun y hy => ?_⟩, by omega⟩
  · rw [look_put, if_neg (fun e => eN_sN (v.ve.ex y hy) (by rw [← e]; exact hx))]
    exact v.ve.one y hy
  · rw [look_put]
    by_cases e : x = y
    · rw [if_pos e]; exact ⟨ps, rfl, hp⟩
    · rw [if_neg e]
      rcases List.mem_cons.mp hy with hy | hy
      · exact absurd hy.symm e
      · exact v.ve.set_ y hy
theorem VN.mono {s : Sh} {kvs : List (D × D)} {X Y : List Bs} {n m : Nat} (v : VN s kvs X Y n) (h : m ≤ n) : VN s kvs X Y m := ⟨v.ve, by have := v.room; omega⟩
abbrev loopS : List DL.S := [.each (.nm 6) (.over (.var 4)) [
      .set (.nm 7) (.copyd (.var 2)),
      .put (.var 7) (.idx (.var 0) (.int 1)) (.var 6),
      .ite (.cmp .eq (.call 22 (.cons (.idx (.var 0) (.int 2)) (.cons (.var 1) (.cons (.frz (.var 7)) .nil)))) (.var 5)) [
        .ret (.var 5)] []],
    .ret (.not (.var 5))]
theorem w_loop {P : Pg} {α : Type} (e : α → D) (xs : List α) (wd : Bs) (nm : Bs) (f : Fm) (s : Sh) (kvs : List (D × D)) (wanted : Bool) (H : α → Bool) (k : Nat) (qx : QX) (hn : (kvs.map (·.1)).Nodup) (hl : kvs.length ≤ 100)
    (hb : ∀ x ∈ xs, ∀ (S : Sto) (q : QD), (∀ S', q (.bl (H x)) S') → P.spec k 22 [enc f, encS s, .dct (putD kvs (.str nm) (e x))] S q qx) (K : Ks) (S : Sto)
    (h : ∀ S', K.rt (.bl (if (xs.any fun x => H x == wanted) = true then wanted else !wanted)) S') :
    wSs (P.G k qx) loopS [some (.tup [.str wd, .str nm, enc f]), some (encS s), some (.dct kvs), some (.str wd), some (.lst (xs.map e)), some (.bl wanted), none, none] S K := by
  refine ⟨_, rfl, ?_⟩
  refine forL_ind (e := e) (fun r ρ S' => ∃ (y z : Option D) (dn : List α), ρ = [some (.tup [.str wd, .str nm, enc f]), some (encS s), some (.dct kvs), some (.str wd), some (.lst (xs.map e)), some (.bl wanted), y, z] ∧ xs = dn ++ r ∧ ∀ x ∈ dn, (H x == wanted) = false) xs _ _ ⟨none, none, [], rfl, rfl, by simp⟩ ?_ ?_
  · rintro x r ρ S' ⟨y, z, dn, rfl, e1, e2⟩ kk hh
    have hm : x ∈ xs := by rw [e1]; simp
    refine ⟨_, rfl, _, rfl, hn, fun p hp => ?_⟩
    refine ⟨_, rfl, _, rfl, _, rfl, _, rfl, ?_⟩
    refine put_ref ups_same rfl (by show kvs.length < 16777216; omega) ?_
    refine ⟨_, rfl, _, rfl, _, rfl, _, rfl, frz_dct ups_same ?_⟩
    refine hb x hm _ _ fun S3 => ?_
    refine ⟨_, rfl, rfl, rfl, ?_⟩
    cases c : (H x == wanted) with
    | true =>
      refine if_t c ?_
      refine ⟨_, rfl, ?_⟩
      have h' := h S3
      rw [if_pos (List.any_eq_true.mpr ⟨x, hm, c⟩)] at h'
      exact h'
    | false =>
      refine if_f c ?_
      refine hh _ _ ⟨_, _, dn ++ [x], rfl, by rw [e1]; simp, fun y hy => ?_⟩
      rcases List.mem_append.mp hy with hy | hy
      · exact e2 y hy
      · obtain rfl : y = x := by simpa using hy
        exact c
  · rintro ρ S' ⟨y, z, dn, rfl, e1, e2⟩
    refine ⟨_, rfl, _, rfl, ?_⟩
    have h' := h S'
    rw [List.append_nil] at e1
    subst e1
    rw [if_neg (fun q => by
      obtain ⟨x, hx, c⟩ := List.any_eq_true.mp q
      rw [e2 x hx] at c
      cases c)] at h'
    exact h'
theorem any_t {α : Type} (H : α → Bool) (xs : List α) : (if (xs.any fun x => H x == true) = true then true else !true) = xs.any H := by
  have : (fun x => H x == true) = H := by funext x; cases H x <;> rfl
  rw [this]
  cases xs.any H <;> rfl
theorem any_f {α : Type} (H : α → Bool) (xs : List α) : (if (xs.any fun x => H x == false) = true then false else !false) = xs.all H := by
  have : (fun x => H x == false) = fun x => !H x := by funext x; cases H x <;> rfl
  rw [this, all_any]
  cases xs.all H <;> rfl
theorem w_holds {P : Pg} (H : Up__law_holds P) {s : Sh} (os : okSh s) (hs : size s ≤ 14) {ways : Int} {labels : List Bs} (hlb : ∀ l ∈ labels, okS' l = true) : ∀ (f : Fm) (k : Nat) (kvs : List (D × D)) (X Y : List Bs) (S : Sto) (q : QD) (qx : QX), WS ways labels X Y f → VN s kvs X Y (dep f) → dep f + 18 ≤ k → (∀ S', q (.bl (hold s kvs f)) S') → P.spec k 22 [enc f, encS s, .dct kvs] S q qx
  | f, 0, _, _, _, _, _, _, _, _, hk, _ => by omega
  | f, k + 1, kvs, X, Y, S, q, qx, ws, vn, hk, h => by
    refine Pg.spec_succ H.self rfl ?_
    cases f with
    | at_ a =>
      cases a <;> (
        (and_intros)
        exact w_atom_holds H.to__law_atom_holds os hs vn.ve _ hlb ws _ (by omega) (h S))
    | not f =>
      and_intros
      refine w_holds H os hs hlb f k kvs X Y _ _ _ ws (vn.mono (by show dep f ≤ dep f + 1; omega)) (by unfold dep at hk; omega) fun S' => ?_
      exact ⟨_, rfl, h S'⟩
    | bin an f g =>
      have v1 : VN s kvs X Y (dep f) := vn.mono (by show dep f ≤ max (dep f) (dep g) + 1; omega)
      have v2 : VN s kvs X Y (dep g) := vn.mono (by show dep g ≤ max (dep f) (dep g) + 1; omega)
      have k1 : dep f + 18 ≤ k := by unfold dep at hk; omega
      have k2 : dep g + 18 ≤ k := by unfold dep at hk; omega
      cases an
      · and_intros
        refine w_holds H os hs hlb f k kvs X Y _ _ _ ws.1 v1 k1 fun S' => ?_
        refine ⟨_, rfl, ?_⟩
        have h2 : ∀ S', q (.bl (hold s kvs f || hold s kvs g)) S' := h
        cases c : hold s kvs f with
        | true => rw [c] at h2; exact h2 S'
        | false =>
          rw [c] at h2
          and_intros
          exact w_holds H os hs hlb g k kvs X Y _ _ _ ws.2 v2 k2 fun S' => h2 S'
      · and_intros
        refine w_holds H os hs hlb f k kvs X Y _ _ _ ws.1 v1 k1 fun S' => ?_
        refine ⟨_, rfl, ?_⟩
        have h2 : ∀ S', q (.bl (hold s kvs f && hold s kvs g)) S' := h
        cases c : hold s kvs f with
        | false => rw [c] at h2; exact h2 S'
        | true =>
          rw [c] at h2
          and_intros
          exact w_holds H os hs hlb g k kvs X Y _ _ _ ws.2 v2 k2 fun S' => h2 S'
    | q w x f =>
      have k1 : dep f + 18 ≤ k := by unfold dep at hk; omega
      have node : ∀ p ∈ pathsS s [], Node s p := fun p hp => by
        obtain ⟨u, rfl, n⟩ := node_paths s [] p hp
        exact n
      have sets : ∀ a ∈ subs (pathsS s []), ∀ p ∈ a, Node s p := fun a ha => ((subs_ok (pathsS s []) [[]] 0 1 (Node s) node (by simp) (by simp)).1 a ha).2
      cases w
      · and_intros
        refine w_paths H.to__law_paths s [] _ k _ _ _ os (by omega) (by show 0 + _ ≤ 1000; omega) (by omega) rfl ?_
        refine ⟨_, rfl, rfl, rfl, _, rfl, rfl, rfl, ?_⟩
        refine w_loop itD (pathsS s []) _ x f s kvs true (fun p => hold s (putD kvs (.str x) (itD p)) f) k qx vn.ve.nd vn.ve.len (fun p hp S q hq => w_holds H os hs hlb f k _ _ _ _ _ _ ws.2 (vn.one ws.1.2 (node p hp)) k1 hq) _ _ fun S' => ?_
        rw [any_t]
        exact h S'
      · and_intros
        refine w_paths H.to__law_paths s [] _ k _ _ _ os (by omega) (by show 0 + _ ≤ 1000; omega) (by omega) rfl ?_
        refine ⟨_, rfl, rfl, rfl, _, rfl, rfl, rfl, ?_⟩
        refine w_loop itD (pathsS s []) _ x f s kvs false (fun p => hold s (putD kvs (.str x) (itD p)) f) k qx vn.ve.nd vn.ve.len (fun p hp S q hq => w_holds H os hs hlb f k _ _ _ _ _ _ ws.2 (vn.one ws.1.2 (node p hp)) k1 hq) _ _ fun S' => ?_
        rw [any_f]
        exact h S'
      · and_intros
        refine w_paths H.to__law_paths s [] _ k _ _ _ os (by omega) (by show 0 + _ ≤ 1000; omega) (by omega) rfl ?_
        and_intros
        refine w_subsets H.to__law_subsets (pathsS s []) (by rw [paths_len]; exact hs) _ (by omega) ?_
        refine ⟨_, rfl, rfl, rfl, ?_⟩
        refine w_loop setD (subs (pathsS s [])) _ x f s kvs true (fun p => hold s (putD kvs (.str x) (setD p)) f) k qx vn.ve.nd vn.ve.len (fun p hp S q hq => w_holds H os hs hlb f k _ _ _ _ _ _ ws.2 (vn.set_ ws.1.2 (sets p hp)) k1 hq) _ _ fun S' => ?_
        rw [any_t]
        exact h S'
      · and_intros
        refine w_paths H.to__law_paths s [] _ k _ _ _ os (by omega) (by show 0 + _ ≤ 1000; omega) (by omega) rfl ?_
        and_intros
        refine w_subsets H.to__law_subsets (pathsS s []) (by rw [paths_len]; exact hs) _ (by omega) ?_
        refine ⟨_, rfl, rfl, rfl, ?_⟩
        refine w_loop setD (subs (pathsS s [])) _ x f s kvs false (fun p => hold s (putD kvs (.str x) (setD p)) f) k qx vn.ve.nd vn.ve.len (fun p hp S q hq => w_holds H os hs hlb f k _ _ _ _ _ _ ws.2 (vn.set_ ws.1.2 (sets p hp)) k1 hq) _ _ fun S' => ?_
        rw [any_f]
        exact h S'
end U
/-! U5: the program's plain meaning. -/
namespace U
open PySem DL
local macro_rules | `(tactic| and_intros) => `(tactic| repeat (first | refine ⟨_, rfl, ?_⟩ | refine ⟨rfl, ?_⟩))
section
variable {P : Pg} {q : QD} {k : Nat}
theorem w_psubsets (H : Up_subsets P) (ps : List (List Int)) (h10 : ps.length ≤ 14) {S : Sto} (qx : QX) (hk : 1 ≤ k) (h : q (.lst ((subs ps).map setD)) S) : P.spec k 4 [.lst (ps.map itD)] S q qx := by
  obtain ⟨k, rfl⟩ : ∃ j, k = j + 1 := ⟨k - 1, by omega⟩
  refine Pg.spec_succ H.self rfl ?_
  and_intros
  refine forL_ind (e := itD) (fun r ρ S' => S' = S ∧ ∃ (acc : List (List (List Int))) (x y : Option D) (n : Nat), ρ = [some (.lst (ps.map itD)), some (.lst (acc.map setD)), x, y] ∧ r.foldl step acc = subs ps ∧ (∀ a ∈ acc, a.length ≤ n) ∧ n + r.length ≤ 14 ∧ acc.length ≤ 2 ^ n) ps _ _ ⟨rfl, [[]], none, none, 0, rfl, rfl, by simp, by omega, by simp⟩ ?_ ?_
  · rintro p r ρ S' ⟨rfl, acc, x, y, n, rfl, e, ha, hn, hl⟩ kk hh
    have hn : n + (r.length + 1) ≤ 14 := hn
    have hb := pow14 (show n ≤ 14 by omega)
    and_intros
    refine loopL_map (e := setD) (fun a => .tup (a.map itD ++ [itD p])) acc _ _ (fun a hm kk h => ?_) ?_
    · and_intros
      exact ⟨by have := ha a hm; rw [List.length_map]; show a.length + 1 ≤ 16777216; omega, h⟩
    · and_intros
      refine ⟨by rw [List.length_map, List.length_map]; show acc.length + acc.length ≤ 16777216; omega, ?_⟩
      have e2 : acc.map setD ++ acc.map (fun a => D.tup (a.map itD ++ [itD p])) = (step acc p).map setD := by
        unfold step
        rw [List.map_append, List.map_map]
        congr 1
        refine List.map_congr_left fun a _ => ?_
        show D.tup (a.map itD ++ [itD p]) = .tup ((a ++ [p]).map itD)
        rw [List.map_append]
        rfl
      refine hh _ _ ⟨rfl, step acc p, _, _, n + 1, by rw [← e2]; rfl, e, fun a hm => ?_, by omega, ?_⟩
      · unfold step at hm
        rcases List.mem_append.mp hm with hm | hm
        · have := ha a hm; omega
        · obtain ⟨b, hb, rfl⟩ := List.mem_map.mp hm
          have := ha b hb
          rw [List.length_append]
          show b.length + 1 ≤ n + 1
          omega
      · unfold step
        rw [List.length_append, List.length_map, Nat.pow_succ]
        omega
  · rintro ρ S' ⟨rfl, acc, x, y, n, rfl, e, _⟩
    have e : acc = subs ps := e
    subst e
    exact ⟨_, rfl, h⟩

theorem w_with_value (H : Up_with_value P) (kvs : List (D × D)) (x : Bs) (v : D) {S : Sto} (qx : QX) (hk : 1 ≤ k) (hn : (kvs.map (·.1)).Nodup) (hl : kvs.length ≤ 1000) (h : q (.dct (putD kvs (.str x) v)) S) : P.spec k 5 [.dct kvs, .str x, v] S q qx := by
  obtain ⟨k, rfl⟩ : ∃ j, k = j + 1 := ⟨k - 1, by omega⟩
  refine Pg.spec_fgt H.self rfl ?_
  refine ⟨_, rfl, _, rfl, hn, fun p hp => ?_⟩
  and_intros
  refine put_ref ups_same rfl (by show kvs.length < 16777216; omega) ?_
  refine ⟨_, rfl, frz_dct ups_same ⟨S, fun a o e => ?_, h⟩⟩
  have n1 : a ≠ p := fun z => by rw [z, hp] at e; cases e
  rw [del_ne n1, ups_ne n1, ups_ne n1]; exact e
theorem filt_all {α : Type} (f : α → Bool) : ∀ l : List α, dEq (.lst ((l.filter fun z => !f z).map fun _ => D.non)) (.lst []) = l.all f
  | [] => rfl
  | a :: l => by
    have ih := filt_all f l
    rw [List.all_cons, List.filter_cons]
    cases f a with
    | true => simpa using ih
    | false => rfl
theorem lst_nil (l : List D) : dEq (.lst l) (.lst []) = l.isEmpty := by cases l <;> rfl
theorem filt_all2 (f : D → Bool) (l : List D) : dEq (.lst (l.filter fun z => !f z)) (.lst []) = l.all f := by
  rw [lst_nil]
  induction l with
  | nil => rfl
  | cons a l ih =>
    rw [List.all_cons, List.filter_cons]
    cases f a with
    | true => simpa using ih
    | false => rfl
theorem w_patom (H : Up_atom_holds P) {s : Sh} {kvs : List (D × D)} {X Y : List Bs} (os : okSh s) (hs : size s ≤ 40) (ve : VE s kvs X Y) (a : Atm) {ways : Int} {labels : List Bs} (hlb : ∀ l ∈ labels, okS' l = true) (wa : WSa ways labels X Y a) {S : Sto} (qx : QX) (hk : 3 ≤ k) (h : q (.bl (holdA s kvs a)) S) : P.spec k 3 [encA a, encS s, .dct kvs] S q qx := by
  obtain ⟨k, rfl⟩ : ∃ j, k = j + 1 := ⟨k - 1, by omega⟩
  refine Pg.spec_succ H.self rfl ?_
  cases a with
  | tru => exact ⟨_, rfl, _, rfl, _, rfl, rfl, rfl, h⟩
  | label l x =>
    obtain ⟨p, e, t, e2, ne, _⟩ := ve.one x wa.1
    and_intros
    refine ⟨_, e, ?_⟩
    refine w_label_at H.to_label_at s t p _ (by omega) (by omega) e2 ne ?_
    have ot := okSh_sub p s t os e2
    have hv : holdA s kvs (.label l x) = dEq (labD t) (.str l) := by
      show dEq (labD (((tupInts (val kvs x)).bind (sub s)).getD .e)) (.str l) = _
      unfold val
      rw [e]
      show dEq (labD (((intsD (p.map D.int)).bind (sub s)).getD .e)) (.str l) = _
      rw [ints_map]
      show dEq (labD ((sub s p).getD .e)) (.str l) = _
      rw [e2]
      rfl
    rw [hv] at h
    cases t with
    | e => exact absurd rfl ne
    | n1 l' c =>
      and_intros
      exact ⟨okS'_lit ot.1, okS'_lit (hlb _ wa.2), h⟩
    | n2 l' c d =>
      and_intros
      exact ⟨okS'_lit ot.1, okS'_lit (hlb _ wa.2), h⟩
  | top x =>
    obtain ⟨p, e, _⟩ := ve.one x wa
    and_intros
    refine ⟨_, e, ?_⟩
    have hv : holdA s kvs (.top x) = dEq (itD p) (.tup []) := by show dEq (val kvs x) _ = _; unfold val; rw [e]; rfl
    rw [hv] at h
    exact ⟨okd_it p, rfl, h⟩
  | same x y =>
    obtain ⟨p, e, _⟩ := ve.one x wa.1
    obtain ⟨r, e2, _⟩ := ve.one y wa.2
    have hv : holdA s kvs (.same x y) = dEq (itD p) (itD r) := by show dEq (val kvs x) (val kvs y) = _; unfold val; rw [e, e2]; rfl
    rw [hv] at h
    and_intros
    refine ⟨_, e, ?_⟩
    and_intros
    refine ⟨_, e2, ?_⟩
    and_intros
    exact ⟨okd_it p, okd_it r, h⟩
  | child w x y =>
    obtain ⟨p, e, _, _, _, zp⟩ := ve.one x wa.1
    obtain ⟨r, e2, _⟩ := ve.one y wa.2.1
    have hv : holdA s kvs (.child w x y) = dEq (itD r) (.tup (p.map D.int ++ [.int w])) := by show dEq (val kvs y) (.tup (items (val kvs x) ++ [.int w])) = _; unfold val; rw [e, e2]; rfl
    rw [hv] at h
    and_intros
    refine ⟨_, e2, ?_⟩
    and_intros
    refine ⟨_, e, ?_⟩
    and_intros
    refine ⟨by rw [List.length_map]; show p.length + 1 ≤ 16777216; omega, ?_⟩
    refine ⟨okd_it r, ?_, h⟩
    show (p.map D.int ++ [D.int w]).all (okd 59) = true
    refine List.all_eq_true.mpr fun d hd => ?_
    rcases List.mem_append.mp hd with hd | hd
    · obtain ⟨i, _, rfl⟩ := List.mem_map.mp hd; exact okd_int
    · obtain rfl : d = D.int w := by simpa using hd
      exact okd_int
  | below x y =>
    obtain ⟨p, e, _⟩ := ve.one x wa.1
    obtain ⟨r, e2, _⟩ := ve.one y wa.2
    have hv : holdA s kvs (.below x y) = (decide (((p.map D.int).length : Int) < (r.map D.int).length) && dEq (.tup (cutD (r.map D.int) none (some (p.map D.int).length))) (itD p)) := by
      show (decide (((items (val kvs x)).length : Int) < (items (val kvs y)).length) && dEq (.tup (cutD (items (val kvs y)) none (some (items (val kvs x)).length))) (val kvs x)) = _
      unfold val; rw [e, e2]; rfl
    rw [hv] at h
    and_intros
    refine ⟨_, e, ?_⟩
    and_intros
    refine ⟨_, e2, ?_⟩
    and_intros
    cases c : decide (((p.map D.int).length : Int) < (r.map D.int).length) with
    | false =>
      rw [c] at h
      exact h
    | true =>
      rw [c] at h
      and_intros
      refine ⟨?_, okd_it p, h⟩
      exact okd_cut (List.all_eq_true.mpr fun d hd => by
        obtain ⟨i, _, rfl⟩ := List.mem_map.mp hd
        exact okd_int)
  | inn x y =>
    obtain ⟨p, e, _⟩ := ve.one x wa.1
    obtain ⟨ps, e2, _⟩ := ve.set_ y wa.2
    have hv : holdA s kvs (.inn x y) = (ps.map itD).any fun z => dEq z (itD p) := by
      show ((items (val kvs y)).any fun z => dEq z (val kvs x)) = _
      unfold val; rw [e, e2]; rfl
    rw [hv] at h
    and_intros
    refine ⟨_, e, ?_⟩
    and_intros
    refine ⟨_, e2, ?_⟩
    and_intros
    exact ⟨okd_it p, okd_its ps, h⟩
  | inside a b =>
    obtain ⟨ps, e, _⟩ := ve.set_ a wa.1
    obtain ⟨rs, e2, _⟩ := ve.set_ b wa.2
    have hv : holdA s kvs (.inside a b) = (ps.map itD).all fun z => (rs.map itD).any fun w => dEq w z := by
      show dEq (.lst ((items (val kvs a)).filter fun z => !(items (val kvs b)).any fun w => dEq w z)) (.lst []) = _
      unfold val; rw [e, e2]
      exact filt_all2 (fun z => (rs.map itD).any fun w => dEq w z) (ps.map itD)
    rw [hv] at h
    and_intros
    refine ⟨_, e, ?_⟩
    and_intros
    refine ⟨_, e2, ?_⟩
    and_intros
    refine loopL_map (e := itD) (fun z => .bl ((rs.map itD).any fun w => dEq w (itD z))) ps _ _ (fun z _ kk hh => ?_) ?_
    · and_intros
      exact ⟨okd_it z, okd_its rs, hh⟩
    · refine ⟨_, ps.map fun z => (rs.map itD).any fun w => dEq w (itD z), rfl, fun t => ne_tup, ?_, ?_⟩
      · have : ps.map (fun z => D.bl ((rs.map itD).any fun w => dEq w (itD z))) = (ps.map fun z => (rs.map itD).any fun w => dEq w (itD z)).map .bl := by rw [List.map_map]; rfl
        rw [this]; exact bools_all
      · rw [List.all_map] at h
        rw [List.all_map]
        exact h
end
abbrev ploopS : List DL.S := [.each (.nm 6) (.over (.var 4)) [
      .ite (.cmp .eq (.call 6 (.cons (.idx (.var 0) (.int 2)) (.cons (.var 1) (.cons (.call 5 (.cons (.var 2) (.cons (.idx (.var 0) (.int 1)) (.cons (.var 6) .nil)))) .nil)))) (.var 5)) [
        .ret (.var 5)] []],
    .ret (.not (.var 5))]
theorem w_ploop {P : Pg} (Hv : Up_with_value P) {α : Type} (e : α → D) (xs : List α) (wd : Bs) (nm : Bs) (f : Fm) (s : Sh) (kvs : List (D × D)) (wanted : Bool) (H : α → Bool) (k : Nat) (qx : QX) (hk : 1 ≤ k) (hn : (kvs.map (·.1)).Nodup) (hl : kvs.length ≤ 100)
    (hb : ∀ x ∈ xs, ∀ (S : Sto) (q : QD), q (.bl (H x)) S → P.spec k 6 [enc f, encS s, .dct (putD kvs (.str nm) (e x))] S q qx) (K : Ks) (S : Sto)
    (h : K.rt (.bl (if (xs.any fun x => H x == wanted) = true then wanted else !wanted)) S) :
    wSs (P.G k qx) ploopS [some (.tup [.str wd, .str nm, enc f]), some (encS s), some (.dct kvs), some (.str wd), some (.lst (xs.map e)), some (.bl wanted), none] S K := by
  refine ⟨_, rfl, ?_⟩
  refine forL_pre (e := e) (fun dn ρ S' => S' = S ∧ (∀ x ∈ dn, (H x == wanted) = false) ∧ ∃ (y : Option D), ρ = [some (.tup [.str wd, .str nm, enc f]), some (encS s), some (.dct kvs), some (.str wd), some (.lst (xs.map e)), some (.bl wanted), y]) xs [] xs _ _ rfl ⟨rfl, by simp, none, rfl⟩ ?_ ?_
  · rintro dn x r ρ S' ha ⟨rfl, e2, y, rfl⟩ kk hh
    have hm : x ∈ xs := by rw [ha]; simp
    and_intros
    refine w_with_value Hv kvs nm (e x) _ hk hn (by omega) ?_
    refine hb x hm _ _ ?_
    and_intros
    refine if_c (fun c => ?_) (fun c => ?_)
    · have c : (H x == wanted) = true := c
      refine ⟨_, rfl, ?_⟩
      rw [if_pos (List.any_eq_true.mpr ⟨x, hm, c⟩)] at h
      exact h
    · have c : (H x == wanted) = false := c
      refine hh _ _ ⟨rfl, fun y hy => ?_, _, rfl⟩
      rcases List.mem_append.mp hy with hy | hy
      · exact e2 y hy
      · rw [show y = x by simpa using hy]; exact c
  · rintro ρ S' ⟨rfl, e2, y, rfl⟩
    refine ⟨_, rfl, _, rfl, ?_⟩
    rw [if_neg (fun q => by
      obtain ⟨x, hx, c⟩ := List.any_eq_true.mp q
      rw [e2 x hx] at c
      cases c)] at h
    exact h
theorem w_pholds {P : Pg} (H : Up_holds P) {s : Sh} (os : okSh s) (hs : size s ≤ 14) {ways : Int} {labels : List Bs} (hlb : ∀ l ∈ labels, okS' l = true) : ∀ (f : Fm) (k : Nat) (kvs : List (D × D)) (X Y : List Bs) (S : Sto) (q : QD) (qx : QX), WS ways labels X Y f → VN s kvs X Y (dep f) → dep f + 4 ≤ k → q (.bl (hold s kvs f)) S → P.spec k 6 [enc f, encS s, .dct kvs] S q qx
  | f, 0, _, _, _, _, _, _, _, _, hk, _ => by omega
  | f, k + 1, kvs, X, Y, S, q, qx, ws, vn, hk, h => by
    refine Pg.spec_succ H.self rfl ?_
    cases f with
    | at_ a =>
      cases a <;> (
        and_intros
        exact w_patom H.to_atom_holds os (by omega) vn.ve _ hlb ws _ (by have := dep_pos (.at_ .tru); unfold dep at hk; omega) h)
    | not f =>
      and_intros
      refine w_pholds H os hs hlb f k kvs X Y _ _ _ ws (vn.mono (by show dep f ≤ dep f + 1; omega)) (by unfold dep at hk; omega) ?_
      exact ⟨_, rfl, h⟩
    | bin an f g =>
      have v1 : VN s kvs X Y (dep f) := vn.mono (by show dep f ≤ max (dep f) (dep g) + 1; omega)
      have v2 : VN s kvs X Y (dep g) := vn.mono (by show dep g ≤ max (dep f) (dep g) + 1; omega)
      have k1 : dep f + 4 ≤ k := by unfold dep at hk; omega
      have k2 : dep g + 4 ≤ k := by unfold dep at hk; omega
      cases an
      · and_intros
        refine w_pholds H os hs hlb f k kvs X Y _ _ _ ws.1 v1 k1 ?_
        refine ⟨_, rfl, ?_⟩
        have h2 : q (.bl (hold s kvs f || hold s kvs g)) S := h
        cases c : hold s kvs f with
        | true => rw [c] at h2; exact h2
        | false =>
          rw [c] at h2
          and_intros
          exact w_pholds H os hs hlb g k kvs X Y _ _ _ ws.2 v2 k2 h2
      · and_intros
        refine w_pholds H os hs hlb f k kvs X Y _ _ _ ws.1 v1 k1 ?_
        refine ⟨_, rfl, ?_⟩
        have h2 : q (.bl (hold s kvs f && hold s kvs g)) S := h
        cases c : hold s kvs f with
        | false => rw [c] at h2; exact h2
        | true =>
          rw [c] at h2
          and_intros
          exact w_pholds H os hs hlb g k kvs X Y _ _ _ ws.2 v2 k2 h2
    | q w x f =>
      have k1 : dep f + 4 ≤ k := by unfold dep at hk; omega
      have hd := dep_pos f
      have node : ∀ p ∈ pathsS s [], Node s p := fun p hp => by
        obtain ⟨u, rfl, n⟩ := node_paths s [] p hp
        exact n
      have sets : ∀ a ∈ subs (pathsS s []), ∀ p ∈ a, Node s p := fun a ha => ((subs_ok (pathsS s []) [[]] 0 1 (Node s) node (by simp) (by simp)).1 a ha).2
      cases w
      · and_intros
        refine w_ppaths H.to_paths s _ (by omega) (by omega) ?_
        refine ⟨_, rfl, rfl, rfl, _, rfl, rfl, rfl, ?_⟩
        refine w_ploop H.to_with_value itD (pathsS s []) _ x f s kvs true (fun p => hold s (putD kvs (.str x) (itD p)) f) k qx (by omega) vn.ve.nd vn.ve.len (fun p hp S q hq => w_pholds H os hs hlb f k _ _ _ _ _ _ ws.2 (vn.one ws.1.2 (node p hp)) k1 hq) _ _ ?_
        rw [any_t]
        exact h
      · and_intros
        refine w_ppaths H.to_paths s _ (by omega) (by omega) ?_
        refine ⟨_, rfl, rfl, rfl, _, rfl, rfl, rfl, ?_⟩
        refine w_ploop H.to_with_value itD (pathsS s []) _ x f s kvs false (fun p => hold s (putD kvs (.str x) (itD p)) f) k qx (by omega) vn.ve.nd vn.ve.len (fun p hp S q hq => w_pholds H os hs hlb f k _ _ _ _ _ _ ws.2 (vn.one ws.1.2 (node p hp)) k1 hq) _ _ ?_
        rw [any_f]
        exact h
      · and_intros
        refine w_ppaths H.to_paths s _ (by omega) (by omega) ?_
        and_intros
        refine w_psubsets H.to_subsets (pathsS s []) (by rw [paths_len]; exact hs) _ (by omega) ?_
        refine ⟨_, rfl, rfl, rfl, ?_⟩
        refine w_ploop H.to_with_value setD (subs (pathsS s [])) _ x f s kvs true (fun p => hold s (putD kvs (.str x) (setD p)) f) k qx (by omega) vn.ve.nd vn.ve.len (fun p hp S q hq => w_pholds H os hs hlb f k _ _ _ _ _ _ ws.2 (vn.set_ ws.1.2 (sets p hp)) k1 hq) _ _ ?_
        rw [any_t]
        exact h
      · and_intros
        refine w_ppaths H.to_paths s _ (by omega) (by omega) ?_
        and_intros
        refine w_psubsets H.to_subsets (pathsS s []) (by rw [paths_len]; exact hs) _ (by omega) ?_
        refine ⟨_, rfl, rfl, rfl, ?_⟩
        refine w_ploop H.to_with_value setD (subs (pathsS s [])) _ x f s kvs false (fun p => hold s (putD kvs (.str x) (setD p)) f) k qx (by omega) vn.ve.nd vn.ve.len (fun p hp S q hq => w_pholds H os hs hlb f k _ _ _ _ _ _ ws.2 (vn.set_ ws.1.2 (sets p hp)) k1 hq) _ _ ?_
        rw [any_f]
        exact h
end U
/-! U6: sameness of bools; more of values. -/
namespace U
open PySem DL
local macro_rules | `(tactic| and_intros) => `(tactic| repeat (first | refine ⟨_, rfl, ?_⟩ | refine ⟨rfl, ?_⟩))
theorem VN.sub {s : Sh} {kvs : List (D × D)} {X Y X' Y' : List Bs} {n : Nat} (v : VN s kvs X Y n) (hx : ∀ z ∈ X', z ∈ X) (hy : ∀ z ∈ Y', z ∈ Y) : VN s kvs X' Y' n :=
  ⟨⟨v.ve.nd, fun z h => v.ve.ex z (hx z h), fun z h => v.ve.sy z (hy z h), v.ve.len, fun z h => v.ve.one z (hx z h), fun z h => v.ve.set_ z (hy z h)⟩, v.room⟩
theorem snoc_cons {X : List Bs} {x z : Bs} (h : z ∈ X ++ [x]) : z ∈ x :: X := by
  rcases List.mem_append.mp h with h | h
  · exact List.mem_cons_of_mem _ h
  · rw [show z = x by simpa using h]; exact List.mem_cons_self
theorem w_same_bl {P : Pg} (H : Up__law_same_items P) {k : Nat} {St : Sto} {q : QD} (a b : Bool) (qx : QX) (hk : 1 ≤ k) (h : q (.bl (a == b)) St) : P.spec k 11 [.bl a, .bl b] St q qx := by
  obtain ⟨k, rfl⟩ : ∃ j, k = j + 1 := ⟨k - 1, by omega⟩
  refine Pg.spec_succ H.self__law_same rfl ?_
  and_intros
  exact h
theorem fz_dct {St : Sto} {a : Addr} {kvs : List (D × D)} {K : DL.Env → Sto → Prop} {ρ : DL.Env} {i : Nat} (h : St a = some (.dct kvs)) (q : K (put ρ i (.dct kvs)) (del St a)) :
    match St a with
    | some (.lst ds) => K (put ρ i (.lst ds)) (del St a)
    | some (.dct kvs) => K (put ρ i (.dct kvs)) (del St a)
    | _ => False := by
  simp only [h]
  exact q
theorem fz_lst {St : Sto} {a : Addr} {kvs : List D} {K : DL.Env → Sto → Prop} {ρ : DL.Env} {i : Nat} (h : St a = some (.lst kvs)) (q : K (put ρ i (.lst kvs)) (del St a)) :
    match St a with
    | some (.lst ds) => K (put ρ i (.lst ds)) (del St a)
    | some (.dct kvs) => K (put ρ i (.dct kvs)) (del St a)
    | _ => False := by
  simp only [h]
  exact q
theorem its_eq (ps : List (List Int)) : dEq (.lst (ps.map itD)) (.lst []) = decide (ps = []) := by cases ps <;> rfl
theorem okd_itsL {n : Nat} (ps : List (List Int)) : okd (n + 2) (.lst (ps.map itD)) = true := by
  show (ps.map itD).all (okd (n + 1)) = true
  refine List.all_eq_true.mpr fun d hd => ?_
  obtain ⟨i, _, rfl⟩ := List.mem_map.mp hd
  exact okd_it i
end U
/-! UF_k03: own terms of defs (printed by ugen.py), what a program must hold of them. -/
namespace U
open PySem DL
/-- check_kind -/
def f_check_kind : Fn := ⟨1, ["kind", "ways", "labels", "label"], [
  .set (.tup (.cons (.nm 1) (.cons (.nm 2) .nil))) (.var 0),
  .ite (.boo false (.cons (.cmp .notin (.var 1) (.tup (.cons (.int 1) (.cons (.int 2) .nil)))) (.cons (.not (.chn .le .le (.int 1) (.bif .len (.var 2)) (.int 3))) (.cons (.cmp .ne (.bif .list (.var 2)) (.ssrt (.var 2))) .nil)))) [
    .rais 0] [],
  .ite (.not (.bif .all (.lc (.boo true (.cons (.cmp .eq (.bif .len (.var 3)) (.int 1)) (.cons (.cmp .isin (.var 3) (.glb "LETTERS" (.str [97, 98, 99, 100, 101, 102, 103, 104, 105, 106, 107, 108, 109, 110, 111, 112, 113, 114, 115, 116, 117, 118, 119, 120, 121, 122]))) .nil))) (.nm 3) (.over (.var 2)) .nil [3]))) [
    .rais 0] []]⟩
/-- atom_variables -/
def f_atom_variables : Fn := ⟨1, ["formula", "word"], [
  .set (.nm 1) (.idx (.var 0) (.int 0)),
  .ite (.cmp .eq (.var 1) (.str [116, 114, 117, 101])) [
    .ret (.lst .nil)] [],
  .ite (.cmp .eq (.var 1) (.str [108, 97, 98, 101, 108])) [
    .ret (.lst (.cons (.idx (.var 0) (.int 2)) .nil))] [],
  .ite (.cmp .eq (.var 1) (.str [99, 104, 105, 108, 100])) [
    .ret (.lst (.cons (.idx (.var 0) (.int 2)) (.cons (.idx (.var 0) (.int 3)) .nil)))] [],
  .ret (.bif .list (.sl (.var 0) (.some (.int 1)) .none))]⟩
/-- inner -/
def f_inner : Fn := ⟨1, ["formula", "word"], [
  .set (.nm 1) (.idx (.var 0) (.int 0)),
  .ite (.cmp .isin (.var 1) (.glb "ATOMS" (.tup [.str [108, 97, 98, 101, 108], .str [99, 104, 105, 108, 100], .str [98, 101, 108, 111, 119], .str [115, 97, 109, 101], .str [116, 111, 112], .str [105, 110], .str [105, 110, 115, 105, 100, 101], .str [116, 114, 117, 101]]))) [
    .ret (.lst .nil)] [],
  .ite (.cmp .eq (.var 1) (.str [110, 111, 116])) [
    .ret (.lst (.cons (.idx (.var 0) (.int 1)) .nil))] [],
  .ite (.cmp .isin (.var 1) (.glb "QUANTIFIERS" (.tup [.str [115, 111, 109, 101], .str [97, 108, 108], .str [115, 111, 109, 101, 115, 101, 116], .str [97, 108, 108, 115, 101, 116]]))) [
    .ret (.lst (.cons (.idx (.var 0) (.int 2)) .nil))] [],
  .ret (.lst (.cons (.idx (.var 0) (.int 1)) (.cons (.idx (.var 0) (.int 2)) .nil)))]⟩
/-- free_variables -/
def f_free_variables : Fn := ⟨1, ["formula", "found", "part", "name"], [
  .ite (.cmp .isin (.idx (.var 0) (.int 0)) (.glb "ATOMS" (.tup [.str [108, 97, 98, 101, 108], .str [99, 104, 105, 108, 100], .str [98, 101, 108, 111, 119], .str [115, 97, 109, 101], .str [116, 111, 112], .str [105, 110], .str [105, 110, 115, 105, 100, 101], .str [116, 114, 117, 101]]))) [
    .ret (.ssrt (.call 25 (.cons (.var 0) .nil)))] [],
  .set (.nm 1) .newd,
  .each (.nm 2) (.over (.call 26 (.cons (.var 0) .nil))) [
    .each (.nm 3) (.over (.call 27 (.cons (.var 2) .nil))) [
      .put (.var 1) (.var 3) (.bl true)]],
  .ite (.cmp .isin (.idx (.var 0) (.int 0)) (.glb "QUANTIFIERS" (.tup [.str [115, 111, 109, 101], .str [97, 108, 108], .str [115, 111, 109, 101, 115, 101, 116], .str [97, 108, 108, 115, 101, 116]]))) [
    .expr (.dpop (.var 1) (.idx (.var 0) (.int 1)) .non)] [],
  .ret (.b1 .sdct (.var 1))]⟩
/-- depth -/
def f_depth : Fn := ⟨1, ["formula", "part"], [
  .ret (.bin .add (.int 1) (.b1 .max (.bin .add (.lst (.cons (.int 0) .nil)) (.lc (.call 28 (.cons (.var 1) .nil)) (.nm 1) (.over (.call 26 (.cons (.var 0) .nil))) .nil [1]))))]⟩
/-- check_parts -/
def f_check_parts : Fn := ⟨2, ["kind", "formula", "part", "ways", "labels"], [
  .set (.tup (.cons (.nm 3) (.cons (.nm 4) .nil))) (.var 0),
  .ite (.boo true (.cons (.cmp .eq (.idx (.var 1) (.int 0)) (.str [108, 97, 98, 101, 108])) (.cons (.cmp .notin (.idx (.var 1) (.int 1)) (.var 4)) .nil))) [
    .rais 2] [],
  .ite (.boo true (.cons (.cmp .eq (.idx (.var 1) (.int 0)) (.str [99, 104, 105, 108, 100])) (.cons (.cmp .ge (.idx (.var 1) (.int 1)) (.var 3)) .nil))) [
    .rais 2] [],
  .ite (.cmp .gt (.bif .len (.call 27 (.cons (.var 1) .nil))) (.glb "MOST_FREE" (.int 6))) [
    .rais 2] [],
  .each (.nm 2) (.over (.call 26 (.cons (.var 1) .nil))) [
    .expr (.call 29 (.cons (.var 0) (.cons (.var 2) .nil)))]]⟩
/-- check_formula -/
def f_check_formula : Fn := ⟨2, ["kind", "formula"], [
  .expr (.call 24 (.cons (.var 0) .nil)),
  .ite (.cmp .gt (.call 28 (.cons (.var 1) .nil)) (.glb "MOST_DEPTH" (.int 40))) [
    .rais 2] [],
  .expr (.call 29 (.cons (.var 0) (.cons (.var 1) .nil)))]⟩
/-- check_sentence -/
def f_check_sentence : Fn := ⟨2, ["kind", "formula"], [
  .expr (.call 30 (.cons (.var 0) (.cons (.var 1) .nil))),
  .ite (.call 27 (.cons (.var 1) .nil)) [
    .rais 2] []]⟩
/-- _law_inner -/
def f__law_inner : Fn := ⟨1, ["_law_formula", "_law_word"], [
  .set (.nm 1) (.idx (.var 0) (.int 0)),
  .ite (.cmp .eq (.var 1) (.str [110, 111, 116])) [
    .ret (.lst (.cons (.idx (.var 0) (.int 1)) .nil))] [],
  .ite (.cmp .isin (.var 1) (.lst (.cons (.str [97, 110, 100]) (.cons (.str [111, 114]) .nil)))) [
    .ret (.lst (.cons (.idx (.var 0) (.int 1)) (.cons (.idx (.var 0) (.int 2)) .nil)))] [],
  .ret (.ite (.cmp .isin (.var 1) (.lst (.cons (.str [115, 111, 109, 101]) (.cons (.str [97, 108, 108]) (.cons (.str [115, 111, 109, 101, 115, 101, 116]) (.cons (.str [97, 108, 108, 115, 101, 116]) .nil)))))) (.lst (.cons (.idx (.var 0) (.int 2)) .nil)) (.lst .nil))]⟩
/-- _law_free -/
def f__law_free : Fn := ⟨1, ["_law_formula", "_law_inside", "_law_found", "_law_part_here", "_law_names", "_law_k", "_law_name"], [
  .set (.nm 1) (.call 32 (.cons (.var 0) .nil)),
  .set (.nm 2) (.lst .nil),
  .each (.nm 3) (.over (.var 1)) [
    .set (.nm 2) (.bin .add (.var 2) (.lc (.var 6) (.nm 6) (.over (.call 33 (.cons (.var 3) .nil))) (.cons (.cmp .notin (.var 6) (.var 2)) .nil) [6]))],
  .ite (.cmp .eq (.var 1) (.lst .nil)) [
    .set (.nm 4) (.ite (.cmp .isin (.idx (.var 0) (.int 0)) (.lst (.cons (.str [108, 97, 98, 101, 108]) (.cons (.str [99, 104, 105, 108, 100]) .nil)))) (.sl (.var 0) (.some (.int 2)) .none) (.sl (.var 0) (.some (.int 1)) .none)),
    .set (.nm 2) (.lc (.idx (.var 4) (.var 5)) (.nm 5) (.rng1 (.bif .len (.var 4))) (.cons (.cmp .notin (.idx (.var 4) (.var 5)) (.sl (.var 4) .none (.some (.var 5)))) .nil) [5])] [],
  .ite (.cmp .isin (.idx (.var 0) (.int 0)) (.lst (.cons (.str [115, 111, 109, 101]) (.cons (.str [97, 108, 108]) (.cons (.str [115, 111, 109, 101, 115, 101, 116]) (.cons (.str [97, 108, 108, 115, 101, 116]) .nil)))))) [
    .set (.nm 2) (.lc (.var 6) (.nm 6) (.over (.var 2)) (.cons (.cmp .ne (.var 6) (.idx (.var 0) (.int 1))) .nil) [6])] [],
  .ret (.var 2)]⟩
/-- _law_depth -/
def f__law_depth : Fn := ⟨1, ["_law_formula", "_law_part_here"], [
  .ret (.bin .add (.int 1) (.b1 .max (.bin .add (.lst (.cons (.int 0) .nil)) (.lc (.call 34 (.cons (.var 1) .nil)) (.nm 1) (.over (.call 32 (.cons (.var 0) .nil))) .nil [1]))))]⟩
/-- _law_fits -/
def f__law_fits : Fn := ⟨2, ["_law_kind_here", "_law_formula", "_law_part_here"], [
  .ite (.boo false (.cons (.boo true (.cons (.cmp .eq (.idx (.var 1) (.int 0)) (.str [108, 97, 98, 101, 108])) (.cons (.cmp .notin (.idx (.var 1) (.int 1)) (.idx (.var 0) (.int 1))) .nil))) (.cons (.boo true (.cons (.cmp .eq (.idx (.var 1) (.int 0)) (.str [99, 104, 105, 108, 100])) (.cons (.cmp .ge (.idx (.var 1) (.int 1)) (.idx (.var 0) (.int 0))) .nil))) .nil))) [
    .ret (.bl false)] [],
  .ret (.boo true (.cons (.cmp .le (.bif .len (.call 33 (.cons (.var 1) .nil))) (.int 6)) (.cons (.bif .all (.lc (.call 35 (.cons (.var 0) (.cons (.var 2) .nil))) (.nm 2) (.over (.call 32 (.cons (.var 1) .nil))) .nil [2])) .nil)))]⟩
/-- _law_told -/
def f__law_told : Fn := ⟨3, ["_law_kind_here", "_law_formula", "_law_closed_here", "e", "_law_found"], [
  .tri [
    .set (.nm 4) (.ite (.var 2) (.call 31 (.cons (.var 0) (.cons (.var 1) .nil))) (.call 30 (.cons (.var 0) (.cons (.var 1) .nil))))] 2 (some 3) (.isx (.str [110, 111]) (.str [119, 114, 111, 110, 103])),
  .ret (.ite (.cmp .is (.var 4) .non) (.str [121, 101, 115]) (.str [119, 114, 111, 110, 103]))]⟩
structure Up_check_kind (P : Pg) : Prop where
  self : P.Has 24 f_check_kind
structure Up_atom_variables (P : Pg) : Prop where
  self : P.Has 25 f_atom_variables
structure Up_inner (P : Pg) : Prop where
  self : P.Has 26 f_inner
structure Up_free_variables (P : Pg) : Prop where
  self : P.Has 27 f_free_variables
  to_inner : Up_inner P
  to_atom_variables : Up_atom_variables P
structure Up_depth (P : Pg) : Prop where
  self : P.Has 28 f_depth
  to_inner : Up_inner P
structure Up_check_parts (P : Pg) : Prop where
  self : P.Has 29 f_check_parts
  to_inner : Up_inner P
  to_free_variables : Up_free_variables P
structure Up_check_formula (P : Pg) : Prop where
  self : P.Has 30 f_check_formula
  to_check_kind : Up_check_kind P
  to_check_parts : Up_check_parts P
  to_depth : Up_depth P
structure Up_check_sentence (P : Pg) : Prop where
  self : P.Has 31 f_check_sentence
  to_check_formula : Up_check_formula P
  to_free_variables : Up_free_variables P
structure Up__law_inner (P : Pg) : Prop where
  self : P.Has 32 f__law_inner
structure Up__law_free (P : Pg) : Prop where
  self : P.Has 33 f__law_free
  to__law_inner : Up__law_inner P
structure Up__law_depth (P : Pg) : Prop where
  self : P.Has 34 f__law_depth
  to__law_inner : Up__law_inner P
structure Up__law_fits (P : Pg) : Prop where
  self : P.Has 35 f__law_fits
  to__law_free : Up__law_free P
  to__law_inner : Up__law_inner P
structure Up__law_told (P : Pg) : Prop where
  self : P.Has 36 f__law_told
  to_check_sentence : Up_check_sentence P
  to_check_formula : Up_check_formula P
end U
/-! U7: sameness of data; formulas' parts, variables, depth. -/
namespace U
open PySem DL
local macro_rules | `(tactic| and_intros) => `(tactic| repeat (first | refine ⟨_, rfl, ?_⟩ | refine ⟨rfl, ?_⟩))
/-! ### sameness -/
mutual
def sameD : D → D → Bool
  | .non, .non => true
  | .bl a, .bl b => a == b
  | .int i, .int j => i == j
  | .str s, .str t => s == t
  | .tup xs, .tup ys => sameL xs ys
  | .lst xs, .lst ys => sameL xs ys
  | _, _ => false
def sameL : List D → List D → Bool
  | [], [] => true
  | x :: xs, y :: ys => sameD x y && sameL xs ys
  | _, _ => false
end
theorem sameL_len : ∀ {xs ys : List D}, sameL xs ys = true → xs.length = ys.length
  | [], [], _ => rfl
  | [], _ :: _, h => by simp [sameL] at h
  | _ :: _, [], h => by simp [sameL] at h
  | x :: xs, y :: ys, h => by
    rw [sameL, Bool.and_eq_true] at h
    rw [List.length_cons, List.length_cons, sameL_len h.2]
theorem sameL_at : ∀ {xs ys : List D}, xs.length = ys.length → (sameL xs ys = true ↔ ∀ (i : Nat) (x y : D), xs[i]? = some x → ys[i]? = some y → sameD x y = true)
  | [], [], _ => by simp [sameL]
  | [], _ :: _, h => by simp at h
  | _ :: _, [], h => by simp at h
  | x :: xs, y :: ys, h => by
    rw [sameL, Bool.and_eq_true, sameL_at (xs := xs) (ys := ys) (by simpa using h)]
    constructor
    · rintro ⟨h1, h2⟩ i a b e1 e2
      cases i with
      | zero => simp at e1 e2; subst e1; subst e2; exact h1
      | succ i => exact h2 i a b (by simpa using e1) (by simpa using e2)
    · intro h
      exact ⟨h 0 x y rfl rfl, fun i a b e1 e2 => h (i + 1) a b (by simpa using e1) (by simpa using e2)⟩
theorem rangeD_map : ∀ (lo : Int) (n : Nat), rangeD lo n = (List.range n).map fun i => .int (lo + (i : Nat))
  | lo, 0 => rfl
  | lo, n + 1 => by
    rw [rangeD, rangeD_map (lo + 1) n, List.range_succ_eq_map, List.map_cons, List.map_map]
    refine congr (congrArg _ ?_) (List.map_congr_left fun i _ => ?_)
    · show D.int lo = D.int (lo + ((0 : Nat) : Int)); rw [show lo + ((0 : Nat) : Int) = lo by omega]
    · show D.int (lo + 1 + (i : Int)) = D.int (lo + ((i + 1 : Nat) : Int)); rw [show lo + 1 + (i : Int) = lo + ((i + 1 : Nat) : Int) by omega]
/-- okd, no list longer than a line -/
def okq : Nat → D → Bool
  | _, .non => true
  | _, .bl _ => true
  | _, .int _ => true
  | _, .str s => s.all (· < 0x110000)
  | n + 1, .tup xs => decide (xs.length ≤ SZ) && xs.all (okq n)
  | n + 1, .lst xs => decide (xs.length ≤ SZ) && xs.all (okq n)
  | _, _ => false
theorem okd_of : ∀ (m n : Nat) (d : D), m ≤ n → okq m d = true → okd n d = true
  | m, n, .non, _, _ => by cases n <;> rfl
  | m, n, .bl _, _, _ => by cases n <;> rfl
  | m, n, .int _, _, _ => by cases n <;> rfl
  | m, n, .str _, _, h => by cases n <;> cases m <;> exact h
  | 0, n, .tup xs, _, h => by cases h
  | 0, n, .lst xs, _, h => by cases h
  | m + 1, 0, d, hl, _ => by omega
  | m + 1, n + 1, .tup xs, hl, h => by
    have h : (decide (xs.length ≤ SZ) && xs.all (okq m)) = true := h
    rw [Bool.and_eq_true] at h
    exact List.all_eq_true.mpr fun x hx => okd_of m n x (by omega) (List.all_eq_true.mp h.2 x hx)
  | m + 1, n + 1, .lst xs, hl, h => by
    have h : (decide (xs.length ≤ SZ) && xs.all (okq m)) = true := h
    rw [Bool.and_eq_true] at h
    exact List.all_eq_true.mpr fun x hx => okd_of m n x (by omega) (List.all_eq_true.mp h.2 x hx)
  | m, n, .dct _, _, h => by cases m <;> cases h
  | m, n, .ref _, _, h => by cases m <;> cases h
  | m, n, .scr _, _, h => by cases m <;> cases h
section
variable {P : Pg}
mutual
/-- sameness of data nested at most n deep -/
theorem w_same (H : Up__law_same_items P) : ∀ (n : Nat) (a b : D) (k : Nat) (S : Sto) (q : QD) (qx : QX), okq n a = true → okq n b = true → n ≤ 60 → 2 * n + 3 ≤ k → q (.bl (sameD a b)) S → P.spec k 11 [a, b] S q qx
  | n, a, b, 0, _, _, _, _, _, _, hk, _ => by omega
  | n, a, b, k + 1, S, q, qx, oa, ob, hn, hk, h => by
    refine Pg.spec_succ H.self__law_same rfl ?_
    have isint : ∀ (i : Int) (S : Sto) (q : QD), q (.bl true) S → P.spec k 9 [.int i] S q qx := fun i S q h => by
      obtain ⟨k, rfl⟩ : ∃ j, k = j + 1 := ⟨k - 1, by omega⟩
      exact Pg.spec_succ H.to__law_is_integer.self rfl ⟨_, rfl, _, rfl, _, rfl, _, rfl, _, rfl, _, rfl, h⟩
    have notint : ∀ (d : D) (S : Sto) (q : QD) (m : Nat), okq m d = true → (∀ i, d ≠ .int i) → q (.bl false) S → P.spec k 9 [d] S q qx := fun d S q m od hd h => by
      obtain ⟨k, rfl⟩ : ∃ j, k = j + 1 := ⟨k - 1, by omega⟩
      refine Pg.spec_succ H.to__law_is_integer.self rfl ?_
      cases d with
      | int i => exact absurd rfl (hd i)
      | dct => cases m <;> cases od
      | ref => cases m <;> cases od
      | scr => cases m <;> cases od
      | _ => and_intros; exact h
    have ok60 : ∀ {d : D}, okq n d = true → okD d := fun {d} o => okd_of n 60 d hn o
    cases b with
    | non => cases a <;> (and_intros; exact h)
    | bl v => cases a with
      | dct => cases n <;> cases oa
      | ref => cases n <;> cases oa
      | scr => cases n <;> cases oa
      | bl u => and_intros; exact h
      | _ => and_intros; exact h
    | int j => cases a with
      | int i =>
        and_intros
        refine isint i _ _ ?_
        and_intros
        exact h
      | dct => cases n <;> cases oa
      | ref => cases n <;> cases oa
      | scr => cases n <;> cases oa
      | _ =>
        and_intros
        refine notint _ _ _ n oa (fun i z => by cases z) ?_
        and_intros
        exact h
    | str t => cases a with
      | str s =>
        and_intros
        exact ⟨ok60 oa, ok60 ob, h⟩
      | dct => cases n <;> cases oa
      | ref => cases n <;> cases oa
      | scr => cases n <;> cases oa
      | _ => and_intros; exact h
    | tup ys => cases a with
      | tup xs =>
        and_intros
        exact w_same_items H n (.tup xs) (.tup ys) xs ys k _ _ _ (.inl ⟨rfl, rfl⟩) oa ob hn (by omega) h
      | dct => cases n <;> cases oa
      | ref => cases n <;> cases oa
      | scr => cases n <;> cases oa
      | _ => and_intros; exact h
    | lst ys => cases a with
      | lst xs =>
        and_intros
        exact w_same_items H n (.lst xs) (.lst ys) xs ys k _ _ _ (.inr ⟨rfl, rfl⟩) oa ob hn (by omega) h
      | dct => cases n <;> cases oa
      | ref => cases n <;> cases oa
      | scr => cases n <;> cases oa
      | _ => and_intros; exact h
    | dct => cases n <;> cases ob
    | ref => cases n <;> cases ob
    | scr => cases n <;> cases ob
theorem w_same_items (H : Up__law_same_items P) : ∀ (n : Nat) (a b : D) (xs ys : List D) (k : Nat) (S : Sto) (q : QD) (qx : QX), ((a = .tup xs ∧ b = .tup ys) ∨ (a = .lst xs ∧ b = .lst ys)) → okq n a = true → okq n b = true → n ≤ 60 → 2 * n + 2 ≤ k → q (.bl (sameL xs ys)) S → P.spec k 10 [a, b] S q qx
  | 0, a, b, xs, ys, k, S, q, qx, hc, oa, ob, hn, hk, h => by rcases hc with ⟨rfl, rfl⟩ | ⟨rfl, rfl⟩ <;> cases oa
  | n + 1, a, b, xs, ys, 0, S, q, qx, hc, oa, ob, hn, hk, h => by omega
  | n + 1, a, b, xs, ys, k + 1, S, q, qx, hc, oa, ob, hn, hk, h => by
    refine Pg.spec_succ H.self__law_same_items rfl ?_
    have o1 : ∀ x ∈ xs, okq n x = true := by rcases hc with ⟨rfl, rfl⟩ | ⟨rfl, rfl⟩ <;> exact List.all_eq_true.mp (Bool.and_eq_true_iff.mp oa).2
    have o2 : ∀ x ∈ ys, okq n x = true := by rcases hc with ⟨rfl, rfl⟩ | ⟨rfl, rfl⟩ <;> exact List.all_eq_true.mp (Bool.and_eq_true_iff.mp ob).2
    have l1 : lenD S a = some xs.length := by rcases hc with ⟨rfl, rfl⟩ | ⟨rfl, rfl⟩ <;> rfl
    have l2 : lenD S b = some ys.length := by rcases hc with ⟨rfl, rfl⟩ | ⟨rfl, rfl⟩ <;> rfl
    have g1 : ∀ (i : Nat) (x : D) (Q : D → Prop), xs[i]? = some x → Q x → wIdx S a (.int i) Q := fun i x Q e w => by
      rcases hc with ⟨rfl, rfl⟩ | ⟨rfl, rfl⟩ <;> exact ⟨x, by rw [atD_nat]; exact e, w⟩
    have g2 : ∀ (i : Nat) (x : D) (Q : D → Prop), ys[i]? = some x → Q x → wIdx S b (.int i) Q := fun i x Q e w => by
      rcases hc with ⟨rfl, rfl⟩ | ⟨rfl, rfl⟩ <;> exact ⟨x, by rw [atD_nat]; exact e, w⟩
    have hz : ys.length ≤ 16777216 := by
      rcases hc with ⟨rfl, rfl⟩ | ⟨rfl, rfl⟩ <;> exact of_decide_eq_true (Bool.and_eq_true_iff.mp ob).1
    refine ⟨_, rfl, _, l1, _, rfl, _, l2, okd_int, okd_int, ?_⟩
    refine if_c (fun c => ?_) (fun c => ?_)
    · have c : (!dEq (.int xs.length) (.int ys.length)) = true := c
      have ne : sameL xs ys = false := by
        cases e : sameL xs ys with
        | false => rfl
        | true => rw [sameL_len e] at c; simp [dEq] at c
      rw [ne] at h
      exact h
    · have c : (!dEq (.int xs.length) (.int ys.length)) = false := c
      have hlen : xs.length = ys.length := by
        have : ((xs.length : Int) == (ys.length : Int)) = true := by simpa [dEq] using c
        have := eq_of_beq this
        omega
      refine ⟨_, rfl, _, l2, ⟨by omega, by omega⟩, ?_⟩
      rw [rangeD_map]
      refine forL_pre (e := fun i : Nat => D.int (0 + (i : Int))) (fun dn ρ S' => S' = S ∧ (∀ i ∈ dn, ∀ (x y : D), xs[i]? = some x → ys[i]? = some y → sameD x y = true) ∧ ∃ z, ρ = [some a, some b, z]) (List.range ys.length) [] _ _ _ (by rw [show ((ys.length : Int)).toNat = ys.length by omega]; rfl) ⟨rfl, by simp, none, rfl⟩ ?_ ?_
      · rintro dn i r ρ S' ha ⟨rfl, hd, z, rfl⟩ kk hh
        have hi : i < ys.length := by
          have : i ∈ List.range ys.length := by rw [ha]; simp
          exact List.mem_range.mp this
        have e1 : xs[i]? = some xs[i] := List.getElem?_eq_getElem (by omega)
        have e2 : ys[i]? = some ys[i] := List.getElem?_eq_getElem hi
        rw [show (0 : Int) + (i : Int) = (i : Int) by omega]
        refine ⟨_, rfl, _, rfl, g1 i _ _ e1 ?_⟩
        refine ⟨_, rfl, _, rfl, g2 i _ _ e2 ?_⟩
        refine w_same H n _ _ k _ _ _ (o1 _ (List.getElem_mem _)) (o2 _ (List.getElem_mem _)) (by omega) (by omega) ?_
        and_intros
        cases c : sameD xs[i] ys[i] with
        | true =>
          refine hh _ _ ⟨rfl, fun j hj x y f1 f2 => ?_, _, rfl⟩
          rcases List.mem_append.mp hj with hj | hj
          · exact hd j hj x y f1 f2
          · have : j = i := by simpa using hj
            subst this
            rw [e1] at f1; rw [e2] at f2
            cases f1; cases f2
            exact c
        | false =>
          have ne : sameL xs ys = false := by
            cases e : sameL xs ys with
            | false => rfl
            | true => rw [(sameL_at hlen).mp e i _ _ e1 e2] at c; cases c
          rw [ne] at h
          exact h
      · rintro ρ S' ⟨rfl, hd, z, rfl⟩
        have eq : sameL xs ys = true := (sameL_at hlen).mpr fun i x y e1 e2 => hd i (List.mem_range.mpr (List.getElem?_eq_some_iff.mp e2).1) x y e1 e2
        rw [eq] at h
        exact h
end
end
end U
/-! U8: formulas' parts, variables, depth; what fits a kind. -/
namespace U
open PySem DL
local macro_rules | `(tactic| and_intros) => `(tactic| repeat (first | refine ⟨_, rfl, ?_⟩ | refine ⟨rfl, ?_⟩))
def inner : Fm → List Fm
  | .at_ _ => []
  | .not f => [f]
  | .bin _ f g => [f, g]
  | .q _ _ f => [f]
def avars : Atm → List Bs
  | .inside a b => [a, b]
  | .inn a b => [a, b]
  | .tru => []
  | .label _ x => [x]
  | .top x => [x]
  | .same x y => [x, y]
  | .child _ x y => [x, y]
  | .below x y => [x, y]
/-- k is free in the formula -/
def FV : Fm → Bs → Prop
  | .at_ a, k => k ∈ avars a
  | .not f, k => FV f k
  | .bin _ f g, k => FV f k ∨ FV g k
  | .q _ x f, k => FV f k ∧ k ≠ x
/-- the free variables as the laws gather them -/
def ddup (l : List Bs) : List Bs := l.foldl (fun acc x => if x ∈ acc then acc else acc ++ [x]) []
theorem ddup_gen : ∀ (l acc : List Bs), acc.Nodup → (l.foldl (fun acc x => if x ∈ acc then acc else acc ++ [x]) acc).Nodup ∧ (∀ k, k ∈ l.foldl (fun acc x => if x ∈ acc then acc else acc ++ [x]) acc ↔ k ∈ acc ∨ k ∈ l) ∧ (l.foldl (fun acc x => if x ∈ acc then acc else acc ++ [x]) acc).length ≤ acc.length + l.length
  | [], acc, h => ⟨h, by simp, by simp⟩
  | x :: l, acc, h => by
    rw [List.foldl_cons]
    by_cases c : x ∈ acc
    · rw [if_pos c]
      obtain ⟨a, b, d⟩ := ddup_gen l acc h
      refine ⟨a, fun k => ?_, by rw [List.length_cons]; omega⟩
      rw [b k, List.mem_cons]
      constructor
      · rintro (h | h)
        · exact .inl h
        · exact .inr (.inr h)
      · rintro (h | rfl | h)
        · exact .inl h
        · exact .inl c
        · exact .inr h
    · rw [if_neg c]
      obtain ⟨a, b, d⟩ := ddup_gen l (acc ++ [x]) (List.nodup_append.mpr ⟨h, by simp, fun a ha b hb e => c (by rw [← show b = x by simpa using hb, ← e]; exact ha)⟩)
      refine ⟨a, fun k => ?_, by rw [List.length_append, List.length_singleton] at d; rw [List.length_cons]; omega⟩
      rw [b k, List.mem_append, List.mem_singleton, List.mem_cons, or_assoc]
def lfree : Fm → List Bs
  | .at_ a => ddup (avars a)
  | .not f => lfree f
  | .bin _ f g => lfree f ++ (lfree g).filter fun x => decide (x ∉ lfree f)
  | .q _ x f => (lfree f).filter fun y => decide (y ≠ x)
theorem ddup_ok (l : List Bs) : (ddup l).Nodup ∧ ∀ k, k ∈ ddup l ↔ k ∈ l := by
  obtain ⟨a, b, _⟩ := ddup_gen l [] List.nodup_nil
  exact ⟨a, fun k => (b k).trans (by simp)⟩
theorem lfree_ok : ∀ f : Fm, (lfree f).Nodup ∧ ∀ k, k ∈ lfree f ↔ FV f k
  | .at_ a => ddup_ok _
  | .not f => lfree_ok f
  | .bin _ f g => by
    obtain ⟨a, b⟩ := lfree_ok f
    obtain ⟨c, d⟩ := lfree_ok g
    refine ⟨List.nodup_append.mpr ⟨a, c.filter _, fun x hx y hy e => ?_⟩, fun k => ?_⟩
    · have := (List.mem_filter.mp hy).2
      exact of_decide_eq_true this (by rw [← e]; exact hx)
    · show k ∈ lfree f ++ _ ↔ FV f k ∨ FV g k
      rw [List.mem_append, List.mem_filter, ← b k, ← d k, decide_eq_true_eq]
      constructor
      · rintro (h | ⟨h, _⟩)
        · exact .inl h
        · exact .inr h
      · rintro (h | h)
        · exact .inl h
        · by_cases e : k ∈ lfree f
          · exact .inl e
          · exact .inr ⟨h, e⟩
  | .q _ x f => by
    obtain ⟨a, b⟩ := lfree_ok f
    refine ⟨a.filter _, fun k => ?_⟩
    show k ∈ (lfree f).filter _ ↔ FV f k ∧ k ≠ x
    rw [List.mem_filter, b k, decide_eq_true_eq]
/-- how many variables stand there at most -/
def vcount : Fm → Nat
  | .at_ _ => 2
  | .not f => vcount f
  | .bin _ f g => vcount f + vcount g
  | .q _ _ f => vcount f
theorem lfree_len : ∀ f : Fm, (lfree f).length ≤ vcount f
  | .at_ a => by
    have : (avars a).length ≤ 2 := by cases a <;> simp [avars]
    have l := (ddup_gen (avars a) [] List.nodup_nil).2.2
    show (ddup (avars a)).length ≤ 2
    exact Nat.le_trans l (by simpa using this)
  | .not f => lfree_len f
  | .bin _ f g => by
    have h1 := lfree_len f
    have h2 := lfree_len g
    have h3 := List.length_filter_le (fun x => decide (x ∉ lfree f)) (lfree g)
    show (lfree f ++ _).length ≤ vcount f + vcount g
    rw [List.length_append]; omega
  | .q _ x f => Nat.le_trans (List.length_filter_le _ _) (lfree_len f)
theorem vcount_pow : ∀ f : Fm, vcount f ≤ 2 ^ dep f
  | .at_ _ => by show 2 ≤ 2 ^ 1; decide
  | .not f => Nat.le_trans (vcount_pow f) (Nat.pow_le_pow_right (by decide) (by show dep f ≤ dep f + 1; omega))
  | .bin _ f g => by
    have h1 := vcount_pow f
    have h2 := vcount_pow g
    have p1 : 2 ^ dep f ≤ 2 ^ max (dep f) (dep g) := Nat.pow_le_pow_right (by decide) (Nat.le_max_left _ _)
    have p2 : 2 ^ dep g ≤ 2 ^ max (dep f) (dep g) := Nat.pow_le_pow_right (by decide) (Nat.le_max_right _ _)
    show vcount f + vcount g ≤ 2 ^ (max (dep f) (dep g) + 1)
    rw [Nat.pow_succ]; omega
  | .q _ _ f => Nat.le_trans (vcount_pow f) (Nat.pow_le_pow_right (by decide) (by show dep f ≤ dep f + 1; omega))
/-- all names and labels are texts -/
def okA : Atm → Prop
  | .inside a b => okS' a = true ∧ okS' b = true
  | .inn a b => okS' a = true ∧ okS' b = true
  | .tru => True
  | .label l x => okS' l = true ∧ okS' x = true
  | .top x => okS' x = true
  | .same x y => okS' x = true ∧ okS' y = true
  | .child _ x y => okS' x = true ∧ okS' y = true
  | .below x y => okS' x = true ∧ okS' y = true
def okF : Fm → Prop
  | .at_ a => okA a
  | .not f => okF f
  | .bin _ f g => okF f ∧ okF g
  | .q _ x f => okS' x = true ∧ okF f
theorem dep_not (f : Fm) : dep (.not f) = dep f + 1 := rfl
theorem dep_bin (a : Bool) (f g : Fm) : dep (.bin a f g) = max (dep f) (dep g) + 1 := rfl
theorem dep_q (w : Qw) (x : Bs) (f : Fm) : dep (.q w x f) = dep f + 1 := rfl
theorem okq_str {n : Nat} {s : Bs} (h : okS' s = true) : okq n (.str s) = true := by cases n <;> exact h
theorem okq_int {n : Nat} {i : Int} : okq n (.int i) = true := by cases n <;> rfl
theorem okq_enc : ∀ (f : Fm) (n : Nat), okF f → dep f ≤ n → okq n (enc f) = true
  | f, 0, _, h => by have := dep_pos f; omega
  | .at_ a, n + 1, h, _ => by
    cases a with
    | inside a b => simp [enc, encA, okq, SZ, okq_str (n := n) h.1, okq_str (n := n) h.2, okq_str (n := n) (s := [105, 110, 115, 105, 100, 101]) (by decide)]
    | inn a b => simp [enc, encA, okq, SZ, okq_str (n := n) h.1, okq_str (n := n) h.2, okq_str (n := n) (s := [105, 110]) (by decide)]
    | tru => simp [enc, encA, okq, SZ, okq_str (n := n) (s := [116, 114, 117, 101]) (by decide)]
    | label l x => simp [enc, encA, okq, SZ, okq_str (n := n) h.1, okq_str (n := n) h.2, okq_str (n := n) (s := [108, 97, 98, 101, 108]) (by decide)]
    | top x => simp [enc, encA, okq, SZ, okq_str (n := n) (show okS' x = true from h), okq_str (n := n) (s := [116, 111, 112]) (by decide)]
    | same x y => simp [enc, encA, okq, SZ, okq_str (n := n) h.1, okq_str (n := n) h.2, okq_str (n := n) (s := [115, 97, 109, 101]) (by decide)]
    | child w x y => simp [enc, encA, okq, SZ, okq_str (n := n) h.1, okq_str (n := n) h.2, okq_int (n := n) (i := w), okq_str (n := n) (s := [99, 104, 105, 108, 100]) (by decide)]
    | below x y => simp [enc, encA, okq, SZ, okq_str (n := n) h.1, okq_str (n := n) h.2, okq_str (n := n) (s := [98, 101, 108, 111, 119]) (by decide)]
  | .not f, n + 1, h, hd => by
    have := okq_enc f n h (by simp only [dep_not, dep_bin, dep_q] at hd; omega)
    simp [enc, okq, SZ, this, okq_str (n := n) (s := [110, 111, 116]) (by decide)]
  | .bin an f g, n + 1, h, hd => by
    have e1 := okq_enc f n h.1 (by simp only [dep_not, dep_bin, dep_q] at hd; omega)
    have e2 := okq_enc g n h.2 (by simp only [dep_not, dep_bin, dep_q] at hd; omega)
    simp [enc, okq, SZ, e1, e2, okq_str (n := n) (s := encB an) (by cases an <;> decide)]
  | .q w x f, n + 1, h, hd => by
    have e1 := okq_enc f n h.2 (by simp only [dep_not, dep_bin, dep_q] at hd; omega)
    simp [enc, okq, SZ, e1, okq_str (n := n) h.1, okq_str (n := n) (s := encQ w) (by cases w <;> decide)]
theorem okq_nms {X : List Bs} {n : Nat} (h : ∀ x ∈ X, okS' x = true) (hl : X.length ≤ SZ) : okq (n + 1) (nms X) = true := by
  show (decide ((X.map D.str).length ≤ SZ) && (X.map D.str).all (okq n)) = true
  rw [Bool.and_eq_true, List.length_map]
  refine ⟨decide_eq_true hl, List.all_eq_true.mpr fun d hd => ?_⟩
  obtain ⟨x, hx, rfl⟩ := List.mem_map.mp hd
  exact okq_str (h x hx)
theorem FV_ok : ∀ (f : Fm) (k : Bs), okF f → FV f k → okS' k = true
  | .at_ a, k, h, m => by
    have m : k ∈ avars a := m
    cases a <;> simp [avars] at m <;> first | (rcases m with rfl | rfl <;> first | exact h.1 | exact h.2) | (subst m; first | exact h.2 | exact h)
  | .not f, k, h, m => FV_ok f k h m
  | .bin _ f g, k, h, m => by
    rcases m with m | m
    · exact FV_ok f k h.1 m
    · exact FV_ok g k h.2 m
  | .q _ x f, k, h, m => FV_ok f k h.2 m.1
/-- a list of the free variables, ascending -/
def FVL (f : Fm) (ys : List Bs) : Prop := ys.Nodup ∧ (ys.Pairwise fun a b => ¬ b < a) ∧ ∀ k, k ∈ ys ↔ FV f k
theorem srt_uniq {xs ys : List Bs} (h1 : xs.Nodup) (h2 : xs.Pairwise fun a b => ¬ b < a) (g1 : ys.Nodup) (g2 : ys.Pairwise fun a b => ¬ b < a) (h : ∀ k, k ∈ xs ↔ k ∈ ys) : xs = ys := by
  have p : xs.Perm ys := by
    have l1 : xs.length ≤ ys.length := len_sub h1 fun x hx => (h x).mp hx
    exact perm_of_cover g1 (fun x hx => (h x).mpr hx) l1
  exact perm_sorted (le := fun a b => ¬ b < a) (fun a b x y => List.le_antisymm x y) (fun a => List.lt_irrefl a) p h2 g2
where len_sub : ∀ {xs ys : List Bs}, xs.Nodup → (∀ x ∈ xs, x ∈ ys) → xs.length ≤ ys.length
  | [], _, _, _ => Nat.zero_le _
  | x :: xs, ys, nd, h => by
    obtain ⟨n1, n2⟩ := List.nodup_cons.mp nd
    have hx := h x List.mem_cons_self
    have hl := (List.perm_cons_erase hx).length_eq
    rw [List.length_cons] at hl ⊢
    have := len_sub n2 (fun y hy => (List.mem_erase_of_ne (fun e => n1 (by rw [← e]; exact hy))).mpr (h y (List.mem_cons_of_mem _ hy)) : ∀ y ∈ xs, y ∈ ys.erase x)
    omega
theorem FVL.uniq {f : Fm} {xs ys : List Bs} (h : FVL f xs) (g : FVL f ys) : xs = ys := srt_uniq h.1 h.2.1 g.1 g.2.1 fun k => (h.2.2 k).trans (g.2.2 k).symm
theorem FVL.len {f : Fm} {ys : List Bs} (h : FVL f ys) : ys.length = (lfree f).length := by
  obtain ⟨a, b⟩ := lfree_ok f
  have l1 := srt_uniq.len_sub h.1 fun k hk => (b k).mpr ((h.2.2 k).mp hk)
  have l2 := srt_uniq.len_sub a fun k hk => (h.2.2 k).mpr ((b k).mp hk)
  omega
theorem strs_map : ∀ (l : List Bs), strsD (l.map .str) = some l
  | [] => rfl
  | s :: l => by rw [List.map_cons, strsD, strs_map l]; rfl
section
variable {P : Pg} {q : QD} {k : Nat}
theorem w_inner (H : Up_inner P) (f : Fm) {S : Sto} (qx : QX) (hk : 1 ≤ k) (h : q (.lst ((inner f).map enc)) S) : P.spec k 26 [enc f] S q qx := by
  obtain ⟨k, rfl⟩ : ∃ j, k = j + 1 := ⟨k - 1, by omega⟩
  refine Pg.spec_succ H.self rfl ?_
  cases f with
  | at_ a => cases a <;> exact ⟨_, rfl, _, rfl, _, rfl, rfl, rfl, h⟩
  | not f => exact ⟨_, rfl, _, rfl, _, rfl, rfl, rfl, _, rfl, rfl, rfl, _, rfl, _, rfl, h⟩
  | bin an f g => cases an <;> exact ⟨_, rfl, _, rfl, _, rfl, rfl, rfl, _, rfl, rfl, rfl, _, rfl, rfl, rfl, _, rfl, _, rfl, _, rfl, _, rfl, h⟩
  | q w x f => cases w <;> exact ⟨_, rfl, _, rfl, _, rfl, rfl, rfl, _, rfl, rfl, rfl, _, rfl, rfl, rfl, _, rfl, _, rfl, h⟩
theorem w_avars (H : Up_atom_variables P) (a : Atm) {S : Sto} (qx : QX) (hk : 1 ≤ k) (h : q (nms (avars a)) S) : P.spec k 25 [encA a] S q qx := by
  obtain ⟨k, rfl⟩ : ∃ j, k = j + 1 := ⟨k - 1, by omega⟩
  refine Pg.spec_succ H.self rfl ?_
  cases a <;> (and_intros; exact h)
theorem w_depth (H : Up_depth P) : ∀ (f : Fm) (k : Nat) (S : Sto) (q : QD) (qx : QX), dep f + 1 ≤ k → q (.int (dep f)) S → P.spec k 28 [enc f] S q qx
  | f, 0, _, _, _, hk, _ => by omega
  | f, k + 1, S, q, qx, hk, h => by
    refine Pg.spec_succ H.self rfl ?_
    have hd := dep_pos f
    refine ⟨_, rfl, w_inner H.to_inner f _ (by omega) ?_⟩
    cases f with
    | at_ a =>
      refine ⟨by decide, _, [0], rfl, fun t => ne_tup, rfl, by decide, fun m hm _ => ?_⟩
      obtain rfl : m = 0 := by simpa using hm
      exact h
    | not f =>
      refine ⟨_, rfl, ?_⟩
      refine w_depth H f k _ _ _ (by simp only [dep_not, dep_bin, dep_q] at hk; omega) ?_
      refine ⟨by show 1 + 1 ≤ 16777216; decide, _, [0, (dep f : Int)], rfl, fun t => ne_tup, rfl, by simp, fun m hm hle => ?_⟩
      have hp := dep_pos f
      have h2 := hle (dep f : Int) (by simp)
      have : m = 0 ∨ m = dep f := by simpa using hm
      obtain rfl : m = dep f := by omega
      have e : (1 : Int) + (dep f : Int) = ((dep (.not f) : Nat) : Int) := by simp only [dep_not, dep_bin, dep_q]; omega
      show q (.int (1 + (dep f : Int))) S
      rw [e]; exact h
    | bin an f g =>
      refine ⟨_, rfl, ?_⟩
      refine w_depth H f k _ _ _ (by simp only [dep_not, dep_bin, dep_q] at hk; omega) ?_
      refine ⟨_, rfl, ?_⟩
      refine w_depth H g k _ _ _ (by simp only [dep_not, dep_bin, dep_q] at hk; omega) ?_
      refine ⟨by show 1 + 2 ≤ 16777216; decide, _, [0, (dep f : Int), (dep g : Int)], rfl, fun t => ne_tup, rfl, by simp, fun m hm hle => ?_⟩
      have hp := dep_pos f
      have h2 := hle (dep f : Int) (by simp)
      have h3 := hle (dep g : Int) (by simp)
      have : m = 0 ∨ m = dep f ∨ m = dep g := by simpa using hm
      have e : (1 : Int) + m = ((dep (.bin an f g) : Nat) : Int) := by simp only [dep_not, dep_bin, dep_q]; omega
      show q (.int (1 + m)) S
      rw [e]; exact h
    | q w x f =>
      refine ⟨_, rfl, ?_⟩
      refine w_depth H f k _ _ _ (by simp only [dep_not, dep_bin, dep_q] at hk; omega) ?_
      refine ⟨by show 1 + 1 ≤ 16777216; decide, _, [0, (dep f : Int)], rfl, fun t => ne_tup, rfl, by simp, fun m hm hle => ?_⟩
      have hp := dep_pos f
      have h2 := hle (dep f : Int) (by simp)
      have : m = 0 ∨ m = dep f := by simpa using hm
      obtain rfl : m = dep f := by omega
      have e : (1 : Int) + (dep f : Int) = ((dep (.q w x f) : Nat) : Int) := by simp only [dep_not, dep_bin, dep_q]; omega
      show q (.int (1 + (dep f : Int))) S
      rw [e]; exact h
/-! ### free variables -/
/-- the dict of found names -/
def FD (kvs : List (D × D)) (p : Bs → Prop) : Prop := ∃ ns : List Bs, kvs = ns.map (fun n => (.str n, .bl true)) ∧ ns.Nodup ∧ ∀ k, k ∈ ns ↔ p k
theorem FD.put {kvs : List (D × D)} {p : Bs → Prop} (h : FD kvs p) (x : Bs) : FD (putD kvs (.str x) (.bl true)) fun k => p k ∨ k = x := by
  obtain ⟨ns, rfl, nd, hm⟩ := h
  have gen : ∀ ns : List Bs, putD (ns.map fun n => (D.str n, D.bl true)) (.str x) (.bl true) = (if x ∈ ns then ns else ns ++ [x]).map fun n => (D.str n, D.bl true) := by
    intro ns
    induction ns with
    | nil => rfl
    | cons n ns ih =>
      rw [List.map_cons]
      unfold putD
      by_cases e : n = x
      · subst e
        rw [if_pos (by simp [keyb]), if_pos List.mem_cons_self]; rfl
      · rw [if_neg (by simpa [keyb] using e), ih]
        by_cases c : x ∈ ns
        · rw [if_pos c, if_pos (List.mem_cons_of_mem _ c)]; rfl
        · rw [if_neg c, if_neg (fun z => by
            rcases List.mem_cons.mp z with z | z
            · exact e z.symm
            · exact c z)]; rfl
  refine ⟨_, gen ns, ?_, fun k => ?_⟩
  · split
    · exact nd
    · next c => exact List.nodup_append.mpr ⟨nd, by simp, fun a ha b hb e => c (by rw [← show b = x by simpa using hb, ← e]; exact ha)⟩
  · split
    · next c =>
      rw [hm k]
      constructor
      · exact .inl
      · rintro (h | rfl)
        · exact h
        · exact (hm _).mp c
    · rw [List.mem_append, hm k, List.mem_singleton]
theorem FD.drop {kvs : List (D × D)} {p : Bs → Prop} (h : FD kvs p) (x : Bs) : FD (dropD kvs (.str x)) fun k => p k ∧ k ≠ x := by
  obtain ⟨ns, rfl, nd, hm⟩ := h
  refine ⟨ns.filter fun n => decide (n ≠ x), ?_, nd.filter _, fun k => by rw [List.mem_filter, hm k, decide_eq_true_eq]⟩
  unfold dropD
  rw [List.filter_map]
  congr 1
  refine List.filter_congr fun n _ => ?_
  show (!(n == x)) = decide (n ≠ x)
  by_cases e : n = x <;> simp [e]
theorem FD.keys {kvs : List (D × D)} {p : Bs → Prop} (h : FD kvs p) : ∃ ns : List Bs, kvs.length = ns.length ∧ strsD (kvs.map (·.1)) = some ns ∧ ns.Nodup ∧ ∀ k, k ∈ ns ↔ p k := by
  obtain ⟨ns, rfl, nd, hm⟩ := h
  refine ⟨ns, by rw [List.length_map], ?_, nd, hm⟩
  rw [List.map_map]
  exact strs_map ns
theorem FD.none {kvs : List (D × D)} {p : Bs → Prop} (h : FD kvs p) {x : Bs} (e : lookD kvs (.str x) = none) : ¬ p x := by
  obtain ⟨ns, rfl, nd, hm⟩ := h
  intro hp
  have hx := (hm x).mpr hp
  have gen : ∀ ns : List Bs, x ∈ ns → (lookD (ns.map fun n => (D.str n, D.bl true)) (.str x)).isSome = true := by
    intro ns
    induction ns with
    | nil => intro h; cases h
    | cons n ns ih =>
      intro h
      rw [List.map_cons]
      unfold lookD
      by_cases c : keyb (.str n) (.str x) = true
      · rw [if_pos c]; rfl
      · rw [if_neg c]
        rcases List.mem_cons.mp h with h | h
        · exact absurd (by simp [keyb, h]) c
        · exact ih h
  have := gen ns hx
  rw [e] at this
  cases this
theorem FD.congr {kvs : List (D × D)} {p r : Bs → Prop} (h : FD kvs p) (e : ∀ k, p k ↔ r k) : FD kvs r := by
  obtain ⟨ns, a, b, c⟩ := h
  exact ⟨ns, a, b, fun k => (c k).trans (e k)⟩
theorem FD.len {kvs : List (D × D)} {p : Bs → Prop} (h : FD kvs p) {l : List Bs} (hl : ∀ k, p k → k ∈ l) : kvs.length ≤ l.length := by
  obtain ⟨ns, rfl, nd, hm⟩ := h
  rw [List.length_map]
  exact srt_uniq.len_sub nd fun k hk => hl k ((hm k).mp hk)
end
end U
/-! U9: free variables; what fits a kind; the program's checks. -/
namespace U
open PySem DL
local macro_rules | `(tactic| and_intros) => `(tactic| repeat (first | refine ⟨_, rfl, ?_⟩ | refine ⟨rfl, ?_⟩))
/-- names no longer than a line -/
def shF : Fm → Prop
  | .at_ a => ∀ k ∈ avars a, k.length ≤ SZ
  | .not f => shF f
  | .bin _ f g => shF f ∧ shF g
  | .q _ _ f => shF f
theorem FV_sh : ∀ (f : Fm) (k : Bs), shF f → FV f k → k.length ≤ SZ
  | .at_ a, k, h, m => h k m
  | .not f, k, h, m => FV_sh f k h m
  | .bin _ f g, k, h, m => by
    rcases m with m | m
    · exact FV_sh f k h.1 m
    · exact FV_sh g k h.2 m
  | .q _ x f, k, h, m => FV_sh f k h m.1
theorem inner_lt {f g : Fm} (h : g ∈ inner f) : dep g + 1 ≤ dep f ∧ vcount g ≤ vcount f ∧ (shF f → shF g) ∧ (okF f → okF g) := by
  cases f with
  | at_ a => cases h
  | not f =>
    obtain rfl : g = f := by simpa [inner] using h
    exact ⟨Nat.le_refl _, Nat.le_refl _, id, id⟩
  | bin an f f' =>
    have : g = f ∨ g = f' := by simpa [inner] using h
    rcases this with rfl | rfl
    · exact ⟨by rw [dep_bin]; omega, by show vcount g ≤ vcount g + _; omega, fun h => h.1, fun h => h.1⟩
    · exact ⟨by rw [dep_bin]; omega, by show vcount g ≤ _ + vcount g; omega, fun h => h.2, fun h => h.2⟩
  | q w x f =>
    obtain rfl : g = f := by simpa [inner] using h
    exact ⟨Nat.le_refl _, Nat.le_refl _, id, fun h => h.2⟩
/-- the names free in the parts -/
def inl (f : Fm) : List Bs := (inner f).flatMap lfree
theorem inl_len (f : Fm) : (inl f).length ≤ vcount f := by
  cases f with
  | at_ a => exact Nat.zero_le _
  | not f => have := lfree_len f; simp [inl, inner]; exact this
  | bin an f g =>
    have h1 := lfree_len f; have h2 := lfree_len g
    simp [inl, inner]; show _ ≤ vcount f + vcount g; omega
  | q w x f => have := lfree_len f; simp [inl, inner]; exact this
theorem inl_mem {f g : Fm} {k : Bs} (h : g ∈ inner f) (m : FV g k) : k ∈ inl f :=
  List.mem_flatMap.mpr ⟨g, h, ((lfree_ok g).2 k).mpr m⟩
section
variable {P : Pg}
theorem w_free (H : Up_free_variables P) : ∀ (k : Nat) (f : Fm) (S : Sto) (q : QD) (qx : QX), vcount f ≤ 60 → shF f → dep f + 1 ≤ k → (∀ ys, FVL f ys → q (nms ys) S) → P.spec k 27 [enc f] S q qx
  | 0, f, _, _, _, _, _, hk, _ => by omega
  | k + 1, f, S, q, qx, hv, hs, hk, h => by
    by_cases ha : ∃ a, f = .at_ a
    · obtain ⟨a, rfl⟩ := ha
      refine Pg.spec_succ H.self rfl ?_
      have hk1 : 1 ≤ k := by show 1 ≤ k; have : dep (.at_ a) = 1 := rfl; omega
      cases a <;> exact ⟨_, rfl, _, rfl, rfl, rfl, _, rfl, w_avars H.to_atom_variables _ _ hk1 ⟨_, _, rfl, strs_map _, by simp [avars], fun ys nd pw mem _ => h ys ⟨nd, pw, mem⟩⟩⟩
    · have hp := dep_pos f
      have inv : ∀ {r : QD} {c : Sto}, True := trivial
      refine Pg.spec_fgt H.self rfl ?_
      have rest : ∀ p, S p = none → wSs (P.G k fun c d S' => ∃ S2, Sub S2 S' ∧ qx c d S2) (f_free_variables.body.drop 2) [some (enc f), some (.ref p), none, none] (ups S p (.dct [])) (bodyK fun d S' => ∃ S2, Sub S2 S' ∧ q d S2) := by
        intro p hp0
        refine ⟨_, rfl, w_inner H.to_inner f _ (by omega) ?_⟩
        refine forL_pre (e := enc) (fun dn ρ S' => ∃ kvs x y, S' p = some (.dct kvs) ∧ Oth p S S' ∧ FD kvs (fun k => ∃ g ∈ dn, FV g k) ∧ ρ = [some (enc f), some (.ref p), x, y]) (inner f) [] _ _ _ rfl ⟨[], _, _, ups_same, .ups, ⟨[], rfl, .nil, by simp⟩, rfl⟩ ?_ ?_
        · rintro dn g r ρ S1 hall ⟨kvs, x, y, hS, hO, hF, rfl⟩ kk hh
          have hg : g ∈ inner f := by rw [hall]; simp
          obtain ⟨g1, g2, g3, _⟩ := inner_lt hg
          have hd : ∀ g' ∈ dn, g' ∈ inner f := fun g' h' => by rw [hall]; simp [h']
          refine ⟨_, rfl, w_free H k g _ _ _ (by omega) (g3 hs) (by omega) fun ys hys => ?_⟩
          refine forL_pre (e := D.str) (fun dn' ρ S' => ∃ kvs x y, S' p = some (.dct kvs) ∧ Oth p S S' ∧ FD kvs (fun k => (∃ g ∈ dn, FV g k) ∨ k ∈ dn') ∧ ρ = [some (enc f), some (.ref p), x, y]) ys [] _ _ _ rfl ⟨kvs, _, _, hS, hO, hF.congr (by simp), rfl⟩ ?_ ?_
          · rintro dn' n r' ρ S2 hall' ⟨kvs, x, y, hS, hO, hF, rfl⟩ kk hh
            have hl : kvs.length ≤ (inl f).length := hF.len fun k hk => by
              rcases hk with ⟨g', hg', m⟩ | m
              · exact inl_mem (hd g' hg') m
              · exact inl_mem hg ((hys.2.2 k).mp (by rw [hall']; simp [m]))
            have hl2 := inl_len f
            refine ⟨_, rfl, _, rfl, ?_⟩
            refine put_ref hS rfl (by show kvs.length < 16777216; omega) ?_
            refine hh _ _ ⟨_, _, _, ups_same, hO.trans .ups, (hF.put n).congr fun k => ?_, rfl⟩
            rw [List.mem_append, List.mem_singleton, or_assoc]
          · rintro ρ S2 ⟨kvs, x, y, hS, hO, hF, rfl⟩
            refine hh _ _ ⟨kvs, _, _, hS, hO, hF.congr fun k => ?_, rfl⟩
            rw [hys.2.2 k]
            constructor
            · rintro (⟨g', a, b⟩ | m)
              · exact ⟨g', List.mem_append_left _ a, b⟩
              · exact ⟨g, by simp, m⟩
            · rintro ⟨g', a, b⟩
              rcases List.mem_append.mp a with a | a
              · exact .inl ⟨g', a, b⟩
              · rw [show g' = g by simpa using a] at b
                exact .inr b
        · rintro ρ S1 ⟨kvs, x, y, hS, hO, hF, rfl⟩
          -- the end: the keys, ascending
          have last : ∀ (S2 : Sto) (kvs : List (D × D)), S2 p = some (.dct kvs) → Oth p S S2 → FD kvs (FV f) → wSs (P.G k fun c d S' => ∃ S2, Sub S2 S' ∧ qx c d S2) (f_free_variables.body.drop 4) [some (enc f), some (.ref p), x, y] S2 (bodyK fun d S' => ∃ S2, Sub S2 S' ∧ q d S2) := by
            intro S2 kvs hS hO hF
            obtain ⟨ns, e1, e2, nd, hm⟩ := hF.keys
            have l1 : ns.length ≤ (lfree f).length := srt_uniq.len_sub nd fun k hk => ((lfree_ok f).2 k).mpr ((hm k).mp hk)
            have l2 := lfree_len f
            refine ⟨_, rfl, kvs, ns, by unfold dvw; simp only [hS], e2, by omega, fun y hy => FV_sh f y hs ((hm y).mp hy), fun ys pm pw => ?_⟩
            refine ⟨S, fun a o e => ?_, h ys ⟨pm.nodup_iff.mpr nd, pw, fun k => pm.mem_iff.trans (hm k)⟩⟩
            rw [hO a (fun z => by rw [z, hp0] at e; cases e)]; exact e
          cases f with
          | at_ a => exact absurd ⟨a, rfl⟩ ha
          | not g => exact ⟨_, rfl, _, rfl, rfl, rfl, last S1 kvs hS hO (hF.congr fun k => by simp [inner]; exact Iff.rfl)⟩
          | bin an g1 g2 => cases an <;> exact ⟨_, rfl, _, rfl, rfl, rfl, last S1 kvs hS hO (hF.congr fun k => by simp [inner]; exact Iff.rfl)⟩
          | q w z g =>
            have fin : wSs (P.G k fun c d S' => ∃ S2, Sub S2 S' ∧ qx c d S2) (.expr (.dpop (.var 1) (.idx (.var 0) (.int 1)) .non) :: f_free_variables.body.drop 4) [some (enc (.q w z g)), some (.ref p), x, y] S1 (bodyK fun d S' => ∃ S2, Sub S2 S' ∧ q d S2) := by
              refine ⟨_, rfl, p, rfl, ⟨_, hS⟩, _, rfl, _, rfl, kvs, hS, rfl, fun e he => ?_, fun he => ?_⟩
              · exact last _ _ ups_same (hO.trans .ups) ((hF.drop z).congr fun k => by simp [inner]; exact Iff.rfl)
              · refine last S1 kvs hS hO (hF.congr fun k => ?_)
                have hn := hF.none he
                constructor
                · rintro ⟨g', a, b⟩
                  rw [show g' = g by simpa [inner] using a] at b
                  exact ⟨b, fun e => hn ⟨g, by simp [inner], by rw [← e]; exact b⟩⟩
                · rintro ⟨b, _⟩
                  exact ⟨g, by simp [inner], b⟩
            cases w <;> exact ⟨_, rfl, _, rfl, rfl, rfl, fin⟩
      cases f with
      | at_ a => exact absurd ⟨a, rfl⟩ ha
      | not g => exact ⟨_, rfl, _, rfl, rfl, rfl, rest⟩
      | bin an g1 g2 => cases an <;> exact ⟨_, rfl, _, rfl, rfl, rfl, rest⟩
      | q w z g => cases w <;> exact ⟨_, rfl, _, rfl, rfl, rfl, rest⟩

/-! ### what fits a kind -/
def hdF (ways : Int) (labels : List Bs) : Fm → Bool
  | .at_ (.label l _) => decide (l ∈ labels)
  | .at_ (.child w _ _) => decide (w < ways)
  | _ => true
def fitF (ways : Int) (labels : List Bs) : Fm → Bool
  | .at_ a => hdF ways labels (.at_ a) && decide ((lfree (.at_ a)).length ≤ 6)
  | .not f => decide ((lfree (.not f)).length ≤ 6) && fitF ways labels f
  | .bin a f g => decide ((lfree (.bin a f g)).length ≤ 6) && (fitF ways labels f && fitF ways labels g)
  | .q w x f => decide ((lfree (.q w x f)).length ≤ 6) && fitF ways labels f
theorem fitF_eq (ways : Int) (labels : List Bs) (f : Fm) : fitF ways labels f = (hdF ways labels f && (decide ((lfree f).length ≤ 6) && (inner f).all (fitF ways labels))) := by
  cases f with
  | at_ a => simp [fitF, inner]
  | not f => simp [fitF, inner, hdF]
  | bin a f g => simp [fitF, inner, hdF]
  | q w x f => simp [fitF, inner, hdF]
theorem any_str (acc : List Bs) (x : Bs) : ((acc.map D.str).any fun z => dEq z (.str x)) = decide (x ∈ acc) := by
  induction acc with
  | nil => rfl
  | cons a acc ih =>
    rw [List.map_cons, List.any_cons, ih]
    have : dEq (.str a) (.str x) = decide (x = a) := by
      show (a == x) = _
      by_cases e : x = a
      · simp [e]
      · simp [e, Ne.symm e]
    rw [this]
    by_cases e : x = a <;> by_cases c : x ∈ acc <;> simp [e, c]
theorem w_parts (H : Up_check_parts P) {d : D} {ways : Int} {labels : List Bs} (kd : KindOk d ways labels) : ∀ (k : Nat) (f : Fm) (S : Sto) (q : QD) (qx : QX), vcount f ≤ 60 → shF f → okF f → dep f + 2 ≤ k → (fitF ways labels f = true → q .non S) → (fitF ways labels f = false → qx 2 .non S) → P.spec k 29 [d, enc f] S q qx
  | 0, f, _, _, _, _, _, _, hk, _, _ => by omega
  | k + 1, f, S, q, qx, hv, hs, ho, hk, h, hx => by
    obtain ⟨_, _, hls⟩ := kd.pos
    have kd0 := kd
    obtain ⟨rfl, hw, hlb⟩ := kd
    refine Pg.spec_succ H.self rfl ?_
    refine ⟨_, rfl, ?_⟩
    have okl : okD (.tup (labels.map .str)) := by
      show (labels.map D.str).all (okd 59) = true
      refine List.all_eq_true.mpr fun d hd => ?_
      obtain ⟨x, hx, rfl⟩ := List.mem_map.mp hd
      exact okd_str' (hls x hx)
    have rest : hdF ways labels f = true → wSs (P.G k qx) (f_check_parts.body.drop 3) [some (.tup [.int ways, .tup (labels.map .str)]), some (enc f), none, some (.int ways), some (.tup (labels.map .str))] S (bodyK q) := by
      intro hd
      rw [fitF_eq, hd, Bool.true_and] at h hx
      refine ⟨_, rfl, w_free H.to_free_variables k f _ _ _ hv hs (by omega) fun ys hys => ?_⟩
      refine ⟨_, rfl, ?_⟩
      have hl : (ys.map D.str).length = (lfree f).length := by rw [List.length_map]; exact hys.len
      refine if_c (fun c => ?_) (fun c => ?_)
      · have c := of_decide_eq_true c
        have : ¬ (lfree f).length ≤ 6 := by omega
        rw [decide_eq_false this, Bool.false_and] at hx
        exact ⟨by decide, hx rfl⟩
      · have c := of_decide_eq_false c
        have : (lfree f).length ≤ 6 := by omega
        rw [decide_eq_true this, Bool.true_and] at h hx
        refine ⟨_, rfl, w_inner H.to_inner f _ (by have := dep_pos f; omega) ?_⟩
        refine forL_pre (e := enc) (fun dn ρ S' => S' = S ∧ (∀ g ∈ dn, fitF ways labels g = true) ∧ ∃ x, ρ = [some (.tup [.int ways, .tup (labels.map .str)]), some (enc f), x, some (.int ways), some (.tup (labels.map .str))]) (inner f) [] _ _ _ rfl ⟨rfl, by simp, _, rfl⟩ ?_ ?_
        · rintro dn g r ρ S1 hall ⟨rfl, hd, x, rfl⟩ kk hh
          have hg : g ∈ inner f := by rw [hall]; simp
          obtain ⟨g1, g2, g3, g4⟩ := inner_lt hg
          refine ⟨_, rfl, _, rfl, w_parts H kd0 k g _ _ _ (by omega) (g3 hs) (g4 ho) (by omega) (fun e => ?_) fun e => ?_⟩
          · refine hh _ _ ⟨rfl, fun g' hg' => ?_, _, rfl⟩
            rcases List.mem_append.mp hg' with m | m
            · exact hd g' m
            · rw [show g' = g by simpa using m]; exact e
          · refine hx ?_
            cases z : (inner f).all (fitF ways labels) with
            | false => rfl
            | true =>
              have := List.all_eq_true.mp z g hg
              rw [e] at this; cases this
        · rintro ρ S1 ⟨rfl, hd, x, rfl⟩
          exact h (List.all_eq_true.mpr hd)
    cases f with
    | not g => exact ⟨_, rfl, _, rfl, rfl, rfl, _, rfl, _, rfl, rfl, rfl, rest rfl⟩
    | bin an g1 g2 => cases an <;> exact ⟨_, rfl, _, rfl, rfl, rfl, _, rfl, _, rfl, rfl, rfl, rest rfl⟩
    | q w z g => cases w <;> exact ⟨_, rfl, _, rfl, rfl, rfl, _, rfl, _, rfl, rfl, rfl, rest rfl⟩
    | at_ a => cases a with
      | label l x =>
        refine ⟨_, rfl, _, rfl, rfl, rfl, _, rfl, _, rfl, _, rfl, okd_str' ho.1, okl, ?_⟩
        refine if_c (fun c => ?_) (fun c => ?_)
        · rw [any_str] at c
          refine ⟨by decide, hx ?_⟩
          show (decide (l ∈ labels) && _) = false
          rw [show decide (l ∈ labels) = false by simpa using c]; rfl
        · rw [any_str] at c
          exact ⟨_, rfl, _, rfl, rfl, rfl, rest (by show decide (l ∈ labels) = true; simpa using c)⟩
      | child w x y =>
        refine ⟨_, rfl, _, rfl, rfl, rfl, _, rfl, _, rfl, rfl, rfl, _, rfl, _, rfl, _, rfl, ?_⟩
        refine if_c (fun c => ?_) (fun c => ?_)
        · have c := of_decide_eq_true c
          refine ⟨by decide, hx ?_⟩
          show (decide (w < ways) && _) = false
          rw [decide_eq_false (by omega)]; rfl
        · have c := of_decide_eq_false c
          exact rest (decide_eq_true (by omega))
      | _ => exact ⟨_, rfl, _, rfl, rfl, rfl, _, rfl, _, rfl, rfl, rfl, rest rfl⟩
theorem w_check_kind (H : Up_check_kind P) {d : D} {ways : Int} {labels : List Bs} (kd : KindOk d ways labels) {k : Nat} {S : Sto} {q : QD} (qx : QX) (hk : 1 ≤ k) (h : q .non S) : P.spec k 24 [d] S q qx := by
  obtain ⟨k, rfl⟩ : ∃ j, k = j + 1 := ⟨k - 1, by omega⟩
  refine Pg.spec_succ H.self rfl ?_
  obtain ⟨rfl, hw, hl⟩ := kd
  have srt : ∀ ys : List Bs, ys.Nodup → (ys.Pairwise fun a b => ¬ b < a) → (∀ k, k ∈ ys ↔ k ∈ labels) → ys = labels := fun ys nd pw hm =>
    srt_uniq nd pw (by rcases hl with rfl | rfl | rfl <;> decide) (by rcases hl with rfl | rfl | rfl <;> decide) hm
  have last : wSs (P.G k qx) (f_check_kind.body.drop 2) [some (.tup [.int ways, .tup (labels.map .str)]), some (.int ways), some (.tup (labels.map .str)), none] S (bodyK q) := by
    rcases hl with rfl | rfl | rfl
    · refine ⟨_, rfl, ?_⟩
      and_intros
      exact ⟨_, [true], rfl, fun t => ne_tup, rfl, _, rfl, h⟩
    · refine ⟨_, rfl, ?_⟩
      and_intros
      exact ⟨_, [true, true], rfl, fun t => ne_tup, rfl, _, rfl, h⟩
    · refine ⟨_, rfl, ?_⟩
      and_intros
      exact ⟨_, [true, true, true], rfl, fun t => ne_tup, rfl, _, rfl, h⟩
  have mid : ∀ (b : Bool), b = false → True := fun _ _ => trivial
  rcases hw with rfl | rfl
  all_goals
    rcases hl with rfl | rfl | rfl
    all_goals
      refine ⟨_, rfl, ?_⟩
      refine ⟨_, rfl, rfl, rfl, ?_⟩
      refine ⟨_, rfl, _, rfl, ?_⟩
      refine ⟨_, rfl, _, rfl, _, rfl, _, _, rfl, rfl, by decide, fun ys nd pw hm _ => ?_⟩
      rw [srt ys nd pw hm]
      exact ⟨rfl, rfl, last⟩
/-- the program's checks -/
def okFm (ways : Int) (labels : List Bs) (f : Fm) : Bool := fitF ways labels f && decide (dep f ≤ 40)
theorem w_check_formula (H : Up_check_formula P) {d : D} {ways : Int} {labels : List Bs} (kd : KindOk d ways labels) {k : Nat} {f : Fm} {S : Sto} {q : QD} {qx : QX} (hv : vcount f ≤ 60) (hs : shF f) (ho : okF f) (hk : dep f + 3 ≤ k) (h : okFm ways labels f = true → q .non S) (hx : okFm ways labels f = false → qx 2 .non S) : P.spec k 30 [d, enc f] S q qx := by
  obtain ⟨k, rfl⟩ : ∃ j, k = j + 1 := ⟨k - 1, by omega⟩
  refine Pg.spec_succ H.self rfl ?_
  refine ⟨_, rfl, w_check_kind H.to_check_kind kd _ (by omega) ?_⟩
  refine ⟨_, rfl, w_depth H.to_depth f k _ _ _ (by omega) ?_⟩
  refine if_c (fun c => ?_) (fun c => ?_)
  · have c := of_decide_eq_true c
    refine ⟨by decide, hx ?_⟩
    unfold okFm
    rw [decide_eq_false (by omega), Bool.and_false]
  · have c := of_decide_eq_false c
    unfold okFm at h hx
    rw [decide_eq_true (by omega), Bool.and_true] at h hx
    refine ⟨_, rfl, _, rfl, w_parts H.to_check_parts kd k f _ _ _ hv hs ho (by omega) h hx⟩
theorem w_check_sentence (H : Up_check_sentence P) {d : D} {ways : Int} {labels : List Bs} (kd : KindOk d ways labels) {k : Nat} {f : Fm} {S : Sto} {q : QD} {qx : QX} (hv : vcount f ≤ 60) (hs : shF f) (ho : okF f) (hk : dep f + 4 ≤ k) (h : (okFm ways labels f && decide (lfree f = [])) = true → q .non S) (hx : (okFm ways labels f && decide (lfree f = [])) = false → qx 2 .non S) : P.spec k 31 [d, enc f] S q qx := by
  obtain ⟨k, rfl⟩ : ∃ j, k = j + 1 := ⟨k - 1, by omega⟩
  refine Pg.spec_succ H.self rfl ?_
  refine ⟨_, rfl, _, rfl, w_check_formula H.to_check_formula kd hv hs ho (by omega) (fun e => ?_) (fun e => hx (by rw [e]; rfl))⟩
  rw [e, Bool.true_and] at h hx
  refine ⟨_, rfl, w_free H.to_free_variables k f _ _ _ hv hs (by omega) fun ys hys => ?_⟩
  have hl := hys.len
  cases ys with
  | nil =>
    have : lfree f = [] := List.length_eq_zero_iff.mp hl.symm
    exact ⟨_, rfl, h (decide_eq_true this)⟩
  | cons y ys =>
    have : lfree f ≠ [] := fun e => by rw [e] at hl; cases hl
    exact ⟨_, rfl, by decide, hx (decide_eq_false this)⟩
end
end U
/-! U10: the laws' own free variables, depth, fitness. -/
namespace U
open PySem DL
local macro_rules | `(tactic| and_intros) => `(tactic| repeat (first | refine ⟨_, rfl, ?_⟩ | refine ⟨rfl, ?_⟩))
section
variable {P : Pg} {q : QD} {k : Nat}
theorem w_linner (H : Up__law_inner P) (f : Fm) {S : Sto} (qx : QX) (hk : 1 ≤ k) (h : q (.lst ((inner f).map enc)) S) : P.spec k 32 [enc f] S q qx := by
  obtain ⟨k, rfl⟩ : ∃ j, k = j + 1 := ⟨k - 1, by omega⟩
  refine Pg.spec_succ H.self rfl ?_
  cases f with
  | at_ a => cases a <;> (and_intros; exact h)
  | not f => and_intros; exact h
  | bin an f g => cases an <;> (and_intros; exact h)
  | q w x f => cases w <;> (and_intros; exact h)
theorem w_ldepth (H : Up__law_depth P) : ∀ (f : Fm) (k : Nat) (S : Sto) (q : QD) (qx : QX), dep f + 1 ≤ k → q (.int (dep f)) S → P.spec k 34 [enc f] S q qx
  | f, 0, _, _, _, hk, _ => by omega
  | f, k + 1, S, q, qx, hk, h => by
    refine Pg.spec_succ H.self rfl ?_
    have hd := dep_pos f
    refine ⟨_, rfl, w_linner H.to__law_inner f _ (by omega) ?_⟩
    cases f with
    | at_ a =>
      refine ⟨by decide, _, [0], rfl, fun t => ne_tup, rfl, by decide, fun m hm _ => ?_⟩
      obtain rfl : m = 0 := by simpa using hm
      exact h
    | not f =>
      refine ⟨_, rfl, ?_⟩
      refine w_ldepth H f k _ _ _ (by simp only [dep_not, dep_bin, dep_q] at hk; omega) ?_
      refine ⟨by show 1 + 1 ≤ 16777216; decide, _, [0, (dep f : Int)], rfl, fun t => ne_tup, rfl, by simp, fun m hm hle => ?_⟩
      have hp := dep_pos f
      have h2 := hle (dep f : Int) (by simp)
      have : m = 0 ∨ m = dep f := by simpa using hm
      obtain rfl : m = dep f := by omega
      have e : (1 : Int) + (dep f : Int) = ((dep (.not f) : Nat) : Int) := by simp only [dep_not, dep_bin, dep_q]; omega
      show q (.int (1 + (dep f : Int))) S
      rw [e]; exact h
    | bin an f g =>
      refine ⟨_, rfl, ?_⟩
      refine w_ldepth H f k _ _ _ (by simp only [dep_not, dep_bin, dep_q] at hk; omega) ?_
      refine ⟨_, rfl, ?_⟩
      refine w_ldepth H g k _ _ _ (by simp only [dep_not, dep_bin, dep_q] at hk; omega) ?_
      refine ⟨by show 1 + 2 ≤ 16777216; decide, _, [0, (dep f : Int), (dep g : Int)], rfl, fun t => ne_tup, rfl, by simp, fun m hm hle => ?_⟩
      have hp := dep_pos f
      have h2 := hle (dep f : Int) (by simp)
      have h3 := hle (dep g : Int) (by simp)
      have : m = 0 ∨ m = dep f ∨ m = dep g := by simpa using hm
      have e : (1 : Int) + m = ((dep (.bin an f g) : Nat) : Int) := by simp only [dep_not, dep_bin, dep_q]; omega
      show q (.int (1 + m)) S
      rw [e]; exact h
    | q w x f =>
      refine ⟨_, rfl, ?_⟩
      refine w_ldepth H f k _ _ _ (by simp only [dep_not, dep_bin, dep_q] at hk; omega) ?_
      refine ⟨by show 1 + 1 ≤ 16777216; decide, _, [0, (dep f : Int)], rfl, fun t => ne_tup, rfl, by simp, fun m hm hle => ?_⟩
      have hp := dep_pos f
      have h2 := hle (dep f : Int) (by simp)
      have : m = 0 ∨ m = dep f := by simpa using hm
      obtain rfl : m = dep f := by omega
      have e : (1 : Int) + (dep f : Int) = ((dep (.q w x f) : Nat) : Int) := by simp only [dep_not, dep_bin, dep_q]; omega
      show q (.int (1 + (dep f : Int))) S
      rw [e]; exact h
theorem lfree_okS {f : Fm} (h : okF f) : ∀ x ∈ lfree f, okS' x = true := fun x hx => FV_ok f x h (((lfree_ok f).2 x).mp hx)
theorem okXt {X : List Bs} (h : ∀ x ∈ X, okS' x = true) : okD (.tup (X.map .str)) := by
  show (X.map D.str).all (okd 59) = true
  refine List.all_eq_true.mpr fun d hd => ?_
  obtain ⟨x, hx, rfl⟩ := List.mem_map.mp hd
  exact okd_str' (h x hx)
theorem filt_mem {l acc : List Bs} : l.filter (fun x => !decide (x ∈ acc)) = l.filter fun x => decide (x ∉ acc) := by
  refine List.filter_congr fun x _ => ?_
  by_cases e : x ∈ acc <;> simp [e]
theorem okd_enc {f : Fm} (ho : okF f) (hd : dep f ≤ 58) : okd 59 (enc f) = true := okd_of _ _ _ (by omega) (okq_enc f (dep f) ho (Nat.le_refl _))
set_option maxHeartbeats 4000000 in
theorem w_lfree (H : Up__law_free P) : ∀ (k : Nat) (f : Fm) (S : Sto) (q : QD) (qx : QX), vcount f ≤ 60 → okF f → dep f ≤ 58 → dep f + 1 ≤ k → q (nms (lfree f)) S → P.spec k 33 [enc f] S q qx
  | 0, f, _, _, _, _, _, _, hk, _ => by omega
  | k + 1, f, S, q, qx, hv, ho, hd, hk, h => by
    have hp := dep_pos f
    refine Pg.spec_succ H.self rfl ?_
    refine ⟨_, rfl, w_linner H.to__law_inner f _ (by omega) ?_⟩
    -- one part more
    have part : ∀ (g : Fm) (acc : List Bs) (x y : Option D) (kk : DL.Env → Sto → Prop), g ∈ inner f → (∀ x ∈ acc, okS' x = true) → acc.length ≤ 60 →
        (∀ x', kk [some (enc f), some (.lst ((inner f).map enc)), some (nms (acc ++ (lfree g).filter fun x => decide (x ∉ acc))), x', none, none, y] S) →
        bindT (.nm 3) (enc g) [some (enc f), some (.lst ((inner f).map enc)), some (nms acc), x, none, none, y] fun ρ' => wSs (P.G k qx) [.set (.nm 2) (.bin .add (.var 2) (.lc (.var 6) (.nm 6) (.over (.call 33 (.cons (.var 3) .nil))) (.cons (.cmp .notin (.var 6) (.var 2)) .nil) [6]))] ρ' S { nx := kk, rt := (bodyK q).rt, bk := (bodyK q).nx, ct := kk } := by
      intro g acc x y kk hg ha hl hh
      obtain ⟨g1, g2, _, g4⟩ := inner_lt hg
      refine ⟨_, rfl, _, rfl, w_lfree H k g _ _ _ (by omega) (g4 ho) (by omega) (by omega) ?_⟩
      refine loopL_filter (e := D.str) (fun x => !decide (x ∈ acc)) D.str (lfree g) _ _ (fun z hz k1 hk1 => ?_) ?_
      · refine ⟨_, rfl, _, rfl, okd_str' (lfree_okS (g4 ho) z hz), okX ha, ?_⟩
        rw [any_str]
        cases c : decide (z ∈ acc) with
        | true =>
          rw [c] at hk1
          exact hk1
        | false =>
          rw [c] at hk1
          exact ⟨_, rfl, hk1⟩
      · rw [filt_mem]
        have l1 := List.length_filter_le (fun x => decide (x ∉ acc)) (lfree g)
        have l2 := lfree_len g
        refine ⟨by show (acc.map D.str).length + (List.map D.str _).length ≤ 16777216; rw [List.length_map, List.length_map]; omega, ?_⟩
        have := hh (some (enc g))
        rw [show nms (acc ++ (lfree g).filter fun x => decide (x ∉ acc)) = .lst (acc.map D.str ++ ((lfree g).filter fun x => decide (x ∉ acc)).map D.str) by rw [← List.map_append]] at this
        exact this
    have hl := lfree_len f
    cases f with
    | at_ a =>
      have fin : ∀ (ns : List Bs), ns = avars a → (∀ x ∈ ns, okS' x = true) → wSs (P.G k qx) (.set (.nm 2) (.lc (.idx (.var 4) (.var 5)) (.nm 5) (.rng1 (.bif .len (.var 4))) (.cons (.cmp .notin (.idx (.var 4) (.var 5)) (.sl (.var 4) .none (.some (.var 5)))) .nil) [5]) :: f__law_free.body.drop 4)
          [some (enc (.at_ a)), some (.lst []), some (.lst []), none, some (.tup (ns.map .str)), none, none] S (bodyK q) := by
        intro ns hn hok
        have fin2 : wSs (P.G k qx) (f__law_free.body.drop 4) [some (enc (.at_ a)), some (.lst []), some (nms (ddup (avars a))), none, some (.tup (ns.map .str)), none, none] S (bodyK q) := by
          cases a <;> exact ⟨_, rfl, _, rfl, rfl, rfl, _, rfl, h⟩
        rw [← hn] at fin2
        have sh : ns = [] ∨ (∃ x, ns = [x]) ∨ ∃ x y, ns = [x, y] := by rw [hn]; cases a <;> simp [avars]
        rcases sh with rfl | ⟨x, rfl⟩ | ⟨x, y, rfl⟩
        · refine ⟨_, rfl, _, rfl, ⟨by decide, by decide⟩, ?_⟩
          exact fin2
        · refine ⟨_, rfl, _, rfl, ⟨by simp, by simp⟩, ?_⟩
          refine ⟨_, rfl, _, rfl, _, rfl, _, rfl, _, rfl, okd_str' (hok x (by simp)), rfl, ?_⟩
          refine ⟨_, rfl, _, rfl, _, rfl, ?_⟩
          exact fin2
        · refine ⟨_, rfl, _, rfl, ⟨by simp, by simp⟩, ?_⟩
          refine ⟨_, rfl, _, rfl, _, rfl, _, rfl, _, rfl, okd_str' (hok x (by simp)), rfl, ?_⟩
          refine ⟨_, rfl, _, rfl, _, rfl, ?_⟩
          refine ⟨_, rfl, _, rfl, _, rfl, _, rfl, _, rfl, okd_str' (hok y (by simp)), by rw [show cutD (List.map D.str [x, y]) Option.none (some (0 + 1 : Int)) = [D.str x] from rfl]; exact okXt (X := [x]) (fun z hz => hok z (by simp at hz; simp [hz])), ?_⟩
          have ea : ([D.str x].any fun z => dEq z (.str y)) = decide (y ∈ [x]) := any_str [x] y
          have ed : ddup [x, y] = if y ∈ [x] then [x] else [x, y] := rfl
          show if (!([D.str x].any fun z => dEq z (.str y))) = true then _ else _
          rw [ea]
          by_cases e : y ∈ [x]
          · rw [decide_eq_true e]
            rw [ed, if_pos e] at fin2
            exact fin2
          · rw [decide_eq_false e]
            rw [ed, if_neg e] at fin2
            exact ⟨_, rfl, _, rfl, _, rfl, fin2⟩
      cases a with
      | inside a b => exact ⟨_, rfl, _, rfl, rfl, rfl, _, rfl, _, rfl, rfl, rfl, _, rfl, fin [a, b] rfl (fun z hz => FV_ok _ z ho (show z ∈ avars (.inside a b) from hz))⟩
      | inn a b => exact ⟨_, rfl, _, rfl, rfl, rfl, _, rfl, _, rfl, rfl, rfl, _, rfl, fin [a, b] rfl (fun z hz => FV_ok _ z ho (show z ∈ avars (.inn a b) from hz))⟩
      | tru => exact ⟨_, rfl, _, rfl, rfl, rfl, _, rfl, _, rfl, rfl, rfl, _, rfl, fin [] rfl (fun z hz => FV_ok _ z ho (show z ∈ avars .tru from hz))⟩
      | label l x => exact ⟨_, rfl, _, rfl, rfl, rfl, _, rfl, _, rfl, rfl, rfl, _, rfl, fin [x] rfl (fun z hz => FV_ok _ z ho (show z ∈ avars (.label l x) from hz))⟩
      | top x => exact ⟨_, rfl, _, rfl, rfl, rfl, _, rfl, _, rfl, rfl, rfl, _, rfl, fin [x] rfl (fun z hz => FV_ok _ z ho (show z ∈ avars (.top x) from hz))⟩
      | same x y => exact ⟨_, rfl, _, rfl, rfl, rfl, _, rfl, _, rfl, rfl, rfl, _, rfl, fin [x, y] rfl (fun z hz => FV_ok _ z ho (show z ∈ avars (.same x y) from hz))⟩
      | child w x y => exact ⟨_, rfl, _, rfl, rfl, rfl, _, rfl, _, rfl, rfl, rfl, _, rfl, fin [x, y] rfl (fun z hz => FV_ok _ z ho (show z ∈ avars (.child w x y) from hz))⟩
      | below x y => exact ⟨_, rfl, _, rfl, rfl, rfl, _, rfl, _, rfl, rfl, rfl, _, rfl, fin [x, y] rfl (fun z hz => FV_ok _ z ho (show z ∈ avars (.below x y) from hz))⟩
    | not g =>
      refine ⟨_, rfl, ?_⟩
      have e0 : ([] ++ (lfree g).filter fun x => decide (x ∉ ([] : List Bs))) = lfree g := by rw [List.nil_append, List.filter_eq_self.mpr (by simp)]
      refine part g [] _ _ _ (by simp [inner]) (by simp) (by simp) fun x' => ?_
      rw [e0]
      have ok1 := okd_enc (f := g) ho (by rw [dep_not] at hd; omega)
      refine ⟨_, rfl, by show (([enc g] : List D).all (okd 59)) = true; simp [ok1], rfl, ?_⟩
      exact ⟨_, rfl, _, rfl, rfl, rfl, _, rfl, h⟩
    | bin an g g' =>
      refine ⟨_, rfl, ?_⟩
      have e0 : ([] ++ (lfree g).filter fun x => decide (x ∉ ([] : List Bs))) = lfree g := by rw [List.nil_append, List.filter_eq_self.mpr (by simp)]
      have lg := lfree_len g
      refine part g [] _ _ _ (by simp [inner]) (by simp) (by simp) fun x' => ?_
      rw [e0]
      refine part g' (lfree g) _ _ _ (by simp [inner]) (lfree_okS ho.1) (by have : vcount g ≤ vcount (.bin an g g') := Nat.le_add_right _ _; omega) fun x' => ?_
      have ok1 := okd_enc (f := g) ho.1 (by rw [dep_bin] at hd; omega)
      have ok2 := okd_enc (f := g') ho.2 (by rw [dep_bin] at hd; omega)
      refine ⟨_, rfl, by show (([enc g, enc g'] : List D).all (okd 59)) = true; simp [ok1, ok2], rfl, ?_⟩
      cases an <;> exact ⟨_, rfl, _, rfl, rfl, rfl, _, rfl, h⟩
    | q w x g =>
      refine ⟨_, rfl, ?_⟩
      have e0 : ([] ++ (lfree g).filter fun x => decide (x ∉ ([] : List Bs))) = lfree g := by rw [List.nil_append, List.filter_eq_self.mpr (by simp)]
      refine part g [] _ _ _ (by simp [inner]) (by simp) (by simp) fun x' => ?_
      rw [e0]
      have ok1 := okd_enc (f := g) ho.2 (by rw [dep_q] at hd; omega)
      refine ⟨_, rfl, by show (([enc g] : List D).all (okd 59)) = true; simp [ok1], rfl, ?_⟩
      have fin : wSs (P.G k qx) [.set (.nm 2) (.lc (.var 6) (.nm 6) (.over (.var 2)) (.cons (.cmp .ne (.var 6) (.idx (.var 0) (.int 1))) .nil) [6]), .ret (.var 2)] [some (enc (.q w x g)), some (.lst [enc g]), some (nms (lfree g)), x', none, none, none] S (bodyK q) := by
        refine ⟨_, rfl, ?_⟩
        refine loopL_filter (e := D.str) (fun y => decide (y ≠ x)) D.str (lfree g) _ _ (fun z hz k1 hk1 => ?_) ⟨_, rfl, h⟩
        refine ⟨_, rfl, _, rfl, _, rfl, okd_str' (lfree_okS (f := g) ho.2 z hz), okd_str' ho.1, ?_⟩
        by_cases e : z = x
        · subst e
          rw [show decide (z ≠ z) = false by simp] at hk1
          show if (!(z == z)) = true then _ else _
          rw [if_neg (by simp)]
          exact hk1
        · rw [show decide (z ≠ x) = true by simpa using e] at hk1
          show if (!(z == x)) = true then _ else _
          rw [if_pos (by simpa using e)]
          exact ⟨_, rfl, hk1⟩
      cases w <;> exact ⟨_, rfl, _, rfl, rfl, rfl, fin⟩
end
end U
/-! U11: the laws' own fitness; what the program is told. -/
namespace U
open PySem DL
local macro_rules | `(tactic| and_intros) => `(tactic| repeat (first | refine ⟨_, rfl, ?_⟩ | refine ⟨rfl, ?_⟩))
mutual
theorem sameD_refl : ∀ (n : Nat) (d : D), okq n d = true → sameD d d = true
  | n, .non, _ => rfl
  | n, .bl b, _ => by show (b == b) = true; simp
  | n, .int i, _ => by show (i == i) = true; simp
  | n, .str s, _ => by show (s == s) = true; simp
  | n + 1, .tup xs, h => by
    have h : (decide (xs.length ≤ SZ) && xs.all (okq n)) = true := h
    rw [Bool.and_eq_true] at h
    exact sameL_refl n xs (List.all_eq_true.mp h.2)
  | n + 1, .lst xs, h => by
    have h : (decide (xs.length ≤ SZ) && xs.all (okq n)) = true := h
    rw [Bool.and_eq_true] at h
    exact sameL_refl n xs (List.all_eq_true.mp h.2)
  | 0, .tup _, h => by cases h
  | 0, .lst _, h => by cases h
  | n, .dct _, h => by cases n <;> cases h
  | n, .ref _, h => by cases n <;> cases h
  | n, .scr _, h => by cases n <;> cases h
theorem sameL_refl : ∀ (n : Nat) (xs : List D), (∀ x ∈ xs, okq n x = true) → sameL xs xs = true
  | _, [], _ => rfl
  | n, x :: xs, h => by
    rw [sameL, sameD_refl n x (h x List.mem_cons_self), sameL_refl n xs fun y hy => h y (List.mem_cons_of_mem _ hy)]
    rfl
end
theorem eN_len {x : Bs} (h : eN x = true) : x.length ≤ SZ := by
  cases x with
  | nil => exact Nat.zero_le _
  | cons c r =>
    simp only [eN, Bool.and_eq_true, decide_eq_true_eq] at h
    show r.length + 1 ≤ 16777216
    omega
theorem sN_len {x : Bs} (h : sN x = true) : x.length ≤ SZ := by
  cases x with
  | nil => exact Nat.zero_le _
  | cons c r =>
    simp only [sN, Bool.and_eq_true, decide_eq_true_eq] at h
    show r.length + 1 ≤ 16777216
    omega
theorem all_cons {X : List Bs} {p : Bs → Prop} {x : Bs} (h : p x) (g : ∀ z ∈ X, p z) : ∀ z ∈ x :: X, p z := fun z hz => by
  rcases List.mem_cons.mp hz with e | e
  · rw [e]; exact h
  · exact g z e
theorem WS.good {ways : Int} {labels : List Bs} (hl : ∀ l ∈ labels, okS' l = true) : ∀ {f : Fm} {X Y : List Bs}, WS ways labels X Y f → (∀ x ∈ X, okS' x = true ∧ eN x = true) → (∀ y ∈ Y, okS' y = true ∧ sN y = true) → okF f ∧ shF f
  | .at_ a, X, Y, h, hx, hy => by
    have e1 := fun x h => eN_len (hx x h).2
    have e2 := fun x h => sN_len (hy x h).2
    cases a with
    | inside a b => exact ⟨⟨(hy _ h.1).1, (hy _ h.2).1⟩, all_cons (e2 _ h.1) (all_cons (e2 _ h.2) (by simp))⟩
    | inn a b => exact ⟨⟨(hx _ h.1).1, (hy _ h.2).1⟩, all_cons (e1 _ h.1) (all_cons (e2 _ h.2) (by simp))⟩
    | tru => exact ⟨trivial, by simp [shF, avars]⟩
    | label l x => exact ⟨⟨hl _ h.2, (hx _ h.1).1⟩, all_cons (e1 _ h.1) (by simp)⟩
    | top x => exact ⟨(hx _ h).1, all_cons (e1 _ h) (by simp)⟩
    | same x y => exact ⟨⟨(hx _ h.1).1, (hx _ h.2).1⟩, all_cons (e1 _ h.1) (all_cons (e1 _ h.2) (by simp))⟩
    | child w x y => exact ⟨⟨(hx _ h.1).1, (hx _ h.2.1).1⟩, all_cons (e1 _ h.1) (all_cons (e1 _ h.2.1) (by simp))⟩
    | below x y => exact ⟨⟨(hx _ h.1).1, (hx _ h.2).1⟩, all_cons (e1 _ h.1) (all_cons (e1 _ h.2) (by simp))⟩
  | .not f, X, Y, h, hx, hy => WS.good hl (f := f) h hx hy
  | .bin _ f g, X, Y, h, hx, hy => by
    obtain ⟨a, b⟩ := WS.good hl (f := f) h.1 hx hy
    obtain ⟨c, d⟩ := WS.good hl (f := g) h.2 hx hy
    exact ⟨⟨a, c⟩, b, d⟩
  | .q .some x f, X, Y, h, hx, hy => by
    obtain ⟨a, b⟩ := WS.good hl (f := f) h.2 (all_cons h.1 hx) hy
    exact ⟨⟨h.1.1, a⟩, b⟩
  | .q .all x f, X, Y, h, hx, hy => by
    obtain ⟨a, b⟩ := WS.good hl (f := f) h.2 (all_cons h.1 hx) hy
    exact ⟨⟨h.1.1, a⟩, b⟩
  | .q .someset x f, X, Y, h, hx, hy => by
    obtain ⟨a, b⟩ := WS.good hl (f := f) h.2 hx (all_cons h.1 hy)
    exact ⟨⟨h.1.1, a⟩, b⟩
  | .q .allset x f, X, Y, h, hx, hy => by
    obtain ⟨a, b⟩ := WS.good hl (f := f) h.2 hx (all_cons h.1 hy)
    exact ⟨⟨h.1.1, a⟩, b⟩
section
variable {P : Pg} {q : QD} {k : Nat}
theorem okd_kind {d : D} {ways : Int} {labels : List Bs} (kd : KindOk d ways labels) : okD (.tup (labels.map .str)) := okXt kd.pos.2.2
theorem bools_map {α : Type} (g : α → Bool) : ∀ l : List α, boolsD (l.map fun x => .bl (g x)) = some (l.map g)
  | [] => rfl
  | a :: l => by rw [List.map_cons, boolsD, bools_map g l]; rfl
theorem w_lfits (H : Up__law_fits P) {d : D} {ways : Int} {labels : List Bs} (kd : KindOk d ways labels) : ∀ (k : Nat) (f : Fm) (S : Sto) (q : QD) (qx : QX), vcount f ≤ 60 → okF f → dep f ≤ 58 → dep f + 2 ≤ k → q (.bl (fitF ways labels f)) S → P.spec k 35 [d, enc f] S q qx
  | 0, f, _, _, _, _, _, _, hk, _ => by omega
  | k + 1, f, S, q, qx, hv, ho, hdp, hk, h => by
    have okl := okd_kind kd
    have kd0 := kd
    obtain ⟨rfl, hw, hlb⟩ := kd
    refine Pg.spec_succ H.self rfl ?_
    have rest : hdF ways labels f = true → wSs (P.G k qx) (f__law_fits.body.drop 1) [some (.tup [.int ways, .tup (labels.map .str)]), some (enc f), none] S (bodyK q) := by
      intro hd
      rw [fitF_eq, hd, Bool.true_and] at h
      refine ⟨_, rfl, w_lfree H.to__law_free k f _ _ _ hv ho hdp (by omega) ?_⟩
      refine ⟨_, rfl, _, rfl, ?_⟩
      have hl : ((lfree f).map D.str).length = (lfree f).length := List.length_map ..
      by_cases c : (lfree f).length ≤ 6
      · rw [decide_eq_true c, Bool.true_and] at h
        refine if_t (decide_eq_true (by omega)) ?_
        refine ⟨_, rfl, w_linner H.to__law_inner f _ (by have := dep_pos f; omega) ?_⟩
        refine loopL_map (e := enc) (fun g => D.bl (fitF ways labels g)) (inner f) _ _ (fun g hg k1 hk1 => ?_) ?_
        · obtain ⟨g1, g2, g3, g4⟩ := inner_lt hg
          exact ⟨_, rfl, _, rfl, w_lfits H kd0 k g _ _ _ (by omega) (g4 ho) (by omega) (by omega) hk1⟩
        · refine ⟨_, _, rfl, fun t => ne_tup, bools_map _ _, ?_⟩
          rw [List.all_map]
          exact h
      · rw [decide_eq_false c, Bool.false_and] at h
        have e : decide ((((lfree f).map D.str).length : Int) ≤ 6) = false := decide_eq_false (by omega)
        refine if_f e ?_
        show q (.bl (decide ((((lfree f).map D.str).length : Int) ≤ 6))) S
        rw [e]; exact h
    cases f with
    | not g => exact ⟨_, rfl, _, rfl, rfl, rfl, _, rfl, _, rfl, rfl, rfl, rest rfl⟩
    | bin an g1 g2 => cases an <;> exact ⟨_, rfl, _, rfl, rfl, rfl, _, rfl, _, rfl, rfl, rfl, rest rfl⟩
    | q w z g => cases w <;> exact ⟨_, rfl, _, rfl, rfl, rfl, _, rfl, _, rfl, rfl, rfl, rest rfl⟩
    | at_ a => cases a with
      | label l x =>
        refine ⟨_, rfl, _, rfl, rfl, rfl, _, rfl, _, rfl, _, rfl, _, rfl, okd_str' ho.1, okl, ?_⟩
        rw [any_str]
        by_cases c : l ∈ labels
        · rw [decide_eq_true c]
          exact ⟨_, rfl, _, rfl, rfl, rfl, rest (decide_eq_true c)⟩
        · rw [decide_eq_false c]
          have e : fitF ways labels (.at_ (.label l x)) = false := by
            show (decide (l ∈ labels) && _) = false
            rw [decide_eq_false c]; rfl
          rw [e] at h
          exact h
      | child w x y =>
        refine ⟨_, rfl, _, rfl, rfl, rfl, _, rfl, _, rfl, rfl, rfl, _, rfl, _, rfl, _, rfl, _, rfl, ?_⟩
        refine if_c (fun c => ?_) (fun c => ?_)
        · have c := of_decide_eq_true c
          have e : fitF ways labels (.at_ (.child w x y)) = false := by
            show (decide (w < ways) && _) = false
            rw [decide_eq_false (by omega)]; rfl
          rw [e] at h
          exact h
        · have c := of_decide_eq_false c
          exact rest (decide_eq_true (by omega))
      | _ => exact ⟨_, rfl, _, rfl, rfl, rfl, _, rfl, _, rfl, rfl, rfl, rest rfl⟩
abbrev yesD : D := .str [121, 101, 115]
abbrev noD : D := .str [110, 111]
theorem w_told (H : Up__law_told P) {d : D} {ways : Int} {labels : List Bs} (kd : KindOk d ways labels) (cl : Bool) {f : Fm} {S : Sto} (qx : QX) (hv : vcount f ≤ 60) (hs : shF f) (ho : okF f) (hk : dep f + 5 ≤ k)
    (h : q (if (okFm ways labels f && (!cl || decide (lfree f = []))) = true then yesD else noD) S) : P.spec k 36 [d, enc f, .bl cl] S q qx := by
  obtain ⟨k, rfl⟩ : ∃ j, k = j + 1 := ⟨k - 1, by omega⟩
  refine Pg.spec_succ H.self rfl ?_
  cases cl with
  | false =>
    refine ⟨_, rfl, _, rfl, ?_⟩
    rw [Bool.not_false, Bool.true_or, Bool.and_true] at h
    refine ⟨_, rfl, _, rfl, w_check_formula H.to_check_formula kd hv hs ho (by omega) (fun e => ?_) fun e => ?_⟩
    · rw [e] at h
      exact ⟨_, rfl, h⟩
    · rw [e] at h
      exact ⟨by decide, rfl, h⟩
  | true =>
    refine ⟨_, rfl, _, rfl, ?_⟩
    rw [Bool.not_true, Bool.false_or] at h
    refine ⟨_, rfl, _, rfl, w_check_sentence H.to_check_sentence kd hv hs ho (by omega) (fun e => ?_) fun e => ?_⟩
    · rw [e] at h
      exact ⟨_, rfl, h⟩
    · rw [e] at h
      exact ⟨by decide, rfl, h⟩
end
end U
/-! UF_k07: own terms of defs (printed by ugen.py), what a program must hold of them. -/
namespace U
open PySem DL
/-- all_marks -/
def f_all_marks : Fn := ⟨1, ["tracks", "result", "_", "marks", "bit"], [
  .set (.nm 1) (.lst (.cons (.tup .nil) .nil)),
  .each (.nm 2) (.rng1 (.var 0)) [
    .set (.nm 1) (.lc2 (.bin .add (.var 3) (.tup (.cons (.var 4) .nil))) (.nm 3) (.over (.var 1)) (.nm 4) (.over (.tup (.cons (.int 0) (.cons (.int 1) .nil)))) [3, 4] [4])],
  .ret (.var 1)]⟩
/-- signs -/
def f_signs : Fn := ⟨2, ["kind", "tracks", "label", "marks"], [
  .ret (.lc2 (.tup (.cons (.var 2) (.cons (.var 3) .nil))) (.nm 2) (.over (.idx (.var 0) (.int 1))) (.nm 3) (.over (.call 38 (.cons (.var 1) .nil))) [2, 3] [3])]⟩
/-- is_number -/
def f_is_number : Fn := ⟨2, ["value", "count"], [
  .ret (.boo true (.cons (.isi .int (.var 0)) (.cons (.not (.isi .bool (.var 0))) (.cons (.chn .le .lt (.int 0) (.var 0) (.var 1)) .nil))))]⟩
/-- is_row -/
def f_is_row : Fn := ⟨3, ["value", "count", "levels", "part"], [
  .ite (.cmp .eq (.var 2) (.int 0)) [
    .ret (.call 40 (.cons (.var 0) (.cons (.var 1) .nil)))] [],
  .ite (.boo false (.cons (.not (.isi .tuple (.var 0))) (.cons (.cmp .ne (.bif .len (.var 0)) (.var 1)) .nil))) [
    .ret (.bl false)] [],
  .ret (.bif .all (.lc (.call 41 (.cons (.var 3) (.cons (.var 1) (.cons (.bin .sub (.var 2) (.int 1)) .nil)))) (.nm 3) (.over (.var 0)) .nil [3]))]⟩
/-- is_kind -/
def f_is_kind : Fn := ⟨1, ["value", "label"], [
  .ite (.boo false (.cons (.not (.isi .tuple (.var 0))) (.cons (.cmp .ne (.bif .len (.var 0)) (.int 2)) (.cons (.not (.call 40 (.cons (.idx (.var 0) (.int 0)) (.cons (.int 3) .nil)))) .nil)))) [
    .ret (.bl false)] [],
  .ite (.boo false (.cons (.not (.isi .tuple (.idx (.var 0) (.int 1)))) (.cons (.not (.bif .all (.lc (.isi .str (.var 1)) (.nm 1) (.over (.idx (.var 0) (.int 1))) .nil [1]))) .nil))) [
    .ret (.bl false)] [],
  .tri [
    .expr (.call 24 (.cons (.var 0) .nil))] 0 none (.con (.bl false)),
  .ret (.bl true)]⟩
/-- is_machine -/
def f_is_machine : Fn := ⟨1, ["value", "kind", "tracks", "table", "good", "row", "one"], [
  .set (.tup (.cons (.nm 1) (.cons (.nm 2) (.cons (.nm 3) (.cons (.nm 4) .nil))))) (.var 0),
  .ite (.boo false (.cons (.not (.call 42 (.cons (.var 1) .nil))) (.cons (.not (.call 40 (.cons (.var 2) (.cons (.bin .add (.glb "MOST_TRACKS" (.int 6)) (.int 1)) .nil)))) .nil))) [
    .ret (.bl false)] [],
  .ite (.boo false (.cons (.not (.isi .tuple (.var 3))) (.cons (.not (.isi .tuple (.var 4))) .nil))) [
    .ret (.bl false)] [],
  .ite (.boo false (.cons (.not (.chn .le .le (.int 1) (.bif .len (.var 4)) (.glb "MOST_STATES" (.int 300)))) (.cons (.not (.bif .all (.lc (.isi .bool (.var 6)) (.nm 6) (.over (.var 4)) .nil [6]))) .nil))) [
    .ret (.bl false)] [],
  .ite (.cmp .ne (.bif .len (.var 3)) (.bin .mul (.bif .len (.idx (.var 1) (.int 1))) (.bif .len (.call 38 (.cons (.var 2) .nil))))) [
    .ret (.bl false)] [],
  .ret (.bif .all (.lc (.call 41 (.cons (.var 5) (.cons (.bif .len (.var 4)) (.cons (.idx (.var 1) (.int 0)) .nil)))) (.nm 5) (.over (.var 3)) .nil [5]))]⟩
/-- state_above -/
def f_state_above : Fn := ⟨3, ["machine", "row", "children", "entry", "child"], [
  .set (.nm 3) (.idx (.idx (.var 0) (.int 2)) (.var 1)),
  .each (.nm 4) (.over (.var 2)) [
    .set (.nm 3) (.idx (.var 3) (.var 4))],
  .ret (.var 3)]⟩
/-- rows_by_sign -/
def f_rows_by_sign : Fn := ⟨2, ["kind", "tracks", "row", "sign"], [
  .ret (.dc true (.var 3) (.var 2) (.tup (.cons (.nm 2) (.cons (.nm 3) .nil))) (.enum (.call 39 (.cons (.var 0) (.cons (.var 1) .nil)))) [2, 3])]⟩
/-- state_of -/
def f_state_of : Fn := ⟨2, ["machine", "marked", "numbers", "done", "waiting", "current", "left", "ways", "children", "child"], [
  .set (.nm 2) (.call 49 (.cons (.idx (.var 0) (.int 0)) (.cons (.idx (.var 0) (.int 1)) .nil))),
  .set (.nm 3) (.newl .nil),
  .set (.nm 4) (.newl (.cons (.tup (.cons (.var 1) (.cons (.bl false) .nil))) .nil)),
  .loop (.var 4) [
    .set (.tup (.cons (.nm 5) (.cons (.nm 6) .nil))) (.popl (.var 4)),
    .ite (.not (.var 5)) [
      .app (.var 3) (.int 0)] [
      .ite (.var 6) [
        .set (.nm 7) (.bin .sub (.bif .len (.var 5)) (.int 1)),
        .set (.nm 8) (.sl (.var 3) (.some (.bin .sub (.bif .len (.var 3)) (.var 7))) .none),
        .set (.nm 3) (.slN (.var 3) .none (.some (.bin .sub (.bif .len (.var 3)) (.var 7)))),
        .app (.var 3) (.call 44 (.cons (.var 0) (.cons (.idx (.var 2) (.idx (.var 5) (.int 0))) (.cons (.var 8) .nil))))] [
        .app (.var 4) (.tup (.cons (.var 5) (.cons (.bl true) .nil))),
        .each (.nm 9) (.over (.revs (.var 5))) [
          .app (.var 4) (.tup (.cons (.var 9) (.cons (.bl false) .nil)))]]]],
  .ret (.idx (.var 3) (.int 0))]⟩
/-- accepts -/
def f_accepts : Fn := ⟨2, ["machine", "marked"], [
  .ret (.idx (.idx (.var 0) (.int 3)) (.call 45 (.cons (.var 0) (.cons (.var 1) .nil))))]⟩
/-- mark_part -/
def f_mark_part : Fn := ⟨3, ["shape", "path", "inside", "sign", "children", "way", "child", "one"], [
  .ite (.not (.var 0)) [
    .ret (.tup .nil)] [],
  .set (.nm 3) (.tup (.cons (.idx (.var 0) (.int 0)) (.cons (.bif .tuple (.lc (.ite (.cmp .isin (.var 1) (.var 7)) (.int 1) (.int 0)) (.nm 7) (.over (.var 2)) .nil [7])) .nil))),
  .set (.nm 4) (.lc (.call 48 (.cons (.var 6) (.cons (.bin .add (.var 1) (.tup (.cons (.var 5) .nil))) (.cons (.var 2) .nil)))) (.tup (.cons (.nm 5) (.cons (.nm 6) .nil))) (.enum (.sl (.var 0) (.some (.int 1)) .none)) .nil [5, 6]),
  .ret (.bin .add (.tup (.cons (.var 3) .nil)) (.bif .tuple (.var 4)))]⟩
/-- mark -/
def f_mark : Fn := ⟨2, ["shape", "sets", "inside", "one", "path"], [
  .set (.nm 2) (.lc (.dc true (.var 4) (.bl true) (.nm 4) (.over (.var 3)) [4]) (.nm 3) (.over (.var 1)) .nil [3]),
  .ret (.call 48 (.cons (.var 0) (.cons (.tup .nil) (.cons (.var 2) .nil))))]⟩
/-- _law_signs -/
def f__law_signs : Fn := ⟨2, ["_law_kind_here", "_law_tracks", "_law_marks", "_law_k", "_law_found", "_law_label", "_law_longer", "_law_one"], [
  .set (.nm 2) (.lst (.cons (.tup .nil) .nil)),
  .each (.nm 3) (.rng1 (.var 1)) [
    .set (.nm 6) (.lst .nil),
    .each (.nm 7) (.over (.var 2)) [
      .set (.nm 6) (.bin .add (.var 6) (.lst (.cons (.bin .add (.var 7) (.tup (.cons (.int 0) .nil))) (.cons (.bin .add (.var 7) (.tup (.cons (.int 1) .nil))) .nil))))],
    .set (.nm 2) (.var 6)],
  .set (.nm 4) (.lst .nil),
  .each (.nm 5) (.over (.idx (.var 0) (.int 1))) [
    .set (.nm 4) (.bin .add (.var 4) (.lc (.tup (.cons (.var 5) (.cons (.var 7) .nil))) (.nm 7) (.over (.var 2)) .nil [7]))],
  .ret (.var 4)]⟩
/-- _law_above -/
def f__law_above : Fn := ⟨3, ["_law_machine", "_law_row", "_law_children", "_law_entry", "_law_child"], [
  .set (.nm 3) (.idx (.idx (.var 0) (.int 2)) (.var 1)),
  .each (.nm 4) (.over (.var 2)) [
    .set (.nm 3) (.idx (.var 3) (.var 4))],
  .ret (.var 3)]⟩
/-- _law_run -/
def f__law_run : Fn := ⟨3, ["_law_machine", "_law_marked_here", "_law_rows_here", "_law_child"], [
  .ite (.cmp .eq (.var 1) (.tup .nil)) [
    .ret (.int 0)] [],
  .ret (.call 51 (.cons (.var 0) (.cons (.idx (.var 2) (.idx (.var 1) (.int 0))) (.cons (.lc (.call 52 (.cons (.var 0) (.cons (.var 3) (.cons (.var 2) .nil)))) (.nm 3) (.over (.sl (.var 1) (.some (.int 1)) .none)) .nil [3]) .nil))))]⟩
/-- _law_rows -/
def f__law_rows : Fn := ⟨2, ["_law_kind_here", "_law_tracks", "_law_listed", "_law_rows_here", "_law_k"], [
  .set (.nm 2) (.call 50 (.cons (.var 0) (.cons (.var 1) .nil))),
  .set (.nm 3) .newt,
  .each (.nm 4) (.rng1 (.bif .len (.var 2))) [
    .put (.var 3) (.idx (.var 2) (.var 4)) (.var 4)],
  .ret (.var 3)]⟩
/-- _law_marked -/
def f__law_marked : Fn := ⟨3, ["_law_shape_here", "_law_path", "_law_sets", "_law_sign", "_law_one", "_law_k"], [
  .ite (.cmp .eq (.var 0) (.tup .nil)) [
    .ret (.tup .nil)] [],
  .set (.nm 3) (.tup (.cons (.idx (.var 0) (.int 0)) (.cons (.bif .tuple (.lc (.ite (.cmp .isin (.var 1) (.var 4)) (.int 1) (.int 0)) (.nm 4) (.over (.var 2)) .nil [4])) .nil))),
  .ret (.bin .add (.tup (.cons (.var 3) .nil)) (.bif .tuple (.lc (.call 54 (.cons (.idx (.var 0) (.var 5)) (.cons (.bin .add (.var 1) (.tup (.cons (.bin .sub (.var 5) (.int 1)) .nil))) (.cons (.var 2) .nil)))) (.nm 5) (.rng2 (.int 1) (.bif .len (.var 0))) .nil [5])))]⟩
/-- _law_draw_machine -/
def f__law_draw_machine : Fn := ⟨4, ["_law_tape_here", "_law_kind_here", "_law_tracks", "_law_many", "_law_table", "_law_sign", "_law_row", "_law_k", "_law_j"], [
  .set (.nm 4) (.newl .nil),
  .each (.nm 5) (.over (.call 50 (.cons (.var 1) (.cons (.var 2) .nil)))) [
    .set (.nm 6) (.lc (.call 8 (.cons (.var 0) (.cons (.var 3) .nil))) (.nm 7) (.rng1 (.var 3)) .nil [7]),
    .ite (.cmp .eq (.idx (.var 1) (.int 0)) (.int 2)) [
      .set (.nm 6) (.lc (.bif .tuple (.lc (.call 8 (.cons (.var 0) (.cons (.var 3) .nil))) (.nm 7) (.rng1 (.var 3)) .nil [7])) (.nm 8) (.rng1 (.var 3)) .nil [8])] [],
    .app (.var 4) (.bif .tuple (.var 6))],
  .ret (.tup (.cons (.var 1) (.cons (.var 2) (.cons (.bif .tuple (.var 4)) (.cons (.bif .tuple (.lc (.cmp .eq (.call 8 (.cons (.var 0) (.cons (.int 2) .nil))) (.int 1)) (.nm 7) (.rng1 (.var 3)) .nil [7])) .nil)))))]⟩
/-- _law_is_row -/
def f__law_is_row : Fn := ⟨3, ["_law_value", "_law_many", "_law_levels", "_law_one"], [
  .ite (.cmp .eq (.var 2) (.int 0)) [
    .ret (.boo true (.cons (.isi .int (.var 0)) (.cons (.not (.isi .bool (.var 0))) (.cons (.chn .le .lt (.int 0) (.var 0) (.var 1)) .nil))))] [],
  .ite (.boo false (.cons (.not (.isi .tuple (.var 0))) (.cons (.cmp .ne (.bif .len (.var 0)) (.var 1)) .nil))) [
    .ret (.bl false)] [],
  .ret (.cmp .eq (.lc (.var 3) (.nm 3) (.over (.var 0)) (.cons (.not (.call 56 (.cons (.var 3) (.cons (.var 1) (.cons (.bin .sub (.var 2) (.int 1)) .nil))))) .nil) [3]) (.lst .nil))]⟩
/-- _law_is_machine -/
def f__law_is_machine : Fn := ⟨1, ["_law_value", "_law_labels", "_law_kind_here", "_law_tracks", "_law_table", "_law_good", "_law_one", "_law_row", "_law_k"], [
  .set (.tup (.cons (.nm 2) (.cons (.nm 3) (.cons (.nm 4) (.cons (.nm 5) .nil))))) (.var 0),
  .ite (.boo false (.cons (.cmp .notin (.idx (.var 2) (.int 0)) (.lst (.cons (.int 1) (.cons (.int 2) .nil)))) (.cons (.not (.chn .le .le (.int 1) (.bif .len (.idx (.var 2) (.int 1))) (.int 3))) (.cons (.not (.chn .le .le (.int 0) (.var 3) (.int 6))) (.cons (.not (.chn .le .le (.int 1) (.bif .len (.var 5)) (.int 300))) .nil))))) [
    .ret (.bl false)] [],
  .set (.nm 1) (.bif .list (.idx (.var 2) (.int 1))),
  .ite (.boo false (.cons (.cmp .ne (.var 1) (.b1 .sstr (.var 1))) (.cons (.cmp .ne (.lc (.var 8) (.nm 8) (.rng2 (.int 1) (.bif .len (.var 1))) (.cons (.cmp .eq (.idx (.var 1) (.var 8)) (.idx (.var 1) (.bin .sub (.var 8) (.int 1)))) .nil) [8]) (.lst .nil)) .nil))) [
    .ret (.bl false)] [],
  .ite (.cmp .ne (.lc (.var 6) (.nm 6) (.over (.var 1)) (.cons (.boo false (.cons (.cmp .ne (.bif .len (.var 6)) (.int 1)) (.cons (.not (.chn .le .le (.str [97]) (.var 6) (.str [122]))) .nil))) .nil) [6]) (.lst .nil)) [
    .ret (.bl false)] [],
  .ite (.boo false (.cons (.cmp .ne (.lc (.var 6) (.nm 6) (.over (.var 5)) (.cons (.not (.isi .bool (.var 6))) .nil) [6]) (.lst .nil)) (.cons (.cmp .ne (.bif .len (.var 4)) (.bif .len (.call 50 (.cons (.var 2) (.cons (.var 3) .nil))))) .nil))) [
    .ret (.bl false)] [],
  .ret (.cmp .eq (.lc (.var 7) (.nm 7) (.over (.var 4)) (.cons (.not (.call 56 (.cons (.var 7) (.cons (.bif .len (.var 5)) (.cons (.idx (.var 2) (.int 0)) .nil))))) .nil) [7]) (.lst .nil))]⟩
/-- _law_spoilt -/
def f__law_spoilt : Fn := ⟨2, ["_law_tape_here", "_law_machine", "_law_choice", "_law_kind_here", "_law_tracks", "_law_table", "_law_good"], [
  .set (.tup (.cons (.nm 3) (.cons (.nm 4) (.cons (.nm 5) (.cons (.nm 6) .nil))))) (.var 1),
  .set (.nm 2) (.call 8 (.cons (.var 0) (.cons (.int 8) .nil))),
  .ite (.cmp .eq (.var 2) (.int 0)) [
    .ret (.tup (.cons (.tup (.cons (.idx (.var 3) (.int 0)) (.cons (.bin .add (.revt (.idx (.var 3) (.int 1))) (.tup (.cons (.str [99]) .nil))) .nil))) (.cons (.var 4) (.cons (.var 5) (.cons (.var 6) .nil)))))] [],
  .ite (.cmp .eq (.var 2) (.int 1)) [
    .ret (.tup (.cons (.var 3) (.cons (.bin .add (.var 4) (.int 1)) (.cons (.var 5) (.cons (.var 6) .nil)))))] [],
  .ite (.cmp .eq (.var 2) (.int 2)) [
    .ret (.tup (.cons (.var 3) (.cons (.var 4) (.cons (.sl (.var 5) (.some (.int 1)) .none) (.cons (.var 6) .nil)))))] [],
  .ite (.cmp .eq (.var 2) (.int 3)) [
    .ret (.tup (.cons (.var 3) (.cons (.var 4) (.cons (.var 5) (.cons (.bin .add (.var 6) (.tup (.cons (.bl true) .nil))) .nil)))))] [],
  .ite (.cmp .eq (.var 2) (.int 4)) [
    .ret (.tup (.cons (.var 3) (.cons (.var 4) (.cons (.var 5) (.cons (.bin .add (.sl (.var 6) .none (.some (.neg (.int 1)))) (.tup (.cons (.int 1) .nil))) .nil)))))] [],
  .ite (.cmp .eq (.var 2) (.int 5)) [
    .ret (.tup (.cons (.var 3) (.cons (.var 4) (.cons (.bin .add (.tup (.cons (.sl (.idx (.var 5) (.int 0)) .none (.some (.neg (.int 1)))) .nil)) (.sl (.var 5) (.some (.int 1)) .none)) (.cons (.var 6) .nil)))))] [],
  .ite (.cmp .eq (.var 2) (.int 6)) [
    .ret (.tup (.cons (.var 3) (.cons (.var 4) (.cons (.bin .add (.tup (.cons (.bin .add (.sl (.idx (.var 5) (.int 0)) .none (.some (.neg (.int 1)))) (.tup (.cons (.bif .len (.var 6)) .nil))) .nil)) (.sl (.var 5) (.some (.int 1)) .none)) (.cons (.var 6) .nil)))))] [],
  .ret (.tup (.cons (.var 3) (.cons (.var 4) (.cons (.bin .add (.tup (.cons (.bin .add (.sl (.idx (.var 5) (.int 0)) .none (.some (.neg (.int 1)))) (.tup (.cons (.bl true) .nil))) .nil)) (.sl (.var 5) (.some (.int 1)) .none)) (.cons (.var 6) .nil)))))]⟩
structure Up_all_marks (P : Pg) : Prop where
  self : P.Has 38 f_all_marks
structure Up_signs (P : Pg) : Prop where
  self : P.Has 39 f_signs
  to_all_marks : Up_all_marks P
structure Up_is_number (P : Pg) : Prop where
  self : P.Has 40 f_is_number
structure Up_is_row (P : Pg) : Prop where
  self : P.Has 41 f_is_row
  to_is_number : Up_is_number P
structure Up_is_kind (P : Pg) : Prop where
  self : P.Has 42 f_is_kind
  to_check_kind : Up_check_kind P
  to_is_number : Up_is_number P
structure Up_is_machine (P : Pg) : Prop where
  self : P.Has 43 f_is_machine
  to_is_kind : Up_is_kind P
  to_is_number : Up_is_number P
  to_is_row : Up_is_row P
  to_all_marks : Up_all_marks P
structure Up_state_above (P : Pg) : Prop where
  self : P.Has 44 f_state_above
structure Up_rows_by_sign (P : Pg) : Prop where
  self : P.Has 49 f_rows_by_sign
  to_signs : Up_signs P
structure Up_state_of (P : Pg) : Prop where
  self : P.Has 45 f_state_of
  to_rows_by_sign : Up_rows_by_sign P
  to_state_above : Up_state_above P
structure Up_accepts (P : Pg) : Prop where
  self : P.Has 46 f_accepts
  to_state_of : Up_state_of P
structure Up_mark_part (P : Pg) : Prop where
  self : P.Has 48 f_mark_part
structure Up_mark (P : Pg) : Prop where
  self : P.Has 47 f_mark
  to_mark_part : Up_mark_part P
structure Up__law_signs (P : Pg) : Prop where
  self : P.Has 50 f__law_signs
structure Up__law_above (P : Pg) : Prop where
  self : P.Has 51 f__law_above
structure Up__law_run (P : Pg) : Prop where
  self : P.Has 52 f__law_run
  to__law_above : Up__law_above P
structure Up__law_rows (P : Pg) : Prop where
  self : P.Has 53 f__law_rows
  to__law_signs : Up__law_signs P
structure Up__law_marked (P : Pg) : Prop where
  self : P.Has 54 f__law_marked
structure Up__law_draw_machine (P : Pg) : Prop where
  self : P.Has 55 f__law_draw_machine
  to__law_signs : Up__law_signs P
  to__law_take : Up__law_take P
structure Up__law_is_row (P : Pg) : Prop where
  self : P.Has 56 f__law_is_row
structure Up__law_is_machine (P : Pg) : Prop where
  self : P.Has 57 f__law_is_machine
  to__law_signs : Up__law_signs P
  to__law_is_row : Up__law_is_row P
structure Up__law_spoilt (P : Pg) : Prop where
  self : P.Has 58 f__law_spoilt
  to__law_take : Up__law_take P
end U
/-! U12: machines: marks, signs, rows. -/
namespace U
open PySem DL
local macro_rules | `(tactic| and_intros) => `(tactic| repeat (first | refine ⟨_, rfl, ?_⟩ | refine ⟨rfl, ?_⟩))
def marks : Nat → List (List Int)
  | 0 => [[]]
  | n + 1 => (marks n).flatMap fun m => [m ++ [0], m ++ [1]]
theorem marks_len : ∀ n, (marks n).length = 2 ^ n
  | 0 => rfl
  | n + 1 => by
    have : ∀ l : List (List Int), (l.flatMap fun m => [m ++ [0], m ++ [1]]).length = 2 * l.length := fun l => by
      induction l with
      | nil => rfl
      | cons a l ih => rw [List.flatMap_cons, List.length_append, ih]; simp; omega
    rw [marks, this, marks_len n, Nat.pow_succ]; omega
theorem marks_el : ∀ n m, m ∈ marks n → m.length = n ∧ ∀ b ∈ m, b = 0 ∨ b = 1
  | 0, m, h => by
    have : m = [] := by simpa [marks] using h
    subst this
    exact ⟨rfl, by simp⟩
  | n + 1, m, h => by
    obtain ⟨a, ha, hm⟩ := List.mem_flatMap.mp h
    obtain ⟨h1, h2⟩ := marks_el n a ha
    have : m = a ++ [0] ∨ m = a ++ [1] := by simpa using hm
    rcases this with rfl | rfl
    · exact ⟨by simp [h1], fun b hb => by rcases List.mem_append.mp hb with hb | hb; exact h2 b hb; exact .inl (by simpa using hb)⟩
    · exact ⟨by simp [h1], fun b hb => by rcases List.mem_append.mp hb with hb | hb; exact h2 b hb; exact .inr (by simpa using hb)⟩
theorem marks_mem : ∀ n m, m.length = n → (∀ b ∈ m, b = 0 ∨ b = 1) → m ∈ marks n
  | 0, m, h, _ => by
    have : m = [] := List.length_eq_zero_iff.mp h
    subst this
    exact List.mem_cons_self
  | n + 1, m, h, hb => by
    have hne : m ≠ [] := fun e => by rw [e] at h; cases h
    have e := List.dropLast_concat_getLast hne
    refine List.mem_flatMap.mpr ⟨m.dropLast, marks_mem n _ (by rw [List.length_dropLast, h]; rfl) fun b hb2 => hb b ((List.dropLast_sublist m).subset hb2), ?_⟩
    rcases hb _ (List.getLast_mem hne) with h1 | h1
    · rw [h1] at e; rw [← e]; simp
    · rw [h1] at e; rw [← e]; simp
theorem snoc_inj {a b : List Int} {x y : Int} (h : a ++ [x] = b ++ [y]) : a = b ∧ x = y := by
  have := List.append_inj' h rfl
  exact ⟨this.1, by simpa using this.2⟩
theorem marks_nodup : ∀ n, (marks n).Nodup
  | 0 => by simp [marks]
  | n + 1 => by
    refine List.pairwise_flatMap.mpr ⟨fun a _ => ?_, (marks_nodup n).imp fun {a b} hab x hx y hy e => ?_⟩
    · refine List.pairwise_cons.mpr ⟨fun z hz e => ?_, List.pairwise_singleton _ _⟩
      have : z = a ++ [1] := by simpa using hz
      rw [this] at e
      have := (snoc_inj e).2
      omega
    · have hx : x = a ++ [0] ∨ x = a ++ [1] := by simpa using hx
      have hy : y = b ++ [0] ∨ y = b ++ [1] := by simpa using hy
      rcases hx with rfl | rfl <;> rcases hy with rfl | rfl <;> exact hab (snoc_inj e).1
/-- the signs in order -/
abbrev Sg := Bs × List Int
def sgs (labels : List Bs) (n : Nat) : List Sg := labels.flatMap fun l => (marks n).map fun m => (l, m)
def sgD (g : Sg) : D := .tup [.str g.1, itD g.2]
theorem sgs_len (labels : List Bs) (n : Nat) : (sgs labels n).length = labels.length * 2 ^ n := by
  unfold sgs
  induction labels with
  | nil => simp
  | cons a l ih => rw [List.flatMap_cons, List.length_append, ih, List.length_map, marks_len, List.length_cons, Nat.succ_mul]; omega
theorem sgs_mem {labels : List Bs} {n : Nat} {g : Sg} : g ∈ sgs labels n ↔ g.1 ∈ labels ∧ g.2 ∈ marks n := by
  constructor
  · intro h
    obtain ⟨l, hl, h⟩ := List.mem_flatMap.mp h
    obtain ⟨m, hm, rfl⟩ := List.mem_map.mp h
    exact ⟨hl, hm⟩
  · rintro ⟨h1, h2⟩
    exact List.mem_flatMap.mpr ⟨g.1, h1, List.mem_map.mpr ⟨g.2, h2, rfl⟩⟩
theorem sgs_nodup {labels : List Bs} (h : labels.Nodup) (n : Nat) : (sgs labels n).Nodup := by
  refine List.pairwise_flatMap.mpr ⟨fun a _ => List.pairwise_map.mpr ((marks_nodup n).imp fun hab e => hab (congrArg Prod.snd e)), h.imp fun {a b} hab x hx y hy e => ?_⟩
  obtain ⟨m, _, rfl⟩ := List.mem_map.mp hx
  obtain ⟨m', _, rfl⟩ := List.mem_map.mp hy
  exact hab (congrArg Prod.fst e)
theorem okd_sgD {g : Sg} {n : Nat} (h : okS' g.1 = true) : okd (n + 2) (sgD g) = true := by
  show ([D.str g.1, itD g.2]).all (okd (n + 1)) = true
  simp [okd_it, okd_str' (n := n + 1) h]
theorem tkq_it {n : Nat} (p : List Int) : tkq (n + 1) (itD p) = true := by
  show (p.map D.int).all (tkq n) = true
  refine List.all_eq_true.mpr fun d hd => ?_
  obtain ⟨i, _, rfl⟩ := List.mem_map.mp hd
  cases n <;> rfl
theorem isTK_it (p : List Int) : isTK (itD p) = true := by
  show (p.map D.int).all (tkq 6) = true
  refine List.all_eq_true.mpr fun d hd => ?_
  obtain ⟨i, _, rfl⟩ := List.mem_map.mp hd
  rfl
theorem isTK_sg (g : Sg) : isTK (sgD g) = true := by
  show ([D.str g.1, itD g.2]).all (tkq 6) = true
  rw [List.all_cons, List.all_cons, tkq_it]
  rfl
theorem sgD_eq {a b : Sg} : dEq (sgD a) (sgD b) = decide (a = b) := by
  show (dEq (.str a.1) (.str b.1) && (dEq (itD a.2) (itD b.2) && true)) = _
  rw [itD_eq, Bool.and_true]
  show ((a.1 == b.1) && decide (a.2 = b.2)) = decide (a = b)
  obtain ⟨a1, a2⟩ := a
  obtain ⟨b1, b2⟩ := b
  by_cases h1 : a1 = b1
  · by_cases h2 : a2 = b2
    · subst h1; subst h2; simp
    · simp [h2]
  · simp [h1]
section
variable {P : Pg} {q : QD} {k : Nat}
theorem pow8 {n : Nat} (h : n ≤ 8) : 2 ^ n ≤ 256 := Nat.pow_le_pow_right (n := 2) (by decide) h
theorem w_all_marks (H : Up_all_marks P) (n : Nat) (hn : n ≤ 8) {S : Sto} (qx : QX) (hk : 1 ≤ k) (h : q (.lst ((marks n).map itD)) S) : P.spec k 38 [.int n] S q qx := by
  obtain ⟨k, rfl⟩ : ∃ j, k = j + 1 := ⟨k - 1, by omega⟩
  refine Pg.spec_succ H.self rfl ?_
  refine ⟨_, rfl, ⟨by omega, by omega⟩, ?_⟩
  rw [rangeD_map]
  refine forL_pre (e := fun i : Nat => D.int (0 + (i : Int))) (fun dn ρ S' => S' = S ∧ ∃ x, ρ = [some (.int n), some (.lst ((marks dn.length).map itD)), x, none, none]) (List.range n) [] _ _ _ (by rw [show ((n : Int)).toNat = n by omega]; rfl) ⟨rfl, none, rfl⟩ ?_ ?_
  · rintro dn i r ρ S' ha ⟨rfl, z, rfl⟩ kk hh
    have hd : dn.length < n := by
      have := congrArg List.length ha
      rw [List.length_range, List.length_append, List.length_cons] at this
      omega
    refine ⟨_, rfl, ?_⟩
    have l1 : (marks dn.length).length ≤ 256 := by rw [marks_len]; exact pow8 (by omega)
    refine ⟨by rw [List.length_map]; omega, ?_⟩
    refine loopL_flat (e := itD) (fun m => [itD (m ++ [0]), itD (m ++ [1])]) (marks dn.length) _ _ (fun m hm kk2 h2 => ?_) ?_
    · have hm := (marks_el _ m hm).1
      refine ⟨by decide, ?_⟩
      refine ⟨_, rfl, _, rfl, ⟨by rw [List.length_map]; show m.length + 1 ≤ 16777216; omega, ?_⟩⟩
      refine ⟨_, rfl, _, rfl, ⟨by rw [List.length_map]; show m.length + 1 ≤ 16777216; omega, ?_⟩⟩
      have e0 : D.tup (m.map D.int ++ [.int 0]) = itD (m ++ [0]) := by simp [itD]
      have e1 : D.tup (m.map D.int ++ [.int 1]) = itD (m ++ [1]) := by simp [itD]
      show kk2 [D.tup (m.map D.int ++ [.int 0]), D.tup (m.map D.int ++ [.int 1])] S'
      rw [e0, e1]
      exact h2
    · refine hh _ _ ⟨rfl, some (.int (0 + (i : Int))), ?_⟩
      have e2 : ((marks dn.length).flatMap fun m => [itD (m ++ [0]), itD (m ++ [1])]) = (marks (dn ++ [i]).length).map itD := by
        rw [List.length_append, List.length_singleton, marks, List.map_flatMap]
        rfl
      rw [← e2]
      rfl
  · rintro ρ S' ⟨rfl, z, rfl⟩
    rw [List.length_range]
    exact ⟨_, rfl, h⟩
theorem w_signs (H : Up_signs P) {d : D} {ways : Int} {labels : List Bs} (kd : d = .tup [.int ways, .tup (labels.map .str)]) (hl : labels.length ≤ 10) (n : Nat) (hn : n ≤ 8) {S : Sto} (qx : QX) (hk : 2 ≤ k) (h : q (.lst ((sgs labels n).map sgD)) S) : P.spec k 39 [d, .int n] S q qx := by
  obtain ⟨k, rfl⟩ : ∃ j, k = j + 1 := ⟨k - 1, by omega⟩
  refine Pg.spec_succ H.self rfl ?_
  subst kd
  refine ⟨_, rfl, _, rfl, ⟨by rw [List.length_map]; omega, ?_⟩⟩
  refine loopL_flat (e := D.str) (fun l => (marks n).map fun m => sgD (l, m)) labels _ _ (fun l _ kk h2 => ?_) ?_
  · refine ⟨_, rfl, w_all_marks H.to_all_marks n hn _ (by omega) ?_⟩
    have l1 : (marks n).length ≤ 256 := by rw [marks_len]; exact pow8 hn
    refine ⟨by rw [List.length_map]; omega, ?_⟩
    refine loopL_map (e := itD) (fun m => sgD (l, m)) (marks n) _ _ (fun m _ kk2 h3 => ?_) h2
    exact ⟨_, rfl, _, rfl, h3⟩
  · have e : (labels.flatMap fun l => (marks n).map fun m => sgD (l, m)) = (sgs labels n).map sgD := by
      unfold sgs
      rw [List.map_flatMap]
      simp [List.map_map, Function.comp_def]
    rw [e]
    exact h
theorem w_lsigns (H : Up__law_signs P) {d : D} {ways : Int} {labels : List Bs} (kd : d = .tup [.int ways, .tup (labels.map .str)]) (hl : labels.length ≤ 10) (n : Nat) (hn : n ≤ 8) {S : Sto} (qx : QX) (hk : 1 ≤ k) (h : q (.lst ((sgs labels n).map sgD)) S) : P.spec k 50 [d, .int n] S q qx := by
  obtain ⟨k, rfl⟩ : ∃ j, k = j + 1 := ⟨k - 1, by omega⟩
  refine Pg.spec_succ H.self rfl ?_
  subst kd
  refine ⟨_, rfl, ⟨by omega, by omega⟩, ?_⟩
  rw [rangeD_map]
  refine forL_pre (e := fun i : Nat => D.int (0 + (i : Int))) (fun dn ρ S' => S' = S ∧ ∃ x y z, ρ = [some (.tup [.int ways, .tup (labels.map .str)]), some (.int n), some (.lst ((marks dn.length).map itD)), x, none, none, y, z]) (List.range n) [] _ _ _ (by rw [show ((n : Int)).toNat = n by omega]; rfl) ⟨rfl, none, none, none, rfl⟩ ?_ ?_
  · rintro dn i r ρ S' ha ⟨rfl, x, y, z, rfl⟩ kk hh
    have hd : dn.length < n := by
      have := congrArg List.length ha
      rw [List.length_range, List.length_append, List.length_cons] at this
      omega
    have l1 : (marks dn.length).length ≤ 256 := by rw [marks_len]; exact pow8 (by omega)
    refine ⟨_, rfl, ?_⟩
    refine forL_pre (e := itD) (fun dm ρ S'' => S'' = S' ∧ ∃ z, ρ = [some (.tup [.int ways, .tup (labels.map .str)]), some (.int n), some (.lst ((marks dn.length).map itD)), some (.int (0 + (i : Int))), none, none, some (.lst ((dm.flatMap fun m => [m ++ [0], m ++ [1]]).map itD)), z]) (marks dn.length) [] _ _ _ rfl ⟨rfl, z, rfl⟩ ?_ ?_
    · rintro dm m r2 ρ S'' hb ⟨rfl, z, rfl⟩ kk2 hh2
      have hm : m ∈ marks dn.length := by rw [hb]; simp
      have hm := (marks_el _ m hm).1
      have l2 : dm.length ≤ 256 := by
        have := congrArg List.length hb
        rw [List.length_append] at this
        omega
      have l3 : (dm.flatMap fun m => [m ++ [0], m ++ [(1 : Int)]]).length = 2 * dm.length := by
        clear hb hh2 hm
        induction dm with
        | nil => rfl
        | cons a l ih => rw [List.flatMap_cons, List.length_append, ih (by rw [List.length_cons] at l2; omega)]; simp; omega
      refine ⟨_, rfl, _, rfl, ⟨by rw [List.length_map]; show m.length + 1 ≤ 16777216; omega, ?_⟩⟩
      refine ⟨_, rfl, ⟨by rw [List.length_map]; show m.length + 1 ≤ 16777216; omega, ?_⟩⟩
      refine ⟨by rw [List.length_map, l3]; show 2 * dm.length + 2 ≤ 16777216; omega, ?_⟩
      refine hh2 _ _ ⟨rfl, some (itD m), ?_⟩
      rw [List.flatMap_append, List.map_append]
      simp [itD]
      rfl
    · rintro ρ S'' ⟨rfl, z, rfl⟩
      refine ⟨_, rfl, hh _ _ ⟨rfl, some (.int (0 + (i : Int))), some (.lst ((marks (dn.length + 1)).map itD)), z, ?_⟩⟩
      rw [List.length_append, List.length_singleton]
      rfl
  · rintro ρ S' ⟨rfl, x, y, z, rfl⟩
    rw [List.length_range]
    have l1 : (marks n).length ≤ 256 := by rw [marks_len]; exact pow8 hn
    refine ⟨_, rfl, _, rfl, ?_⟩
    refine forL_pre (e := D.str) (fun dl ρ S'' => S'' = S' ∧ ∃ x1, ρ = [some (.tup [.int ways, .tup (labels.map .str)]), some (.int n), some (.lst ((marks n).map itD)), x, some (.lst ((sgs dl n).map sgD)), x1, y, z]) labels [] _ _ _ rfl ⟨rfl, none, rfl⟩ ?_ ?_
    · rintro dl l r ρ S'' ha ⟨rfl, x1, rfl⟩ kk hh
      have hz : dl.length ≤ 10 := by
        have := congrArg List.length ha
        rw [List.length_append] at this
        omega
      refine ⟨_, rfl, _, rfl, ?_⟩
      refine loopL_map (e := itD) (fun m => sgD (l, m)) (marks n) _ _ (fun m _ kk2 h3 => ⟨_, rfl, _, rfl, h3⟩) ?_
      have b1 : dl.length * 2 ^ n ≤ 10 * 256 := Nat.mul_le_mul hz (pow8 hn)
      refine ⟨by rw [List.length_map, List.length_map, sgs_len]; show _ ≤ 16777216; omega, ?_⟩
      refine hh _ _ ⟨rfl, some (.str l), ?_⟩
      have e : (sgs dl n).map sgD ++ (marks n).map (fun m => sgD (l, m)) = (sgs (dl ++ [l]) n).map sgD := by
        unfold sgs
        rw [List.flatMap_append, List.map_append, List.flatMap_singleton, List.map_map]
        rfl
      rw [← e]
      rfl
    · rintro ρ S'' ⟨rfl, x1, rfl⟩
      exact ⟨_, rfl, h⟩
end
end U
/-! U13: machines: their tables, runs. -/
namespace U
open PySem DL
local macro_rules | `(tactic| and_intros) => `(tactic| repeat (first | refine ⟨_, rfl, ?_⟩ | refine ⟨rfl, ?_⟩))
structure Mac where
  ways : Nat
  labels : List Bs
  tr : Nat
  n : Nat
  δ : Nat → List Nat → Nat
  good : Nat → Bool
def rowD : Nat → Nat → (List Nat → Nat) → List Nat → D
  | 0, _, f, acc => .int (f acc)
  | l + 1, n, f, acc => .tup ((List.range n).map fun s => rowD l n f (acc ++ [s]))
def kdD (ways : Nat) (labels : List Bs) : D := .tup [.int ways, .tup (labels.map .str)]
def Mac.nrows (M : Mac) : Nat := (sgs M.labels M.tr).length
def Mac.enc (M : Mac) : D := .tup [kdD M.ways M.labels, .int M.tr, .tup ((List.range M.nrows).map fun r => rowD M.ways M.n (M.δ r) []), .tup ((List.range M.n).map fun s => .bl (M.good s))]
def Mac.ix (M : Mac) (g : Sg) : Nat := (sgs M.labels M.tr).idxOf g
structure Mac.Ok (M : Mac) : Prop where
  ways : M.ways = 1 ∨ M.ways = 2
  len : M.labels.length ≤ 3
  nd : M.labels.Nodup
  ok : ∀ l ∈ M.labels, okS' l = true
  tr : M.tr ≤ 7
  pos : 0 < M.n
  n : M.n ≤ 300
  δ : ∀ r cs, M.δ r cs < M.n
/-- marked shapes -/
inductive MS where
  | e | n1 (g : Sg) (c : MS) | n2 (g : Sg) (a b : MS)
deriving DecidableEq
def encM : MS → D
  | .e => .tup []
  | .n1 g c => .tup [sgD g, encM c]
  | .n2 g a b => .tup [sgD g, encM a, encM b]
def msz : MS → Nat
  | .e => 0
  | .n1 _ c => msz c + 1
  | .n2 _ a b => msz a + msz b + 1
def msOf (ways : Nat) (labels : List Bs) (tr : Nat) : MS → Prop
  | .e => True
  | .n1 g c => ways = 1 ∧ g ∈ sgs labels tr ∧ msOf ways labels tr c
  | .n2 g a b => ways = 2 ∧ g ∈ sgs labels tr ∧ msOf ways labels tr a ∧ msOf ways labels tr b
def Mac.run (M : Mac) : MS → Nat
  | .e => 0
  | .n1 g c => M.δ (M.ix g) [M.run c]
  | .n2 g a b => M.δ (M.ix g) [M.run a, M.run b]
theorem Mac.run_lt {M : Mac} (o : M.Ok) : ∀ t, M.run t < M.n
  | .e => o.pos
  | .n1 _ _ => o.δ _ _
  | .n2 _ _ _ => o.δ _ _
theorem ix_lt {M : Mac} {g : Sg} (h : g ∈ sgs M.labels M.tr) : M.ix g < M.nrows := List.idxOf_lt_length_iff.mpr h
theorem okd_encM {labels : List Bs} {ways tr : Nat} (hl : ∀ l ∈ labels, okS' l = true) : ∀ (t : MS) (n : Nat), msOf ways labels tr t → msz t + 3 ≤ n → okd n (encM t) = true
  | .e, n + 1, _, _ => rfl
  | .n1 g c, n + 1, ⟨_, h1, h2⟩, h => by
    have e1 := okd_encM hl c n h2 (by unfold msz at h; omega)
    have e2 : okd n (sgD g) = true := by
      obtain ⟨m, rfl⟩ : ∃ m, n = m + 2 := ⟨n - 2, by omega⟩
      exact okd_sgD (hl _ (sgs_mem.mp h1).1)
    show ([sgD g, encM c]).all (okd n) = true
    simp [e1, e2]
  | .n2 g a b, n + 1, ⟨_, h1, h2, h3⟩, h => by
    have e1 := okd_encM hl a n h2 (by unfold msz at h; omega)
    have e3 := okd_encM hl b n h3 (by unfold msz at h; omega)
    have e2 : okd n (sgD g) = true := by
      obtain ⟨m, rfl⟩ : ∃ m, n = m + 2 := ⟨n - 2, by omega⟩
      exact okd_sgD (hl _ (sgs_mem.mp h1).1)
    show ([sgD g, encM a, encM b]).all (okd n) = true
    simp [e1, e2, e3]
/-! ### the rows by their signs -/
def rowsFrom : Nat → List Sg → List (D × D)
  | _, [] => []
  | i, g :: r => (sgD g, .int (i : Nat)) :: rowsFrom (i + 1) r
theorem look_rows : ∀ (l : List Sg) (i : Nat) (g : Sg), g ∈ l → lookT (rowsFrom i l) (sgD g) = some (.int ((i + l.idxOf g : Nat) : Int))
  | [], _, _, h => by cases h
  | a :: r, i, g, h => by
    rw [rowsFrom, lookT, sgD_eq, List.idxOf_cons]
    by_cases e : a = g
    · subst e; simp
    · rw [if_neg (by simpa using e)]
      have h2 : g ∈ r := by
        rcases List.mem_cons.mp h with h | h
        · exact absurd h.symm e
        · exact h
      rw [look_rows r (i + 1) g h2]
      have : (a == g) = false := beq_eq_false_iff_ne.mpr e
      rw [this]
      simp only [cond_false]
      rw [show i + 1 + r.idxOf g = i + (r.idxOf g + 1) by omega]
theorem put_rows : ∀ (l : List Sg) (i : Nat) (g : Sg) (v : D), g ∉ l → putT (rowsFrom i l) (sgD g) v = rowsFrom i l ++ [(sgD g, v)]
  | [], _, _, _, _ => rfl
  | a :: r, i, g, v, h => by
    have e : ¬ a = g := fun e => h (by rw [e]; exact List.mem_cons_self)
    rw [rowsFrom, putT, sgD_eq, if_neg (by simpa using e), put_rows r (i + 1) g v (fun h2 => h (List.mem_cons_of_mem _ h2))]
    rfl
theorem rows_snoc : ∀ (l : List Sg) (i : Nat) (g : Sg), rowsFrom i (l ++ [g]) = rowsFrom i l ++ [(sgD g, .int ((i + l.length : Nat) : Int))]
  | [], i, g => rfl
  | a :: r, i, g => by
    rw [List.cons_append, rowsFrom, rows_snoc r (i + 1) g, rowsFrom, List.length_cons, show i + 1 + r.length = i + (r.length + 1) by omega]
    rfl
theorem rows_len : ∀ (l : List Sg) (i : Nat), (rowsFrom i l).length = l.length
  | [], _ => rfl
  | a :: r, i => by rw [rowsFrom, List.length_cons, rows_len r, List.length_cons]
def RowsAt (M : List Sg) (p : Addr) (S : Sto) : Prop := S p = some (.tdc (rowsFrom 0 M))
theorem enumD_map {α : Type} (e : α → D) : ∀ (xs : List α) (n : Nat), enumD n (xs.map e) = (xs.zipIdx n).map fun x => .tup [.int x.2, e x.1]
  | [], _ => rfl
  | x :: xs, n => by
    rw [List.map_cons, enumD, enumD_map e xs (n + 1), List.zipIdx_cons, List.map_cons]
section
variable {P : Pg} {q : QD} {k : Nat}
theorem dcL_pre {α : Type} {tk : Bool} {f : D → Sto → (D → D → Sto → Prop) → Prop} {e : α → D} {Q : List (D × D) → Sto → Prop} (I : List α → List (D × D) → Prop) (all : List α) {St : Sto} :
    ∀ (dn xs : List α) (kvs : List (D × D)), all = dn ++ xs → I dn kvs → (∀ dn x r kvs, all = dn ++ x :: r → I dn kvs → ∀ kk : D → D → Sto → Prop, (∀ a b, DL.okX tk a = true → kvs.length < SZ → I (dn ++ [x]) (putX tk kvs a b) → kk a b St) → f (e x) St kk) → (∀ kvs, I all kvs → Q kvs St) → dcL tk f (xs.map e) kvs St Q
  | dn, [], kvs, ha, i, _, h => by
    rw [List.append_nil] at ha
    subst ha
    exact h kvs i
  | dn, x :: xs, kvs, ha, i, hf, h => by
    refine hf dn x xs kvs ha i _ fun a b o z i' => ⟨⟨o, z⟩, ?_⟩
    exact dcL_pre I all (dn ++ [x]) xs _ (by rw [ha]; simp) i' hf h
theorem w_rows (H : Up_rows_by_sign P) {d : D} {ways : Int} {labels : List Bs} (kd : d = .tup [.int ways, .tup (labels.map .str)]) (hl : labels.length ≤ 10) (hnd : labels.Nodup) (n : Nat) (hn : n ≤ 8) {S : Sto} (qx : QX) (hk : 3 ≤ k) (h : ∀ p S', S p = none → RowsAt (sgs labels n) p S' → Oth p S S' → q (.ref p) S') : P.spec k 49 [d, .int n] S q qx := by
  obtain ⟨k, rfl⟩ : ∃ j, k = j + 1 := ⟨k - 1, by omega⟩
  refine Pg.spec_succ H.self rfl ?_
  subst kd
  refine ⟨_, rfl, _, rfl, w_signs H.to_signs rfl hl n hn _ (by omega) ?_⟩
  have b1 : labels.length * 2 ^ n ≤ 10 * 256 := Nat.mul_le_mul hl (pow8 hn)
  have nd := sgs_nodup hnd n
  show dcL true _ (enumD 0 ((sgs labels n).map sgD)) [] S _
  rw [enumD_map]
  refine dcL_pre (fun dn kvs => kvs = rowsFrom 0 (dn.map Prod.fst)) ((sgs labels n).zipIdx 0) [] _ _ rfl rfl ?_ ?_
  · rintro dn ⟨g, i⟩ r kvs ha rfl kk hh
    refine ⟨_, rfl, _, rfl, ?_⟩
    have hm : (sgs labels n) = dn.map Prod.fst ++ g :: r.map Prod.fst := by
      have := congrArg (List.map Prod.fst) ha
      rw [List.map_append, List.map_cons, List.zipIdx_map_fst] at this
      exact this
    have hi : i = dn.length := by
      have h2 : ((sgs labels n).zipIdx 0)[dn.length]? = some (g, i) := by rw [ha]; simp
      rw [List.getElem?_zipIdx] at h2
      cases e : (sgs labels n)[dn.length]? with
      | none => rw [e] at h2; cases h2
      | some a =>
        rw [e] at h2
        have h2 := Option.some.inj h2
        have := congrArg Prod.snd h2
        show i = _
        have : 0 + dn.length = i := this
        omega
    have hng : g ∉ dn.map Prod.fst := by
      rw [hm] at nd
      intro hg
      exact (List.nodup_append.mp nd).2.2 _ hg _ List.mem_cons_self rfl
    have hz : (dn.map Prod.fst).length < SZ := by
      have := congrArg List.length hm
      rw [sgs_len, List.length_append] at this
      show _ < 16777216
      omega
    refine hh _ _ (isTK_sg g) (by rw [rows_len]; exact hz) ?_
    show putT _ _ _ = _
    rw [put_rows _ _ _ _ hng, List.map_append, List.map_singleton, rows_snoc, List.length_map, hi]
    simp
  · rintro kvs rfl p hp
    rw [List.zipIdx_map_fst]
    exact h p _ hp ups_same .ups
theorem w_lrows (H : Up__law_rows P) {d : D} {ways : Int} {labels : List Bs} (kd : d = .tup [.int ways, .tup (labels.map .str)]) (hl : labels.length ≤ 10) (hnd : labels.Nodup) (n : Nat) (hn : n ≤ 8) {S : Sto} (qx : QX) (hk : 2 ≤ k) (h : ∀ p S', S p = none → RowsAt (sgs labels n) p S' → Oth p S S' → q (.ref p) S') : P.spec k 53 [d, .int n] S q qx := by
  obtain ⟨k, rfl⟩ : ∃ j, k = j + 1 := ⟨k - 1, by omega⟩
  refine Pg.spec_succ H.self rfl ?_
  have b1 : labels.length * 2 ^ n ≤ 10 * 256 := Nat.mul_le_mul hl (pow8 hn)
  have nd := sgs_nodup hnd n
  refine ⟨_, rfl, _, rfl, w_lsigns H.to__law_signs kd hl n hn _ (by omega) fun p hp => ?_⟩
  refine ⟨_, rfl, _, rfl, ⟨by rw [List.length_map, sgs_len]; omega, by omega⟩, ?_⟩
  rw [rangeD_map]
  refine forL_pre (e := fun i : Nat => D.int (0 + (i : Int))) (fun dn ρ S' => RowsAt ((sgs labels n).take dn.length) p S' ∧ Oth p S S' ∧ ∃ x, ρ = [some d, some (.int n), some (.lst ((sgs labels n).map sgD)), some (.ref p), x]) (List.range (sgs labels n).length) [] _ _ _ (by rw [List.length_map, show (((sgs labels n).length : Int)).toNat = (sgs labels n).length by omega]; rfl) ⟨ups_same, .ups, none, rfl⟩ ?_ ?_
  · rintro dn i r ρ S' ha ⟨hr, ho, x, rfl⟩ kk hh
    have hi : i = dn.length ∧ dn.length < (sgs labels n).length := by
      have h2 : (List.range (sgs labels n).length)[dn.length]? = some i := by rw [ha]; simp
      obtain ⟨h3, h4⟩ := List.getElem?_eq_some_iff.mp h2
      rw [List.length_range] at h3
      rw [List.getElem_range] at h4
      exact ⟨h4.symm, h3⟩
    obtain ⟨rfl, hlt⟩ := hi
    rw [show (0 : Int) + ((dn.length : Nat) : Int) = (dn.length : Int) by omega]
    refine ⟨_, rfl, _, rfl, _, rfl, _, rfl, _, by rw [atD_nat, List.getElem?_map, List.getElem?_eq_getElem hlt]; rfl, ?_⟩
    refine put_tdc hr (isTK_sg _) (by rw [rows_len, List.length_take, sgs_len]; show _ < 16777216; omega) ?_
    refine hh _ _ ⟨?_, ho.trans .ups, _, rfl⟩
    show ups _ _ _ p = _
    rw [ups_same, put_rows, List.length_append, List.length_singleton, List.take_succ, List.getElem?_eq_getElem hlt]
    · show some (DO.tdc (_ ++ [_])) = some (DO.tdc (rowsFrom 0 (_ ++ [_])))
      rw [rows_snoc, List.length_take, Nat.min_eq_left (Nat.le_of_lt hlt), Nat.zero_add]
    · intro hm
      obtain ⟨j, hj, e⟩ := List.mem_iff_getElem.mp hm
      rw [List.length_take] at hj
      rw [List.getElem_take] at e
      have := (List.getElem_inj nd).mp e
      omega
  · rintro ρ S' ⟨hr, ho, x, rfl⟩
    rw [List.length_range, List.take_length] at hr
    exact ⟨_, rfl, h p S' hp hr ho⟩
/-! ### what stands above children -/
theorem kd_enc (M : Mac) : kdD M.ways M.labels = .tup [.int (M.ways : Int), .tup (M.labels.map .str)] := rfl
theorem w_above {i : Nat} (H : P.Has i f_state_above) {M : Mac} (r : Nat) (hr : r < M.nrows) (cs : List Nat) (hc : cs.length = M.ways) (hn : ∀ c ∈ cs, c < M.n) (dd : D) (hd : dd = .lst (cs.map fun c => .int (c : Nat)) ∨ dd = .tup (cs.map fun c => .int (c : Nat))) {S : Sto} (qx : QX) (hk : 1 ≤ k) (h : q (.int (M.δ r cs : Nat)) S) : P.spec k i [M.enc, .int r, dd] S q qx := by
  obtain ⟨k, rfl⟩ : ∃ j, k = j + 1 := ⟨k - 1, by omega⟩
  refine Pg.spec_succ H rfl ?_
  refine ⟨_, rfl, _, rfl, _, rfl, _, by rw [atD_nat, List.getElem?_map, List.getElem?_range hr]; rfl, ?_⟩
  rcases hd with rfl | rfl
  all_goals
    refine ⟨_, rfl, ?_⟩
    refine forL_pre (e := fun c : Nat => D.int c) (fun dn ρ S' => S' = S ∧ ∃ y x, ρ = [some M.enc, some (.int r), y, some (rowD (M.ways - dn.length) M.n (M.δ r) dn), x]) cs [] _ _ _ rfl ⟨rfl, _, none, rfl⟩ ?_ ?_
    · rintro dn c rr ρ S' ha ⟨rfl, y, x, rfl⟩ kk hh
      have hl : dn.length + (rr.length + 1) = M.ways := by rw [← hc, ha, List.length_append, List.length_cons]
      have hcn : c < M.n := hn c (by rw [ha]; simp)
      have e1 : M.ways - dn.length = (M.ways - (dn ++ [c]).length) + 1 := by rw [List.length_append, List.length_singleton]; omega
      rw [e1]
      refine ⟨_, rfl, _, rfl, _, by rw [atD_nat, List.getElem?_map, List.getElem?_range hcn]; rfl, ?_⟩
      exact hh _ _ ⟨rfl, y, some (.int c), rfl⟩
    · rintro ρ S' ⟨rfl, y, x, rfl⟩
      rw [hc, Nat.sub_self]
      exact ⟨_, rfl, h⟩
/-! ### runs -/
theorem w_lrun (H : Up__law_run P) {M : Mac} (o : M.Ok) {p : Addr} : ∀ (t : MS) (k : Nat) (S : Sto) (q : QD) (qx : QX), msOf M.ways M.labels M.tr t → msz t ≤ 40 → msz t + 2 ≤ k → RowsAt (sgs M.labels M.tr) p S → q (.int (M.run t : Nat)) S → P.spec k 52 [M.enc, encM t, .ref p] S q qx
  | t, 0, _, _, _, _, _, hk, _, _ => by omega
  | t, k + 1, S, q, qx, ht, h40, hk, hr, h => by
    refine Pg.spec_succ H.self rfl ?_
    refine ⟨_, rfl, ?_⟩
    refine ⟨okd_encM o.ok t 60 ht (by omega), rfl, ?_⟩
    have hrow : ∀ g, g ∈ sgs M.labels M.tr → lookT (rowsFrom 0 (sgs M.labels M.tr)) (sgD g) = some (.int (M.ix g : Nat)) := fun g hg => by
      rw [look_rows _ _ _ hg, Nat.zero_add]; rfl
    have ab : P.Has 51 f_state_above := H.to__law_above.self
    cases t with
    | e => exact h
    | n1 g c =>
      obtain ⟨hw, hg, hc⟩ := ht
      unfold msz at h40 hk
      refine ⟨_, rfl, _, rfl, _, rfl, _, rfl, idx_tdc hr (isTK_sg g) (hrow g hg) ?_⟩
      refine ⟨_, rfl, _, rfl, _, rfl, _, rfl, w_lrun H o c k _ _ _ hc (by omega) (by omega) hr ?_⟩
      refine w_above ab (M.ix g) (ix_lt hg) [M.run c] (by rw [hw]; rfl) (fun z hz => ?_) _ (.inl rfl) _ (by omega) h
      rw [List.mem_singleton.mp hz]; exact M.run_lt o c
    | n2 g a b =>
      obtain ⟨hw, hg, ha, hb⟩ := ht
      unfold msz at h40 hk
      refine ⟨_, rfl, _, rfl, _, rfl, _, rfl, idx_tdc hr (isTK_sg g) (hrow g hg) ?_⟩
      refine ⟨_, rfl, _, rfl, _, rfl, _, rfl, w_lrun H o a k _ _ _ ha (by omega) (by omega) hr ?_⟩
      refine ⟨_, rfl, _, rfl, _, rfl, w_lrun H o b k _ _ _ hb (by omega) (by omega) hr ?_⟩
      refine w_above ab (M.ix g) (ix_lt hg) [M.run a, M.run b] (by rw [hw]; rfl) (fun z hz => ?_) _ (.inl rfl) _ (by omega) h
      rcases List.mem_cons.mp hz with rfl | hz
      · exact M.run_lt o a
      · rw [List.mem_singleton.mp hz]; exact M.run_lt o b
/-- the stack of what is left to be done, its top first -/
def Mac.todo (M : Mac) : List (MS × Bool) → List Nat → List Nat
  | [], d => d
  | (.e, _) :: w, d => M.todo w (d ++ [0])
  | (t, false) :: w, d => M.todo w (d ++ [M.run t])
  | (.n1 g _, true) :: w, d => M.todo w (d.take (d.length - 1) ++ [M.δ (M.ix g) (d.drop (d.length - 1))])
  | (.n2 g _ _, true) :: w, d => M.todo w (d.take (d.length - 2) ++ [M.δ (M.ix g) (d.drop (d.length - 2))])
/-- enough is done -/
def enough : List (MS × Bool) → Nat → Prop
  | [], n => True
  | (.e, _) :: w, n => enough w (n + 1)
  | (_, false) :: w, n => enough w (n + 1)
  | (.n1 _ _, true) :: w, n => 1 ≤ n ∧ enough w (n - 1 + 1)
  | (.n2 _ _ _, true) :: w, n => 2 ≤ n ∧ enough w (n - 2 + 1)
def wgtM (w : List (MS × Bool)) : Nat := (w.map fun x => if x.2 then 1 else 3 * msz x.1 + 1).sum
def encW (x : MS × Bool) : D := .tup [encM x.1, .bl x.2]
theorem cut_tail {α : Type} (xs : List α) (i : Int) (m : Nat) (h : i = (m : Nat)) : cutD xs (some i) none = xs.drop m := by
  subst h
  unfold cutD
  rw [HT.sIx_nat, HT.sIx_none]
  by_cases c : m ≤ xs.length
  · rw [Nat.min_eq_left c, List.take_of_length_le (by rw [List.length_drop]; omega)]
  · rw [Nat.min_eq_right (by omega), Nat.sub_self, List.take_zero, List.drop_eq_nil_of_le (by omega)]
theorem cut_head {α : Type} (xs : List α) (i : Int) (m : Nat) (h : i = (m : Nat)) : cutD xs none (some i) = xs.take m := by
  subst h
  unfold cutD
  rw [HT.sIx_nat, HT.sIx_none, List.drop_zero, Nat.sub_zero]
  by_cases c : m ≤ xs.length
  · rw [Nat.min_eq_left c]
  · rw [Nat.min_eq_right (by omega), List.take_of_length_le (Nat.le_refl _), List.take_of_length_le (by omega)]
theorem sl_lst {S : Sto} {p : Addr} {ds : List D} {lo hi : Option Int} {Q : QD} (h : S p = some (.lst ds)) (q : Q (.lst (cutD ds lo hi)) S) : wSl S (.ref p) lo hi (fun z => fin false z S Q) := by
  unfold wSl
  simp only [h]
  exact q
theorem lvw_lst {S : Sto} {p : Addr} {ds : List D} (h : S p = some (.lst ds)) : lvw S (.ref p) = some ds := by
  unfold lvw
  simp only [h]
abbrev natD (c : Nat) : D := .int (c : Nat)
theorem map_take_n (d : List Nat) (m : Nat) : (d.map natD).take m = (d.take m).map natD := List.map_take.symm
theorem map_drop_n (d : List Nat) (m : Nat) : (d.map natD).drop m = (d.drop m).map natD := List.map_drop.symm
structure RunI (M : Mac) (t0 : MS) (p : Addr) (S0 : Sto) (a : List (MS × Bool) × List Nat) (ρ : DL.Env) (S : Sto) : Prop where
  ex : ∃ pd pw x5 x6 x7 x8 x9, ρ = [some M.enc, some (encM t0), some (.ref p), some (.ref pd), some (.ref pw), x5, x6, x7, x8, x9] ∧ S pd = some (.lst (a.2.map natD)) ∧ S pw = some (.lst (a.1.reverse.map encW)) ∧ pd ≠ pw ∧ pd ≠ p ∧ pw ≠ p ∧ S0 pd = none ∧ S0 pw = none
  rows : RowsAt (sgs M.labels M.tr) p S
  sub : Sub S0 S
  lt : ∀ c ∈ a.2, c < M.n
  of : ∀ x ∈ a.1, msOf M.ways M.labels M.tr x.1
  en : enough a.1 a.2.length
  val : M.todo a.1 a.2 = [M.run t0]
  sz : wgtM a.1 + a.2.length ≤ 3000
theorem subUps {S0 S : Sto} {p : Addr} {o : DO} (h : Sub S0 S) (n : S0 p = none) : Sub S0 (DL.ups S p o) := fun b o' e => by
  have : b ≠ p := fun e2 => by rw [e2, n] at e; cases e
  rw [ups_ne this]
  exact h b o' e
theorem wgt_cons (x : MS × Bool) (w : List (MS × Bool)) : wgtM (x :: w) = (if x.2 then 1 else 3 * msz x.1 + 1) + wgtM w := by simp [wgtM]
theorem wgt_len : ∀ w : List (MS × Bool), w.length ≤ wgtM w
  | [] => by simp [wgtM]
  | x :: w => by
    have := wgt_len w
    rw [wgt_cons, List.length_cons]
    split <;> omega
set_option maxHeartbeats 0 in
theorem w_state_of (H : Up_state_of P) {M : Mac} (o : M.Ok) (t : MS) {S : Sto} (qx : QX) (hk : 4 ≤ k) (ht : msOf M.ways M.labels M.tr t) (h40 : msz t ≤ 500) (h : q (.int (M.run t : Nat)) S) : P.spec k 45 [M.enc, encM t] S q qx := by
  obtain ⟨k, rfl⟩ : ∃ j, k = j + 1 := ⟨k - 1, by omega⟩
  refine Pg.spec_fgt H.self rfl ?_
  have hrow : ∀ g, g ∈ sgs M.labels M.tr → lookT (rowsFrom 0 (sgs M.labels M.tr)) (sgD g) = some (.int (M.ix g : Nat)) := fun g hg => by
    rw [look_rows _ _ _ hg, Nat.zero_add]; rfl
  refine ⟨_, rfl, _, rfl, _, rfl, _, rfl, w_rows H.to_rows_by_sign (kd_enc M) (by have := o.len; omega) o.nd M.tr (by have := o.tr; omega) _ (by omega) fun p S1 hp hr o1 => ?_⟩
  intro pd hpd
  refine ⟨_, rfl, fun pw hpw => ?_⟩
  have sub1 : Sub S S1 := fun a ob e => by
    have : a ≠ p := fun e2 => by rw [e2, hp] at e; cases e
    rw [o1 a this]; exact e
  have pne : pd ≠ p := fun e => by rw [e] at hpd; rw [show S1 p = _ from hr] at hpd; cases hpd
  have pw1 : pd ≠ pw := fun e => by rw [← e, ups_same] at hpw; cases hpw
  have pw2 : pw ≠ p := fun e => by rw [e, ups_ne pne.symm, show S1 p = _ from hr] at hpw; cases hpw
  have n1 : S pd = none := sub1.none hpd
  have n2 : S pw = none := sub1.none (by rw [ups_ne pw1.symm] at hpw; exact hpw)
  refine while_ind (RunI M t p S) (fun a => wgtM a.1) ?_ (a := ([(t, false)], [])) ⟨⟨pd, pw, none, none, none, none, none, rfl, by rw [ups_ne pw1, ups_same]; rfl, ups_same, pw1, pne, pw2, n1, n2⟩, by show ups _ _ _ p = _; rw [ups_ne pw2.symm, ups_ne pne.symm]; exact hr, subUps (subUps sub1 n1) n2, by simp, by simpa using ht, by cases t <;> trivial, by cases t <;> rfl, by show wgtM [(t, false)] + 0 ≤ 3000; rw [wgt_cons]; show 3 * msz t + 1 + 0 + 0 ≤ 3000; omega⟩
  rintro ⟨w, d⟩ ρ S2 I kk hkk
  obtain ⟨pd, pw, x5, x6, x7, x8, x9, rfl, ed, ew, a1, a2, a3, m1, m2⟩ := I.ex
  refine ⟨_, rfl, _, tru_lst ew, ?_⟩
  cases w with
  | nil =>
    have hv : d = [M.run t] := I.val
    subst hv
    exact ⟨_, rfl, idx_lst ed rfl ⟨S, I.sub, h⟩⟩
  | cons x w =>
    have ew2 : S2 pw = some (.lst (w.reverse.map encW ++ [encW x])) := by rw [ew]; simp
    have e0 : (!((x :: w).reverse.map encW).isEmpty) = true := by simp
    refine if_t e0 ?_
    refine ⟨_, rfl, popl_lst ew2 ?_⟩
    generalize e1 : DL.ups S2 pw (.lst (w.reverse.map encW)) = S3
    have ed3 : S3 pd = some (.lst (d.map natD)) := by rw [← e1, ups_ne a1]; exact ed
    have ew3 : S3 pw = some (.lst (w.reverse.map encW)) := by rw [← e1]; exact ups_same
    have r3 : RowsAt (sgs M.labels M.tr) p S3 := by show S3 p = _; rw [← e1, ups_ne a3.symm]; exact I.rows
    have s3 : Sub S S3 := by rw [← e1]; exact subUps I.sub m2
    clear e1
    obtain ⟨tt, b⟩ := x
    have iof := I.of
    have ilt := I.lt
    have ien := I.en
    have ival := I.val
    have isz := I.sz
    have iofw : ∀ x ∈ w, msOf M.ways M.labels M.tr x.1 := fun x hx => iof x (List.mem_cons_of_mem _ hx)
    have oft := iof _ List.mem_cons_self
    have hwl := wgt_len w
    rw [wgt_cons] at isz
    clear I ew ew2 ed
    -- what is done grows by one number
    have app : ∀ (c : Nat) (ρ1 : DL.Env) (S4 : Sto) (x5 x6 x7 x8 x9 : Option D) (pd : Addr) (d' : List Nat), c < M.n → ρ1 = [some M.enc, some (encM t), some (.ref p), some (.ref pd), some (.ref pw), x5, x6, x7, x8, x9] → S4 pd = some (.lst (d'.map natD)) → S4 pw = some (.lst (w.reverse.map encW)) → pd ≠ pw → pd ≠ p → S pd = none → RowsAt (sgs M.labels M.tr) p S4 → Sub S S4 → (∀ c ∈ d', c < M.n) → enough w (d'.length + 1) → M.todo w (d' ++ [c]) = [M.run t] → d'.length ≤ d.length → 
        kk ρ1 (DL.ups S4 pd (.lst (d'.map natD ++ [natD c]))) := by
      intro c ρ1 S4 x5 x6 x7 x8 x9 pd d' hc hρ ed ew a1 a2 m1 r s lt en vl dl
      refine hkk (w, d' ++ [c]) _ _ ⟨⟨pd, pw, x5, x6, x7, x8, x9, hρ, by rw [ups_same, List.map_append]; rfl, by rw [ups_ne a1.symm]; exact ew, a1, a2, a3, m1, m2⟩, by show ups _ _ _ p = _; rw [ups_ne a2.symm]; exact r, subUps s m1, fun z hz => ?_, iofw, by rw [List.length_append]; exact en, vl, ?_⟩ ?_
      · rcases List.mem_append.mp hz with hz | hz
        · exact lt z hz
        · rw [List.mem_singleton.mp hz]; exact hc
      · show wgtM w + (d' ++ [c]).length ≤ 3000
        rw [List.length_append, List.length_singleton]
        have : 1 ≤ (if b = true then 1 else 3 * msz tt + 1) := by split <;> omega
        have isz : (if b = true then 1 else 3 * msz tt + 1) + wgtM w + d.length ≤ 3000 := isz
        omega
      · show wgtM w < wgtM ((tt, b) :: w)
        rw [wgt_cons]
        have : 1 ≤ (if b = true then 1 else 3 * msz tt + 1) := by split <;> omega
        show wgtM w < (if b = true then 1 else 3 * msz tt + 1) + wgtM w
        omega
    have dlen : (d.map natD).length < SZ := by
      rw [List.length_map]
      show _ < 16777216
      have isz : (if b = true then 1 else 3 * msz tt + 1) + wgtM w + d.length ≤ 3000 := isz
      omega
    have isz0 : 1 + wgtM w + d.length ≤ 3000 := by
      have isz : (if b = true then 1 else 3 * msz tt + 1) + wgtM w + d.length ≤ 3000 := isz
      have : 1 ≤ (if b = true then 1 else 3 * msz tt + 1) := by split <;> omega
      omega
    have wl1 : (w.reverse.map encW).length < SZ := by rw [List.length_map, List.length_reverse]; show _ < 16777216; omega
    have wl2 : ∀ x : D, (w.reverse.map encW ++ [x]).length < SZ := fun x => by rw [List.length_append, List.length_map, List.length_reverse]; show _ + 1 < 16777216; omega
    have wl3 : ∀ x y : D, (w.reverse.map encW ++ [x] ++ [y]).length < SZ := fun x y => by rw [List.length_append, List.length_append, List.length_map, List.length_reverse]; show _ + 1 + 1 < 16777216; omega
    cases tt with
    | e =>
      refine ⟨_, rfl, _, rfl, ?_⟩
      refine ⟨_, rfl, _, rfl, ⟨_, ed3⟩, _, ed3, dlen, ?_⟩
      exact app 0 _ _ _ _ _ _ _ pd d o.pos rfl ed3 ew3 a1 a2 m1 r3 s3 ilt (by cases b <;> exact ien) (by cases b <;> exact ival) (Nat.le_refl _)
    | n1 g c =>
      obtain ⟨hw, hg, hc⟩ := oft
      cases b with
      | true =>
        obtain ⟨en1, en2⟩ : 1 ≤ d.length ∧ enough w (d.length - 1 + 1) := ien
        refine ⟨_, rfl, _, rfl, _, rfl, _, rfl, ?_⟩
        refine ⟨_, rfl, _, rfl, ?_⟩
        refine ⟨_, rfl, _, rfl, _, len_lst ed3, _, rfl, ?_⟩
        refine sl_lst ed3 ?_
        refine ⟨_, rfl, _, rfl, _, len_lst ed3, _, rfl, _, lvw_lst ed3, fun pd' hpd' => ?_⟩
        have cd : ((d.map natD).length : Int) - (2 - 1) = ((d.length - 1 : Nat) : Int) := by rw [List.length_map]; omega
        have f1 : cutD (d.map natD) none (some (((d.map natD).length : Int) - (2 - 1))) = (d.take (d.length - 1)).map natD := by rw [cut_head _ _ _ cd, map_take_n]
        have f2 : cutD (d.map natD) (some (((d.map natD).length : Int) - (2 - 1))) none = (d.drop (d.length - 1)).map natD := by rw [cut_tail _ _ _ cd, map_drop_n]
        show wSs (P.G k _) _ [_, _, _, _, _, _, _, _, some (.lst (cutD (d.map natD) (some (((d.map natD).length : Int) - (2 - 1))) none)), _] (DL.ups S3 pd' (.lst (cutD (d.map natD) none (some (((d.map natD).length : Int) - (2 - 1)))))) _
        rw [f1, f2]
        have q1 : pd' ≠ pw := fun e => by rw [e, ew3] at hpd'; cases hpd'
        have q2 : pd' ≠ p := fun e => by rw [e, show S3 p = _ from r3] at hpd'; cases hpd'
        have q3 : S pd' = none := s3.none hpd'
        have r4 : RowsAt (sgs M.labels M.tr) p (DL.ups S3 pd' (.lst ((d.take (d.length - 1)).map natD))) := by show ups _ _ _ p = _; rw [ups_ne q2.symm]; exact r3
        have hl : (d.drop (d.length - 1)).length = 1 := by rw [List.length_drop]; omega
        refine ⟨_, rfl, _, rfl, ⟨_, ups_same⟩, _, rfl, _, rfl, _, rfl, _, rfl, idx_tdc r4 (isTK_sg g) (hrow g hg) ?_⟩
        refine ⟨_, rfl, w_above H.to_state_above.self (M.ix g) (ix_lt hg) (d.drop (d.length - 1)) (by rw [hl, hw]) (fun z hz => ilt z (List.mem_of_mem_drop hz)) _ (.inl rfl) _ (by omega) ?_⟩
        have dl2 : (d.take (d.length - 1)).length = d.length - 1 := by rw [List.length_take]; omega
        refine ⟨_, ups_same, by rw [List.length_map]; show _ < 16777216; rw [List.length_map] at dlen; have : d.length < 16777216 := dlen; omega, ?_⟩
        exact app (M.δ (M.ix g) (d.drop (d.length - 1))) _ _ _ _ _ _ _ pd' (d.take (d.length - 1)) (o.δ _ _) rfl ups_same (by rw [ups_ne q1.symm]; exact ew3) q1 q2 q3 r4 (subUps s3 q3) (fun z hz => ilt z (List.mem_of_mem_take hz)) (by rw [dl2]; exact en2) ival (by rw [dl2]; omega)
      | false =>
        refine ⟨_, rfl, _, rfl, _, rfl, _, rfl, ?_⟩
        refine ⟨_, rfl, _, rfl, ⟨_, ew3⟩, _, rfl, _, ew3, wl1, ?_⟩
        refine ⟨_, rfl, ?_⟩
        refine ⟨_, rfl, _, rfl, ⟨_, ups_same⟩, _, rfl, _, ups_same, wl2 _, ?_⟩
        have isz : 3 * (msz c + 1) + 1 + wgtM w + d.length ≤ 3000 := isz
        refine hkk ((c, false) :: (.n1 g c, true) :: w, d) _ _ ⟨⟨pd, pw, _, _, _, _, _, rfl, by rw [ups_ne a1, ups_ne a1]; exact ed3, by rw [ups_same]; simp [encW, encM], a1, a2, a3, m1, m2⟩, by show ups _ _ _ p = _; rw [ups_ne a3.symm, ups_ne a3.symm]; exact r3, subUps (subUps s3 m2) m2, ilt, fun z hz => ?_, ?_, ?_, ?_⟩ ?_
        · rcases List.mem_cons.mp hz with rfl | hz
          · exact hc
          · rcases List.mem_cons.mp hz with rfl | hz
            · exact ⟨hw, hg, hc⟩
            · exact iofw z hz
        · show enough ((c, false) :: (.n1 g c, true) :: w) d.length
          have : enough ((.n1 g c, true) :: w) (d.length + 1) := ⟨by omega, ien⟩
          cases c <;> exact this
        · rw [← ival]
          have : M.todo ((.n1 g c, true) :: w) (d ++ [M.run c]) = M.todo ((.n1 g c, false) :: w) d := by
            show M.todo w ((d ++ [M.run c]).take ((d ++ [M.run c]).length - 1) ++ [M.δ (M.ix g) ((d ++ [M.run c]).drop ((d ++ [M.run c]).length - 1))]) = M.todo w (d ++ [M.δ (M.ix g) [M.run c]])
            rw [List.length_append, List.length_singleton, Nat.add_sub_cancel, List.take_left', List.drop_left'] <;> rfl
          rw [← this]
          cases c <;> rfl
        · show wgtM _ + d.length ≤ 3000
          rw [wgt_cons, wgt_cons]
          show 3 * msz c + 1 + (1 + wgtM w) + d.length ≤ 3000
          omega
        · show wgtM _ < wgtM _
          rw [wgt_cons, wgt_cons, wgt_cons]
          show 3 * msz c + 1 + (1 + wgtM w) < 3 * (msz c + 1) + 1 + wgtM w
          omega
    | n2 g a b2 =>
      obtain ⟨hw, hg, ha, hb⟩ := oft
      cases b with
      | true =>
        obtain ⟨en1, en2⟩ : 2 ≤ d.length ∧ enough w (d.length - 2 + 1) := ien
        refine ⟨_, rfl, _, rfl, _, rfl, _, rfl, ?_⟩
        refine ⟨_, rfl, _, rfl, ?_⟩
        refine ⟨_, rfl, _, rfl, _, len_lst ed3, _, rfl, ?_⟩
        refine sl_lst ed3 ?_
        refine ⟨_, rfl, _, rfl, _, len_lst ed3, _, rfl, _, lvw_lst ed3, fun pd' hpd' => ?_⟩
        have cd : ((d.map natD).length : Int) - (3 - 1) = ((d.length - 2 : Nat) : Int) := by rw [List.length_map]; omega
        have f1 : cutD (d.map natD) none (some (((d.map natD).length : Int) - (3 - 1))) = (d.take (d.length - 2)).map natD := by rw [cut_head _ _ _ cd, map_take_n]
        have f2 : cutD (d.map natD) (some (((d.map natD).length : Int) - (3 - 1))) none = (d.drop (d.length - 2)).map natD := by rw [cut_tail _ _ _ cd, map_drop_n]
        show wSs (P.G k _) _ [_, _, _, _, _, _, _, _, some (.lst (cutD (d.map natD) (some (((d.map natD).length : Int) - (3 - 1))) none)), _] (DL.ups S3 pd' (.lst (cutD (d.map natD) none (some (((d.map natD).length : Int) - (3 - 1)))))) _
        rw [f1, f2]
        have q1 : pd' ≠ pw := fun e => by rw [e, ew3] at hpd'; cases hpd'
        have q2 : pd' ≠ p := fun e => by rw [e, show S3 p = _ from r3] at hpd'; cases hpd'
        have q3 : S pd' = none := s3.none hpd'
        have r4 : RowsAt (sgs M.labels M.tr) p (DL.ups S3 pd' (.lst ((d.take (d.length - 2)).map natD))) := by show ups _ _ _ p = _; rw [ups_ne q2.symm]; exact r3
        have hl : (d.drop (d.length - 2)).length = 2 := by rw [List.length_drop]; omega
        refine ⟨_, rfl, _, rfl, ⟨_, ups_same⟩, _, rfl, _, rfl, _, rfl, _, rfl, idx_tdc r4 (isTK_sg g) (hrow g hg) ?_⟩
        refine ⟨_, rfl, w_above H.to_state_above.self (M.ix g) (ix_lt hg) (d.drop (d.length - 2)) (by rw [hl, hw]) (fun z hz => ilt z (List.mem_of_mem_drop hz)) _ (.inl rfl) _ (by omega) ?_⟩
        have dl2 : (d.take (d.length - 2)).length = d.length - 2 := by rw [List.length_take]; omega
        refine ⟨_, ups_same, by rw [List.length_map]; show _ < 16777216; rw [List.length_map] at dlen; have : d.length < 16777216 := dlen; omega, ?_⟩
        exact app (M.δ (M.ix g) (d.drop (d.length - 2))) _ _ _ _ _ _ _ pd' (d.take (d.length - 2)) (o.δ _ _) rfl ups_same (by rw [ups_ne q1.symm]; exact ew3) q1 q2 q3 r4 (subUps s3 q3) (fun z hz => ilt z (List.mem_of_mem_take hz)) (by rw [dl2]; exact en2) ival (by rw [dl2]; omega)
      | false =>
        refine ⟨_, rfl, _, rfl, _, rfl, _, rfl, ?_⟩
        refine ⟨_, rfl, _, rfl, ⟨_, ew3⟩, _, rfl, _, ew3, wl1, ?_⟩
        refine ⟨_, rfl, ?_⟩
        refine ⟨_, rfl, _, rfl, ⟨_, ups_same⟩, _, rfl, _, ups_same, wl2 _, ?_⟩
        refine ⟨_, rfl, _, rfl, ⟨_, ups_same⟩, _, rfl, _, ups_same, wl3 _ _, ?_⟩
        have isz : 3 * (msz a + msz b2 + 1) + 1 + wgtM w + d.length ≤ 3000 := isz
        refine hkk ((a, false) :: (b2, false) :: (.n2 g a b2, true) :: w, d) _ _ ⟨⟨pd, pw, _, _, _, _, _, rfl, by rw [ups_ne a1, ups_ne a1, ups_ne a1]; exact ed3, by rw [ups_same]; simp [encW, encM], a1, a2, a3, m1, m2⟩, by show ups _ _ _ p = _; rw [ups_ne a3.symm, ups_ne a3.symm, ups_ne a3.symm]; exact r3, subUps (subUps (subUps s3 m2) m2) m2, ilt, fun z hz => ?_, ?_, ?_, ?_⟩ ?_
        · rcases List.mem_cons.mp hz with rfl | hz
          · exact ha
          · rcases List.mem_cons.mp hz with rfl | hz
            · exact hb
            · rcases List.mem_cons.mp hz with rfl | hz
              · exact ⟨hw, hg, ha, hb⟩
              · exact iofw z hz
        · show enough ((a, false) :: (b2, false) :: (.n2 g a b2, true) :: w) d.length
          have h1 : enough ((.n2 g a b2, true) :: w) (d.length + 1 + 1) := ⟨by omega, ien⟩
          have h2 : enough ((b2, false) :: (.n2 g a b2, true) :: w) (d.length + 1) := by cases b2 <;> exact h1
          cases a <;> exact h2
        · rw [← ival]
          have h1 : M.todo ((.n2 g a b2, true) :: w) (d ++ [M.run a] ++ [M.run b2]) = M.todo ((.n2 g a b2, false) :: w) d := by
            rw [List.append_assoc]
            show M.todo w ((d ++ [M.run a, M.run b2]).take ((d ++ [M.run a, M.run b2]).length - 2) ++ [M.δ (M.ix g) ((d ++ [M.run a, M.run b2]).drop ((d ++ [M.run a, M.run b2]).length - 2))]) = M.todo w (d ++ [M.δ (M.ix g) [M.run a, M.run b2]])
            rw [List.length_append, show [M.run a, M.run b2].length = 2 from rfl, Nat.add_sub_cancel, List.take_left', List.drop_left'] <;> rfl
          rw [← h1]
          have h2 : M.todo ((b2, false) :: (.n2 g a b2, true) :: w) (d ++ [M.run a]) = M.todo ((.n2 g a b2, true) :: w) (d ++ [M.run a] ++ [M.run b2]) := by cases b2 <;> rfl
          rw [← h2]
          cases a <;> rfl
        · show wgtM _ + d.length ≤ 3000
          rw [wgt_cons, wgt_cons, wgt_cons]
          show 3 * msz a + 1 + (3 * msz b2 + 1 + (1 + wgtM w)) + d.length ≤ 3000
          omega
        · show wgtM _ < wgtM _
          rw [wgt_cons, wgt_cons, wgt_cons, wgt_cons]
          show 3 * msz a + 1 + (3 * msz b2 + 1 + (1 + wgtM w)) < 3 * (msz a + msz b2 + 1) + 1 + wgtM w
          omega
end
end U
/-! U14: marked shapes; machines that are drawn. -/
namespace U
open PySem DL
local macro_rules | `(tactic| and_intros) => `(tactic| repeat (first | refine ⟨_, rfl, ?_⟩ | refine ⟨rfl, ?_⟩))
def bitsAt (sets : List (List (List Int))) (p : List Int) : List Int := sets.map fun s => if p ∈ s then 1 else 0
def markS (sets : List (List (List Int))) : Sh → List Int → MS
  | .e, _ => .e
  | .n1 l c, p => .n1 (l, bitsAt sets p) (markS sets c (p ++ [0]))
  | .n2 l a b, p => .n2 (l, bitsAt sets p) (markS sets a (p ++ [0])) (markS sets b (p ++ [1]))
theorem markS_size (sets : List (List (List Int))) : ∀ (s : Sh) (p : List Int), msz (markS sets s p) = size s
  | .e, _ => rfl
  | .n1 _ c, p => by simp [markS, msz, size, markS_size sets c]
  | .n2 _ a b, p => by simp [markS, msz, size, markS_size sets a, markS_size sets b]
theorem bits_mem (sets : List (List (List Int))) (p : List Int) : bitsAt sets p ∈ marks sets.length := by
  refine marks_mem _ _ (by simp [bitsAt]) fun b hb => ?_
  obtain ⟨s, _, rfl⟩ := List.mem_map.mp hb
  split
  · exact .inr rfl
  · exact .inl rfl
theorem markS_of {ways : Nat} {labels : List Bs} (sets : List (List (List Int))) : ∀ (s : Sh) (p : List Int), shOf (ways : Int) labels s → msOf ways labels sets.length (markS sets s p)
  | .e, _, _ => trivial
  | .n1 l c, p, ⟨h1, h2, h3⟩ => ⟨by omega, sgs_mem.mpr ⟨h2, bits_mem _ _⟩, markS_of sets c _ h3⟩
  | .n2 l a b, p, ⟨h1, h2, h3, h4⟩ => ⟨by omega, sgs_mem.mpr ⟨h2, bits_mem _ _⟩, markS_of sets a _ h3, markS_of sets b _ h4⟩
abbrev Sets := List (List (List Int))
def MarkAt (S : Sto) (z : Addr × List (List Int)) : Prop := ∃ kvs, S z.1 = some (.tdc kvs) ∧ ∀ x : List Int, (lookT kvs (itD x)).isSome = decide (x ∈ z.2)
theorem look_putT (kvs : List (D × D)) (hk : ∀ kv ∈ kvs, ∃ z, kv.1 = itD z) (x y : List Int) (v : D) : (lookT (putT kvs (itD x) v) (itD y)).isSome = (decide (x = y) || (lookT kvs (itD y)).isSome) := by
  induction kvs with
  | nil =>
    by_cases e : x = y <;> simp [putT, lookT, itD_eq, e]
  | cons kv r ih =>
    obtain ⟨a, b⟩ := kv
    obtain ⟨z, hz⟩ := hk _ List.mem_cons_self
    have hz : a = itD z := hz
    subst hz
    rw [putT, itD_eq]
    by_cases e : z = x
    · subst e
      rw [if_pos (by simp), lookT, itD_eq, lookT, itD_eq]
      by_cases e2 : z = y <;> simp [e2]
    · rw [if_neg (by simpa using e), lookT, itD_eq, lookT, itD_eq]
      by_cases e2 : z = y
      · simp [e2]
      · simp [e2, ih fun kv h => hk kv (List.mem_cons_of_mem _ h)]
theorem keys_putT (kvs : List (D × D)) (hk : ∀ kv ∈ kvs, ∃ z, kv.1 = itD z) (x : List Int) (v : D) : (∀ kv ∈ putT kvs (itD x) v, ∃ z, kv.1 = itD z) ∧ (putT kvs (itD x) v).length ≤ kvs.length + 1 := by
  induction kvs with
  | nil => exact ⟨fun kv h => ⟨x, by rw [List.mem_singleton.mp h]⟩, Nat.le_refl _⟩
  | cons kv r ih =>
    obtain ⟨a, b⟩ := kv
    rw [putT]
    obtain ⟨i1, i2⟩ := ih fun kv h => hk kv (List.mem_cons_of_mem _ h)
    split
    · refine ⟨fun kv h => ?_, by simp⟩
      rcases List.mem_cons.mp h with rfl | h
      · exact hk (a, b) List.mem_cons_self
      · exact hk kv (List.mem_cons_of_mem _ h)
    · refine ⟨fun kv h => ?_, by simp; omega⟩
      rcases List.mem_cons.mp h with rfl | h
      · exact hk (a, b) List.mem_cons_self
      · exact i1 kv h
theorem loopL_pre0 {α : Type} {f : D → Sto → (List D → Sto → Prop) → Prop} {e : α → D} {Q : List D → Sto → Prop} (I : List α → List D → Sto → Prop) (all : List α) {St : Sto} (i : I [] [] St)
    (hf : ∀ dn x r ys S, all = dn ++ x :: r → I dn ys S → ∀ k : List D → Sto → Prop, (∀ zs S', I (dn ++ [x]) (ys ++ zs) S' → k zs S') → f (e x) S k) (h : ∀ ys S, I all ys S → Q ys S) : loopL f (all.map e) St Q :=
  loopL_pre (Q := Q) I all [] all [] St rfl i hf h
/-- each item is drawn -/
theorem loopL_draw {α β : Type} (J : Sto → Prop) (R : β → Prop) {f : D → Sto → (List D → Sto → Prop) → Prop} {e : α → D} (g : β → D) :
    ∀ (xs : List α) (St : Sto) (Q : List D → Sto → Prop), J St →
    (∀ x ∈ xs, ∀ (S : Sto) (k : List D → Sto → Prop), J S → (∀ b S', R b → J S' → k [g b] S') → f (e x) S k) →
    (∀ (bs : List β) (S : Sto), J S → bs.length = xs.length → (∀ b ∈ bs, R b) → Q (bs.map g) S) → loopL f (xs.map e) St Q
  | [], St, Q, j, _, h => h [] St j rfl (by simp)
  | x :: xs, St, Q, j, hf, h => by
    refine hf x List.mem_cons_self St _ j fun b S' rb j' => ?_
    refine loopL_draw J R g xs S' _ j' (fun y hy => hf y (List.mem_cons_of_mem _ hy)) fun bs S j2 hl hb => ?_
    refine h (b :: bs) S j2 (by simp [hl]) fun z hz => ?_
    rcases List.mem_cons.mp hz with rfl | hz
    · exact rb
    · exact hb z hz
theorem any_it (one : List (List Int)) (p : List Int) : ((one.map itD).any fun z => dEq z (itD p)) = decide (p ∈ one) := by
  induction one with
  | nil => simp
  | cons a r ih =>
    rw [List.map_cons, List.any_cons, ih, itD_eq]
    by_cases e : a = p
    · simp [e]
    · have e2 : ¬ p = a := fun h => e h.symm
      simp [e, e2]
theorem in_tdcT {S : Sto} {p : Addr} {kvs : List (D × D)} {y : D} {Q : Bool → Sto → Prop} (h : S p = some (.tdc kvs)) (hk : isTK y = true) (q : Q (lookT kvs y).isSome S) : wCmp .isin y (.ref p) S (fun b => mB Q (.bl b) S) := in_tdc h hk q
section
variable {P : Pg} {k : Nat}
theorem enum1 (x : D) : enumD 0 [x] = [.tup [.int (0 : Nat), x]] := rfl
theorem w_mark_part (H : Up_mark_part P) (zs : List (Addr × List (List Int))) (hz : zs.length ≤ 100) : ∀ (s : Sh) (p : List Int) (k : Nat) (S : Sto) (q : QD) (qx : QX) (dd : D), (∀ z ∈ zs, MarkAt S z) → size s ≤ 100 → p.length + size s ≤ 1000 → size s + 1 ≤ k → dd = .lst (zs.map fun z => .ref z.1) → q (encM (markS (zs.map (·.2)) s p)) S → P.spec k 48 [encS s, itD p, dd] S q qx
  | s, p, 0, _, _, _, _, _, _, _, hk, _, _ => by omega
  | s, p, k + 1, S, q, qx, dd, hm, h100, hp, hk, hdd, h => by
    refine Pg.spec_succ H.self rfl ?_
    subst hdd
    have bits : ∀ (Q : List D → Sto → Prop) (f : D → Sto → (List D → Sto → Prop) → Prop), (∀ z ∈ zs, ∀ kk : List D → Sto → Prop, kk [.int (if p ∈ z.2 then 1 else 0)] S → f (.ref z.1) S kk) → Q ((bitsAt (zs.map (·.2)) p).map D.int) S → loopL f (zs.map fun z => .ref z.1) S Q := by
      intro Q f hf hq
      refine loopL_map (e := fun z : Addr × List (List Int) => D.ref z.1) (fun z => .int (if p ∈ z.2 then 1 else 0)) zs S Q hf ?_
      have : (bitsAt (zs.map (·.2)) p).map D.int = zs.map fun z => D.int (if p ∈ z.2 then 1 else 0) := by
        unfold bitsAt
        rw [List.map_map, List.map_map]
        rfl
      rw [← this]
      exact hq
    have body : ∀ z ∈ zs, ∀ (Q : Bool → Sto → Prop), Q (decide (p ∈ z.2)) S → wCmp .isin (itD p) (.ref z.1) S (fun b => mB Q (.bl b) S) := fun z hz Q hq => by
      obtain ⟨kvs, e, l⟩ := hm z hz
      exact in_tdcT e (isTK_it p) (by rw [l p]; exact hq)
    have one : ∀ (z : Addr × List (List Int)) (kk : List D → Sto → Prop) (b : Bool), b = decide (p ∈ z.2) → kk [.int (if p ∈ z.2 then 1 else 0)] S → if b = true then kk [.int 1] S else kk [.int 0] S := fun z kk b hb hkk => by
      subst hb
      by_cases c : p ∈ z.2
      · rw [if_pos c] at hkk; exact if_t (decide_eq_true c) hkk
      · rw [if_neg c] at hkk; exact if_f (decide_eq_false c) hkk
    cases s with
    | e => exact ⟨_, rfl, _, rfl, h⟩
    | n1 l c =>
      refine ⟨_, rfl, _, rfl, ?_⟩
      refine ⟨_, rfl, _, rfl, _, rfl, bits _ _ (fun z hz kk hkk => ⟨_, rfl, _, rfl, body z hz _ (one z kk _ rfl hkk)⟩) ?_⟩
      unfold size at h100 hp hk
      refine ⟨_, rfl, _, rfl, ?_⟩
      refine ⟨_, rfl, _, rfl, _, rfl, ⟨by rw [List.length_map]; show p.length + 1 ≤ 16777216; omega, _, rfl, ?_⟩⟩
      rw [show D.tup (p.map D.int ++ [.int ((0 : Nat) : Int)]) = itD (p ++ [0]) by simp [itD]]
      refine w_mark_part H zs hz c (p ++ [0]) k _ _ _ _ hm (by omega) (by rw [List.length_append]; show p.length + 1 + _ ≤ _; omega) (by omega) rfl ?_
      refine ⟨_, rfl, _, rfl, _, rfl, ⟨by show (_ : Nat) ≤ 16777216; simp, h⟩⟩
    | n2 l a b =>
      refine ⟨_, rfl, _, rfl, ?_⟩
      refine ⟨_, rfl, _, rfl, _, rfl, bits _ _ (fun z hz kk hkk => ⟨_, rfl, _, rfl, body z hz _ (one z kk _ rfl hkk)⟩) ?_⟩
      unfold size at h100 hp hk
      refine ⟨_, rfl, _, rfl, ?_⟩
      refine ⟨_, rfl, _, rfl, _, rfl, ⟨by rw [List.length_map]; show p.length + 1 ≤ 16777216; omega, _, rfl, ?_⟩⟩
      rw [show D.tup (p.map D.int ++ [.int ((0 : Nat) : Int)]) = itD (p ++ [0]) by simp [itD]]
      refine w_mark_part H zs hz a (p ++ [0]) k _ _ _ _ hm (by omega) (by rw [List.length_append]; show p.length + 1 + _ ≤ _; omega) (by omega) rfl ?_
      refine ⟨_, rfl, _, rfl, _, rfl, ⟨by rw [List.length_map]; show p.length + 1 ≤ 16777216; omega, _, rfl, ?_⟩⟩
      rw [show D.tup (p.map D.int ++ [.int ((0 + 1 : Nat) : Int)]) = itD (p ++ [1]) by simp [itD]]
      refine w_mark_part H zs hz b (p ++ [1]) k _ _ _ _ hm (by omega) (by rw [List.length_append]; show p.length + 1 + _ ≤ _; omega) (by omega) rfl ?_
      refine ⟨_, rfl, _, rfl, _, rfl, ⟨by show (_ : Nat) ≤ 16777216; simp, h⟩⟩
theorem w_mark (H : Up_mark P) (s : Sh) (sets : Sets) {S : Sto} {q : QD} (qx : QX) (hl : sets.length ≤ 100) (hs : ∀ x ∈ sets, x.length ≤ 10000) (h100 : size s ≤ 100) (hk : size s + 2 ≤ k) (h : q (encM (markS sets s [])) S) : P.spec k 47 [encS s, .lst (sets.map setD)] S q qx := by
  obtain ⟨k, rfl⟩ : ∃ j, k = j + 1 := ⟨k - 1, by omega⟩
  refine Pg.spec_fgt H.self rfl ?_
  refine ⟨_, rfl, ?_⟩
  refine loopL_pre0 (e := setD) (fun dn ys S' => ∃ zs : List (Addr × List (List Int)), zs.map (·.2) = dn ∧ ys = zs.map (fun z => .ref z.1) ∧ (∀ z ∈ zs, MarkAt S' z) ∧ DL.Sub S S') sets ⟨[], rfl, rfl, by simp, DL.Sub.refl S⟩ ?_ ?_
  · rintro dn x r ys S' ha ⟨zs, rfl, rfl, hz, sb⟩ kk hkk
    have hx : x.length ≤ 10000 := hs x (by rw [ha]; simp)
    refine ⟨_, rfl, ?_⟩
    refine dcL_pre (e := itD) (fun dm kvs => (∀ kv ∈ kvs, ∃ z, kv.1 = itD z) ∧ kvs.length ≤ dm.length ∧ ∀ y : List Int, (lookT kvs (itD y)).isSome = decide (y ∈ dm)) x [] x [] rfl ⟨by simp, Nat.le_refl _, fun y => by simp [lookT]⟩ ?_ ?_
    · rintro dm y r2 kvs hb ⟨i1, i2, i3⟩ k2 hk2
      obtain ⟨j1, j2⟩ := keys_putT kvs i1 y (.bl true)
      have hdm : dm.length + 1 ≤ x.length := by rw [hb, List.length_append, List.length_cons]; omega
      refine ⟨_, rfl, hk2 _ _ (isTK_it y) (by show _ < 16777216; omega) ⟨j1, by rw [List.length_append]; show (putT kvs (itD y) (.bl true)).length ≤ dm.length + 1; omega, fun w => ?_⟩⟩
      show (lookT (putT kvs (itD y) (.bl true)) (itD w)).isSome = _
      rw [look_putT kvs i1, i3]
      by_cases e : y = w
      · simp [e]
      · have : ¬ w = y := fun h => e h.symm
        simp [e, this]
    · rintro kvs ⟨i1, i2, i3⟩ p hp
      refine hkk _ _ ⟨zs ++ [(p, x)], by simp, by simp, fun z hz2 => ?_, subUps sb (sb.none hp)⟩
      rcases List.mem_append.mp hz2 with h2 | h2
      · obtain ⟨kvs2, e, l⟩ := hz z h2
        have : z.1 ≠ p := fun e2 => by rw [e2, hp] at e; cases e
        exact ⟨kvs2, by rw [ups_ne this]; exact e, l⟩
      · rw [List.mem_singleton.mp h2]
        exact ⟨kvs, ups_same, i3⟩
  · rintro ys S' ⟨zs, hzs, rfl, hz, sb⟩
    refine ⟨_, rfl, _, rfl, ?_⟩
    refine w_mark_part H.to_mark_part zs (by have := congrArg List.length hzs; rw [List.length_map] at this; omega) s [] k _ _ _ _ hz h100 (by show 0 + _ ≤ _; omega) (by omega) rfl ?_
    rw [hzs]
    exact ⟨S, sb, h⟩
theorem w_lmarked (H : Up__law_marked P) (sets : Sets) (hl : sets.length ≤ 100) : ∀ (s : Sh) (p : List Int) (k : Nat) (S : Sto) (q : QD) (qx : QX) , okSh s → size s ≤ 40 → p.length + size s ≤ 1000 → size s + 1 ≤ k → q (encM (markS sets s p)) S → P.spec k 54 [encS s, itD p, .lst (sets.map setD)] S q qx
  | s, p, 0, _, _, _, _, _, _, hk, _ => by omega
  | s, p, k + 1, S, q, qx, os, h40, hp, hk, h => by
    refine Pg.spec_succ H.self rfl ?_
    refine ⟨_, rfl, ?_⟩
    refine ⟨okd_encS s 60 os (by omega), rfl, ?_⟩
    have one : ∀ (z : List (List Int)) (kk : List D → Sto → Prop) (b : Bool), b = decide (p ∈ z) → kk [.int (if p ∈ z then 1 else 0)] S → if b = true then kk [.int 1] S else kk [.int 0] S := fun z kk b hb hkk => by
      subst hb
      by_cases c : p ∈ z
      · rw [if_pos c] at hkk; exact if_t (decide_eq_true c) hkk
      · rw [if_neg c] at hkk; exact if_f (decide_eq_false c) hkk
    have bits : ∀ (Q : List D → Sto → Prop) (f : D → Sto → (List D → Sto → Prop) → Prop), (∀ z ∈ sets, ∀ kk : List D → Sto → Prop, kk [.int (if p ∈ z then 1 else 0)] S → f (setD z) S kk) → Q ((bitsAt sets p).map D.int) S → loopL f (sets.map setD) S Q := by
      intro Q f hf hq
      refine loopL_map (e := setD) (fun z => .int (if p ∈ z then 1 else 0)) sets S Q hf ?_
      have : (bitsAt sets p).map D.int = sets.map fun z => D.int (if p ∈ z then 1 else 0) := by
        unfold bitsAt
        rw [List.map_map]
        rfl
      rw [← this]
      exact hq
    cases s with
    | e => exact h
    | n1 l c =>
      refine ⟨_, rfl, _, rfl, _, rfl, bits _ _ (fun z hz kk hkk => ⟨_, rfl, _, rfl, okd_it p, okd_its z, one z kk _ (any_it z p) hkk⟩) ?_⟩
      unfold size at h40 hp hk
      refine ⟨_, rfl, _, rfl, _, rfl, _, rfl, ⟨by decide, by decide, by simp, by simp, by simp⟩, ?_⟩
      refine ⟨_, rfl, _, rfl, _, rfl, _, rfl, _, rfl, ⟨by rw [List.length_map]; show p.length + 1 ≤ 16777216; omega, _, rfl, ?_⟩⟩
      rw [show D.tup (p.map D.int ++ [.int (1 - 1)]) = itD (p ++ [0]) by simp [itD]]
      refine w_lmarked H sets hl c (p ++ [0]) k _ _ _ os.2 (by omega) (by rw [List.length_append]; show p.length + 1 + _ ≤ _; omega) (by omega) ?_
      exact ⟨_, rfl, ⟨by show (_ : Nat) ≤ 16777216; simp, h⟩⟩
    | n2 l a b =>
      refine ⟨_, rfl, _, rfl, _, rfl, bits _ _ (fun z hz kk hkk => ⟨_, rfl, _, rfl, okd_it p, okd_its z, one z kk _ (any_it z p) hkk⟩) ?_⟩
      unfold size at h40 hp hk
      refine ⟨_, rfl, _, rfl, _, rfl, _, rfl, ⟨by decide, by decide, by simp, by simp, by simp⟩, ?_⟩
      refine ⟨_, rfl, _, rfl, _, rfl, _, rfl, _, rfl, ⟨by rw [List.length_map]; show p.length + 1 ≤ 16777216; omega, _, rfl, ?_⟩⟩
      rw [show D.tup (p.map D.int ++ [.int (1 - 1)]) = itD (p ++ [0]) by simp [itD]]
      refine w_lmarked H sets hl a (p ++ [0]) k _ _ _ os.2.1 (by omega) (by rw [List.length_append]; show p.length + 1 + _ ≤ _; omega) (by omega) ?_
      refine ⟨_, rfl, _, rfl, _, rfl, _, rfl, _, rfl, ⟨by rw [List.length_map]; show p.length + 1 ≤ 16777216; omega, _, rfl, ?_⟩⟩
      rw [show D.tup (p.map D.int ++ [.int (1 + 1 - 1)]) = itD (p ++ [1]) by simp [itD]]
      refine w_lmarked H sets hl b (p ++ [1]) k _ _ _ os.2.2 (by omega) (by rw [List.length_append]; show p.length + 1 + _ ≤ _; omega) (by omega) ?_
      exact ⟨_, rfl, ⟨by show (_ : Nat) ≤ 16777216; simp, h⟩⟩
end
end U
/-! U15: machines that are drawn; what is a machine. -/
namespace U
open PySem DL
local macro_rules | `(tactic| and_intros) => `(tactic| repeat (first | refine ⟨_, rfl, ?_⟩ | refine ⟨rfl, ?_⟩))
theorem range_getD (bs : List Nat) (n : Nat) (h : bs.length = n) (z : Nat) : (List.range n).map (fun s => bs.getD s z) = bs := by
  subst h
  refine List.ext_getElem (by simp) fun i h1 h2 => ?_
  simp [List.getD, List.getElem?_eq_getElem h2]
theorem range_getB (bs : List Bool) (n : Nat) (h : bs.length = n) : (List.range n).map (fun s => bs.getD s false) = bs := by
  subst h
  refine List.ext_getElem (by simp) fun i h1 h2 => ?_
  simp [List.getD, List.getElem?_eq_getElem h2]
theorem range_getL {α : Type} (bs : List α) (z : α) : (List.range bs.length).map (fun s => bs.getD s z) = bs := by
  refine List.ext_getElem (by simp) fun i h1 h2 => ?_
  simp [List.getD, List.getElem?_eq_getElem h2]
theorem getD_lt {bs : List Nat} {n : Nat} (hn : 0 < n) (h : ∀ b ∈ bs, b < n) (i : Nat) : bs.getD i 0 < n := by
  rw [List.getD_eq_getElem?_getD]
  cases e : bs[i]? with
  | none => exact hn
  | some b => exact h b (List.mem_of_getElem? e)
theorem row_words (bs : List Nat) {n : Nat} (h : bs.length = n) : rowD 1 n (fun cs => bs.getD (cs.getD 0 0) 0) [] = .tup (bs.map natD) := by
  show D.tup ((List.range n).map fun s => D.int (bs.getD s 0 : Nat)) = _
  have := congrArg (List.map natD) (range_getD bs n h 0)
  rw [List.map_map] at this
  rw [← this]
  rfl
theorem row_trees (bs : List (List Nat)) {n : Nat} (h : bs.length = n) (h2 : ∀ b ∈ bs, b.length = n) : rowD 2 n (fun cs => (bs.getD (cs.getD 0 0) []).getD (cs.getD 1 0) 0) [] = .tup (bs.map fun b => .tup (b.map natD)) := by
  show D.tup ((List.range n).map fun s => D.tup ((List.range n).map fun u => D.int ((bs.getD s []).getD u 0 : Nat))) = _
  have e : ∀ s ∈ List.range n, (D.tup ((List.range n).map fun u => D.int ((bs.getD s []).getD u 0 : Nat))) = D.tup ((bs.getD s []).map natD) := fun s hs => by
    have hs := List.mem_range.mp hs
    have hb : bs.getD s [] ∈ bs := by
      rw [List.getD_eq_getElem?_getD, List.getElem?_eq_getElem (by omega)]
      exact List.getElem_mem _
    have := congrArg (List.map natD) (range_getD (bs.getD s []) n (h2 _ hb) 0)
    rw [List.map_map] at this
    rw [← this]
    rfl
  rw [List.map_congr_left e]
  have := congrArg (List.map fun b : List Nat => D.tup (b.map natD)) (range_getL bs [])
  rw [List.map_map, h] at this
  rw [← this]
  rfl
section
variable {P : Pg} {q : QD} {k : Nat} {p : Addr}
/-- a row of draws -/
theorem draw_row (H : Up__law_take P) {many : Nat} (h0 : 0 < many) (h300 : many ≤ 300) {m : Nat} {f : D → Sto → (List D → Sto → Prop) → Prop} {S0 S : Sto} {Q : List D → Sto → Prop} (hk : 1 ≤ k) (ht : TapeOk p S) (ho : Oth p S0 S)
    (hf : ∀ (i : Nat) (S : Sto) (kk : List D → Sto → Prop), P.spec k 8 [.ref p, .int many] S (fun d S' => kk [d] S') (fun _ _ _ => False) → f (.int (0 + (i : Int))) S kk)
    (h : ∀ (bs : List Nat) (S : Sto), TapeOk p S → Oth p S0 S → bs.length = m → (∀ b ∈ bs, b < many) → Q (bs.map natD) S) : loopL f (rangeD 0 ((m : Int)).toNat) S Q := by
  rw [rangeD_map, show ((m : Int)).toNat = m by omega]
  refine loopL_draw (e := fun i : Nat => D.int (0 + (i : Int))) (fun S' => TapeOk p S' ∧ Oth p S0 S') (fun b => b < many) natD (List.range m) S Q ⟨ht, ho⟩ ?_ ?_
  · rintro i _ S1 kk ⟨t1, o1⟩ hkk
    refine hf i S1 kk (w_take H (by omega) (by omega) t1 _ hk fun r S2 g0 g1 t2 o2 => ?_)
    obtain ⟨j, rfl⟩ := Int.eq_ofNat_of_zero_le g0
    exact hkk j S2 (by omega) ⟨t2, o1.trans o2⟩
  · rintro bs S1 ⟨t1, o1⟩ hl hb
    exact h bs S1 t1 o1 (by rw [hl, List.length_range]) hb
set_option maxHeartbeats 0 in
theorem w_draw_machine (H : Up__law_draw_machine P) {labels : List Bs} {ways : Nat} (kd : KindOk (kdD ways labels) ways labels) (hnd : labels.Nodup) (tr : Nat) (htr : tr ≤ 6) (many : Nat) (h0 : 0 < many) (h300 : many ≤ 300) {S : Sto} (qx : QX) (ht : TapeOk p S) (hk : 3 ≤ k) (h : ∀ (M : Mac) S', M.Ok → M.ways = ways → M.labels = labels → M.tr = tr → M.n = many → TapeOk p S' → Oth p S S' → q M.enc S') : P.spec k 55 [.ref p, kdD ways labels, .int tr, .int many] S q qx := by
  obtain ⟨k, rfl⟩ : ∃ j, k = j + 1 := ⟨k - 1, by omega⟩
  refine Pg.spec_fgt H.self rfl ?_
  obtain ⟨hl0, hl3, hlo⟩ := kd.pos
  have hw : ways = 1 ∨ ways = 2 := by have := kd.2.1; omega
  intro pt hpt
  have hne : pt ≠ p := fun e => by
    obtain ⟨_, _, _, _, _, e2, _⟩ := ht
    rw [e, e2] at hpt; cases hpt
  have ht1 : TapeOk p (DL.ups S pt (.lst [])) := ht.at (ups_ne hne.symm)
  refine ⟨_, rfl, _, rfl, w_lsigns H.to__law_signs rfl (by omega) tr (by omega) _ (by omega) ?_⟩
  refine forL_pre (e := sgD) (fun dn ρ S' => TapeOk p S' ∧ (∀ a, a ≠ p → a ≠ pt → S' a = S a) ∧ (∃ fs : List (List Nat → Nat), fs.length = dn.length ∧ S' pt = some (.lst (fs.map fun f => rowD ways many f [])) ∧ ∀ f ∈ fs, ∀ cs, f cs < many) ∧ ∃ x y, ρ = [some (.ref p), some (kdD ways labels), some (.int tr), some (.int many), some (.ref pt), x, y, none, none]) (sgs labels tr) [] _ _ _ rfl ⟨ht1, fun a _ n => ups_ne n, ⟨[], rfl, ups_same, by simp⟩, none, none, rfl⟩ ?_ ?_
  · rintro dn g r ρ S1 ha ⟨t1, o1, ⟨fs, hfl, hpt1, hfb⟩, x, y, rfl⟩ kk hkk
    have hz : fs.length < 4000 := by
      have := congrArg List.length ha
      rw [sgs_len, List.length_append] at this
      have b1 : labels.length * 2 ^ tr ≤ 3 * 256 := Nat.mul_le_mul hl3 (pow8 (by omega))
      omega
    -- the row is put into the table
    have put : ∀ (f : List Nat → Nat) (S2 : Sto) (y : Option D), TapeOk p S2 → Oth p S1 S2 → (∀ cs, f cs < many) → kk [some (.ref p), some (kdD ways labels), some (.int tr), some (.int many), some (.ref pt), some (sgD g), y, none, none] (DL.ups S2 pt (.lst (fs.map (fun f => rowD ways many f []) ++ [rowD ways many f []]))) := by
      intro f S2 y t2 o2 hf
      refine hkk _ _ ⟨t2.at (ups_ne hne.symm), fun a n1 n2 => by rw [ups_ne n2, o2 a n1, o1 a n1 n2], ⟨fs ++ [f], by rw [List.length_append, List.length_append, hfl]; rfl, by rw [ups_same, List.map_append]; rfl, fun f' hf' => ?_⟩, _, _, rfl⟩
      rcases List.mem_append.mp hf' with hf' | hf'
      · exact hfb f' hf'
      · rw [List.mem_singleton.mp hf']; exact hf
    refine ⟨_, rfl, ⟨by omega, by omega⟩, ?_⟩
    refine draw_row H.to__law_take h0 h300 (k := k) (S0 := S1) (by omega) t1 .refl (fun i S2 kk2 h2 => ⟨_, rfl, _, rfl, h2⟩) fun bs S2 t2 o2 hl hb => ?_
    have e2 : S2 pt = some (.lst (fs.map fun f => rowD ways many f [])) := by rw [o2 pt hne]; exact hpt1
    rcases hw with rfl | rfl
    · refine ⟨_, rfl, _, rfl, okd_int, okd_int, ?_⟩
      refine ⟨_, rfl, _, rfl, ⟨_, e2⟩, _, rfl, _, rfl, _, e2, by rw [List.length_map]; show _ < 16777216; omega, ?_⟩
      rw [← row_words bs hl]
      exact put _ S2 _ t2 o2 fun cs => getD_lt h0 hb _
    · refine ⟨_, rfl, _, rfl, okd_int, okd_int, ?_⟩
      refine ⟨_, rfl, ⟨by omega, by omega⟩, ?_⟩
      rw [rangeD_map, show ((many : Int)).toNat = many by omega]
      refine loopL_draw (e := fun i : Nat => D.int (0 + (i : Int))) (fun S' => TapeOk p S' ∧ Oth p S1 S') (fun b : List Nat => b.length = many ∧ ∀ z ∈ b, z < many) (fun b => .tup (b.map natD)) (List.range many) S2 _ ⟨t2, o2⟩ ?_ ?_
      · rintro i _ S3 k2 ⟨t3, o3⟩ hk2
        refine ⟨_, rfl, ⟨by omega, by omega⟩, ?_⟩
        refine draw_row H.to__law_take h0 h300 (k := k) (S0 := S1) (by omega) t3 o3 (fun i S2 kk2 h2 => ⟨_, rfl, _, rfl, h2⟩) fun bs S4 t4 o4 hl hb => ?_
        exact ⟨_, rfl, hk2 bs S4 ⟨hl, hb⟩ ⟨t4, o4⟩⟩
      · rintro bs2 S3 ⟨t3, o3⟩ hl2 hb2
        rw [List.length_range] at hl2
        have e3 : S3 pt = some (.lst (fs.map fun f => rowD 2 many f [])) := by rw [o3 pt hne]; exact hpt1
        refine ⟨_, rfl, _, rfl, ⟨_, e3⟩, _, rfl, _, rfl, _, e3, by rw [List.length_map]; show _ < 16777216; omega, ?_⟩
        rw [← row_trees bs2 hl2 fun b hb => (hb2 b hb).1]
        refine put _ S3 _ t3 o3 fun cs => ?_
        refine getD_lt h0 (fun b hb => ?_) _
        rw [List.getD_eq_getElem?_getD] at hb
        cases e : bs2[cs.getD 0 0]? with
        | none => rw [e] at hb; cases hb
        | some z =>
          rw [e] at hb
          exact (hb2 z (List.mem_of_getElem? e)).2 b hb
  · rintro ρ S1 ⟨t1, o1, ⟨fs, hfl, hpt1, hfb⟩, x, y, rfl⟩
    refine ⟨_, rfl, _, rfl, _, rfl, _, vw_lst hpt1, ?_⟩
    refine ⟨_, rfl, ⟨by omega, by omega⟩, ?_⟩
    rw [rangeD_map, show ((many : Int)).toNat = many by omega]
    refine loopL_draw (e := fun i : Nat => D.int (0 + (i : Int))) (fun S' => TapeOk p S' ∧ Oth p S1 S') (fun _ : Bool => True) D.bl (List.range many) S1 _ ⟨t1, .refl⟩ ?_ ?_
    · rintro i _ S3 k2 ⟨t3, o3⟩ hk2
      refine ⟨_, rfl, w_take H.to__law_take (by decide) (by decide) t3 _ (by omega) fun r S4 g0 g1 t4 o4 => ?_⟩
      refine ⟨okd_int, rfl, ?_⟩
      exact hk2 _ S4 trivial ⟨t4, o3.trans o4⟩
    · rintro bs S3 ⟨t3, o3⟩ hl _
      rw [List.length_range] at hl
      refine ⟨_, rfl, ?_⟩
      let M : Mac := ⟨ways, labels, tr, many, fun r => fs.getD r (fun _ => 0), fun s => bs.getD s false⟩
      have hM : M.Ok := ⟨hw, hl3, hnd, hlo, by show tr ≤ 7; omega, h0, h300, fun r cs => by
        show fs.getD r (fun _ => 0) cs < many
        rw [List.getD_eq_getElem?_getD]
        cases e : fs[r]? with
        | none => exact h0
        | some f => exact hfb f (List.mem_of_getElem? e) cs⟩
      have e1 : M.enc = .tup [kdD ways labels, .int tr, .tup (fs.map fun f => rowD ways many f []), .tup (bs.map .bl)] := by
        have r1 : M.nrows = fs.length := by rw [hfl]; rfl
        have r2 : (List.range M.nrows).map (fun r => rowD M.ways M.n (M.δ r) []) = fs.map fun f => rowD ways many f [] := by
          rw [r1]
          have := congrArg (List.map fun f => rowD ways many f []) (range_getL fs (fun _ => 0))
          rw [List.map_map] at this
          rw [← this]
          rfl
        have r3 : (List.range M.n).map (fun s => D.bl (M.good s)) = bs.map .bl := by
          have := congrArg (List.map D.bl) (range_getB bs many hl)
          rw [List.map_map] at this
          rw [← this]
          rfl
        unfold Mac.enc
        rw [r2, r3]
      refine ⟨DL.del S3 pt, fun a ob e => ?_, ?_⟩
      · by_cases c : a = pt
        · rw [c] at e; rw [show DL.del S3 pt pt = none from if_pos rfl] at e; cases e
        · rw [del_ne c] at e; exact e
      · show q (.tup [kdD ways labels, .int tr, .tup (fs.map fun f => rowD ways many f []), .tup (bs.map .bl)]) _
        rw [← e1]
        refine h M _ hM rfl rfl rfl rfl (t3.at (del_ne hne.symm)) fun a n => ?_
        by_cases c : a = pt
        · rw [c, hpt]; exact if_pos rfl
        · rw [del_ne c, o3 a n, o1 a n c]
theorem w_accepts (H : Up_accepts P) {M : Mac} (o : M.Ok) (t : MS) {S : Sto} (qx : QX) (hk : 5 ≤ k) (ht : msOf M.ways M.labels M.tr t) (h40 : msz t ≤ 500) (h : q (.bl (M.good (M.run t))) S) : P.spec k 46 [M.enc, encM t] S q qx := by
  obtain ⟨k, rfl⟩ : ∃ j, k = j + 1 := ⟨k - 1, by omega⟩
  refine Pg.spec_succ H.self rfl ?_
  refine ⟨_, rfl, _, rfl, _, rfl, _, rfl, w_state_of H.to_state_of o t _ (by omega) ht h40 ?_⟩
  exact ⟨_, by rw [atD_nat, List.getElem?_map, List.getElem?_range (M.run_lt o t)]; rfl, h⟩
end
end U
/-! U16: what is a kind, a machine. -/
namespace U
open PySem DL
local macro_rules | `(tactic| and_intros) => `(tactic| repeat (first | refine ⟨_, rfl, ?_⟩ | refine ⟨rfl, ?_⟩))
def srtB (labs : List Bs) : Bool := decide (labs.Nodup) && decide (labs.Pairwise fun a b => ¬ b < a)
def letB (l : Bs) : Bool := match l with
  | [c] => decide (97 ≤ c) && decide (c ≤ 122)
  | _ => false
def kindB (w : Int) (labs : List Bs) : Bool := (w == 1 || w == 2) && (decide (1 ≤ labs.length) && decide (labs.length ≤ 3)) && srtB labs && labs.all letB
theorem lets_mem (c : Nat) : decide (c ∈ [97, 98, 99, 100, 101, 102, 103, 104, 105, 106, 107, 108, 109, 110, 111, 112, 113, 114, 115, 116, 117, 118, 119, 120, 121, 122]) = (decide (97 ≤ c) && decide (c ≤ 122)) := by
  rw [← Bool.decide_and]
  refine decide_eq_decide.mpr ⟨fun h => ?_, fun h => ?_⟩
  · simp only [List.mem_cons, List.mem_nil_iff, or_false] at h
    omega
  · simp only [List.mem_cons, List.mem_nil_iff, or_false]
    omega
theorem lstr_eq : ∀ (a b : List Bs), dEqL (a.map .str) (b.map .str) = decide (a = b)
  | [], [] => rfl
  | [], _ :: _ => rfl
  | _ :: _, [] => rfl
  | x :: a, y :: b => by
    show (dEq (.str x) (.str y) && dEqL (a.map .str) (b.map .str)) = _
    rw [lstr_eq a b]
    show ((x == y) && decide (a = b)) = decide (x :: a = y :: b)
    by_cases h1 : x = y <;> by_cases h2 : a = b <;> simp [h1, h2]
/-- a row of a table -/
def isRowD : Nat → Nat → D → Bool
  | 0, n, .int i => decide (0 ≤ i) && decide (i < (n : Int))
  | l + 1, n, .tup xs => decide (xs.length = n) && xs.all (isRowD l n)
  | _, _, _ => false
theorem okd_mono : ∀ {m n : Nat} {d : D}, m ≤ n → okd m d = true → okd n d = true
  | m, n, .non, _, _ => by cases n <;> rfl
  | m, n, .bl _, _, _ => by cases n <;> rfl
  | m, n, .int _, _, _ => by cases n <;> rfl
  | m, n, .str _, _, h => by cases n <;> cases m <;> exact h
  | 0, n, .tup xs, _, h => by cases h
  | 0, n, .lst xs, _, h => by cases h
  | m + 1, 0, d, hl, _ => by omega
  | m + 1, n + 1, .tup xs, hl, h => List.all_eq_true.mpr fun x hx => okd_mono (by omega) (List.all_eq_true.mp h x hx)
  | m + 1, n + 1, .lst xs, hl, h => List.all_eq_true.mpr fun x hx => okd_mono (by omega) (List.all_eq_true.mp h x hx)
  | m, n, .dct _, _, h => by cases m <;> cases h
  | m, n, .ref _, _, h => by cases m <;> cases h
  | m, n, .scr _, _, h => by cases m <;> cases h
section
variable {P : Pg} {q : QD} {k : Nat}
theorem w_check_kindG (H : Up_check_kind P) {w : Int} {labs : List Bs} (hlo : ∀ l ∈ labs, okS' l = true) {S : Sto} {qx : QX} (hk : 1 ≤ k) (h : kindB w labs = true → q .non S) (hx : kindB w labs = false → qx 0 .non S) : P.spec k 24 [.tup [.int w, .tup (labs.map .str)]] S q qx := by
  obtain ⟨k, rfl⟩ : ∃ j, k = j + 1 := ⟨k - 1, by omega⟩
  refine Pg.spec_succ H.self rfl ?_
  have okl : ∀ {ys : List Bs}, (∀ l ∈ ys, okS' l = true) → okD (.lst (ys.map .str)) := fun h => okX h
  refine ⟨_, rfl, ?_⟩
  refine ⟨_, rfl, okd_int, rfl, ?_⟩
  have e1 : (!([D.int 1, D.int 2].any fun z => dEq z (.int w))) = !(w == 1 || w == 2) := by
    show (!((1 == w) || ((2 == w) || false))) = _
    rw [Bool.or_false]
    congr 1
    rw [Bool.beq_comm (a := (1 : Int)), Bool.beq_comm (a := (2 : Int))]
  refine if_nc (fun c => ?_) (fun c => ?_)
  · have c : (!(w == 1 || w == 2)) = false := e1.symm.trans c
    have c : (w == 1 || w == 2) = true := by rw [Bool.not_eq_false'] at c; exact c
    have nope : ((decide (1 ≤ labs.length) && decide (labs.length ≤ 3)) && srtB labs && labs.all letB) = false → qx 0 .non S := fun e => hx (by unfold kindB; rw [c, Bool.true_and]; exact e)
    have yes : ((decide (1 ≤ labs.length) && decide (labs.length ≤ 3)) && srtB labs && labs.all letB) = true → q .non S := fun e => h (by unfold kindB; rw [c, Bool.true_and]; exact e)
    refine ⟨_, rfl, _, rfl, if_c (fun c1 => ?_) (fun c1 => ?_)⟩
    · have c1 : 1 ≤ labs.length := by have := of_decide_eq_true c1; rw [List.length_map] at this; omega
      refine if_nc (fun c2 => ?_) (fun c2 => ?_)
      · have c2 : labs.length ≤ 3 := by
          have : decide ((((labs.map D.str).length : Nat) : Int) ≤ 3) = true := by simpa using c2
          have := of_decide_eq_true this
          rw [List.length_map] at this; omega
        rw [decide_eq_true c1, decide_eq_true c2, Bool.true_and, Bool.true_and] at nope yes
        refine ⟨_, rfl, _, rfl, _, rfl, _, _, rfl, strs_map _, by omega, fun ys nd pw hm hle => ?_⟩
        have oy : ∀ l ∈ ys, okS' l = true := fun l hl => hlo l ((hm l).mp hl)
        refine ⟨okl hlo, okl oy, ?_⟩
        have e2 : (!dEq (.lst (labs.map .str)) (.lst (ys.map .str))) = !decide (labs = ys) := congrArg (!·) (lstr_eq labs ys)
        by_cases c3 : labs = ys
        · have c4 : srtB labs = true := by unfold srtB; rw [c3, decide_eq_true nd, decide_eq_true pw]; rfl
          rw [c4, Bool.true_and] at nope yes
          refine if_f (e2.trans (by rw [decide_eq_true c3]; rfl)) ?_
          refine ⟨_, rfl, ?_⟩
          refine loopL_map (e := D.str) (fun l => .bl (letB l)) labs _ _ (fun l hl kk hkk => ?_) ?_
          · refine ⟨_, rfl, _, rfl, okd_int, okd_int, _, rfl, ?_⟩
            match l, hl, hkk with
            | [], _, hkk => exact hkk
            | [c], hl, hkk =>
              refine ⟨_, rfl, ?_⟩
              show kk [.bl (decide (c ∈ [97, 98, 99, 100, 101, 102, 103, 104, 105, 106, 107, 108, 109, 110, 111, 112, 113, 114, 115, 116, 117, 118, 119, 120, 121, 122]))] S
              rw [lets_mem]
              exact hkk
            | a :: b :: r, hl, hkk =>
              have : dEq (.int ((a :: b :: r).length : Nat)) (.int 1) = false := int_ne (by rw [List.length_cons, List.length_cons]; omega)
              rw [this]
              exact hkk
          · refine ⟨_, labs.map letB, rfl, fun t => ne_tup, ?_, _, rfl, ?_⟩
            · show boolsD (labs.map (D.bl ∘ letB)) = _
              rw [← List.map_map]; exact bools_all
            · have e3 : (labs.map letB).all id = labs.all letB := by rw [List.all_map]; rfl
              refine if_c (fun c5 => ?_) (fun c5 => ?_)
              · refine ⟨by decide, nope ?_⟩
                rw [← e3]; simpa using c5
              · refine yes ?_
                rw [← e3]; simpa using c5
        · refine if_t (e2.trans (by rw [decide_eq_false c3]; rfl)) ⟨by decide, nope ?_⟩
          have : srtB labs = false := by
            cases c4 : srtB labs with
            | false => rfl
            | true =>
              unfold srtB at c4
              rw [Bool.and_eq_true] at c4
              exact absurd (srt_uniq (of_decide_eq_true c4.1) (of_decide_eq_true c4.2) nd pw fun k => (hm k).symm) c3
          rw [this]; rfl
      · refine if_t c2 ⟨by decide, nope ?_⟩
        have : decide ((((labs.map D.str).length : Nat) : Int) ≤ 3) = false := by simpa using c2
        have := of_decide_eq_false this
        rw [List.length_map] at this
        rw [decide_eq_false (show ¬ labs.length ≤ 3 by omega), Bool.and_false]; rfl
    · have c1 := of_decide_eq_false c1
      rw [List.length_map] at c1
      refine ⟨by decide, nope ?_⟩
      rw [decide_eq_false (show ¬ 1 ≤ labs.length by omega)]; rfl
  · refine if_t c ⟨by decide, hx ?_⟩
    have c : (!(w == 1 || w == 2)) = true := e1.symm.trans c
    have c : (w == 1 || w == 2) = false := by rw [Bool.not_eq_true'] at c; exact c
    unfold kindB
    rw [c]; rfl
theorem tk_okd {d : D} {n : Nat} {S : Sto} (h : okd n d = true) : ∃ t, tkD S d = some t := by
  cases d with
  | dct => cases n <;> cases h
  | ref => cases n <;> cases h
  | scr => cases n <;> cases h
  | _ => exact ⟨_, rfl⟩
theorem w_is_number (H : Up_is_number P) {v : D} {m n : Nat} (hv : okd m v = true) {S : Sto} {qx : QX} (hk : 1 ≤ k) (h : q (.bl (isRowD 0 n v)) S) : P.spec k 40 [v, .int n] S q qx := by
  obtain ⟨k, rfl⟩ : ∃ j, k = j + 1 := ⟨k - 1, by omega⟩
  refine Pg.spec_succ H.self rfl ?_
  cases v with
  | int i =>
    refine ⟨_, rfl, _, rfl, _, rfl, ?_⟩
    refine ⟨_, rfl, _, rfl, _, rfl, _, rfl, ?_⟩
    refine ⟨_, rfl, ?_⟩
    have h : q (.bl (decide (0 ≤ i) && decide (i < (n : Int)))) S := h
    refine if_c (fun c => ?_) (fun c => ?_)
    · rw [c, Bool.true_and] at h
      exact ⟨_, rfl, h⟩
    · rw [c] at h
      exact h
  | bl b => exact ⟨_, rfl, _, rfl, _, rfl, _, rfl, _, rfl, _, rfl, _, rfl, h⟩
  | dct => cases m <;> cases hv
  | ref => cases m <;> cases hv
  | scr => cases m <;> cases hv
  | _ => exact ⟨_, rfl, _, rfl, _, rfl, h⟩
theorem w_is_row (H : Up_is_row P) {n : Nat} : ∀ (l m : Nat) (v : D) (k : Nat) (S : Sto) (q : QD) (qx : QX), okd m v = true → l + 2 ≤ k → q (.bl (isRowD l n v)) S → P.spec k 41 [v, .int n, .int l] S q qx
  | l, m, v, 0, _, _, _, _, hk, _ => by omega
  | 0, m, v, k + 1, S, q, qx, hv, hk, h => by
    refine Pg.spec_succ H.self rfl ?_
    refine ⟨_, rfl, okd_int, okd_int, ?_⟩
    exact ⟨_, rfl, _, rfl, w_is_number H.to_is_number hv (by omega) h⟩
  | l + 1, m, v, k + 1, S, q, qx, hv, hk, h => by
    refine Pg.spec_succ H.self rfl ?_
    refine ⟨_, rfl, okd_int, okd_int, ?_⟩
    cases v with
    | tup xs =>
      refine ⟨_, rfl, _, rfl, _, rfl, ?_⟩
      refine ⟨_, rfl, _, rfl, _, rfl, okd_int, okd_int, ?_⟩
      by_cases c : xs.length = n
      · have h : q (.bl (decide (xs.length = n) && xs.all (isRowD l n))) S := h
        rw [decide_eq_true c, Bool.true_and] at h
        refine if_f (by rw [show dEq (.int (xs.length : Nat)) (.int (n : Nat)) = true from by rw [c]; exact beq_self_eq_true _]; rfl) ?_
        obtain ⟨m, rfl⟩ : ∃ j, m = j + 1 := ⟨m - 1, by cases m; cases hv; omega⟩
        have hx : ∀ x ∈ xs, okd m x = true := List.all_eq_true.mp hv
        refine ⟨_, rfl, ?_⟩
        rw [← List.map_id xs]
        refine loopL_map (e := id) (fun x => .bl (isRowD l n x)) xs _ _ (fun x hx2 kk hkk => ?_) ?_
        · refine ⟨_, rfl, _, rfl, _, rfl, ?_⟩
          show P.spec k 41 [x, .int n, .int ((l + 1 : Nat) - 1)] S _ _
          rw [show (((l + 1 : Nat) : Int) - 1) = (l : Int) by omega]
          exact w_is_row H l m x k S _ _ (hx x hx2) (by omega) hkk
        · refine ⟨_, xs.map (isRowD l n), rfl, fun t => ne_tup, ?_, ?_⟩
          · show boolsD (xs.map (D.bl ∘ isRowD l n)) = _
            rw [← List.map_map]; exact bools_all
          · rw [List.all_map]; exact h
      · have h : q (.bl (decide (xs.length = n) && xs.all (isRowD l n))) S := h
        rw [decide_eq_false c, Bool.false_and] at h
        exact if_t (by rw [int_ne (show ((xs.length : Nat) : Int) ≠ (n : Nat) by omega)]; rfl) h
    | dct => cases m <;> cases hv
    | ref => cases m <;> cases hv
    | scr => cases m <;> cases hv
    | _ => exact ⟨_, rfl, _, rfl, _, rfl, h⟩
theorem filt_ne (f : D → Bool) (l : List D) : dEq (.lst (l.filter fun z => !f z)) (.lst []) = l.all f := filt_all2 f l
theorem w_lis_row (H : Up__law_is_row P) {n : Nat} : ∀ (l m : Nat) (v : D) (k : Nat) (S : Sto) (q : QD) (qx : QX), m ≤ 50 → okd m v = true → l + 1 ≤ k → q (.bl (isRowD l n v)) S → P.spec k 56 [v, .int n, .int l] S q qx
  | l, m, v, 0, _, _, _, _, _, hk, _ => by omega
  | 0, m, v, k + 1, S, q, qx, hm, hv, hk, h => by
    refine Pg.spec_succ H.self rfl ?_
    refine ⟨_, rfl, okd_int, okd_int, ?_⟩
    cases v with
    | int i =>
      refine ⟨_, rfl, _, rfl, _, rfl, ?_⟩
      refine ⟨_, rfl, _, rfl, _, rfl, _, rfl, ?_⟩
      refine ⟨_, rfl, ?_⟩
      have h : q (.bl (decide (0 ≤ i) && decide (i < (n : Int)))) S := h
      refine if_c (fun c => ?_) (fun c => ?_)
      · rw [c, Bool.true_and] at h
        exact ⟨_, rfl, h⟩
      · rw [c] at h
        exact h
    | bl b => exact ⟨_, rfl, _, rfl, _, rfl, _, rfl, _, rfl, _, rfl, _, rfl, h⟩
    | dct => cases m <;> cases hv
    | ref => cases m <;> cases hv
    | scr => cases m <;> cases hv
    | _ => exact ⟨_, rfl, _, rfl, _, rfl, h⟩
  | l + 1, m, v, k + 1, S, q, qx, hm, hv, hk, h => by
    refine Pg.spec_succ H.self rfl ?_
    refine ⟨_, rfl, okd_int, okd_int, ?_⟩
    cases v with
    | tup xs =>
      refine ⟨_, rfl, _, rfl, _, rfl, ?_⟩
      refine ⟨_, rfl, _, rfl, _, rfl, okd_int, okd_int, ?_⟩
      by_cases c : xs.length = n
      · have h : q (.bl (decide (xs.length = n) && xs.all (isRowD l n))) S := h
        rw [decide_eq_true c, Bool.true_and] at h
        refine if_f (by rw [show dEq (.int (xs.length : Nat)) (.int (n : Nat)) = true from by rw [c]; exact beq_self_eq_true _]; rfl) ?_
        obtain ⟨m, rfl⟩ : ∃ j, m = j + 1 := ⟨m - 1, by cases m; cases hv; omega⟩
        have hx : ∀ x ∈ xs, okd m x = true := List.all_eq_true.mp hv
        refine ⟨_, rfl, ?_⟩
        rw [← List.map_id xs]
        refine loopL_filter (e := id) (fun x => !isRowD l n x) id xs _ _ (fun x hx2 kk hkk => ?_) ?_
        · refine ⟨_, rfl, _, rfl, _, rfl, ?_⟩
          show P.spec k 56 [x, .int n, .int ((l + 1 : Nat) - 1)] S _ _
          rw [show (((l + 1 : Nat) : Int) - 1) = (l : Int) by omega]
          refine w_lis_row H l m x k S _ _ (by omega) (hx x hx2) (by omega) ?_
          refine ⟨_, rfl, ?_⟩
          refine if_c (fun c => ?_) (fun c => ?_)
          · rw [if_pos c] at hkk; exact ⟨_, rfl, hkk⟩
          · rw [if_neg (by rw [c]; exact Bool.false_ne_true)] at hkk; exact hkk
        · rw [List.map_id]
          refine ⟨?_, rfl, ?_⟩
          · refine List.all_eq_true.mpr fun x hx2 => okd_mono (n := 59) (by omega) (hx x (List.mem_filter.mp hx2).1)
          · rw [filt_ne]; exact h
      · have h : q (.bl (decide (xs.length = n) && xs.all (isRowD l n))) S := h
        rw [decide_eq_false c, Bool.false_and] at h
        exact if_t (by rw [int_ne (show ((xs.length : Nat) : Int) ≠ (n : Nat) by omega)]; rfl) h
    | dct => cases m <;> cases hv
    | ref => cases m <;> cases hv
    | scr => cases m <;> cases hv
    | _ => exact ⟨_, rfl, _, rfl, _, rfl, h⟩
theorem boo_is_str {labs : List Bs} {f : D → Sto → (List D → Sto → Prop) → Prop} {S : Sto} {Q : List D → Sto → Prop} (hf : ∀ (l : Bs) (kk : List D → Sto → Prop), kk [.bl true] S → f (.str l) S kk) (h : Q (labs.map fun _ => .bl true) S) : loopL f (labs.map .str) S Q :=
  loopL_map (e := D.str) (fun _ => .bl true) labs _ _ (fun l _ kk hkk => hf l kk hkk) h
theorem bools_true {α : Type} (l : List α) : boolsD (l.map fun _ => D.bl true) = some (l.map fun _ => true) := by
  induction l with
  | nil => rfl
  | cons a l ih => rw [List.map_cons, boolsD, ih]; rfl
theorem all_true {α : Type} (l : List α) : (l.map fun _ => true).all id = true := by
  induction l with
  | nil => rfl
  | cons a l ih => rw [List.map_cons, List.all_cons, ih]; rfl
theorem w_is_kind (H : Up_is_kind P) {w : Int} {labs : List Bs} (hlo : ∀ l ∈ labs, okS' l = true) {S : Sto} {qx : QX} (hk : 2 ≤ k) (h : q (.bl (kindB w labs)) S) : P.spec k 42 [.tup [.int w, .tup (labs.map .str)]] S q qx := by
  obtain ⟨k, rfl⟩ : ∃ j, k = j + 1 := ⟨k - 1, by omega⟩
  refine Pg.spec_succ H.self rfl ?_
  refine ⟨_, rfl, _, rfl, _, rfl, ?_⟩
  refine ⟨_, rfl, _, rfl, okd_int, okd_int, ?_⟩
  refine ⟨_, rfl, _, rfl, ?_⟩
  refine w_is_number H.to_is_number (m := 1) (n := 3) rfl (by omega) ?_
  refine ⟨_, rfl, ?_⟩
  show if (!(decide (0 ≤ w) && decide (w < 3))) = true then _ else _
  by_cases c : 0 ≤ w ∧ w < 3
  · refine if_f (by rw [decide_eq_true c.1, decide_eq_true c.2]; rfl) ?_
    refine ⟨_, rfl, _, rfl, _, rfl, _, rfl, ?_⟩
    refine ⟨_, rfl, _, rfl, ?_⟩
    refine boo_is_str (fun l kk hkk => ⟨_, rfl, _, rfl, hkk⟩) ?_
    refine ⟨_, _, rfl, fun t => ne_tup, bools_true _, ?_⟩
    rw [all_true]
    refine ⟨_, rfl, ?_⟩
    refine ⟨_, rfl, w_check_kindG H.to_check_kind hlo (by omega) (fun e => ?_) (fun e => ⟨by decide, ?_⟩)⟩
    · rw [e] at h; exact h
    · rw [e] at h; exact h
  · have e1 : (!(decide (0 ≤ w) && decide (w < 3))) = true := by
      rw [← Bool.decide_and, decide_eq_false c]; rfl
    refine if_t e1 ?_
    have : kindB w labs = false := by
      have e2 : (w == 1 || w == 2) = false := by
        rw [Bool.or_eq_false_iff]
        exact ⟨beq_eq_false_iff_ne.mpr (by omega), beq_eq_false_iff_ne.mpr (by omega)⟩
      unfold kindB
      rw [e2]; rfl
    rw [this] at h
    exact h
def isBl : D → Bool
  | .bl _ => true
  | _ => false
def macB (w : Int) (labs : List Bs) (t : Nat) (rows gs : List D) : Bool := kindB w labs && ((decide (1 ≤ gs.length) && decide (gs.length ≤ 300)) && gs.all isBl) && decide (rows.length = labs.length * 2 ^ t) && rows.all (isRowD w.toNat gs.length)
theorem isBl_k {d : D} {n : Nat} {S : Sto} (h : okd n d = true) : ∃ t, tkD S d = some t ∧ isK .bool t = isBl d := by
  cases d with
  | dct => cases n <;> cases h
  | ref => cases n <;> cases h
  | scr => cases n <;> cases h
  | _ => exact ⟨_, rfl, rfl⟩
theorem w_is_machine (H : Up_is_machine P) {w : Int} {labs : List Bs} {t m : Nat} {rows gs : List D} (hlo : ∀ l ∈ labs, okS' l = true) (ht : t ≤ 6) (hr : ∀ r ∈ rows, okd m r = true) (hg : ∀ g ∈ gs, okd m g = true) {S : Sto} {qx : QX} (hk : 6 ≤ k) (h : q (.bl (macB w labs t rows gs)) S) :
    P.spec k 43 [.tup [.tup [.int w, .tup (labs.map .str)], .int t, .tup rows, .tup gs]] S q qx := by
  obtain ⟨k, rfl⟩ : ∃ j, k = j + 1 := ⟨k - 1, by omega⟩
  refine Pg.spec_succ H.self rfl ?_
  refine ⟨_, rfl, ?_⟩
  refine ⟨_, rfl, w_is_kind H.to_is_kind hlo (by omega) ?_⟩
  refine ⟨_, rfl, ?_⟩
  cases c1 : kindB w labs with
  | false =>
    have : macB w labs t rows gs = false := by unfold macB; rw [c1]; rfl
    rw [this] at h; exact h
  | true =>
    have hw : w = 1 ∨ w = 2 := by
      unfold kindB at c1
      simp only [Bool.and_eq_true] at c1
      have := c1.1.1.1
      simpa using this
    have hl3 : labs.length ≤ 3 := by
      unfold kindB at c1
      simp only [Bool.and_eq_true] at c1
      exact of_decide_eq_true c1.1.1.2.2
    have h : q (.bl (((decide (1 ≤ gs.length) && decide (gs.length ≤ 300)) && gs.all isBl) && decide (rows.length = labs.length * 2 ^ t) && rows.all (isRowD w.toNat gs.length))) S := by
      unfold macB at h; rw [c1, Bool.true_and] at h; exact h
    refine ⟨_, rfl, ?_⟩
    refine w_is_number H.to_is_number (m := 1) (n := 7) rfl (by omega) ?_
    have e1 : isRowD 0 7 (.int t) = true := by
      show (decide ((0 : Int) ≤ t) && decide ((t : Int) < (7 : Nat))) = true
      rw [decide_eq_true (by omega), decide_eq_true (by omega)]; rfl
    rw [e1]
    refine ⟨_, rfl, ?_⟩
    refine ⟨_, rfl, _, rfl, _, rfl, _, rfl, _, rfl, _, rfl, ?_⟩
    refine ⟨_, rfl, _, rfl, ?_⟩
    refine if_c (fun c2 => ?_) (fun c2 => ?_)
    · have c2 : 1 ≤ gs.length := by have := of_decide_eq_true c2; omega
      refine if_nc (fun c3 => ?_) (fun c3 => ?_)
      · have c3 : gs.length ≤ 300 := by
          have : decide (((gs.length : Nat) : Int) ≤ 300) = true := by rw [Bool.not_eq_false'] at c3; exact c3
          have := of_decide_eq_true this
          omega
        rw [decide_eq_true c2, decide_eq_true c3, Bool.true_and, Bool.true_and] at h
        refine ⟨_, rfl, ?_⟩
        rw [← List.map_id gs]
        refine loopL_map (e := id) (fun x => .bl (isBl x)) gs _ _ (fun x hx kk hkk => ?_) ?_
        · obtain ⟨tk, g1, g2⟩ := isBl_k (S := S) (hg x hx)
          refine ⟨_, rfl, tk, g1, ?_⟩
          rw [g2]; exact hkk
        · refine ⟨_, gs.map isBl, rfl, fun t => ne_tup, ?_, _, rfl, ?_⟩
          · show boolsD (gs.map (D.bl ∘ isBl)) = _
            rw [← List.map_map]; exact bools_all
          rw [List.map_id]
          have e2 : (gs.map isBl).all id = gs.all isBl := by rw [List.all_map]; rfl
          rw [e2]
          cases c4 : gs.all isBl with
          | false => rw [c4] at h; exact h
          | true =>
            rw [c4, Bool.true_and] at h
            refine ⟨_, rfl, _, rfl, _, rfl, _, rfl, _, rfl, _, rfl, w_all_marks H.to_all_marks t (by omega) _ (by omega) ?_⟩
            refine ⟨_, rfl, ⟨.inl ⟨by rw [List.length_map]; omega, by rw [List.length_map]; omega⟩, ?_⟩⟩
            refine ⟨okd_int, okd_int, ?_⟩
            have e3 : (!dEq (.int (rows.length : Nat)) (.int ((((labs.map D.str).length : Nat) : Int) * (((marks t).map itD).length : Nat)))) = !decide (rows.length = labs.length * 2 ^ t) := by
              congr 1
              show (((rows.length : Nat) : Int) == _) = _
              rw [List.length_map, List.length_map, marks_len]
              by_cases c5 : rows.length = labs.length * 2 ^ t
              · rw [decide_eq_true c5, c5]
                exact beq_iff_eq.mpr (by push_cast; rfl)
              · rw [decide_eq_false c5]
                refine beq_eq_false_iff_ne.mpr fun e => c5 ?_
                exact Int.ofNat.inj (e.trans (by push_cast; rfl))
            by_cases c5 : rows.length = labs.length * 2 ^ t
            · refine if_f (e3.trans (by rw [decide_eq_true c5]; rfl)) ?_
              rw [decide_eq_true c5, Bool.true_and] at h
              refine ⟨_, rfl, ?_⟩
              rw [← List.map_id rows]
              refine loopL_map (e := id) (fun x => .bl (isRowD w.toNat gs.length x)) rows _ _ (fun x hx kk hkk => ?_) ?_
              · refine ⟨_, rfl, _, rfl, _, rfl, _, rfl, _, rfl, ?_⟩
                have : D.int w = .int (w.toNat : Nat) := by rw [Int.toNat_of_nonneg (by omega)]
                show P.spec k 41 [x, .int (gs.length : Nat), .int w] S _ _
                rw [this]
                exact w_is_row H.to_is_row w.toNat m x k S _ _ (hr x hx) (by omega) hkk
              · refine ⟨_, rows.map (isRowD w.toNat gs.length), rfl, fun t => ne_tup, ?_, ?_⟩
                · show boolsD (rows.map (D.bl ∘ isRowD w.toNat gs.length)) = _
                  rw [← List.map_map]; exact bools_all
                · rw [List.all_map]; exact h
            · refine if_t (e3.trans (by rw [decide_eq_false c5]; rfl)) ?_
              rw [decide_eq_false c5] at h
              exact h
      · refine if_t c3 ?_
        have : decide (((gs.length : Nat) : Int) ≤ 300) = false := by rw [Bool.not_eq_true'] at c3; exact c3
        have := of_decide_eq_false this
        rw [decide_eq_false (show ¬ gs.length ≤ 300 by omega), Bool.and_false] at h
        exact h
    · have c2 := of_decide_eq_false c2
      rw [decide_eq_false (show ¬ 1 ≤ gs.length by omega)] at h
      exact h
end
end U
/-! UF_k01: own terms of defs (printed by ugen.py), what a program must hold of them. -/
namespace U
open PySem DL
/-- is_shape -/
def f_is_shape : Fn := ⟨2, ["kind", "value", "waiting", "ways", "labels", "current"], [
  .expr (.call 24 (.cons (.var 0) .nil)),
  .set (.tup (.cons (.nm 3) (.cons (.nm 4) .nil))) (.var 0),
  .set (.nm 2) (.newl (.cons (.var 1) .nil)),
  .loop (.var 2) [
    .set (.nm 5) (.popl (.var 2)),
    .ite (.not (.isi .tuple (.var 5))) [
      .ret (.bl false)] [],
    .ite (.cmp .eq (.bif .len (.var 5)) (.int 0)) [
      .cont] [],
    .ite (.boo false (.cons (.cmp .ne (.bif .len (.var 5)) (.bin .add (.var 3) (.int 1))) (.cons (.not (.isi .str (.idx (.var 5) (.int 0)))) (.cons (.cmp .notin (.idx (.var 5) (.int 0)) (.var 4)) .nil)))) [
      .ret (.bl false)] [],
    .ext (.var 2) (.bif .list (.sl (.var 5) (.some (.int 1)) .none))],
  .ret (.bl true)]⟩
/-- size -/
def f_size : Fn := ⟨1, ["shape"], [
  .ret (.bif .len (.call 0 (.cons (.var 0) .nil)))]⟩
/-- part -/
def f_part : Fn := ⟨2, ["shape", "path", "current", "way"], [
  .set (.nm 2) (.var 0),
  .each (.nm 3) (.over (.var 1)) [
    .ite (.boo false (.cons (.not (.var 2)) (.cons (.cmp .ge (.bin .add (.var 3) (.int 1)) (.bif .len (.var 2))) (.cons (.cmp .lt (.var 3) (.int 0)) .nil)))) [
      .rais 4] [],
    .set (.nm 2) (.idx (.var 2) (.bin .add (.var 3) (.int 1)))],
  .ite (.not (.var 2)) [
    .rais 4] [],
  .ret (.var 2)]⟩
/-- with_part -/
def f_with_part : Fn := ⟨3, ["shape", "path", "new", "above", "current", "way", "result", "outer"], [
  .set (.nm 3) (.newl .nil),
  .set (.nm 4) (.var 0),
  .each (.nm 5) (.over (.var 1)) [
    .ite (.boo false (.cons (.not (.var 4)) (.cons (.cmp .ge (.bin .add (.var 5) (.int 1)) (.bif .len (.var 4))) (.cons (.cmp .lt (.var 5) (.int 0)) .nil)))) [
      .rais 4] [],
    .app (.var 3) (.tup (.cons (.var 4) (.cons (.var 5) .nil))),
    .set (.nm 4) (.idx (.var 4) (.bin .add (.var 5) (.int 1)))],
  .set (.nm 6) (.var 2),
  .each (.tup (.cons (.nm 7) (.cons (.nm 5) .nil))) (.over (.rev (.var 3))) [
    .set (.nm 6) (.bin .add (.bin .add (.sl (.var 7) .none (.some (.bin .add (.var 5) (.int 1)))) (.tup (.cons (.var 6) .nil))) (.sl (.var 7) (.some (.bin .add (.var 5) (.int 2))) .none))],
  .ret (.var 6)]⟩
/-- write_shape -/
def f_write_shape : Fn := ⟨1, ["shape", "pieces", "waiting", "current"], [
  .set (.nm 1) (.newl .nil),
  .set (.nm 2) (.newl (.cons (.var 0) .nil)),
  .loop (.var 2) [
    .set (.nm 3) (.popl (.var 2)),
    .ite (.isi .str (.var 3)) [
      .app (.var 1) (.var 3)] [
      .ite (.not (.var 3)) [
        .app (.var 1) (.str [46])] [
        .ite (.cmp .eq (.bif .len (.var 3)) (.int 2)) [
          .app (.var 1) (.idx (.var 3) (.int 0)),
          .app (.var 2) (.idx (.var 3) (.int 1))] [
          .app (.var 1) (.idx (.var 3) (.int 0)),
          .ext (.var 2) (.lst (.cons (.str [41]) (.cons (.idx (.var 3) (.int 2)) (.cons (.str [44]) (.cons (.idx (.var 3) (.int 1)) (.cons (.str [40]) .nil))))))]]]],
  .ret (.join (.str []) (.var 1))]⟩
/-- ShapeReader.__init__ -/
def f_ShapeReader_init : Fn := ⟨3, ["self", "kind", "text"], [
  .unp2 [83, 104, 97, 112, 101, 82, 101, 97, 100, 101, 114] 0 [119, 97, 121, 115] [108, 97, 98, 101, 108, 115] (.var 1),
  .putf [83, 104, 97, 112, 101, 82, 101, 97, 100, 101, 114] (.var 0) [116, 101, 120, 116] (.var 2),
  .putf [83, 104, 97, 112, 101, 82, 101, 97, 100, 101, 114] (.var 0) [97, 116] (.int 0)]⟩
/-- ShapeReader.sign -/
def f_ShapeReader_sign : Fn := ⟨1, ["self"], [
  .ite (.cmp .ge (.fld [83, 104, 97, 112, 101, 82, 101, 97, 100, 101, 114] (.var 0) [97, 116]) (.bif .len (.fld [83, 104, 97, 112, 101, 82, 101, 97, 100, 101, 114] (.var 0) [116, 101, 120, 116]))) [
    .rais 1] [],
  .augf [83, 104, 97, 112, 101, 82, 101, 97, 100, 101, 114] (.var 0) [97, 116] .add (.int 1),
  .ret (.idx (.fld [83, 104, 97, 112, 101, 82, 101, 97, 100, 101, 114] (.var 0) [116, 101, 120, 116]) (.bin .sub (.fld [83, 104, 97, 112, 101, 82, 101, 97, 100, 101, 114] (.var 0) [97, 116]) (.int 1)))]⟩
/-- ShapeReader.take -/
def f_ShapeReader_take : Fn := ⟨2, ["self", "expected"], [
  .ite (.cmp .ne (.meth [83, 104, 97, 112, 101, 82, 101, 97, 100, 101, 114] [115, 105, 103, 110] 66 (.var 0) .nil) (.var 1)) [
    .rais 1] []]⟩
/-- ShapeReader.finish -/
def f_ShapeReader_finish : Fn := ⟨3, ["self", "above", "done"], [
  .loop (.var 1) [
    .app (.idx (.var 1) (.neg (.int 1))) (.var 2),
    .ite (.cmp .le (.bif .len (.idx (.var 1) (.neg (.int 1)))) (.fld [83, 104, 97, 112, 101, 82, 101, 97, 100, 101, 114] (.var 0) [119, 97, 121, 115])) [
      .expr (.meth [83, 104, 97, 112, 101, 82, 101, 97, 100, 101, 114] [116, 97, 107, 101] 67 (.var 0) (.cons (.str [44]) .nil)),
      .ret (.tup .nil)] [],
    .ite (.cmp .eq (.fld [83, 104, 97, 112, 101, 82, 101, 97, 100, 101, 114] (.var 0) [119, 97, 121, 115]) (.int 2)) [
      .expr (.meth [83, 104, 97, 112, 101, 82, 101, 97, 100, 101, 114] [116, 97, 107, 101] 67 (.var 0) (.cons (.str [41]) .nil))] [],
    .set (.nm 2) (.bif .tuple (.popl (.var 1)))],
  .ret (.var 2)]⟩
/-- ShapeReader.shape -/
def f_ShapeReader_shape : Fn := ⟨1, ["self", "above", "label", "done"], [
  .set (.nm 1) (.newl .nil),
  .loop (.bl true) [
    .set (.nm 2) (.meth [83, 104, 97, 112, 101, 82, 101, 97, 100, 101, 114] [115, 105, 103, 110] 66 (.var 0) .nil),
    .ite (.cmp .isin (.var 2) (.fld [83, 104, 97, 112, 101, 82, 101, 97, 100, 101, 114] (.var 0) [108, 97, 98, 101, 108, 115])) [
      .app (.var 1) (.newl (.cons (.var 2) .nil)),
      .ite (.cmp .eq (.fld [83, 104, 97, 112, 101, 82, 101, 97, 100, 101, 114] (.var 0) [119, 97, 121, 115]) (.int 2)) [
        .expr (.meth [83, 104, 97, 112, 101, 82, 101, 97, 100, 101, 114] [116, 97, 107, 101] 67 (.var 0) (.cons (.str [40]) .nil))] [],
      .cont] [],
    .ite (.cmp .ne (.var 2) (.str [46])) [
      .rais 1] [],
    .set (.nm 3) (.meth [83, 104, 97, 112, 101, 82, 101, 97, 100, 101, 114] [102, 105, 110, 105, 115, 104] 69 (.var 0) (.cons (.var 1) (.cons (.tup .nil) .nil))),
    .ite (.not (.var 1)) [
      .ret (.var 3)] []]]⟩
/-- read_shape -/
def f_read_shape : Fn := ⟨2, ["kind", "text", "reader", "result"], [
  .expr (.call 24 (.cons (.var 0) .nil)),
  .set (.nm 2) (.mk [83, 104, 97, 112, 101, 82, 101, 97, 100, 101, 114] 65 (.cons (.var 0) (.cons (.var 1) .nil))),
  .set (.nm 3) (.meth [83, 104, 97, 112, 101, 82, 101, 97, 100, 101, 114] [115, 104, 97, 112, 101] 68 (.var 2) .nil),
  .ite (.cmp .lt (.fld [83, 104, 97, 112, 101, 82, 101, 97, 100, 101, 114] (.var 2) [97, 116]) (.bif .len (.var 1))) [
    .rais 1] [],
  .ret (.var 3)]⟩
/-- _law_text -/
def f__law_text : Fn := ⟨1, ["_law_shape_here"], [
  .ite (.cmp .eq (.var 0) (.tup .nil)) [
    .ret (.str [46])] [],
  .ite (.cmp .eq (.bif .len (.var 0)) (.int 2)) [
    .ret (.bin .add (.idx (.var 0) (.int 0)) (.call 71 (.cons (.idx (.var 0) (.int 1)) .nil)))] [],
  .ret (.bin .add (.bin .add (.bin .add (.bin .add (.bin .add (.idx (.var 0) (.int 0)) (.str [40])) (.call 71 (.cons (.idx (.var 0) (.int 1)) .nil))) (.str [44])) (.call 71 (.cons (.idx (.var 0) (.int 2)) .nil))) (.str [41]))]⟩
/-- _law_read -/
def f__law_read : Fn := ⟨2, ["_law_kind_here", "_law_text_here", "e"], [
  .tri [
    .ret (.call 70 (.cons (.var 0) (.cons (.var 1) .nil)))] 1 (some 2) (.isx (.str [110, 111, 110, 101]) (.str [119, 114, 111, 110, 103]))]⟩
/-- _law_try_part -/
def f__law_try_part : Fn := ⟨2, ["_law_shape_here", "_law_path"], [
  .tri [
    .ret (.call 62 (.cons (.var 0) (.cons (.var 1) .nil)))] 4 none (.con (.str [110, 111, 110, 101]))]⟩
/-- _law_try_with -/
def f__law_try_with : Fn := ⟨3, ["_law_shape_here", "_law_path", "_law_new"], [
  .tri [
    .ret (.call 63 (.cons (.var 0) (.cons (.var 1) (.cons (.var 2) .nil))))] 4 none (.con (.str [110, 111, 110, 101]))]⟩
/-- _law_with -/
def f__law_with : Fn := ⟨3, ["_law_shape_here", "_law_path", "_law_new", "_law_way"], [
  .ite (.cmp .eq (.var 1) (.tup .nil)) [
    .ret (.var 2)] [],
  .set (.nm 3) (.idx (.var 1) (.int 0)),
  .ret (.bin .add (.bin .add (.sl (.var 0) .none (.some (.bin .add (.var 3) (.int 1)))) (.tup (.cons (.call 75 (.cons (.idx (.var 0) (.bin .add (.var 3) (.int 1))) (.cons (.sl (.var 1) (.some (.int 1)) .none) (.cons (.var 2) .nil)))) .nil))) (.sl (.var 0) (.some (.bin .add (.var 3) (.int 2))) .none))]⟩
/-- _law_bent -/
def f__law_bent : Fn := ⟨2, ["_law_tape_here", "_law_text_here", "_law_k", "_law_more"], [
  .set (.nm 2) (.call 8 (.cons (.var 0) (.cons (.bin .add (.bif .len (.var 1)) (.int 1)) .nil))),
  .set (.nm 3) (.idx (.lst (.cons (.str []) (.cons (.str [97]) (.cons (.str [46]) (.cons (.str [40]) (.cons (.str [44]) (.cons (.str [41]) (.cons (.str [98]) (.cons (.str [113]) .nil))))))))) (.call 8 (.cons (.var 0) (.cons (.int 8) .nil)))),
  .ret (.bin .add (.bin .add (.sl (.var 1) .none (.some (.var 2))) (.var 3)) (.sl (.var 1) (.some (.bin .add (.var 2) (.call 8 (.cons (.var 0) (.cons (.int 2) .nil))))) .none))]⟩
/-- _law_is -/
def f__law_is : Fn := ⟨2, ["_law_kind_here", "_law_value", "_law_one"], [
  .ite (.cmp .eq (.var 1) (.tup .nil)) [
    .ret (.bl true)] [],
  .ite (.boo false (.cons (.not (.isi .tuple (.var 1))) (.cons (.cmp .ne (.bif .len (.var 1)) (.bin .add (.idx (.var 0) (.int 0)) (.int 1))) (.cons (.cmp .notin (.idx (.var 1) (.int 0)) (.idx (.var 0) (.int 1))) .nil)))) [
    .ret (.bl false)] [],
  .ret (.cmp .eq (.lc (.var 2) (.nm 2) (.over (.sl (.var 1) (.some (.int 1)) .none)) (.cons (.not (.call 77 (.cons (.var 0) (.cons (.var 2) .nil)))) .nil) [2]) (.lst .nil))]⟩
/-- _law_kind_right -/
def f__law_kind_right : Fn := ⟨1, ["_law_kind_here"], [
  .tri [
    .expr (.call 24 (.cons (.var 0) .nil))] 0 none (.con (.bl false)),
  .ret (.bl true)]⟩
structure Up_is_shape (P : Pg) : Prop where
  self : P.Has 60 f_is_shape
  to_check_kind : Up_check_kind P
structure Up_size (P : Pg) : Prop where
  self : P.Has 61 f_size
  to_all_elements : Up_all_elements P
structure Up_part (P : Pg) : Prop where
  self : P.Has 62 f_part
structure Up_with_part (P : Pg) : Prop where
  self : P.Has 63 f_with_part
structure Up_write_shape (P : Pg) : Prop where
  self : P.Has 64 f_write_shape
structure Up_ShapeReader_init (P : Pg) : Prop where
  self : P.Has 65 f_ShapeReader_init
structure Up_ShapeReader_sign (P : Pg) : Prop where
  self : P.Has 66 f_ShapeReader_sign
structure Up_ShapeReader_take (P : Pg) : Prop where
  self : P.Has 67 f_ShapeReader_take
  to_ShapeReader_sign : Up_ShapeReader_sign P
structure Up_ShapeReader_finish (P : Pg) : Prop where
  self : P.Has 69 f_ShapeReader_finish
  to_ShapeReader_take : Up_ShapeReader_take P
structure Up_ShapeReader_shape (P : Pg) : Prop where
  self : P.Has 68 f_ShapeReader_shape
  to_ShapeReader_sign : Up_ShapeReader_sign P
  to_ShapeReader_finish : Up_ShapeReader_finish P
  to_ShapeReader_take : Up_ShapeReader_take P
structure Up_read_shape (P : Pg) : Prop where
  self : P.Has 70 f_read_shape
  to_check_kind : Up_check_kind P
  to_ShapeReader_init : Up_ShapeReader_init P
  to_ShapeReader_shape : Up_ShapeReader_shape P
structure Up__law_text (P : Pg) : Prop where
  self : P.Has 71 f__law_text
structure Up__law_read (P : Pg) : Prop where
  self : P.Has 72 f__law_read
  to_read_shape : Up_read_shape P
structure Up__law_try_part (P : Pg) : Prop where
  self : P.Has 73 f__law_try_part
  to_part : Up_part P
structure Up__law_try_with (P : Pg) : Prop where
  self : P.Has 74 f__law_try_with
  to_with_part : Up_with_part P
structure Up__law_with (P : Pg) : Prop where
  self : P.Has 75 f__law_with
structure Up__law_bent (P : Pg) : Prop where
  self : P.Has 76 f__law_bent
  to__law_take : Up__law_take P
structure Up__law_is (P : Pg) : Prop where
  self : P.Has 77 f__law_is
structure Up__law_kind_right (P : Pg) : Prop where
  self : P.Has 78 f__law_kind_right
  to_check_kind : Up_check_kind P
end U
/-! U19: shapes' texts, written. -/
namespace U
open PySem DL
local macro_rules | `(tactic| and_intros) => `(tactic| repeat (first | refine ⟨_, rfl, ?_⟩ | refine ⟨rfl, ?_⟩))
def textS : Sh → Bs
  | .e => [46]
  | .n1 l c => l ++ textS c
  | .n2 l a b => l ++ [40] ++ textS a ++ [44] ++ textS b ++ [41]
/-- one letter of a to z -/
def letS : Sh → Prop
  | .e => True
  | .n1 l c => letB l = true ∧ letS c
  | .n2 l a b => letB l = true ∧ letS a ∧ letS b
theorem letB_one {l : Bs} (h : letB l = true) : ∃ c, l = [c] ∧ 97 ≤ c ∧ c ≤ 122 := by
  match l, h with
  | [c], h =>
    have h : (decide (97 ≤ c) && decide (c ≤ 122)) = true := h
    rw [Bool.and_eq_true] at h
    exact ⟨c, rfl, of_decide_eq_true h.1, of_decide_eq_true h.2⟩
theorem shOf.lets {ways : Int} {labels : List Bs} (hl : ∀ l ∈ labels, letB l = true) : ∀ {s : Sh}, shOf ways labels s → letS s
  | .e, _ => trivial
  | .n1 l c, h => ⟨hl l h.2.1, shOf.lets hl h.2.2⟩
  | .n2 l a b, h => ⟨hl l h.2.1, shOf.lets hl h.2.2.1, shOf.lets hl h.2.2.2⟩
theorem text_len : ∀ {s : Sh}, letS s → (textS s).length ≤ 5 * size s + 1
  | .e, _ => Nat.le_refl _
  | .n1 l c, ⟨h1, h2⟩ => by
    obtain ⟨a, rfl, _⟩ := letB_one h1
    have := text_len h2
    simp [textS, size]; omega
  | .n2 l a b, ⟨h1, h2, h3⟩ => by
    obtain ⟨c, rfl, _⟩ := letB_one h1
    have e1 := text_len h2
    have e2 := text_len h3
    simp [textS, size]; omega
theorem text_ok : ∀ {s : Sh}, letS s → okS' (textS s) = true
  | .e, _ => rfl
  | .n1 l c, ⟨h1, h2⟩ => by
    obtain ⟨a, rfl, _, _⟩ := letB_one h1
    have := text_ok h2
    simp only [textS, okS', List.all_append, List.all_cons, List.all_nil, Bool.and_true, Bool.and_eq_true, decide_eq_true_eq] at this ⊢
    exact ⟨by omega, this⟩
  | .n2 l a b, ⟨h1, h2, h3⟩ => by
    obtain ⟨c, rfl, _, _⟩ := letB_one h1
    have e1 := text_ok h2
    have e2 := text_ok h3
    simp only [textS, okS', List.all_append, List.all_cons, List.all_nil, Bool.and_true, Bool.and_eq_true, decide_eq_true_eq] at e1 e2 ⊢
    exact ⟨⟨⟨⟨⟨by omega, by decide⟩, e1⟩, by decide⟩, e2⟩, by decide⟩
/-- a text begins with one shape's at most -/
theorem text_inj2 {ways : Int} {labels : List Bs} (hl : ∀ l ∈ labels, letB l = true) : ∀ (s s' : Sh) (r r' : Bs), shOf ways labels s → shOf ways labels s' → textS s ++ r = textS s' ++ r' → s = s' ∧ r = r'
  | .e, .e, r, r', _, _, h => ⟨rfl, by simpa [textS] using h⟩
  | .e, .n1 l c, r, r', _, h', h => by
    obtain ⟨a, rfl, h1, _⟩ := letB_one (hl l h'.2.1)
    simp [textS] at h
    omega
  | .e, .n2 l a b, r, r', _, h', h => by
    obtain ⟨c, rfl, h1, _⟩ := letB_one (hl l h'.2.1)
    simp [textS] at h
    omega
  | .n1 l c, .e, r, r', h', _, h => by
    obtain ⟨a, rfl, h1, _⟩ := letB_one (hl l h'.2.1)
    simp [textS] at h
    omega
  | .n2 l a b, .e, r, r', h', _, h => by
    obtain ⟨c, rfl, h1, _⟩ := letB_one (hl l h'.2.1)
    simp [textS] at h
    omega
  | .n1 l c, .n2 l' a b, r, r', h1, h2, h => by have := h1.1; have := h2.1; omega
  | .n2 l' a b, .n1 l c, r, r', h1, h2, h => by have := h1.1; have := h2.1; omega
  | .n1 l c, .n1 l' c', r, r', h1, h2, h => by
    obtain ⟨a, rfl, _⟩ := letB_one (hl l h1.2.1)
    obtain ⟨a', rfl, _⟩ := letB_one (hl l' h2.2.1)
    have h : a = a' ∧ textS c ++ r = textS c' ++ r' := by simpa [textS] using h
    obtain ⟨e1, e2⟩ := text_inj2 hl c c' r r' h1.2.2 h2.2.2 h.2
    rw [h.1, e1]; exact ⟨rfl, e2⟩
  | .n2 l a b, .n2 l' a' b', r, r', h1, h2, h => by
    obtain ⟨c, rfl, _⟩ := letB_one (hl l h1.2.1)
    obtain ⟨c', rfl, _⟩ := letB_one (hl l' h2.2.1)
    have h : c = c' ∧ textS a ++ (44 :: (textS b ++ 41 :: r)) = textS a' ++ (44 :: (textS b' ++ 41 :: r')) := by simpa [textS] using h
    obtain ⟨e1, e2⟩ := text_inj2 hl a a' _ _ h1.2.2.1 h2.2.2.1 h.2
    have e2 : textS b ++ 41 :: r = textS b' ++ 41 :: r' := by simpa using e2
    obtain ⟨e3, e4⟩ := text_inj2 hl b b' _ _ h1.2.2.2 h2.2.2.2 e2
    rw [h.1, e1, e3]
    exact ⟨rfl, by simpa using e4⟩
section
variable {P : Pg} {k : Nat}
theorem w_ltext (H : Up__law_text P) : ∀ (s : Sh) (k : Nat) (S : Sto) (q : QD) (qx : QX), letS s → okSh s → size s ≤ 50 → size s + 1 ≤ k → q (.str (textS s)) S → P.spec k 71 [encS s] S q qx
  | s, 0, _, _, _, _, _, _, hk, _ => by omega
  | s, k + 1, S, q, qx, ls, os, h50, hk, h => by
    refine Pg.spec_succ H.self rfl ?_
    refine ⟨_, rfl, okd_encS s 60 os (by omega), rfl, ?_⟩
    cases s with
    | e => exact h
    | n1 l c =>
      obtain ⟨a, rfl, _⟩ := letB_one ls.1
      unfold size at h50 hk
      have := text_len ls.2
      refine ⟨_, rfl, _, rfl, rfl, rfl, ?_⟩
      refine ⟨_, rfl, _, rfl, _, rfl, _, rfl, w_ltext H c k _ _ _ ls.2 os.2 (by omega) (by omega) ?_⟩
      exact ⟨by show 1 + _ ≤ 16777216; omega, h⟩
    | n2 l a b =>
      obtain ⟨c, rfl, _⟩ := letB_one ls.1
      unfold size at h50 hk
      have e1 := text_len ls.2.1
      have e2 := text_len ls.2.2
      refine ⟨_, rfl, _, rfl, rfl, rfl, ?_⟩
      refine ⟨_, rfl, _, rfl, ⟨by show (1 + 1 : Nat) ≤ 16777216; decide, ?_⟩⟩
      refine ⟨_, rfl, _, rfl, w_ltext H a k _ _ _ ls.2.1 os.2.1 (by omega) (by omega) ?_⟩
      refine ⟨by show _ ≤ 16777216; simp; omega, ⟨by show _ ≤ 16777216; simp; omega, ?_⟩⟩
      refine ⟨_, rfl, _, rfl, w_ltext H b k _ _ _ ls.2.2 os.2.2 (by omega) (by omega) ?_⟩
      refine ⟨by show _ ≤ 16777216; simp; omega, ⟨by show _ ≤ 16777216; simp; omega, ?_⟩⟩
      exact h
/-! ### write_shape -/
inductive Wp where
  | sh (s : Sh) | st (t : Bs)
def wpD : Wp → D
  | .sh s => encS s
  | .st t => .str t
def wpT : Wp → Bs
  | .sh s => textS s
  | .st t => t
def wpOk : Wp → Prop
  | .sh s => letS s
  | .st t => True
def wpW : Wp → Nat
  | .sh s => 6 * size s + 1
  | .st _ => 1
def wgtW (w : List Wp) : Nat := (w.map wpW).sum
theorem wgtW_cons (x : Wp) (w : List Wp) : wgtW (x :: w) = wpW x + wgtW w := by simp [wgtW]
theorem wgtW_len : ∀ w : List Wp, w.length ≤ wgtW w
  | [] => by simp [wgtW]
  | x :: w => by
    have := wgtW_len w
    rw [wgtW_cons, List.length_cons]
    cases x <;> simp [wpW] <;> omega
structure WrI (s0 : Sh) (S0 : Sto) (a : List Wp × List Bs) (ρ : DL.Env) (S : Sto) : Prop where
  ex : ∃ pp pw x3, ρ = [some (encS s0), some (.ref pp), some (.ref pw), x3] ∧ S pp = some (.lst (a.2.map .str)) ∧ S pw = some (.lst (a.1.reverse.map wpD)) ∧ pp ≠ pw ∧ S0 pp = none ∧ S0 pw = none
  sub : Sub S0 S
  ok : ∀ x ∈ a.1, wpOk x
  val : a.2.flatten ++ (a.1.map wpT).flatten = textS s0
  sz : wgtW a.1 + a.2.length ≤ 3000
theorem joinL_nil : ∀ ts : List Bs, TL.joinL ([] : Bs) ts = ts.flatten
  | [] => rfl
  | [x] => by simp [TL.joinL]
  | x :: y :: r => by
    show x ++ ([] ++ TL.joinL [] (y :: r)) = _
    rw [joinL_nil (y :: r)]
    simp
theorem flat_len (ts : List Bs) : (ts.map (·.length)).sum = ts.flatten.length := by rw [List.length_flatten]
theorem w_write_shape (H : Up_write_shape P) (s : Sh) {S : Sto} {q : QD} (qx : QX) (hk : 1 ≤ k) (ls : letS s) (h50 : size s ≤ 450) (h : q (.str (textS s)) S) : P.spec k 64 [encS s] S q qx := by
  obtain ⟨k, rfl⟩ : ∃ j, k = j + 1 := ⟨k - 1, by omega⟩
  refine Pg.spec_fgt H.self rfl ?_
  intro pp hpp
  refine ⟨_, rfl, fun pw hpw => ?_⟩
  have pw1 : pp ≠ pw := fun e => by rw [← e, ups_same] at hpw; cases hpw
  have n2 : S pw = none := by rw [ups_ne pw1.symm] at hpw; exact hpw
  refine while_ind (WrI s S) (fun a => wgtW a.1) ?_ (a := ([.sh s], [])) ⟨⟨pp, pw, none, rfl, by rw [ups_ne pw1, ups_same]; rfl, ups_same, pw1, hpp, n2⟩, subUps (subUps (Sub.refl S) hpp) n2, fun z hz => (by rw [List.mem_singleton.mp hz]; exact ls), by simp [wpT], by show wgtW [.sh s] + 0 ≤ 3000; rw [wgtW_cons]; show 6 * size s + 1 + 0 + 0 ≤ 3000; omega⟩
  rintro ⟨w, d⟩ ρ S2 I kk hkk
  obtain ⟨pp, pw, x3, rfl, ed, ew, a1, m1, m2⟩ := I.ex
  refine ⟨_, rfl, _, tru_lst ew, ?_⟩
  have tl := text_len ls
  cases w with
  | nil =>
    have hv : d.flatten ++ [] = textS s := I.val
    rw [List.append_nil] at hv
    refine ⟨_, rfl, _, d, vw_lst ed, strs_map _, ?_, ?_⟩
    · rw [flat_len, hv]; show _ + _ * 0 ≤ 16777216; omega
    · rw [joinL_nil, hv]
      exact ⟨S, I.sub, h⟩
  | cons x w =>
    have ew2 : S2 pw = some (.lst (w.reverse.map wpD ++ [wpD x])) := by rw [ew]; simp
    have e0 : (!((x :: w).reverse.map wpD).isEmpty) = true := by simp
    refine if_t e0 ?_
    refine ⟨_, rfl, popl_lst ew2 ?_⟩
    generalize e1 : DL.ups S2 pw (.lst (w.reverse.map wpD)) = S3
    have ed3 : S3 pp = some (.lst (d.map .str)) := by rw [← e1, ups_ne a1]; exact ed
    have ew3 : S3 pw = some (.lst (w.reverse.map wpD)) := by rw [← e1]; exact ups_same
    have s3 : Sub S S3 := by rw [← e1]; exact subUps I.sub m2
    clear e1
    have iok := I.ok
    have ival := I.val
    have isz := I.sz
    have iokw : ∀ x ∈ w, wpOk x := fun x hx => iok x (List.mem_cons_of_mem _ hx)
    have hwl := wgtW_len w
    rw [wgtW_cons] at isz
    have hdl : (d.map D.str).length < SZ := by rw [List.length_map]; show _ < 16777216; have : wpW x + wgtW w + d.length ≤ 3000 := isz; omega
    have hx1 : 1 ≤ wpW x := by cases x <;> simp [wpW]
    have isz : wpW x + wgtW w + d.length ≤ 3000 := isz
    -- a piece is done
    have app : ∀ (t : Bs) (x3 : Option D), d.flatten ++ (t ++ (w.map wpT).flatten) = textS s → kk [some (encS s), some (.ref pp), some (.ref pw), x3] (DL.ups S3 pp (.lst (d.map D.str ++ [.str t]))) := by
      intro t x3 hv
      refine hkk (w, d ++ [t]) _ _ ⟨⟨pp, pw, x3, rfl, by rw [ups_same, List.map_append]; rfl, by rw [ups_ne a1.symm]; exact ew3, a1, m1, m2⟩, subUps s3 m1, iokw, ?_, ?_⟩ ?_
      · show (d ++ [t]).flatten ++ _ = _
        rw [← hv]; simp
      · show wgtW w + (d ++ [t]).length ≤ 3000
        rw [List.length_append, List.length_singleton]; omega
      · show wgtW w < wgtW (x :: w)
        rw [wgtW_cons]; omega
    have ival : d.flatten ++ (wpT x ++ (w.map wpT).flatten) = textS s := by
      have : d.flatten ++ ((x :: w).map wpT).flatten = textS s := ival
      rw [List.map_cons, List.flatten_cons] at this
      exact this
    cases x with
    | st t =>
      refine ⟨_, rfl, _, rfl, _, rfl, ?_⟩
      exact ⟨_, rfl, _, rfl, ⟨_, ed3⟩, _, rfl, _, ed3, hdl, app t _ ival⟩
    | sh u =>
      have lu : letS u := iok _ List.mem_cons_self
      cases u with
      | e =>
        refine ⟨_, rfl, _, rfl, _, rfl, ?_⟩
        refine ⟨_, rfl, _, rfl, ?_⟩
        exact ⟨_, rfl, _, rfl, ⟨_, ed3⟩, _, ed3, hdl, app [46] _ ival⟩
      | n1 l c =>
        refine ⟨_, rfl, _, rfl, _, rfl, ?_⟩
        refine ⟨_, rfl, _, rfl, ?_⟩
        refine ⟨_, rfl, _, rfl, rfl, rfl, ?_⟩
        refine ⟨_, rfl, _, rfl, ⟨_, ed3⟩, _, rfl, _, rfl, _, ed3, hdl, ?_⟩
        have ew4 : DL.ups S3 pp (.lst (d.map D.str ++ [.str l])) pw = some (.lst (w.reverse.map wpD)) := by rw [ups_ne a1.symm]; exact ew3
        refine ⟨_, rfl, _, rfl, ⟨_, ew4⟩, _, rfl, _, rfl, _, ew4, by rw [List.length_map, List.length_reverse]; show _ < 16777216; omega, ?_⟩
        have isz : 6 * (size c + 1) + 1 + wgtW w + d.length ≤ 3000 := isz
        refine hkk (.sh c :: w, d ++ [l]) _ _ ⟨⟨pp, pw, _, rfl, by rw [ups_ne a1, ups_same, List.map_append]; rfl, by rw [ups_same]; simp [wpD], a1, m1, m2⟩, subUps (subUps s3 m1) m2, fun z hz => ?_, ?_, ?_⟩ ?_
        · rcases List.mem_cons.mp hz with rfl | hz
          · exact lu.2
          · exact iokw z hz
        · show (d ++ [l]).flatten ++ _ = _
          rw [← ival]; simp [wpT, textS]
        · show wgtW _ + (d ++ [l]).length ≤ 3000
          rw [wgtW_cons, List.length_append, List.length_singleton]; show 6 * size c + 1 + wgtW w + (d.length + 1) ≤ 3000; omega
        · show wgtW _ < wgtW _
          rw [wgtW_cons, wgtW_cons]; show 6 * size c + 1 + wgtW w < 6 * (size c + 1) + 1 + wgtW w; omega
      | n2 l a b =>
        refine ⟨_, rfl, _, rfl, _, rfl, ?_⟩
        refine ⟨_, rfl, _, rfl, ?_⟩
        refine ⟨_, rfl, _, rfl, rfl, rfl, ?_⟩
        refine ⟨_, rfl, _, rfl, ⟨_, ed3⟩, _, rfl, _, rfl, _, ed3, hdl, ?_⟩
        have ew4 : DL.ups S3 pp (.lst (d.map D.str ++ [.str l])) pw = some (.lst (w.reverse.map wpD)) := by rw [ups_ne a1.symm]; exact ew3
        refine ⟨_, rfl, _, rfl, ⟨_, ew4⟩, _, rfl, _, rfl, _, rfl, _, rfl, _, ew4, by rw [List.length_map, List.length_reverse]; show _ + 5 ≤ 16777216; omega, ?_⟩
        have isz : 6 * (size a + size b + 1) + 1 + wgtW w + d.length ≤ 3000 := isz
        refine hkk (.st [40] :: .sh a :: .st [44] :: .sh b :: .st [41] :: w, d ++ [l]) _ _ ⟨⟨pp, pw, _, rfl, by rw [ups_ne a1, ups_same, List.map_append]; rfl, by rw [ups_same]; simp [wpD], a1, m1, m2⟩, subUps (subUps s3 m1) m2, fun z hz => ?_, ?_, ?_⟩ ?_
        · simp only [List.mem_cons] at hz
          rcases hz with rfl | rfl | rfl | rfl | rfl | hz
          · trivial
          · exact lu.2.1
          · trivial
          · exact lu.2.2
          · trivial
          · exact iokw z hz
        · show (d ++ [l]).flatten ++ _ = _
          rw [← ival]; simp [wpT, textS]
        · show wgtW _ + (d ++ [l]).length ≤ 3000
          simp only [wgtW_cons, List.length_append, List.length_singleton]; show 1 + (6 * size a + 1 + (1 + (6 * size b + 1 + (1 + wgtW w)))) + (d.length + 1) ≤ 3000; omega
        · show wgtW _ < wgtW _
          simp only [wgtW_cons]; show 1 + (6 * size a + 1 + (1 + (6 * size b + 1 + (1 + wgtW w)))) < 6 * (size a + size b + 1) + 1 + wgtW w; omega
end
end U
/-! U20: shapes' texts, read. -/
namespace U
open PySem DL
local macro_rules | `(tactic| and_intros) => `(tactic| repeat (first | refine ⟨_, rfl, ?_⟩ | refine ⟨rfl, ?_⟩))
abbrev cSR : Bs := [83, 104, 97, 112, 101, 82, 101, 97, 100, 101, 114]
abbrev rdO (ways : Int) (labels : List Bs) (t : Bs) (n : Nat) : DO := .ins cSR [([119, 97, 121, 115], .int ways), ([108, 97, 98, 101, 108, 115], .tup (labels.map .str)), ([116, 101, 120, 116], .str t), ([97, 116], .int (n : Nat))]
theorem putf_ins {S : Sto} {p : Addr} {c f : Bs} {fs : List (Bs × D)} {v : D} {k : Sto → Prop} (h : S p = some (.ins c fs)) (hl : fs.length < 1000) (q : k (ups S p (.ins c (putFd fs f v)))) :
    match S p with
      | some (.ins c' fs) => (c' = c ∧ fs.length < 1000) ∧ k (ups S p (.ins c (putFd fs f v)))
      | _ => False := by
  simp only [h]
  exact ⟨⟨trivial, hl⟩, q⟩
theorem fld_ins {S : Sto} {p : Addr} {c f : Bs} {fs : List (Bs × D)} {d : D} {t : Bool} {Q : QD} (h : S p = some (.ins c fs)) (hl : lookF fs f = some d) (q : fin t d S Q) :
    match S p with
      | some (.ins c' fs) => c' = c ∧ ∃ d, lookF fs f = some d ∧ fin t d S Q
      | _ => False := by
  simp only [h]
  exact ⟨trivial, d, hl, q⟩
theorem augf_ins {G : Gx} {e : E} {ρ : DL.Env} {S : Sto} {p : Addr} {c f : Bs} {fs : List (Bs × D)} {d : D} {op : Op2} {k : Sto → Prop} (h : S p = some (.ins c fs)) (hl : lookF fs f = some d)
    (q : wE G e ρ S fun y S2 => wAug op d y fun z => match S2 p with
        | some (.ins c2 fs2) => (c2 = c ∧ fs2.length < 1000) ∧ k (ups S2 p (.ins c (putFd fs2 f z)))
        | _ => False) :
    match S p with
      | some (.ins c' fs) => c' = c ∧ ∃ d, lookF fs f = some d ∧ wE G e ρ S fun y S2 => wAug op d y fun z => match S2 p with
        | some (.ins c2 fs2) => (c2 = c ∧ fs2.length < 1000) ∧ k (ups S2 p (.ins c (putFd fs2 f z)))
        | _ => False
      | _ => False := by
  simp only [h]
  exact ⟨trivial, d, hl, q⟩
section
variable {P : Pg} {k : Nat} {q : QD} {qx : QX} {S : Sto} {p : Addr} {ways : Int} {labels : List Bs} {t : Bs} {n : Nat}
theorem w_rinit (H : Up_ShapeReader_init P) (hk : 1 ≤ k) (hS : S p = some (.ins cSR [])) (h : q .non (ups S p (rdO ways labels t 0))) : P.spec k 65 [.ref p, .tup [.int ways, .tup (labels.map .str)], .str t] S q qx := by
  obtain ⟨k, rfl⟩ : ∃ j, k = j + 1 := ⟨k - 1, by omega⟩
  refine Pg.spec_succ H.self rfl ?_
  refine ⟨_, rfl, p, [], _, _, rfl, rfl, hS, by decide, ?_⟩
  refine ⟨_, rfl, _, rfl, putf_ins ups_same (show 2 < 1000 by decide) ?_⟩
  refine ⟨_, rfl, putf_ins ups_same (show 3 < 1000 by decide) ?_⟩
  show q .non (ups (ups (ups S p _) p _) p _)
  rw [ups_ups, ups_ups]
  exact h
theorem w_sign (H : Up_ShapeReader_sign P) (hk : 1 ≤ k) (hS : S p = some (rdO ways labels t n)) (h : ∀ c, t[n]? = some c → q (.str [c]) (ups S p (rdO ways labels t (n + 1)))) (hx : t.length ≤ n → qx 1 .non S) : P.spec k 66 [.ref p] S q qx := by
  obtain ⟨k, rfl⟩ : ∃ j, k = j + 1 := ⟨k - 1, by omega⟩
  refine Pg.spec_succ H.self rfl ?_
  refine ⟨_, rfl, fld_ins hS rfl ?_⟩
  refine ⟨_, rfl, fld_ins hS rfl ?_⟩
  refine ⟨_, rfl, ?_⟩
  refine if_c (fun c => ?_) (fun c => ?_)
  · have c := of_decide_eq_true c
    exact ⟨by decide, hx (by omega)⟩
  · have c := of_decide_eq_false c
    refine ⟨_, rfl, augf_ins (k := fun S' => wSs (P.G k qx) (f_ShapeReader_sign.body.drop 2) [some (.ref p)] S' (bodyK q)) (G := P.G k qx) (e := .int 1) (ρ := [some (.ref p)]) (op := .add) hS rfl (putf_ins (k := fun S' => wSs (P.G k qx) (f_ShapeReader_sign.body.drop 2) [some (.ref p)] S' (bodyK q)) hS (show 4 < 1000 by decide) ?_)⟩
    have e : putFd [([119, 97, 121, 115], D.int ways), ([108, 97, 98, 101, 108, 115], .tup (labels.map .str)), ([116, 101, 120, 116], .str t), ([97, 116], .int (n : Nat))] [97, 116] (.int ((n : Nat) + 1)) = [([119, 97, 121, 115], D.int ways), ([108, 97, 98, 101, 108, 115], .tup (labels.map .str)), ([116, 101, 120, 116], .str t), ([97, 116], .int (n + 1 : Nat))] := rfl
    rw [e]
    refine ⟨_, rfl, fld_ins ups_same rfl ?_⟩
    refine ⟨_, rfl, fld_ins ups_same rfl ?_⟩
    have hn : n < t.length := by omega
    refine ⟨t[n], ?_, h t[n] (List.getElem?_eq_getElem hn)⟩
    show atD t (((n + 1 : Nat) : Int) - 1) = _
    rw [show ((n + 1 : Nat) : Int) - 1 = (n : Nat) by omega, atD_nat, List.getElem?_eq_getElem hn]
theorem w_take1 (H : Up_ShapeReader_take P) (hk : 2 ≤ k) (hS : S p = some (rdO ways labels t n)) (ht : okS' t = true) (e : Nat) (he : e < 1000) (h : t[n]? = some e → q .non (ups S p (rdO ways labels t (n + 1)))) (hx : t[n]? ≠ some e → qx 1 .non S) (hx2 : t[n]? ≠ some e → qx 1 .non (ups S p (rdO ways labels t (n + 1)))) : P.spec k 67 [.ref p, .str [e]] S q qx := by
  obtain ⟨k, rfl⟩ : ∃ j, k = j + 1 := ⟨k - 1, by omega⟩
  refine Pg.spec_succ H.self rfl ?_
  refine ⟨_, rfl, p, _, rfl, hS, rfl, w_sign H.to_ShapeReader_sign (by omega) hS (fun c hc => ?_) (fun hl => hx fun hc => ?_)⟩
  · have hc2 : c < 0x110000 := by
      have := List.all_eq_true.mp ht c (List.mem_of_getElem? hc)
      exact of_decide_eq_true this
    refine ⟨_, rfl, ?_⟩
    refine ⟨okd_str' (by simp [okS']; omega), okd_str' (by simp [okS']; omega), ?_⟩
    by_cases ce : c = e
    · subst ce
      refine if_f (by simp [dEq]) (h hc)
    · refine if_t (by simp [dEq, ce]) ⟨by decide, hx2 fun h2 => ce ?_⟩
      rw [hc] at h2
      exact Option.some.inj h2
  · rw [List.getElem?_eq_none hl] at hc; cases hc
end
/-! ### the stack of shapes begun -/
abbrev Frm := Bs × Option Sh
def frD (f : Frm) : List D := match f.2 with
  | none => [.str f.1]
  | some a => [.str f.1, encS a]
def FrAt (S : Sto) : List Addr → List Frm → Prop
  | [], [] => True
  | r :: rs, f :: fs => S r = some (.lst (frD f)) ∧ FrAt S rs fs
  | _, _ => False
theorem FrAt.len {S : Sto} : ∀ {rs : List Addr} {fs : List Frm}, FrAt S rs fs → rs.length = fs.length
  | [], [], _ => rfl
  | _ :: rs, _ :: fs, h => by rw [List.length_cons, List.length_cons, FrAt.len h.2]
  | [], _ :: _, h => h.elim
  | _ :: _, [], h => h.elim
theorem FrAt.mono {S S' : Sto} : ∀ {rs : List Addr} {fs : List Frm}, FrAt S rs fs → (∀ r ∈ rs, S' r = S r) → FrAt S' rs fs
  | [], [], _, _ => trivial
  | r :: rs, _ :: fs, h, e => ⟨by rw [e r List.mem_cons_self]; exact h.1, FrAt.mono h.2 fun z hz => e z (List.mem_cons_of_mem _ hz)⟩
  | [], _ :: _, h, _ => h.elim
  | _ :: _, [], h, _ => h.elim
def ftext (ways : Int) (f : Frm) : Bs := match f.2 with
  | none => if ways = 2 then f.1 ++ [40] else f.1
  | some a => f.1 ++ [40] ++ textS a ++ [44]
def ctext (ways : Int) : List Frm → Bs
  | [] => []
  | f :: fs => ctext ways fs ++ ftext ways f
/-- what must follow behind the shape that is read -/
def Fits (ways : Int) (labels : List Bs) : List Frm → Bs → Prop
  | [], r => r = []
  | (_, none) :: fs, r => if ways = 2 then ∃ b r', shOf ways labels b ∧ r = 44 :: (textS b ++ 41 :: r') ∧ Fits ways labels fs r' else Fits ways labels fs r
  | (_, some _) :: fs, r => ∃ r', r = 41 :: r' ∧ Fits ways labels fs r'
def okFr (ways : Int) (labels : List Bs) (f : Frm) : Prop := f.1 ∈ labels ∧ ∀ a, f.2 = some a → ways = 2 ∧ shOf ways labels a
structure RdI (ways : Int) (labels : List Bs) (t : Bs) (S0 : Sto) (p pa : Addr) (n : Nat) (rs : List Addr) (fs : List Frm) (S : Sto) : Prop where
  rd : S p = some (rdO ways labels t n)
  ab : S pa = some (.lst (rs.reverse.map .ref))
  fr : FrAt S rs fs
  nd : (p :: pa :: rs).Nodup
  fresh : ∀ x ∈ p :: pa :: rs, S0 x = none
  sub : Sub S0 S
  ok : ∀ f ∈ fs, okFr ways labels f
  le : fs.length ≤ n ∧ n ≤ t.length
section
variable {P : Pg} {ways : Int} {labels : List Bs} {t : Bs} {S0 : Sto} {p pa : Addr}
theorem RdI.ppa {n : Nat} {rs : List Addr} {fs : List Frm} {S : Sto} (I : RdI ways labels t S0 p pa n rs fs S) : p ≠ pa ∧ p ∉ rs ∧ pa ∉ rs ∧ rs.Nodup := by
  obtain ⟨h1, h2⟩ := List.nodup_cons.mp I.nd
  obtain ⟨h3, h4⟩ := List.nodup_cons.mp h2
  exact ⟨fun e => h1 (by rw [e]; exact List.mem_cons_self), fun e => h1 (List.mem_cons_of_mem _ e), h3, h4⟩
/-- a sign is taken -/
theorem RdI.step {n : Nat} {rs : List Addr} {fs : List Frm} {S : Sto} (I : RdI ways labels t S0 p pa n rs fs S) (h : n < t.length) : RdI ways labels t S0 p pa (n + 1) rs fs (ups S p (rdO ways labels t (n + 1))) := by
  obtain ⟨h1, h2, h3, h4⟩ := I.ppa
  exact ⟨ups_same, by rw [ups_ne h1.symm]; exact I.ab, I.fr.mono fun r hr => ups_ne fun e => h2 (by rw [← e]; exact hr), I.nd, I.fresh, subUps I.sub (I.fresh p List.mem_cons_self), I.ok, by have := I.le; omega⟩
theorem drop_at {n : Nat} {c : Nat} (h : t[n]? = some c) : t.drop n = c :: t.drop (n + 1) ∧ n < t.length ∧ t.take (n + 1) = t.take n ++ [c] := by
  obtain ⟨h1, h2⟩ := List.getElem?_eq_some_iff.mp h
  refine ⟨by rw [List.drop_eq_getElem_cons h1, h2], h1, by rw [List.take_succ, h]; rfl⟩
theorem at_drop {n : Nat} {c : Nat} {r : Bs} (h : t.drop n = c :: r) : t[n]? = some c := by
  have : (t.drop n)[0]? = some c := by rw [h]; rfl
  rw [List.getElem?_drop] at this
  exact this
theorem atD_last {α : Type} (xs : List α) (x : α) : atD (xs ++ [x]) (-1) = some x := by
  unfold atD
  rw [if_neg (by decide), if_pos (by rw [List.length_append, List.length_singleton]; omega)]
  have : ((-1 : Int) + ((xs ++ [x]).length : Nat)).toNat = xs.length := by rw [List.length_append, List.length_singleton]; omega
  rw [this]
  simp
theorem refs_rev (r : Addr) (rs : List Addr) : ((r :: rs).reverse.map D.ref) = rs.reverse.map D.ref ++ [.ref r] := by simp
/-- another top -/
theorem RdI.top {n : Nat} {r : Addr} {rs : List Addr} {f g : Frm} {fs : List Frm} {S : Sto} (I : RdI ways labels t S0 p pa n (r :: rs) (f :: fs) S) (hg : okFr ways labels g) : RdI ways labels t S0 p pa n (r :: rs) (g :: fs) (ups S r (.lst (frD g))) := by
  obtain ⟨h1, h2, h3, h4⟩ := I.ppa
  have e1 : p ≠ r := fun e => h2 (by rw [e]; exact List.mem_cons_self)
  have e2 : pa ≠ r := fun e => h3 (by rw [e]; exact List.mem_cons_self)
  obtain ⟨n1, n2⟩ := List.nodup_cons.mp h4
  refine ⟨by rw [ups_ne e1]; exact I.rd, by rw [ups_ne e2]; exact I.ab, ⟨ups_same, I.fr.2.mono fun z hz => ups_ne fun e => n1 (by rw [← e]; exact hz)⟩, I.nd, I.fresh, subUps I.sub (I.fresh r (by simp)), fun f' hf => ?_, I.le⟩
  rcases List.mem_cons.mp hf with rfl | hf
  · exact hg
  · exact I.ok f' (List.mem_cons_of_mem _ hf)
/-- the top is taken off -/
theorem RdI.pop {n : Nat} {r : Addr} {rs : List Addr} {f : Frm} {fs : List Frm} {S : Sto} {o : DO} (I : RdI ways labels t S0 p pa n (r :: rs) (f :: fs) S) : RdI ways labels t S0 p pa n rs fs (ups (ups S r o) pa (.lst (rs.reverse.map .ref))) := by
  obtain ⟨h1, h2, h3, h4⟩ := I.ppa
  have e1 : p ≠ r := fun e => h2 (by rw [e]; exact List.mem_cons_self)
  have e2 : pa ≠ r := fun e => h3 (by rw [e]; exact List.mem_cons_self)
  obtain ⟨n1, n2⟩ := List.nodup_cons.mp h4
  obtain ⟨m1, m2⟩ := List.nodup_cons.mp I.nd
  obtain ⟨m3, m4⟩ := List.nodup_cons.mp m2
  refine ⟨by rw [ups_ne h1, ups_ne e1]; exact I.rd, ups_same, I.fr.2.mono fun z hz => ?_, ?_, fun x hx => I.fresh x ?_, subUps (subUps I.sub (I.fresh r (by simp))) (I.fresh pa (by simp)), fun f' hf => I.ok f' (List.mem_cons_of_mem _ hf), by have := I.le; rw [List.length_cons] at this; omega⟩
  · rw [ups_ne (fun e => h3 (by rw [← e]; exact List.mem_cons_of_mem _ hz)), ups_ne (fun e => n1 (by rw [← e]; exact hz))]
  · refine List.nodup_cons.mpr ⟨fun hm => m1 ?_, List.nodup_cons.mpr ⟨fun hm => m3 (List.mem_cons_of_mem _ hm), n2⟩⟩
    rcases List.mem_cons.mp hm with rfl | hm
    · exact List.mem_cons_self
    · exact List.mem_cons_of_mem _ (List.mem_cons_of_mem _ hm)
  · rcases List.mem_cons.mp hx with rfl | hx
    · simp
    · rcases List.mem_cons.mp hx with rfl | hx
      · simp
      · simp [hx]
variable {q : QD} {qx : QX} {k : Nat}
def Ex0 (ways : Int) (labels : List Bs) (t : Bs) : Prop := ∃ s0, shOf ways labels s0 ∧ textS s0 = t
structure FinI (ways : Int) (labels : List Bs) (t : Bs) (S0 : Sto) (p pa : Addr) (n0 : Nat) (a : Nat × List Addr × List Frm × Sh) (ρ : DL.Env) (S : Sto) : Prop where
  rho : ρ = [some (.ref p), some (.ref pa), some (encS a.2.2.2)]
  I : RdI ways labels t S0 p pa a.1 a.2.1 a.2.2.1 S
  od : shOf ways labels a.2.2.2
  con : t.take a.1 = ctext ways a.2.2.1 ++ textS a.2.2.2
  gh : Ex0 ways labels t → Fits ways labels a.2.2.1 (t.drop a.1)
  le : n0 ≤ a.1
set_option maxHeartbeats 0 in
theorem w_finish (H : Up_ShapeReader_finish P) (hw : ways = 1 ∨ ways = 2) (ht : okS' t = true) (hz : t.length ≤ 10000) (hk : 3 ≤ k) {n : Nat} {rs : List Addr} {fs : List Frm} {d : Sh} {S : Sto} (I : RdI ways labels t S0 p pa n rs fs S) (od : shOf ways labels d) (con : t.take n = ctext ways fs ++ textS d)
    (gh : Ex0 ways labels t → Fits ways labels fs (t.drop n))
    (hA : ∀ n' d' S', RdI ways labels t S0 p pa n' [] [] S' → shOf ways labels d' → t.take n' = textS d' → (Ex0 ways labels t → t.drop n' = []) → q (encS d') S')
    (hB : ∀ n' rs' fs' S', fs' ≠ [] → n ≤ n' → RdI ways labels t S0 p pa n' rs' fs' S' → t.take n' = ctext ways fs' → (Ex0 ways labels t → ∃ c r', shOf ways labels c ∧ t.drop n' = textS c ++ r' ∧ Fits ways labels fs' r') → q (.tup []) S')
    (hx : ¬ Ex0 ways labels t → ∀ S', Sub S0 S' → qx 1 .non S') : P.spec k 69 [.ref p, .ref pa, encS d] S q qx := by
  obtain ⟨k, rfl⟩ : ∃ j, k = j + 1 := ⟨k - 1, by omega⟩
  refine Pg.spec_succ H.self rfl ?_
  refine while_ind (FinI ways labels t S0 p pa n) (fun a => a.2.2.1.length) ?_ (a := (n, rs, fs, d)) ⟨rfl, I, od, con, gh, Nat.le_refl _⟩
  rintro ⟨n1, rs1, fs1, d1⟩ ρ S1 ⟨rfl, I1, od1, con1, gh1, le1⟩ kk hkk
  refine ⟨_, rfl, _, tru_lst I1.ab, ?_⟩
  have hlen := I1.fr.len
  cases fs1 with
  | nil =>
    cases rs1 with
    | cons => simp at hlen
    | nil =>
      refine ⟨_, rfl, hA n1 d1 S1 I1 od1 ?_ gh1⟩
      exact con1
  | cons f fs1 =>
    cases rs1 with
    | nil => simp at hlen
    | cons r rs1 =>
      refine if_t (by simp) ?_
      have ea := I1.ab
      rw [refs_rev] at ea
      obtain ⟨h1, h2, h3, h4⟩ := I1.ppa
      have e1 : p ≠ r := fun e => h2 (by rw [e]; exact List.mem_cons_self)
      have e2 : pa ≠ r := fun e => h3 (by rw [e]; exact List.mem_cons_self)
      have okf := I1.ok f List.mem_cons_self
      have fres := I1.fresh
      refine ⟨_, rfl, idx_lst ea (atD_last _ _) ?_⟩
      refine ⟨_, rfl, ⟨_, I1.fr.1⟩, _, rfl, _, I1.fr.1, ?_, ?_⟩
      · obtain ⟨l, o⟩ := f
        cases o
        · exact (show 1 < 16777216 by decide)
        · exact (show 2 < 16777216 by decide)
      generalize e0 : DL.ups S1 r (.lst (frD f ++ [encS d1])) = S2
      have ea2 : S2 pa = some (.lst (rs1.reverse.map D.ref ++ [.ref r])) := by rw [← e0, ups_ne e2]; exact ea
      have er2 : S2 r = some (.lst (frD f ++ [encS d1])) := by rw [← e0]; exact ups_same
      have ep2 : S2 p = some (rdO ways labels t n1) := by rw [← e0, ups_ne e1]; exact I1.rd
      have s2 : Sub S0 S2 := by rw [← e0]; exact subUps I1.sub (fres r (by simp))
      refine ⟨_, rfl, idx_lst ea2 (atD_last _ _) ?_⟩
      refine ⟨_, len_lst er2, ?_⟩
      refine ⟨_, rfl, fld_ins ep2 rfl ?_⟩
      obtain ⟨l, o⟩ := f
      cases o with
      | none =>
        rcases hw with rfl | rfl
        · -- words
          refine ⟨_, rfl, fld_ins ep2 rfl ?_⟩
          refine ⟨rfl, rfl, ?_⟩
          refine ⟨_, rfl, popl_lst ea2 ?_⟩
          refine ⟨_, vw_lst (by rw [ups_ne e2.symm]; exact er2), ?_⟩
          rw [← e0]
          refine hkk (n1, rs1, fs1, .n1 l d1) _ _ ⟨rfl, I1.pop, ⟨rfl, okf.1, od1⟩, ?_, gh1, le1⟩ (by show fs1.length < fs1.length + 1; omega)
          show t.take n1 = ctext 1 fs1 ++ (l ++ textS d1)
          have : t.take n1 = ctext 1 fs1 ++ l ++ textS d1 := con1
          rw [this, List.append_assoc]
        · -- trees, the first child
          have J : RdI 2 labels t S0 p pa n1 (r :: rs1) ((l, some d1) :: fs1) S2 := by rw [← e0]; exact I1.top (g := (l, some d1)) ⟨okf.1, fun a e => by cases e; exact ⟨rfl, od1⟩⟩
          have con2 : t.take n1 = ctext 2 fs1 ++ (l ++ [40]) ++ textS d1 := con1
          have bad : t[n1]? ≠ some 44 → ¬ Ex0 2 labels t := fun hn he => by
            obtain ⟨b, r', _, e3, _⟩ := (show ∃ b r', shOf 2 labels b ∧ t.drop n1 = 44 :: (textS b ++ 41 :: r') ∧ Fits 2 labels fs1 r' from gh1 he)
            exact hn (at_drop e3)
          refine ⟨_, rfl, p, _, rfl, ep2, rfl, w_take1 H.to_ShapeReader_take (by omega) ep2 ht 44 (by decide) (fun hc => ?_) (fun hn => hx (bad hn) _ s2) (fun hn => hx (bad hn) _ (subUps s2 (fres p (by simp))))⟩
          obtain ⟨g1, g2, g3⟩ := drop_at hc
          refine hB (n1 + 1) (r :: rs1) ((l, some d1) :: fs1) _ (by simp) (by omega) (J.step g2) ?_ fun he => ?_
          · rw [g3, con2]; simp [ctext, ftext]
          · obtain ⟨b, r', ob, e3, e4⟩ := (show ∃ b r', shOf 2 labels b ∧ t.drop n1 = 44 :: (textS b ++ 41 :: r') ∧ Fits 2 labels fs1 r' from gh1 he)
            rw [g1] at e3
            exact ⟨b, 41 :: r', ob, (List.cons.inj e3).2, r', rfl, e4⟩
      | some a =>
        obtain ⟨rfl, oa⟩ := okf.2 a rfl
        have con2 : t.take n1 = ctext 2 fs1 ++ (l ++ [40] ++ textS a ++ [44]) ++ textS d1 := con1
        have bad : t[n1]? ≠ some 41 → ¬ Ex0 2 labels t := fun hn he => by
          obtain ⟨r', e3, _⟩ := (show ∃ r', t.drop n1 = 41 :: r' ∧ Fits 2 labels fs1 r' from gh1 he)
          exact hn (at_drop e3)
        refine ⟨_, rfl, fld_ins ep2 rfl ?_⟩
        refine ⟨rfl, rfl, ?_⟩
        refine ⟨_, rfl, p, _, rfl, ep2, rfl, w_take1 H.to_ShapeReader_take (by omega) ep2 ht 41 (by decide) (fun hc => ?_) (fun hn => hx (bad hn) _ s2) (fun hn => hx (bad hn) _ (subUps s2 (fres p (by simp))))⟩
        obtain ⟨g1, g2, g3⟩ := drop_at hc
        have ea3 : DL.ups S2 p (rdO 2 labels t (n1 + 1)) pa = some (.lst (rs1.reverse.map D.ref ++ [.ref r])) := by rw [ups_ne h1.symm]; exact ea2
        have er3 : DL.ups S2 p (rdO 2 labels t (n1 + 1)) r = some (.lst (frD (l, some a) ++ [encS d1])) := by rw [ups_ne e1.symm]; exact er2
        refine ⟨_, rfl, popl_lst ea3 ?_⟩
        refine ⟨_, vw_lst (by rw [ups_ne e2.symm]; exact er3), ?_⟩
        have J : RdI 2 labels t S0 p pa (n1 + 1) rs1 fs1 (DL.ups (DL.ups S2 p (rdO 2 labels t (n1 + 1))) pa (.lst (rs1.reverse.map .ref))) := by
          have J1 := (I1.step g2).pop (o := .lst (frD (l, some a) ++ [encS d1]))
          have e5 : DL.ups (DL.ups S1 p (rdO 2 labels t (n1 + 1))) r (.lst (frD (l, some a) ++ [encS d1])) = DL.ups S2 p (rdO 2 labels t (n1 + 1)) := by
            rw [← e0]
            funext b
            unfold DL.ups
            by_cases b1 : b = r
            · have : ¬ b = p := fun e => e1 (e.symm.trans b1)
              simp [b1, e1.symm]
            · by_cases b2 : b = p <;> simp [b1, b2, e1]
          rw [e5] at J1
          exact J1
        refine hkk (n1 + 1, rs1, fs1, .n2 l a d1) _ _ ⟨rfl, J, ⟨rfl, okf.1, oa, od1⟩, ?_, fun he => ?_, by show n ≤ n1 + 1; have : n ≤ n1 := le1; omega⟩ (by show fs1.length < fs1.length + 1; omega)
        · show t.take (n1 + 1) = ctext 2 fs1 ++ textS (.n2 l a d1)
          rw [g3, con2]; simp [textS]
        · obtain ⟨r', e3, e4⟩ := (show ∃ r', t.drop n1 = 41 :: r' ∧ Fits 2 labels fs1 r' from gh1 he)
          rw [g1] at e3
          rw [← (List.cons.inj e3).2] at e4
          exact e4
end
end U
/-! U21: shapes' texts, read to the end. -/
namespace U
open PySem DL
local macro_rules | `(tactic| and_intros) => `(tactic| repeat (first | refine ⟨_, rfl, ?_⟩ | refine ⟨rfl, ?_⟩))
section
variable {P : Pg} {ways : Int} {labels : List Bs} {t : Bs} {S0 : Sto} {p pa : Addr} {q : QD} {qx : QX} {k : Nat}
theorem any_lab (labels : List Bs) (c : Nat) : ((labels.map D.str).any fun z => dEq z (.str [c])) = decide ([c] ∈ labels) := by
  induction labels with
  | nil => simp
  | cons a r ih =>
    rw [List.map_cons, List.any_cons, ih]
    show ((a == [c]) || decide ([c] ∈ r)) = _
    by_cases e : a = [c]
    · simp [e]
    · have e2 : ¬ [c] = a := fun h => e h.symm
      simp [e, e2]
theorem okd_labs {labels : List Bs} (hl : ∀ l ∈ labels, okS' l = true) : okD (.tup (labels.map .str)) := by
  show (labels.map D.str).all (okd 59) = true
  refine List.all_eq_true.mpr fun d hd => ?_
  obtain ⟨x, hx, rfl⟩ := List.mem_map.mp hd
  exact okd_str' (hl x hx)
structure ShI (ways : Int) (labels : List Bs) (t : Bs) (S0 : Sto) (p pa : Addr) (a : Nat × List Addr × List Frm) (ρ : DL.Env) (S : Sto) : Prop where
  rho : ∃ x y, ρ = [some (.ref p), some (.ref pa), x, y]
  I : RdI ways labels t S0 p pa a.1 a.2.1 a.2.2 S
  con : t.take a.1 = ctext ways a.2.2
  gh : Ex0 ways labels t → ∃ c r', shOf ways labels c ∧ t.drop a.1 = textS c ++ r' ∧ Fits ways labels a.2.2 r'
theorem text_ne (s : Sh) (hs : letS s) : ∃ c r, textS s = c :: r := by
  cases s with
  | e => exact ⟨_, _, rfl⟩
  | n1 l c => obtain ⟨a, rfl, _⟩ := letB_one hs.1; exact ⟨_, _, rfl⟩
  | n2 l a b => obtain ⟨c, rfl, _⟩ := letB_one hs.1; exact ⟨_, _, rfl⟩
set_option maxHeartbeats 0 in
theorem w_rshape (H : Up_ShapeReader_shape P) (hw : ways = 1 ∨ ways = 2) (hlab : ∀ l ∈ labels, letB l = true) (hlo : ∀ l ∈ labels, okS' l = true) (ht : okS' t = true) (hz : t.length ≤ 10000) (hk : 4 ≤ k) {S : Sto} (hS : S p = some (rdO ways labels t 0)) (sub : Sub S0 S) (fp : S0 p = none)
    (h : ∀ n' d' S', S' p = some (rdO ways labels t n') → Sub S0 S' → n' ≤ t.length → shOf ways labels d' → t.take n' = textS d' → (Ex0 ways labels t → t.drop n' = []) → q (encS d') S')
    (hx : ¬ Ex0 ways labels t → ∀ S', Sub S0 S' → qx 1 .non S') : P.spec k 68 [.ref p] S q qx := by
  obtain ⟨k, rfl⟩ : ∃ j, k = j + 1 := ⟨k - 1, by omega⟩
  refine Pg.spec_succ H.self rfl ?_
  intro pa hpa
  have ne : p ≠ pa := fun e => by rw [← e, hS] at hpa; cases hpa
  have I0 : RdI ways labels t S0 p pa 0 [] [] (ups S pa (.lst [])) := ⟨by rw [ups_ne ne]; exact hS, ups_same, trivial, by simp [ne], fun x hx => by
    simp only [List.mem_cons, List.mem_nil_iff, or_false] at hx
    rcases hx with rfl | rfl
    · exact fp
    · exact sub.none hpa, subUps sub (sub.none hpa), by simp, by simp⟩
  refine while_ind (ShI ways labels t S0 p pa) (fun a => t.length - a.1) ?_ (a := (0, [], [])) ⟨⟨none, none, rfl⟩, I0, rfl, fun ⟨s0, o0, e0⟩ => ⟨s0, [], o0, by rw [List.append_nil, e0]; rfl, rfl⟩⟩
  rintro ⟨n, rs, fs⟩ ρ S1 ⟨⟨x, y, rfl⟩, I, con, gh⟩ kk hkk
  refine ⟨_, rfl, ?_⟩
  have hp1 : S1 p = some (rdO ways labels t n) := I.rd
  -- a shape begins with a sign
  have more : Ex0 ways labels t → ∃ c, t[n]? = some c := fun he => by
    obtain ⟨u, r', ou, e1, _⟩ := gh he
    obtain ⟨c, r, e2⟩ := text_ne u (ou.lets hlab)
    have e1 : t.drop n = textS u ++ r' := e1
    rw [e2] at e1
    exact ⟨c, at_drop e1⟩
  refine ⟨_, rfl, p, _, rfl, hp1, rfl, w_sign H.to_ShapeReader_sign (by omega) hp1 (fun c hc => ?_) (fun hl => hx (fun he => ?_) S1 I.sub)⟩
  rotate_left
  · obtain ⟨c, hc⟩ := more he
    rw [List.getElem?_eq_none hl] at hc; cases hc
  obtain ⟨g1, g2, g3⟩ := drop_at hc
  have hc2 : c < 0x110000 := of_decide_eq_true (List.all_eq_true.mp ht c (List.mem_of_getElem? hc))
  have oc : okS' [c] = true := by simp [okS']; omega
  have J := I.step g2
  generalize e0 : ups S1 p (rdO ways labels t (n + 1)) = S2 at J
  have hp2 : S2 p = some (rdO ways labels t (n + 1)) := J.rd
  obtain ⟨j1, j2, j3, j4⟩ := J.ppa
  have con : t.take n = ctext ways fs := con
  have gh : Ex0 ways labels t → ∃ c r', shOf ways labels c ∧ t.drop n = textS c ++ r' ∧ Fits ways labels fs r' := gh
  refine ⟨_, rfl, _, rfl, fld_ins hp2 rfl ?_⟩
  refine ⟨okd_str' oc, okd_labs hlo, ?_⟩
  have e3 : ((labels.map D.str).any fun z => dEq z (.str [c])) = decide ([c] ∈ labels) := any_lab labels c
  have lec : ∀ {l : Bs}, l ∈ labels → ∃ c, l = [c] ∧ 97 ≤ c ∧ c ≤ 122 := fun hl => letB_one (hlab _ hl)
  by_cases cl : [c] ∈ labels
  · refine if_t (e3.trans (decide_eq_true cl)) ?_
    have ha : S2 pa = some (.lst (rs.reverse.map .ref)) := J.ab
    refine ⟨_, rfl, _, rfl, ⟨_, ha⟩, _, rfl, fun pf hpf => ?_⟩
    have f1 : pf ≠ p := fun e => by rw [e, hp2] at hpf; cases hpf
    have f2 : pf ≠ pa := fun e => by rw [e, ha] at hpf; cases hpf
    have f3 : pf ∉ rs := fun hm => by
      have : ∀ (rs : List Addr) (fs : List Frm), FrAt S2 rs fs → pf ∈ rs → False := by
        intro rs
        induction rs with
        | nil => intro fs _ hm; cases hm
        | cons r rs ih =>
          intro fs h hm
          cases fs with
          | nil => exact h.elim
          | cons f fs =>
            rcases List.mem_cons.mp hm with rfl | hm
            · have := h.1
              rw [hpf] at this; cases this
            · exact ih fs h.2 hm
      exact this rs fs J.fr hm
    have ha2 : ups S2 pf (.lst [.str [c]]) pa = some (.lst (rs.reverse.map .ref)) := by rw [ups_ne f2.symm]; exact ha
    refine ⟨_, ha2, ?_, ?_⟩
    · rw [List.length_map, List.length_reverse, J.fr.len]
      have := J.le
      show _ < 16777216
      omega
    have K : RdI ways labels t S0 p pa (n + 1) (pf :: rs) (([c], none) :: fs) (ups (ups S2 pf (.lst [.str [c]])) pa (.lst (rs.reverse.map .ref ++ [.ref pf]))) := by
      refine ⟨by rw [ups_ne j1, ups_ne f1.symm]; exact hp2, by rw [ups_same]; simp, ⟨by rw [ups_ne f2, ups_same]; rfl, J.fr.mono fun z hz => ?_⟩, ?_, fun z hz => ?_, subUps (subUps J.sub (J.sub.none hpf)) (J.fresh pa (by simp)), fun f hf => ?_, ?_⟩
      · rw [ups_ne (fun e => j3 (by rw [← e]; exact hz)), ups_ne (fun e => f3 (by rw [← e]; exact hz))]
      · refine List.nodup_cons.mpr ⟨fun hm => ?_, List.nodup_cons.mpr ⟨fun hm => ?_, List.nodup_cons.mpr ⟨f3, j4⟩⟩⟩
        · rcases List.mem_cons.mp hm with e | hm
          · exact j1 e
          · rcases List.mem_cons.mp hm with e | hm
            · exact f1 e.symm
            · exact j2 hm
        · rcases List.mem_cons.mp hm with e | hm
          · exact f2 e.symm
          · exact j3 hm
      · simp only [List.mem_cons] at hz
        rcases hz with rfl | rfl | rfl | hz
        · exact fp
        · exact J.fresh _ (by simp)
        · exact J.sub.none hpf
        · exact J.fresh z (by simp [hz])
      · rcases List.mem_cons.mp hf with rfl | hf
        · exact ⟨cl, fun a e => by cases e⟩
        · exact J.ok f hf
      · rw [List.length_cons]
        have := (show fs.length ≤ n ∧ n ≤ t.length from I.le)
        exact ⟨by omega, by omega⟩
    have hp3 := K.rd
    generalize e5 : ups (ups S2 pf (.lst [.str [c]])) pa (.lst (rs.reverse.map .ref ++ [.ref pf])) = S3 at K hp3
    refine ⟨_, rfl, fld_ins hp3 rfl ?_⟩
    refine ⟨okd_int, okd_int, ?_⟩
    rcases hw with rfl | rfl
    · refine hkk (n + 1, pf :: rs, ([c], none) :: fs) _ _ ⟨⟨_, _, rfl⟩, K, ?_, fun he => ?_⟩ (by show t.length - (n + 1) < t.length - n; omega)
      · show t.take (n + 1) = ctext 1 fs ++ [c]
        rw [g3, con]
      · obtain ⟨u, r', ou, e1, e2⟩ := gh he
        cases u with
        | e =>
          obtain ⟨z, hz, z1, z2⟩ := lec cl
          rw [g1] at e1
          have : c = 46 := by simpa [textS] using (List.cons.inj e1).1
          have : c = z := by simpa using hz
          omega
        | n1 l v =>
          obtain ⟨z, hz, z1, z2⟩ := lec ou.2.1
          subst hz
          rw [g1] at e1
          exact ⟨v, r', ou.2.2, by have := (List.cons.inj e1).2; exact this, e2⟩
        | n2 l v1 v2 => exact absurd ou.1 (by decide)
    · have bad : t[n + 1]? ≠ some 40 → ¬ Ex0 2 labels t := fun hn he => by
        obtain ⟨u, r', ou, e1, e2⟩ := gh he
        cases u with
        | e =>
          obtain ⟨z, hz, z1, z2⟩ := lec cl
          rw [g1] at e1
          have : c = 46 := by simpa [textS] using (List.cons.inj e1).1
          have : c = z := by simpa using hz
          omega
        | n1 l v => exact absurd ou.1 (by decide)
        | n2 l v1 v2 =>
          obtain ⟨z, hz, z1, z2⟩ := lec ou.2.1
          subst hz
          rw [g1] at e1
          have e6 := (List.cons.inj e1).2
          refine hn (at_drop (r := textS v1 ++ [44] ++ textS v2 ++ [41] ++ r') ?_)
          rw [e6]; simp
      refine ⟨_, rfl, p, _, rfl, hp3, rfl, w_take1 H.to_ShapeReader_take (by omega) hp3 ht 40 (by decide) (fun hc3 => ?_) (fun hn => hx (bad hn) _ K.sub) (fun hn => hx (bad hn) _ (subUps K.sub fp))⟩
      obtain ⟨m1, m2, m3⟩ := drop_at hc3
      refine hkk (n + 1 + 1, pf :: rs, ([c], none) :: fs) _ _ ⟨⟨_, _, rfl⟩, K.step m2, ?_, fun he => ?_⟩ (by show t.length - (n + 1 + 1) < t.length - n; omega)
      · show t.take (n + 1 + 1) = ctext 2 fs ++ ([c] ++ [40])
        rw [m3, g3, con]; simp
      · obtain ⟨u, r', ou, e1, e2⟩ := gh he
        cases u with
        | e =>
          obtain ⟨z, hz, z1, z2⟩ := lec cl
          rw [g1] at e1
          have : c = 46 := by simpa [textS] using (List.cons.inj e1).1
          have : c = z := by simpa using hz
          omega
        | n1 l v => exact absurd ou.1 (by decide)
        | n2 l v1 v2 =>
          obtain ⟨z, hz, z1, z2⟩ := lec ou.2.1
          subst hz
          rw [g1] at e1
          have e6 := (List.cons.inj e1).2
          rw [m1] at e6
          have e7 : t.drop (n + 1 + 1) = textS v1 ++ (44 :: (textS v2 ++ 41 :: r')) := by
            have := (List.cons.inj (show (40 :: t.drop (n + 1 + 1)) = 40 :: (textS v1 ++ (44 :: (textS v2 ++ 41 :: r'))) by rw [e6]; simp)).2
            exact this
          exact ⟨v1, _, ou.2.2.1, e7, v2, r', ou.2.2.2, rfl, e2⟩
  · refine if_f (e3.trans (decide_eq_false cl)) ?_
    refine ⟨_, rfl, okd_str' oc, okd_str' (by decide), ?_⟩
    have isE : Ex0 ways labels t → ∃ r', c = 46 ∧ t.drop (n + 1) = r' ∧ Fits ways labels fs r' := fun he => by
      obtain ⟨u, r', ou, e1, e2⟩ := gh he
      cases u with
      | e =>
        rw [g1] at e1
        exact ⟨r', (List.cons.inj e1).1, (List.cons.inj e1).2, e2⟩
      | n1 l v =>
        obtain ⟨z, hz, z1, z2⟩ := lec ou.2.1
        have hm := ou.2.1
        subst hz
        rw [g1] at e1
        have : c = z := (List.cons.inj e1).1
        rw [← this] at hm
        exact absurd hm cl
      | n2 l v1 v2 =>
        obtain ⟨z, hz, z1, z2⟩ := lec ou.2.1
        have hm := ou.2.1
        subst hz
        rw [g1] at e1
        have : c = z := (List.cons.inj e1).1
        rw [← this] at hm
        exact absurd hm cl
    by_cases c46 : c = 46
    · subst c46
      refine ⟨_, rfl, p, _, rfl, hp2, rfl, _, rfl, ?_⟩
      refine w_finish H.to_ShapeReader_finish hw ht hz (by omega) J (d := .e) trivial ?_ (fun he => ?_) (fun n' d' S' K od c3 g4 => ?_) (fun n' rs' fs' S' hne hle K c3 g4 => ?_) hx
      · show t.take (n + 1) = ctext ways fs ++ [46]
        rw [g3, con]
      · obtain ⟨r', _, e4, e5⟩ := isE he
        rw [e4]; exact e5
      · refine ⟨_, rfl, _, tru_lst K.ab, ?_⟩
        exact ⟨_, rfl, h n' d' S' K.rd K.sub K.le.2 od c3 g4⟩
      · refine ⟨_, rfl, _, tru_lst K.ab, ?_⟩
        have hl := K.fr.len
        cases rs' with
        | nil =>
          cases fs' with
          | nil => exact absurd rfl hne
          | cons => simp at hl
        | cons r rs' =>
          refine if_f (by simp) ?_
          refine hkk (n', r :: rs', fs') _ _ ⟨⟨_, _, rfl⟩, K, c3, g4⟩ ?_
          show t.length - n' < t.length - n
          have := K.le.2
          omega
    · have e4 : (!dEq (.str [c]) (.str [46])) = true := by simp [dEq, c46]
      refine if_t e4 ⟨by decide, hx (fun he => ?_) _ J.sub⟩
      obtain ⟨_, e5, _⟩ := isE he
      exact c46 e5
theorem w_read_shape (H : Up_read_shape P) (hw : ways = 1 ∨ ways = 2) (hkd : kindB ways labels = true) (hlab : ∀ l ∈ labels, letB l = true) (hlo : ∀ l ∈ labels, okS' l = true) (ht : okS' t = true) (hz : t.length ≤ 10000) (hk : 6 ≤ k) {S : Sto}
    (h : ∀ d, shOf ways labels d → textS d = t → q (encS d) S) (hx : ¬ Ex0 ways labels t → qx 1 .non S) : P.spec k 70 [.tup [.int ways, .tup (labels.map .str)], .str t] S q qx := by
  obtain ⟨k, rfl⟩ : ∃ j, k = j + 1 := ⟨k - 1, by omega⟩
  refine Pg.spec_fgt H.self rfl ?_
  refine ⟨_, rfl, w_check_kindG H.to_check_kind hlo (by omega) (fun _ => ?_) (fun e => by rw [hkd] at e; cases e)⟩
  refine ⟨_, rfl, _, rfl, fun p hp => ?_⟩
  obtain ⟨k, rfl⟩ : ∃ j, k = j + 1 := ⟨k - 1, by omega⟩
  show P.spec k 65 _ _ _ _
  refine w_rinit H.to_ShapeReader_init (by omega) ups_same ⟨rfl, ?_⟩
  rw [ups_ups]
  have sub0 : Sub S (ups S p (rdO ways labels t 0)) := subUps (Sub.refl S) hp
  refine ⟨_, rfl, p, _, rfl, ups_same, rfl, ?_⟩
  refine w_rshape (S0 := S) H.to_ShapeReader_shape hw hlab hlo ht hz (by omega) ups_same sub0 hp (fun n' d' S' hS' sub hn od con gh => ?_) (fun hn S' sub => ⟨S, sub, hx hn⟩)
  refine ⟨_, rfl, fld_ins hS' rfl ?_⟩
  refine ⟨_, rfl, _, rfl, ?_⟩
  refine if_c (fun c => ?_) (fun c => ?_)
  · have c := of_decide_eq_true c
    refine ⟨by decide, S, sub, hx fun he => ?_⟩
    have := congrArg List.length (gh he)
    rw [List.length_drop] at this
    have : t.length - n' = 0 := this
    omega
  · have c := of_decide_eq_false c
    refine ⟨_, rfl, S, sub, h d' od ?_⟩
    rw [← con, List.take_of_length_le (by omega)]
end
end U
/-! U22: parts of shapes, asked and put. -/
namespace U
open PySem DL
local macro_rules | `(tactic| and_intros) => `(tactic| repeat (first | refine ⟨_, rfl, ?_⟩ | refine ⟨rfl, ?_⟩))
theorem text_eq1 {labels : List Bs} (hl : ∀ l ∈ labels, letB l = true) : ∀ {s : Sh}, shOf 1 labels s → (textS s).length = size s + 1
  | .e, _ => rfl
  | .n1 l c, h => by
    obtain ⟨a, rfl, _⟩ := letB_one (hl l h.2.1)
    have := text_eq1 hl h.2.2
    simp [textS, size, this]
  | .n2 l a b, h => absurd h.1 (by decide)
theorem text_eq2 {labels : List Bs} (hl : ∀ l ∈ labels, letB l = true) : ∀ {s : Sh}, shOf 2 labels s → (textS s).length = 5 * size s + 1
  | .e, _ => rfl
  | .n1 l c, h => absurd h.1 (by decide)
  | .n2 l a b, h => by
    obtain ⟨c, rfl, _⟩ := letB_one (hl l h.2.1)
    have e1 := text_eq2 hl h.2.2.1
    have e2 := text_eq2 hl h.2.2.2
    simp [textS, size, e1, e2]; omega
section
variable {P : Pg} {q : QD} {qx : QX} {k : Nat} {S : Sto}
theorem w_psize (H : Up_size P) (s : Sh) (hk : 2 ≤ k) (hs : size s ≤ 1000) (h : q (.int (size s : Nat)) S) : P.spec k 61 [encS s] S q qx := by
  obtain ⟨k, rfl⟩ : ∃ j, k = j + 1 := ⟨k - 1, by omega⟩
  refine Pg.spec_succ H.self rfl ?_
  refine ⟨_, rfl, w_elements H.to_all_elements s _ (by omega) hs ?_⟩
  refine ⟨_, rfl, ?_⟩
  rw [List.length_map, elems_len]
  exact h
abbrev bits01 (p : List Int) : Prop := ∀ x ∈ p, x = 0 ∨ x = 1
theorem w_ppart (H : Up_part P) (s : Sh) (p : List Int) (hp : bits01 p) (hk : 1 ≤ k) (h : ∀ t, sub s p = some t → t ≠ .e → q (encS t) S) (hx : (∀ t, sub s p = some t → t = .e) → qx 4 .non S) : P.spec k 62 [encS s, itD p] S q qx := by
  obtain ⟨k, rfl⟩ : ∃ j, k = j + 1 := ⟨k - 1, by omega⟩
  refine Pg.spec_succ H.self rfl ?_
  refine ⟨_, rfl, ?_⟩
  refine ⟨_, rfl, ?_⟩
  refine forL_ind (e := D.int) (fun r ρ S' => S' = S ∧ ∃ (u : Sh) (x : Option D), ρ = [some (encS s), some (itD p), some (encS u), x] ∧ sub s p = sub u r ∧ bits01 r) p _ _ ⟨rfl, s, none, rfl, rfl, hp⟩ ?_ ?_
  · rintro x r ρ S' ⟨rfl, u, y, rfl, e, hb⟩ kk hh
    have hb2 : bits01 r := fun z hz => hb z (List.mem_cons_of_mem _ hz)
    cases u with
    | e =>
      refine ⟨_, rfl, _, rfl, by decide, hx fun t ht => ?_⟩
      rw [e, sub_e] at ht; cases ht
    | n1 l c =>
      rcases hb x List.mem_cons_self with rfl | rfl
      · refine ⟨_, rfl, _, rfl, _, rfl, _, rfl, _, rfl, _, rfl, _, rfl, _, rfl, _, rfl, ?_⟩
        exact hh _ _ ⟨rfl, c, _, rfl, e, hb2⟩
      · refine ⟨_, rfl, _, rfl, _, rfl, _, rfl, _, rfl, by decide, hx fun t ht => ?_⟩
        rw [e] at ht
        have := (sub_n1 ht).1
        cases this
    | n2 l a b =>
      rcases hb x List.mem_cons_self with rfl | rfl
      · refine ⟨_, rfl, _, rfl, _, rfl, _, rfl, _, rfl, _, rfl, _, rfl, _, rfl, _, rfl, ?_⟩
        exact hh _ _ ⟨rfl, a, _, rfl, e, hb2⟩
      · refine ⟨_, rfl, _, rfl, _, rfl, _, rfl, _, rfl, _, rfl, _, rfl, _, rfl, _, rfl, ?_⟩
        exact hh _ _ ⟨rfl, b, _, rfl, e, hb2⟩
  · rintro ρ S' ⟨rfl, u, y, rfl, e, hb⟩
    rw [sub_nil] at e
    cases u with
    | e => exact ⟨_, rfl, _, rfl, by decide, hx fun t ht => by rw [e] at ht; exact (Option.some.inj ht).symm⟩
    | n1 l c => exact ⟨_, rfl, _, rfl, _, rfl, h _ e (by simp)⟩
    | n2 l a b => exact ⟨_, rfl, _, rfl, _, rfl, h _ e (by simp)⟩
/-- another part put in -/
def repl : Sh → List Int → Sh → Sh
  | _, [], v => v
  | .n1 l c, 0 :: r, v => .n1 l (repl c r v)
  | .n2 l a b, 0 :: r, v => .n2 l (repl a r v) b
  | .n2 l a b, 1 :: r, v => .n2 l a (repl b r v)
  | s, _, _ => s
theorem repl_nil (s v : Sh) : repl s [] v = v := by cases s <;> rfl
abbrev chD (x : Sh × Int) : D := .tup [encS x.1, .int x.2]
def stepOk (x : Sh × Int) : Prop := (∃ l c, x = (.n1 l c, 0)) ∨ (∃ l a b, x = (.n2 l a b, 0)) ∨ ∃ l a b, x = (.n2 l a b, 1)
theorem w_pwith (H : Up_with_part P) (s v : Sh) (p : List Int) (hp : bits01 p) (h40 : p.length ≤ 1000) (hk : 1 ≤ k) (h : (sub s p).isSome = true → q (encS (repl s p v)) S) (hx : sub s p = none → qx 4 .non S) : P.spec k 63 [encS s, itD p, encS v] S q qx := by
  obtain ⟨k, rfl⟩ : ∃ j, k = j + 1 := ⟨k - 1, by omega⟩
  refine Pg.spec_fgt H.self rfl ?_
  intro pa hpa
  refine ⟨_, rfl, ?_⟩
  refine ⟨_, rfl, ?_⟩
  refine forL_ind (e := D.int) (fun r ρ S' => ∃ (u : Sh) (x : Option D) (ch : List (Sh × Int)), ρ = [some (encS s), some (itD p), some (encS v), some (.ref pa), some (encS u), x, none, none] ∧ sub s p = sub u r ∧ bits01 r ∧ S' pa = some (.lst (ch.map chD)) ∧ DL.Sub S S' ∧ (∀ z ∈ ch, stepOk z) ∧ ch.length + r.length ≤ 1000 ∧
    repl s p v = ch.foldr (fun z w => repl z.1 [z.2] w) (repl u r v)) p _ _ ⟨s, none, [], rfl, rfl, hp, ups_same, subUps (Sub.refl S) hpa, by simp, by simp; omega, rfl⟩ ?_ ?_
  · rintro x r ρ S' ⟨u, y, ch, rfl, e, hb, hch, hs, hok, hl, hr⟩ kk hh
    have hb2 : bits01 r := fun z hz => hb z (List.mem_cons_of_mem _ hz)
    rw [List.length_cons] at hl
    have hz : (ch.map chD).length < SZ := by rw [List.length_map]; show _ < 16777216; omega
    have go : ∀ (c : Sh) (y : Option D), stepOk (u, x) → sub u (x :: r) = sub c r → repl u (x :: r) v = repl u [x] (repl c r v) → kk [some (encS s), some (itD p), some (encS v), some (.ref pa), some (encS c), y, none, none] (DL.ups S' pa (.lst (ch.map chD ++ [chD (u, x)]))) := by
      intro c y so e1 e2
      refine hh _ _ ⟨c, y, ch ++ [(u, x)], rfl, e.trans e1, hb2, by rw [ups_same, List.map_append]; rfl, subUps hs hpa, fun z hz => ?_, by rw [List.length_append, List.length_singleton]; omega, ?_⟩
      · rcases List.mem_append.mp hz with hz | hz
        · exact hok z hz
        · rw [List.mem_singleton.mp hz]; exact so
      · rw [hr, List.foldr_append, e2]; rfl
    cases u with
    | e =>
      refine ⟨_, rfl, _, rfl, by decide, S, hs, hx ?_⟩
      rw [e, sub_e]
    | n1 l c =>
      rcases hb x List.mem_cons_self with rfl | rfl
      · refine ⟨_, rfl, _, rfl, _, rfl, _, rfl, _, rfl, _, rfl, ?_⟩
        refine ⟨_, rfl, _, rfl, ⟨_, hch⟩, _, rfl, _, rfl, _, hch, hz, ?_⟩
        refine ⟨_, rfl, _, rfl, _, rfl, ?_⟩
        exact go c _ (.inl ⟨l, c, rfl⟩) rfl (by simp [repl, repl_nil])
      · refine ⟨_, rfl, _, rfl, _, rfl, _, rfl, _, rfl, by decide, S, hs, hx ?_⟩
        rw [e]; simp [sub]
    | n2 l a b =>
      rcases hb x List.mem_cons_self with rfl | rfl
      · refine ⟨_, rfl, _, rfl, _, rfl, _, rfl, _, rfl, _, rfl, ?_⟩
        refine ⟨_, rfl, _, rfl, ⟨_, hch⟩, _, rfl, _, rfl, _, hch, hz, ?_⟩
        refine ⟨_, rfl, _, rfl, _, rfl, ?_⟩
        exact go a _ (.inr (.inl ⟨l, a, b, rfl⟩)) rfl (by simp [repl, repl_nil])
      · refine ⟨_, rfl, _, rfl, _, rfl, _, rfl, _, rfl, _, rfl, ?_⟩
        refine ⟨_, rfl, _, rfl, ⟨_, hch⟩, _, rfl, _, rfl, _, hch, hz, ?_⟩
        refine ⟨_, rfl, _, rfl, _, rfl, ?_⟩
        exact go b _ (.inr (.inr ⟨l, a, b, rfl⟩)) rfl (by simp [repl, repl_nil])
  · rintro ρ S' ⟨u, y, ch, rfl, e, hb, hch, hs, hok, hl, hr⟩
    rw [repl_nil] at hr
    have hsome : (sub s p).isSome = true := by rw [e, sub_nil]; rfl
    refine ⟨_, rfl, ?_⟩
    refine ⟨_, rfl, _, vw_lst hch, fun t => ne_tupr, ?_⟩
    rw [← List.map_reverse]
    refine forL_ind (e := chD) (fun r ρ S'' => S'' = S' ∧ ∃ (w : Sh) (a b : Option D), ρ = [some (encS s), some (itD p), some (encS v), some (.ref pa), some (encS u), a, some (encS w), b] ∧ (∀ z ∈ r, stepOk z) ∧ repl s p v = r.foldl (fun w z => repl z.1 [z.2] w) w) ch.reverse _ _ ⟨rfl, v, y, none, rfl, fun z hz => hok z (List.mem_reverse.mp hz), by rw [hr, List.foldr_eq_foldl_reverse]⟩ ?_ ?_
    · rintro z r ρ S'' ⟨rfl, w, a, b, rfl, hok2, hr2⟩ kk hh
      have hok3 : ∀ z ∈ r, stepOk z := fun z hz => hok2 z (List.mem_cons_of_mem _ hz)
      rw [List.foldl_cons] at hr2
      rcases hok2 z List.mem_cons_self with ⟨l, c, rfl⟩ | ⟨l, c1, c2, rfl⟩ | ⟨l, c1, c2, rfl⟩
      · refine ⟨_, rfl, _, rfl, _, rfl, ⟨by show (2 : Nat) ≤ 16777216; decide, ?_⟩⟩
        refine ⟨_, rfl, _, rfl, ⟨by show (2 : Nat) ≤ 16777216; decide, ?_⟩⟩
        exact hh _ _ ⟨rfl, .n1 l w, _, _, rfl, hok3, by rw [hr2]; simp [repl]⟩
      · refine ⟨_, rfl, _, rfl, _, rfl, ⟨by show (2 : Nat) ≤ 16777216; decide, ?_⟩⟩
        refine ⟨_, rfl, _, rfl, ⟨by show (3 : Nat) ≤ 16777216; decide, ?_⟩⟩
        exact hh _ _ ⟨rfl, .n2 l w c2, _, _, rfl, hok3, by rw [hr2]; simp [repl]⟩
      · refine ⟨_, rfl, _, rfl, _, rfl, ⟨by show (3 : Nat) ≤ 16777216; decide, ?_⟩⟩
        refine ⟨_, rfl, _, rfl, ⟨by show (3 : Nat) ≤ 16777216; decide, ?_⟩⟩
        exact hh _ _ ⟨rfl, .n2 l c1 w, _, _, rfl, hok3, by rw [hr2]; simp [repl]⟩
    · rintro ρ S'' ⟨rfl, w, a, b, rfl, _, hr2⟩
      refine ⟨_, rfl, S, hs, ?_⟩
      have := h hsome
      rw [hr2] at this
      exact this
theorem w_lwith (H : Up__law_with P) (v : Sh) : ∀ (p : List Int) (s : Sh) (k : Nat) (S : Sto) (q : QD) (qx : QX), bits01 p → (sub s p).isSome = true → p.length ≤ 50 → p.length + 1 ≤ k → q (encS (repl s p v)) S → P.spec k 75 [encS s, itD p, encS v] S q qx
  | p, s, 0, _, _, _, _, _, _, hk, _ => by omega
  | [], s, k + 1, S, q, qx, _, _, _, hk, h => by
    refine Pg.spec_succ H.self rfl ?_
    rw [repl_nil] at h
    exact ⟨_, rfl, rfl, rfl, _, rfl, h⟩
  | x :: p, s, k + 1, S, q, qx, hb, hs, h50, hk, h => by
    refine Pg.spec_succ H.self rfl ?_
    have hb2 : bits01 p := fun z hz => hb z (List.mem_cons_of_mem _ hz)
    rw [List.length_cons] at h50 hk
    refine ⟨_, rfl, okd_it (x :: p), rfl, ?_⟩
    refine ⟨_, rfl, _, rfl, ?_⟩
    have cutp : cutD ((x :: p).map D.int) (some 1) none = p.map D.int := by
      rw [cut_tail _ 1 1 rfl]; rfl
    cases s with
    | e => rw [sub_e] at hs; cases hs
    | n1 l c =>
      rcases hb x List.mem_cons_self with rfl | rfl
      · refine ⟨_, rfl, _, rfl, _, rfl, _, rfl, _, rfl, _, rfl, _, rfl, ?_⟩
        show P.spec k 75 [encS c, .tup (cutD ((0 :: p).map D.int) (some 1) none), encS v] S _ _
        rw [cutp]
        refine w_lwith H v p c k _ _ _ hb2 hs (by omega) (by omega) ?_
        refine ⟨by show (2 : Nat) ≤ 16777216; decide, ?_⟩
        refine ⟨_, rfl, _, rfl, ⟨by show (2 : Nat) ≤ 16777216; decide, ?_⟩⟩
        exact h
      · have : sub (.n1 l c) (1 :: p) = none := by simp [sub]
        rw [this] at hs; cases hs
    | n2 l a b =>
      rcases hb x List.mem_cons_self with rfl | rfl
      · refine ⟨_, rfl, _, rfl, _, rfl, _, rfl, _, rfl, _, rfl, _, rfl, ?_⟩
        show P.spec k 75 [encS a, .tup (cutD ((0 :: p).map D.int) (some 1) none), encS v] S _ _
        rw [cutp]
        refine w_lwith H v p a k _ _ _ hb2 hs (by omega) (by omega) ?_
        refine ⟨by show (2 : Nat) ≤ 16777216; decide, ?_⟩
        refine ⟨_, rfl, _, rfl, ⟨by show (3 : Nat) ≤ 16777216; decide, ?_⟩⟩
        exact h
      · refine ⟨_, rfl, _, rfl, _, rfl, _, rfl, _, rfl, _, rfl, _, rfl, ?_⟩
        show P.spec k 75 [encS b, .tup (cutD ((1 :: p).map D.int) (some 1) none), encS v] S _ _
        rw [show cutD ((1 :: p).map D.int) (some 1) none = p.map D.int by rw [cut_tail _ 1 1 rfl]; rfl]
        refine w_lwith H v p b k _ _ _ hb2 hs (by omega) (by omega) ?_
        refine ⟨by show (3 : Nat) ≤ 16777216; decide, ?_⟩
        refine ⟨_, rfl, _, rfl, ⟨by show (3 : Nat) ≤ 16777216; decide, ?_⟩⟩
        exact h
end
end U
/-! U23: what is a shape; the law's tries. -/
namespace U
open PySem DL
local macro_rules | `(tactic| and_intros) => `(tactic| repeat (first | refine ⟨_, rfl, ?_⟩ | refine ⟨rfl, ?_⟩))
def isLab (labels : List Bs) : D → Bool
  | .str l => decide (l ∈ labels)
  | _ => false
def isSh (ways : Nat) (labels : List Bs) : Nat → D → Bool
  | _, .tup [] => true
  | n + 1, .tup (x :: xs) => decide (xs.length = ways) && isLab labels x && xs.all (isSh ways labels n)
  | _, _ => false
theorem isSh_fuel {ways : Nat} {labels : List Bs} : ∀ (m n : Nat) (d : D), m ≤ n → okd m d = true → isSh ways labels n d = isSh ways labels m d
  | m, n, .tup [], _, _ => by cases n <;> cases m <;> rfl
  | 0, n, .tup (x :: xs), _, h => by cases h
  | m + 1, 0, _, h, _ => by omega
  | m + 1, n + 1, .tup (x :: xs), hl, h => by
    have h : (x :: xs).all (okd m) = true := h
    rw [List.all_cons, Bool.and_eq_true] at h
    have e : xs.all (isSh ways labels n) = xs.all (isSh ways labels m) := by
      refine Bool.eq_iff_iff.mpr ?_
      rw [List.all_eq_true, List.all_eq_true]
      constructor
      · intro g y hy; rw [← isSh_fuel m n y (by omega) (List.all_eq_true.mp h.2 y hy)]; exact g y hy
      · intro g y hy; rw [isSh_fuel m n y (by omega) (List.all_eq_true.mp h.2 y hy)]; exact g y hy
    show (decide (xs.length = ways) && isLab labels x && xs.all (isSh ways labels n)) = (decide (xs.length = ways) && isLab labels x && xs.all (isSh ways labels m))
    rw [e]
  | m, n, .non, _, _ => by cases n <;> cases m <;> rfl
  | m, n, .bl _, _, _ => by cases n <;> cases m <;> rfl
  | m, n, .int _, _, _ => by cases n <;> cases m <;> rfl
  | m, n, .str _, _, _ => by cases n <;> cases m <;> rfl
  | m, n, .lst _, _, _ => by cases n <;> cases m <;> rfl
  | m, n, .dct _, _, _ => by cases n <;> cases m <;> rfl
  | m, n, .ref _, _, _ => by cases n <;> cases m <;> rfl
  | m, n, .scr _, _, _ => by cases n <;> cases m <;> rfl
theorem isSh_enc {ways : Nat} {labels : List Bs} : ∀ (s : Sh) (n : Nat), shOf (ways : Int) labels s → size s + 1 ≤ n → isSh ways labels n (encS s) = true
  | .e, n, _, _ => by cases n <;> rfl
  | .n1 l c, n + 1, ⟨h1, h2, h3⟩, h => by
    have e := isSh_enc c n h3 (by unfold size at h; omega)
    have : ways = 1 := by omega
    show (decide ([encS c].length = ways) && decide (l ∈ labels) && [encS c].all (isSh ways labels n)) = true
    subst this
    simp [e, h2]
  | .n2 l a b, n + 1, ⟨h1, h2, h3, h4⟩, h => by
    have e1 := isSh_enc a n h3 (by unfold size at h; omega)
    have e2 := isSh_enc b n h4 (by unfold size at h; omega)
    have : ways = 2 := by omega
    show (decide ([encS a, encS b].length = ways) && decide (l ∈ labels) && [encS a, encS b].all (isSh ways labels n)) = true
    subst this
    simp [e1, e2, h2]
theorem lab_in (labels : List Bs) (x : D) (hx : ∀ l, x ≠ .str l) : ((labels.map D.str).any fun z => dEq z x) = false := by
  rw [List.any_eq_false]
  intro z hz
  obtain ⟨l, _, rfl⟩ := List.mem_map.mp hz
  cases x with
  | str l => exact absurd rfl (hx l)
  | _ => simp [dEq]
theorem lab_in2 (labels : List Bs) (l : Bs) : ((labels.map D.str).any fun z => dEq z (.str l)) = decide (l ∈ labels) := by
  induction labels with
  | nil => simp
  | cons a r ih =>
    rw [List.map_cons, List.any_cons, ih]
    show ((a == l) || decide (l ∈ r)) = _
    by_cases e : a = l
    · simp [e]
    · have e2 : ¬ l = a := fun h => e h.symm
      simp [e, e2]
theorem lab_any (labels : List Bs) (x : D) : ((labels.map D.str).any fun z => dEq z x) = isLab labels x := by
  cases x with
  | str l => exact lab_in2 labels l
  | _ => exact lab_in labels _ (fun l e => by cases e)
section
variable {P : Pg} {q : QD} {qx : QX} {k : Nat} {S : Sto}
theorem w_lis (H : Up__law_is P) {ways : Nat} {labels : List Bs} (hlo : ∀ l ∈ labels, okS' l = true) : ∀ (n : Nat) (d : D) (k : Nat) (S : Sto) (q : QD) (qx : QX), n ≤ 58 → okd n d = true → n + 1 ≤ k → q (.bl (isSh ways labels n d)) S → P.spec k 77 [.tup [.int ways, .tup (labels.map .str)], d] S q qx
  | n, d, 0, _, _, _, _, _, hk, _ => by omega
  | n, d, k + 1, S, q, qx, hn, hd, hk, h => by
    refine Pg.spec_succ H.self rfl ?_
    refine ⟨_, rfl, okd_mono (by omega) hd, rfl, ?_⟩
    cases d with
    | dct => cases n <;> cases hd
    | ref => cases n <;> cases hd
    | scr => cases n <;> cases hd
    | tup xs =>
      cases xs with
      | nil => cases n <;> exact h
      | cons x xs =>
        cases n with
        | zero => cases hd
        | succ n =>
          have hd2 : (x :: xs).all (okd n) = true := hd
          rw [List.all_cons, Bool.and_eq_true] at hd2
          have h : q (.bl (decide (xs.length = ways) && isLab labels x && xs.all (isSh ways labels n))) S := h
          refine ⟨_, rfl, _, rfl, _, rfl, ?_⟩
          refine ⟨_, rfl, _, rfl, _, rfl, _, rfl, okd_int, okd_int, ?_⟩
          have e1 : dEq (.int ((x :: xs).length : Nat)) (.int ((ways : Int) + 1)) = decide (xs.length = ways) := by
            show ((((x :: xs).length : Nat) : Int) == (ways : Int) + 1) = _
            by_cases c : xs.length = ways
            · rw [decide_eq_true c, ← c]; exact beq_iff_eq.mpr (by simp)
            · rw [decide_eq_false c]; exact beq_eq_false_iff_ne.mpr (by rw [List.length_cons]; omega)
          by_cases c : xs.length = ways
          · rw [decide_eq_true c, Bool.true_and] at h
            refine if_nt (by rw [e1, decide_eq_true c]; rfl) ?_
            refine ⟨_, rfl, _, rfl, _, rfl, _, rfl, okd_mono (n := 60) (by omega) hd2.1, okd_labs hlo, ?_⟩
            have e2 : (!((labels.map D.str).any fun z => dEq z x)) = !isLab labels x := by rw [lab_any]
            cases c2 : isLab labels x with
            | false =>
              rw [c2] at h
              exact if_t (e2.trans (by rw [c2]; rfl)) h
            | true =>
              rw [c2, Bool.true_and] at h
              refine if_f (e2.trans (by rw [c2]; rfl)) ?_
              refine ⟨_, rfl, ?_⟩
              have ec : cutD (x :: xs) (some 1) none = xs := by rw [cut_tail _ 1 1 rfl]; rfl
              show loopL _ (cutD (x :: xs) (some 1) none) _ _
              rw [ec, ← List.map_id xs]
              refine loopL_filter (e := id) (fun y => !isSh ways labels n y) id xs _ _ (fun y hy kk hkk => ?_) ?_
              · refine ⟨_, rfl, _, rfl, w_lis H hlo n y k S _ _ (by omega) (List.all_eq_true.mp hd2.2 y hy) (by omega) ?_⟩
                refine ⟨_, rfl, ?_⟩
                refine if_c (fun c3 => ?_) (fun c3 => ?_)
                · rw [if_pos c3] at hkk; exact ⟨_, rfl, hkk⟩
                · rw [if_neg (by rw [c3]; exact Bool.false_ne_true)] at hkk; exact hkk
              · simp only [List.map_id]
                refine ⟨List.all_eq_true.mpr fun y hy => okd_mono (n := 59) (by omega) (List.all_eq_true.mp hd2.2 y (List.mem_filter.mp hy).1), rfl, ?_⟩
                rw [filt_ne]; exact h
          · rw [decide_eq_false c] at h
            exact if_nf (by rw [e1, decide_eq_false c]; rfl) (if_t (by rw [e1, decide_eq_false c]; rfl) h)
    | non => cases n <;> exact ⟨_, rfl, _, rfl, _, rfl, h⟩
    | bl b => cases n <;> exact ⟨_, rfl, _, rfl, _, rfl, h⟩
    | int i => cases n <;> exact ⟨_, rfl, _, rfl, _, rfl, h⟩
    | str s => cases n <;> exact ⟨_, rfl, _, rfl, _, rfl, h⟩
    | lst s => cases n <;> exact ⟨_, rfl, _, rfl, _, rfl, h⟩
theorem sz_list : ∀ xs : List D, (xs.map sizeOf).sum ≤ sizeOf xs
  | [] => by simp
  | x :: xs => by
    have := sz_list xs
    rw [List.map_cons, List.sum_cons, List.cons.sizeOf_spec]; omega
theorem szd (d : D) : [d].length ≤ ([d].map sizeOf).sum := by
  have : 1 ≤ sizeOf d := by cases d <;> simp <;> omega
  simpa using this
theorem w_is_shape (H : Up_is_shape P) {ways : Nat} {labels : List Bs} (hw : ways = 1 ∨ ways = 2) (hkd : kindB ways labels = true) (hlo : ∀ l ∈ labels, okS' l = true) (n : Nat) (d : D) (hn : n ≤ 58) (hd : okd n d = true) (hz : sizeOf d ≤ 10000000) (hk : 2 ≤ k) (h : q (.bl (isSh ways labels n d)) S) : P.spec k 60 [.tup [.int ways, .tup (labels.map .str)], d] S q qx := by
  obtain ⟨k, rfl⟩ : ∃ j, k = j + 1 := ⟨k - 1, by omega⟩
  refine Pg.spec_fgt H.self rfl ?_
  refine ⟨_, rfl, w_check_kindG H.to_check_kind hlo (by omega) (fun _ => ?_) (fun e => by rw [hkd] at e; cases e)⟩
  refine ⟨_, rfl, ?_⟩
  refine ⟨_, rfl, fun pw hpw => ?_⟩
  refine while_ind (fun (w : List D) ρ S' => (∃ x, ρ = [some (.tup [.int ways, .tup (labels.map .str)]), some d, some (.ref pw), some (.int ways), some (.tup (labels.map .str)), x]) ∧ S' pw = some (.lst w) ∧ DL.Sub S S' ∧ (∀ y ∈ w, okd n y = true) ∧ isSh ways labels n d = w.all (isSh ways labels n) ∧ (w.map sizeOf).sum ≤ 10000000 ∧ w.length ≤ (w.map sizeOf).sum) (fun w => (w.map sizeOf).sum) ?_ (a := [d]) ⟨⟨none, rfl⟩, ups_same, subUps (Sub.refl S) hpw, by simpa using hd, by simp, by simpa using hz, szd d⟩
  rintro w ρ S1 ⟨⟨x, rfl⟩, hw1, sb, hok, hv, hsz, hln⟩ kk hkk
  refine ⟨_, rfl, _, tru_lst hw1, ?_⟩
  rcases List.eq_nil_or_concat w with rfl | ⟨w, y, rfl⟩
  · exact ⟨S, sb, by rw [hv] at h; exact h⟩
  · rw [List.concat_eq_append] at *
    refine if_t (by simp) ?_
    refine ⟨_, rfl, popl_lst hw1 ?_⟩
    have hy := hok y (by simp)
    have hw2 : ∀ y ∈ w, okd n y = true := fun z hz => hok z (by simp [hz])
    have e2 : ups S1 pw (.lst w) pw = some (.lst w) := ups_same
    have s2 : DL.Sub S (ups S1 pw (.lst w)) := subUps sb hpw
    rw [List.all_append, List.all_cons, List.all_nil, Bool.and_true] at hv
    rw [List.map_append, List.sum_append, List.map_singleton, List.sum_singleton] at hsz hln
    have hsy : 1 ≤ sizeOf y := by cases y <;> simp <;> omega
    have wlen : ∀ w : List D, w.length ≤ (w.map sizeOf).sum := fun w => by
      induction w with
      | nil => simp
      | cons a r ih =>
        have : 1 ≤ sizeOf a := by cases a <;> simp <;> omega
        rw [List.map_cons, List.sum_cons, List.length_cons]; omega
    have bad : isSh ways labels n y = false → q (.bl false) S := fun e => by
      rw [hv, e, Bool.and_false] at h; exact h
    cases y with
    | dct => cases n <;> cases hy
    | ref => cases n <;> cases hy
    | scr => cases n <;> cases hy
    | tup xs =>
      refine ⟨_, rfl, _, rfl, _, rfl, ?_⟩
      cases xs with
      | nil =>
        refine ⟨_, rfl, _, rfl, rfl, rfl, ?_⟩
        refine hkk w _ _ ⟨⟨_, rfl⟩, e2, s2, hw2, by rw [hv, show isSh ways labels n (.tup []) = true by cases n <;> rfl, Bool.and_true], by omega, wlen w⟩ ?_
        rw [List.map_append, List.sum_append, List.map_singleton, List.sum_singleton]; omega
      | cons x xs =>
        cases n with
        | zero => cases hy
        | succ n =>
          have hd2 : (x :: xs).all (okd n) = true := hy
          rw [List.all_cons, Bool.and_eq_true] at hd2
          have ev : isSh ways labels (n + 1) (.tup (x :: xs)) = (decide (xs.length = ways) && isLab labels x && xs.all (isSh ways labels n)) := rfl
          rw [ev] at bad hv
          refine ⟨_, rfl, _, rfl, rfl, rfl, ?_⟩
          refine ⟨_, rfl, _, rfl, _, rfl, okd_int, okd_int, ?_⟩
          have e1 : dEq (.int ((x :: xs).length : Nat)) (.int ((ways : Int) + 1)) = decide (xs.length = ways) := by
            show ((((x :: xs).length : Nat) : Int) == (ways : Int) + 1) = _
            by_cases c : xs.length = ways
            · rw [decide_eq_true c, ← c]; exact beq_iff_eq.mpr (by simp)
            · rw [decide_eq_false c]; exact beq_eq_false_iff_ne.mpr (by rw [List.length_cons]; omega)
          by_cases c : xs.length = ways
          · rw [decide_eq_true c, Bool.true_and] at bad hv
            refine if_nt (by rw [e1, decide_eq_true c]; rfl) ?_
            obtain ⟨tk, htk⟩ := tk_okd (S := ups S1 pw (.lst w)) hd2.1
            refine ⟨_, rfl, _, rfl, tk, htk, _, rfl, ?_⟩
            by_cases cs : ∃ l, x = .str l
            · obtain ⟨l, rfl⟩ := cs
              cases htk
              refine ⟨_, rfl, _, rfl, _, rfl, okd_mono (n := 60) (by omega) hd2.1, okd_labs hlo, ?_⟩
              have e3 : (!((labels.map D.str).any fun z => dEq z (.str l))) = !isLab labels (.str l) := by rw [lab_any]
              cases c2 : isLab labels (.str l) with
              | false =>
                rw [c2] at bad
                exact if_t (e3.trans (by rw [c2]; rfl)) ⟨S, s2, bad rfl⟩
              | true =>
                rw [c2, Bool.true_and] at hv
                refine if_f (e3.trans (by rw [c2]; rfl)) ?_
                refine ⟨_, rfl, _, rfl, ⟨_, e2⟩, _, rfl, _, rfl, _, e2, ?_, ?_⟩
                · have ec : (cutD (D.str l :: xs) (some 1) none) = xs := by rw [cut_tail _ 1 1 rfl]; rfl
                  show w.length + (cutD (D.str l :: xs) (some 1) none).length ≤ 16777216
                  rw [ec]
                  have : xs.length ≤ 2 := by omega
                  have := wlen w
                  omega
                · have ec : (cutD (D.str l :: xs) (some 1) none) = xs := by rw [cut_tail _ 1 1 rfl]; rfl
                  show kk _ (ups (ups S1 pw (.lst w)) pw (.lst (w ++ cutD (D.str l :: xs) (some 1) none)))
                  rw [ec]
                  have hs2 := sz_list xs
                  have hs3 : sizeOf (D.tup (D.str l :: xs)) = 1 + (1 + sizeOf (D.str l) + sizeOf xs) := by simp
                  refine hkk (w ++ xs) _ _ ⟨⟨_, rfl⟩, ups_same, subUps s2 hpw, fun z hz => ?_, ?_, ?_, wlen _⟩ ?_
                  · rcases List.mem_append.mp hz with hz | hz
                    · exact hw2 z hz
                    · exact okd_mono (by omega) (List.all_eq_true.mp hd2.2 z hz)
                  · rw [hv, List.all_append]
                    congr 1
                    refine Bool.eq_iff_iff.mpr ?_
                    rw [List.all_eq_true, List.all_eq_true]
                    constructor
                    · intro g y hy; rw [isSh_fuel n (n + 1) y (by omega) (List.all_eq_true.mp hd2.2 y hy)]; exact g y hy
                    · intro g y hy; rw [← isSh_fuel n (n + 1) y (by omega) (List.all_eq_true.mp hd2.2 y hy)]; exact g y hy
                  · rw [List.map_append, List.sum_append]; omega
                  · rw [List.map_append, List.sum_append, List.map_append, List.sum_append, List.map_singleton, List.sum_singleton]; omega
            · have e4 : isK .str tk = false := by
                cases x with
                | str l => exact absurd ⟨l, rfl⟩ cs
                | dct => cases n <;> cases hd2.1
                | ref => cases n <;> cases hd2.1
                | scr => cases n <;> cases hd2.1
                | _ => cases htk; rfl
              have e5 : isLab labels x = false := by
                cases x with
                | str l => exact absurd ⟨l, rfl⟩ cs
                | _ => rfl
              rw [e5] at bad
              refine if_nf (by rw [e4]; rfl) (if_t (by rw [e4]; rfl) ⟨S, s2, bad rfl⟩)
          · rw [decide_eq_false c] at bad
            exact if_nf (by rw [e1, decide_eq_false c]; rfl) (if_t (by rw [e1, decide_eq_false c]; rfl) ⟨S, s2, bad rfl⟩)
    | non => exact ⟨_, rfl, _, rfl, _, rfl, S, s2, bad (by cases n <;> rfl)⟩
    | bl b => exact ⟨_, rfl, _, rfl, _, rfl, S, s2, bad (by cases n <;> rfl)⟩
    | int i => exact ⟨_, rfl, _, rfl, _, rfl, S, s2, bad (by cases n <;> rfl)⟩
    | str s => exact ⟨_, rfl, _, rfl, _, rfl, S, s2, bad (by cases n <;> rfl)⟩
    | lst s => exact ⟨_, rfl, _, rfl, _, rfl, S, s2, bad (by cases n <;> rfl)⟩
end
end U
/-! U24: the law's tries of k01. -/
namespace U
open PySem DL
local macro_rules | `(tactic| and_intros) => `(tactic| repeat (first | refine ⟨_, rfl, ?_⟩ | refine ⟨rfl, ?_⟩))
abbrev noneD : D := .str [110, 111, 110, 101]
section
variable {P : Pg} {q : QD} {qx : QX} {k : Nat} {S : Sto}
theorem w_kind_right (H : Up__law_kind_right P) {w : Int} {labs : List Bs} (hlo : ∀ l ∈ labs, okS' l = true) (hk : 2 ≤ k) (h : q (.bl (kindB w labs)) S) : P.spec k 78 [.tup [.int w, .tup (labs.map .str)]] S q qx := by
  obtain ⟨k, rfl⟩ : ∃ j, k = j + 1 := ⟨k - 1, by omega⟩
  refine Pg.spec_succ H.self rfl ?_
  refine ⟨_, rfl, w_check_kindG H.to_check_kind hlo (by omega) (fun e => ?_) (fun e => ⟨by decide, ?_⟩)⟩
  · rw [e] at h; exact h
  · rw [e] at h; exact h
theorem w_lread (H : Up__law_read P) {ways : Int} {labels : List Bs} {t : Bs} (hw : ways = 1 ∨ ways = 2) (hkd : kindB ways labels = true) (hlab : ∀ l ∈ labels, letB l = true) (hlo : ∀ l ∈ labels, okS' l = true) (ht : okS' t = true) (hz : t.length ≤ 10000) (hk : 7 ≤ k)
    (h : ∀ d, shOf ways labels d → textS d = t → q (encS d) S) (hx : ¬ Ex0 ways labels t → q noneD S) : P.spec k 72 [.tup [.int ways, .tup (labels.map .str)], .str t] S q qx := by
  obtain ⟨k, rfl⟩ : ∃ j, k = j + 1 := ⟨k - 1, by omega⟩
  refine Pg.spec_succ H.self rfl ?_
  refine ⟨_, rfl, _, rfl, w_read_shape H.to_read_shape hw hkd hlab hlo ht hz (by omega) (fun d od e => h d od e) (fun hn => ⟨by decide, ?_⟩)⟩
  exact ⟨rfl, hx hn⟩
theorem w_try_part (H : Up__law_try_part P) (s : Sh) (p : List Int) (hp : bits01 p) (hk : 2 ≤ k) (h : ∀ t, sub s p = some t → t ≠ .e → q (encS t) S) (hx : (∀ t, sub s p = some t → t = .e) → q noneD S) : P.spec k 73 [encS s, itD p] S q qx := by
  obtain ⟨k, rfl⟩ : ∃ j, k = j + 1 := ⟨k - 1, by omega⟩
  refine Pg.spec_succ H.self rfl ?_
  refine ⟨_, rfl, _, rfl, w_ppart H.to_part s p hp (by omega) h fun hn => ⟨by decide, ?_⟩⟩
  exact hx hn
theorem w_try_with (H : Up__law_try_with P) (s v : Sh) (p : List Int) (hp : bits01 p) (h40 : p.length ≤ 1000) (hk : 2 ≤ k) (h : (sub s p).isSome = true → q (encS (repl s p v)) S) (hx : sub s p = none → q noneD S) : P.spec k 74 [encS s, itD p, encS v] S q qx := by
  obtain ⟨k, rfl⟩ : ∃ j, k = j + 1 := ⟨k - 1, by omega⟩
  refine Pg.spec_succ H.self rfl ?_
  refine ⟨_, rfl, _, rfl, _, rfl, w_pwith H.to_with_part s v p hp h40 (by omega) h fun hn => ⟨by decide, ?_⟩⟩
  exact hx hn
theorem cut_sub {α : Type} (xs : List α) (lo hi : Option Int) : ∀ x ∈ cutD xs lo hi, x ∈ xs := fun x hx => List.mem_of_mem_drop (List.mem_of_mem_take hx)
theorem okS_cut {t : Bs} (h : okS' t = true) (lo hi : Option Int) : okS' (cutD t lo hi) = true := List.all_eq_true.mpr fun c hc => List.all_eq_true.mp h c (cut_sub t lo hi c hc)
theorem cutn_le {α : Type} (xs : List α) (n : Nat) : (cutD xs none (some (n : Int))).length ≤ n := by
  rw [cut_head xs n n rfl, List.length_take]; omega
theorem cutd_le {α : Type} (xs : List α) (n : Nat) : (cutD xs (some (n : Int)) none).length ≤ xs.length - n := by
  rw [cut_tail xs n n rfl, List.length_drop]; omega
theorem w_bent (H : Up__law_bent P) {p : Addr} {t : Bs} (ht : okS' t = true) (hz : t.length ≤ 1000) (tp : TapeOk p S) (hk : 2 ≤ k) (h : ∀ t' S', okS' t' = true → t'.length ≤ t.length + 1 → TapeOk p S' → Oth p S S' → q (.str t') S') : P.spec k 76 [.ref p, .str t] S q qx := by
  obtain ⟨k, rfl⟩ : ∃ j, k = j + 1 := ⟨k - 1, by omega⟩
  refine Pg.spec_succ H.self rfl ?_
  refine ⟨_, rfl, _, rfl, _, rfl, w_take H.to__law_take (n := (t.length : Int) + 1) (by omega) (by omega) tp _ (by omega) fun r S1 g0 g1 t1 o1 => ?_⟩
  obtain ⟨m, rfl⟩ := Int.eq_ofNat_of_zero_le g0
  refine ⟨_, rfl, w_take H.to__law_take (by decide) (by decide) t1 _ (by omega) fun r S2 g0 g2 t2 o2 => ?_⟩
  have fin : ∀ (more : Bs), okS' more = true → more.length ≤ 1 → wSs (P.G k qx) (f__law_bent.body.drop 2) [some (.ref p), some (.str t), some (.int m), some (.str more)] S2 (bodyK q) := by
    intro more om lm
    have l1 := cutn_le t m
    refine ⟨_, rfl, _, rfl, _, rfl, ⟨by show _ ≤ 16777216; omega, ?_⟩⟩
    refine ⟨_, rfl, _, rfl, _, rfl, w_take H.to__law_take (by decide) (by decide) t2 _ (by omega) fun r2 S3 e0 e1 t3 o3 => ?_⟩
    obtain ⟨b, rfl⟩ := Int.eq_ofNat_of_zero_le e0
    have l2 : (cutD t (some ((m : Int) + (b : Int))) none).length ≤ t.length - (m + b) := by
      rw [show (m : Int) + (b : Int) = ((m + b : Nat) : Int) by omega]; exact cutd_le t (m + b)
    refine ⟨by rw [List.length_append]; show _ ≤ 16777216; omega, ?_⟩
    refine h _ S3 ?_ ?_ t3 ((o1.trans o2).trans o3)
    · show (cutD t none (some (m : Int)) ++ more ++ cutD t (some ((m : Int) + (b : Int))) none).all _ = true
      rw [List.all_append, List.all_append, Bool.and_eq_true, Bool.and_eq_true]
      exact ⟨⟨okS_cut ht _ _, om⟩, okS_cut ht _ _⟩
    · rw [List.length_append, List.length_append]
      have : (m : Int) < (t.length : Int) + 1 := g1
      omega
  have hh : r = 0 ∨ r = 1 ∨ r = 2 ∨ r = 3 ∨ r = 4 ∨ r = 5 ∨ r = 6 ∨ r = 7 := by omega
  rcases hh with rfl | rfl | rfl | rfl | rfl | rfl | rfl | rfl
  · exact ⟨_, rfl, fin [] (by decide) (by decide)⟩
  · exact ⟨_, rfl, fin [97] (by decide) (by decide)⟩
  · exact ⟨_, rfl, fin [46] (by decide) (by decide)⟩
  · exact ⟨_, rfl, fin [40] (by decide) (by decide)⟩
  · exact ⟨_, rfl, fin [44] (by decide) (by decide)⟩
  · exact ⟨_, rfl, fin [41] (by decide) (by decide)⟩
  · exact ⟨_, rfl, fin [98] (by decide) (by decide)⟩
  · exact ⟨_, rfl, fin [113] (by decide) (by decide)⟩
/-- a path that is listed -/
theorem mem_paths {s : Sh} {p : List Int} : p ∈ pathsS s [] ↔ ∃ t, sub s p = some t ∧ t ≠ .e := by
  constructor
  · intro h
    obtain ⟨u, rfl, t, e, n, _⟩ := node_paths s [] p h
    exact ⟨t, by simpa using e, n⟩
  · rintro ⟨t, e, n⟩
    have h1 := elems_mem p s [] t e n
    have h2 : ([] ++ p) ∈ (elems s []).map (·.1) := List.mem_map.mpr ⟨_, h1, rfl⟩
    have := (elems_perm s []).mem_iff.mp h2
    simpa using this
theorem sub_app : ∀ (p : List Int) (s : Sh) (x : List Int), sub s (p ++ x) = (sub s p).bind fun t => sub t x
  | [], s, x => by rw [sub_nil]; rfl
  | y :: p, s, x => by
    rw [List.cons_append]
    cases s with
    | e => rw [sub_e, sub_e]; rfl
    | n1 l c =>
      by_cases h : y = 0
      · subst h; exact sub_app p c x
      · cases e : sub (.n1 l c) (y :: (p ++ x)) with
        | some t => exact absurd (sub_n1 e).1 h
        | none =>
          cases e2 : sub (.n1 l c) (y :: p) with
          | some t => exact absurd (sub_n1 e2).1 h
          | none => rfl
    | n2 l a b =>
      by_cases h : y = 0
      · subst h; exact sub_app p a x
      · by_cases h1 : y = 1
        · subst h1; exact sub_app p b x
        · cases e : sub (.n2 l a b) (y :: (p ++ x)) with
          | some t => rcases sub_n2 e with ⟨h2, _⟩ | ⟨h2, _⟩; exact absurd h2 h; exact absurd h2 h1
          | none =>
            cases e2 : sub (.n2 l a b) (y :: p) with
            | some t => rcases sub_n2 e2 with ⟨h2, _⟩ | ⟨h2, _⟩; exact absurd h2 h; exact absurd h2 h1
            | none => rfl
theorem bits_paths {s : Sh} {p : List Int} (h : p ∈ pathsS s []) : bits01 p := by
  obtain ⟨t, e, _⟩ := mem_paths.mp h
  have gen : ∀ (p : List Int) (s : Sh) (t : Sh), sub s p = some t → bits01 p := by
    intro p
    induction p with
    | nil => intro s t _ x hx; cases hx
    | cons y p ih =>
      intro s t e x hx
      cases s with
      | e => rw [sub_e] at e; cases e
      | n1 l c =>
        obtain ⟨rfl, e⟩ := sub_n1 e
        rcases List.mem_cons.mp hx with rfl | hx
        · exact .inl rfl
        · exact ih c t e x hx
      | n2 l a b =>
        rcases sub_n2 e with ⟨rfl, e⟩ | ⟨rfl, e⟩
        · rcases List.mem_cons.mp hx with rfl | hx
          · exact .inl rfl
          · exact ih a t e x hx
        · rcases List.mem_cons.mp hx with rfl | hx
          · exact .inr rfl
          · exact ih b t e x hx
  exact gen p s t e
theorem sub_size : ∀ (p : List Int) (s t : Sh), sub s p = some t → t ≠ .e → p.length < size s ∨ p = [] := by
  intro p s t e n
  have h := mem_paths.mpr ⟨t, e, n⟩
  obtain ⟨u, hu, t', e', n', z⟩ := node_paths s [] p h
  have hu : p = u := by simpa using hu
  subst hu
  cases p with
  | nil => exact .inr rfl
  | cons x p =>
    left
    have gen : ∀ (p : List Int) (s t : Sh), sub s p = some t → t ≠ .e → p.length < size s := by
      intro p
      induction p with
      | nil =>
        intro s t e n
        rw [sub_nil] at e; cases e
        cases s with
        | e => exact absurd rfl n
        | n1 => unfold size; simp
        | n2 => unfold size; simp
      | cons y p ih =>
        intro s t e n
        cases s with
        | e => rw [sub_e] at e; cases e
        | n1 l c =>
          obtain ⟨rfl, e⟩ := sub_n1 e
          have := ih c t e n
          unfold size; rw [List.length_cons]; omega
        | n2 l a b =>
          unfold size; rw [List.length_cons]
          rcases sub_n2 e with ⟨rfl, e⟩ | ⟨rfl, e⟩
          · have := ih a t e n; omega
          · have := ih b t e n; omega
    exact gen _ s t e n
end
end U
/-! K01A: the program of k01 (printed by ugen.py), checked against the program. -/
namespace K01
open PySem DL U
/-- law -/
def f_law : Fn := ⟨1, ["_law_script", "_law_tape_here", "_law_kind_here", "_law_shape_here", "_law_listed", "_law_text_here", "_law_found", "_law_path", "_law_expected", "_law_new", "_law_reach", "_law_other", "_law_wrong", "_law_k"], [
  .set (.nm 1) (.call 7 (.cons (.var 0) .nil)),
  .set (.nm 2) (.call 12 (.cons (.var 1) .nil)),
  .set (.nm 3) (.call 13 (.cons (.var 1) (.cons (.var 2) (.cons (.call 8 (.cons (.var 1) (.cons (.int 13) .nil))) .nil)))),
  .set (.nm 4) (.bif .sorted (.call 14 (.cons (.var 3) (.cons (.tup .nil) .nil)))),
  .ite (.not (.call 11 (.cons (.lst (.cons (.call 64 (.cons (.var 3) .nil)) (.cons (.call 61 (.cons (.var 3) .nil)) (.cons (.call 1 (.cons (.var 3) .nil)) .nil)))) (.cons (.lst (.cons (.call 71 (.cons (.var 3) .nil)) (.cons (.bif .len (.var 4)) (.cons (.var 4) .nil)))) .nil)))) [
    .ret (.bl false)] [],
  .ite (.not (.call 11 (.cons (.call 70 (.cons (.var 2) (.cons (.call 71 (.cons (.var 3) .nil)) .nil))) (.cons (.var 3) .nil)))) [
    .ret (.bl false)] [],
  .set (.nm 5) (.call 76 (.cons (.var 1) (.cons (.call 71 (.cons (.var 3) .nil)) .nil))),
  .set (.nm 6) (.call 72 (.cons (.var 2) (.cons (.var 5) .nil))),
  .ite (.boo true (.cons (.cmp .ne (.var 6) (.str [110, 111, 110, 101])) (.cons (.boo false (.cons (.not (.call 77 (.cons (.var 2) (.cons (.var 6) .nil)))) (.cons (.cmp .ne (.call 71 (.cons (.var 6) .nil)) (.var 5)) .nil))) .nil))) [
    .ret (.bl false)] [],
  .ite (.boo true (.cons (.cmp .eq (.var 6) (.str [110, 111, 110, 101])) (.cons (.cmp .eq (.var 5) (.call 71 (.cons (.var 3) .nil))) .nil))) [
    .ret (.bl false)] [],
  .set (.nm 7) (.bif .tuple (.lc (.call 8 (.cons (.var 1) (.cons (.int 2) .nil))) (.nm 13) (.rng1 (.call 8 (.cons (.var 1) (.cons (.int 4) .nil)))) .nil [13])),
  .ite (.boo true (.cons (.cmp .ne (.var 4) (.lst .nil)) (.cons (.cmp .gt (.call 8 (.cons (.var 1) (.cons (.int 3) .nil))) (.int 0)) .nil))) [
    .set (.nm 7) (.bin .add (.idx (.var 4) (.call 8 (.cons (.var 1) (.cons (.bif .len (.var 4)) .nil)))) (.idx (.tup (.cons (.tup (.cons (.int 0) .nil)) (.cons (.tup (.cons (.int 1) .nil)) (.cons (.tup .nil) .nil)))) (.call 8 (.cons (.var 1) (.cons (.int 3) .nil)))))] [],
  .set (.nm 8) (.ite (.cmp .isin (.var 7) (.var 4)) (.call 15 (.cons (.var 3) (.cons (.var 7) .nil))) (.str [110, 111, 110, 101])),
  .ite (.not (.call 11 (.cons (.call 73 (.cons (.var 3) (.cons (.var 7) .nil))) (.cons (.var 8) .nil)))) [
    .ret (.bl false)] [],
  .set (.nm 9) (.call 13 (.cons (.var 1) (.cons (.var 2) (.cons (.call 8 (.cons (.var 1) (.cons (.int 3) .nil))) .nil)))),
  .set (.nm 10) (.boo false (.cons (.cmp .eq (.var 7) (.tup .nil)) (.cons (.boo true (.cons (.cmp .isin (.sl (.var 7) .none (.some (.neg (.int 1)))) (.var 4)) (.cons (.cmp .lt (.idx (.var 7) (.neg (.int 1))) (.idx (.var 2) (.int 0))) .nil))) .nil))),
  .ite (.not (.call 11 (.cons (.call 74 (.cons (.var 3) (.cons (.var 7) (.cons (.var 9) .nil)))) (.cons (.ite (.var 10) (.call 75 (.cons (.var 3) (.cons (.var 7) (.cons (.var 9) .nil)))) (.str [110, 111, 110, 101])) .nil)))) [
    .ret (.bl false)] [],
  .set (.nm 11) (.idx (.lst (.cons (.var 3) (.cons (.tup (.cons (.var 3) .nil)) (.cons (.bin .add (.tup (.cons (.str [113]) .nil)) (.sl (.var 3) (.some (.int 1)) .none)) (.cons (.bin .add (.var 3) (.tup (.cons (.tup .nil) .nil))) (.cons (.tup (.cons (.str [97]) (.cons (.var 3) .nil))) (.cons (.tup (.cons (.str [97]) (.cons (.str [98]) (.cons (.var 3) .nil)))) .nil))))))) (.call 8 (.cons (.var 1) (.cons (.int 6) .nil)))),
  .ite (.not (.call 11 (.cons (.call 60 (.cons (.var 2) (.cons (.var 11) .nil))) (.cons (.call 77 (.cons (.var 2) (.cons (.var 11) .nil))) .nil)))) [
    .ret (.bl false)] [],
  .set (.nm 12) (.newl (.cons (.tup (.cons (.int 3) (.cons (.tup (.cons (.str [97]) .nil)) .nil))) (.cons (.tup (.cons (.int 0) (.cons (.tup (.cons (.str [97]) .nil)) .nil))) (.cons (.tup (.cons (.int 1) (.cons (.tup .nil) .nil))) (.cons (.tup (.cons (.int 2) (.cons (.tup (.cons (.str [98]) (.cons (.str [97]) .nil))) .nil))) (.cons (.tup (.cons (.int 1) (.cons (.tup (.cons (.str [97]) (.cons (.str [97]) .nil))) .nil))) (.cons (.tup (.cons (.int 1) (.cons (.tup (.cons (.str [97, 98]) .nil)) .nil))) (.cons (.tup (.cons (.int 2) (.cons (.tup (.cons (.str [65]) .nil)) .nil))) .nil)))))))),
  .app (.var 12) (.tup (.cons (.int 1) (.cons (.tup (.cons (.str [97]) (.cons (.str [98]) (.cons (.str [99]) (.cons (.str [100]) .nil))))) .nil))),
  .ret (.boo true (.cons (.call 78 (.cons (.var 2) .nil)) (.cons (.not (.call 78 (.cons (.idx (.var 12) (.call 8 (.cons (.var 1) (.cons (.int 8) .nil)))) .nil))) .nil)))]⟩
def P : Pg := ⟨[(24, "check_kind", f_check_kind),
    (60, "is_shape", f_is_shape),
    (0, "all_elements", f_all_elements),
    (61, "size", f_size),
    (1, "paths", f_paths),
    (62, "part", f_part),
    (63, "with_part", f_with_part),
    (64, "write_shape", f_write_shape),
    (65, "__init__", f_ShapeReader_init),
    (66, "sign", f_ShapeReader_sign),
    (67, "take", f_ShapeReader_take),
    (68, "shape", f_ShapeReader_shape),
    (69, "finish", f_ShapeReader_finish),
    (70, "read_shape", f_read_shape),
    (7, "_law_tape", f__law_tape),
    (8, "_law_take", f__law_take),
    (9, "_law_is_integer", f__law_is_integer),
    (10, "_law_same_items", f__law_same_items),
    (11, "_law_same", f__law_same),
    (12, "_law_kind", f__law_kind),
    (13, "_law_shape", f__law_shape),
    (14, "_law_paths", f__law_paths),
    (15, "_law_part", f__law_part),
    (71, "_law_text", f__law_text),
    (72, "_law_read", f__law_read),
    (73, "_law_try_part", f__law_try_part),
    (74, "_law_try_with", f__law_try_with),
    (75, "_law_with", f__law_with),
    (76, "_law_bent", f__law_bent),
    (77, "_law_is", f__law_is),
    (78, "_law_kind_right", f__law_kind_right),
    (79, "law", f_law)],
  [("LETTERS", .str [97, 98, 99, 100, 101, 102, 103, 104, 105, 106, 107, 108, 109, 110, 111, 112, 113, 114, 115, 116, 117, 118, 119, 120, 121, 122])],
  [],
  [(0, "InvalidKind"), (1, "InvalidShape"), (4, "NoSuchElement")], "SayError",
  [([83, 104, 97, 112, 101, 82, 101, 97, 100, 101, 114], [[97, 116], [108, 97, 98, 101, 108, 115], [116, 101, 120, 116], [119, 97, 121, 115]])],
  [(65, [83, 104, 97, 112, 101, 82, 101, 97, 100, 101, 114], [95, 95, 105, 110, 105, 116, 95, 95]),
    (66, [83, 104, 97, 112, 101, 82, 101, 97, 100, 101, 114], [115, 105, 103, 110]),
    (67, [83, 104, 97, 112, 101, 82, 101, 97, 100, 101, 114], [116, 97, 107, 101]),
    (68, [83, 104, 97, 112, 101, 82, 101, 97, 100, 101, 114], [115, 104, 97, 112, 101]),
    (69, [83, 104, 97, 112, 101, 82, 101, 97, 100, 101, 114], [102, 105, 110, 105, 115, 104])]⟩
abbrev prog : Program := PySem.Challenge.pw_treesays_k01_shapes_and_their_texts
def fn : List He.DefD := [dOf prog 7, dOf prog 8, dOf prog 9, dOf prog 10, dOf prog 11, dOf prog 12, dOf prog 13, dOf prog 14, dOfM prog 15 "__init__", dOfM prog 15 "sign", dOfM prog 15 "take", dOfM prog 15 "shape", dOfM prog 15 "finish", dOf prog 16, dOf prog 18, dOf prog 19, dOf prog 20, dOf prog 21, dOf prog 22, dOf prog 23, dOf prog 24, dOf prog 25, dOf prog 26, dOf prog 27, dOf prog 29, dOf prog 30, dOf prog 31, dOf prog 32, dOf prog 33, dOf prog 34, dOf prog 35, dOf prog 36]
set_option maxHeartbeats 0 in
theorem bd : AllB P.fs fn := .cons (fun _ _ _ _ _ _ _ _ _ _ us hl => match us, hl with | [_], _ => rfl) (.cons (fun _ _ _ _ _ _ _ _ _ _ us hl => match us, hl with | [_, _], _ => rfl) (.cons (fun _ _ _ _ _ _ _ _ _ _ us hl => match us, hl with | [_], _ => rfl) (.cons (fun _ _ _ _ _ _ _ _ _ _ us hl => match us, hl with | [_], _ => rfl) (.cons (fun _ _ _ _ _ _ _ _ _ _ us hl => match us, hl with | [_], _ => rfl) (.cons (fun _ _ _ _ _ _ _ _ _ _ us hl => match us, hl with | [_, _], _ => rfl) (.cons (fun _ _ _ _ _ _ _ _ _ _ us hl => match us, hl with | [_, _, _], _ => rfl) (.cons (fun _ _ _ _ _ _ _ _ _ _ us hl => match us, hl with | [_], _ => rfl) (.cons (fun _ _ _ _ _ _ _ _ _ _ us hl => match us, hl with | [_, _, _], _ => rfl) (.cons (fun _ _ _ _ _ _ _ _ _ _ us hl => match us, hl with | [_], _ => rfl) (.cons (fun _ _ _ _ _ _ _ _ _ _ us hl => match us, hl with | [_, _], _ => rfl) (.cons (fun _ _ _ _ _ _ _ _ _ _ us hl => match us, hl with | [_], _ => rfl) (.cons (fun _ _ _ _ _ _ _ _ _ _ us hl => match us, hl with | [_, _, _], _ => rfl) (.cons (fun _ _ _ _ _ _ _ _ _ _ us hl => match us, hl with | [_, _], _ => rfl) (.cons (fun _ _ _ _ _ _ _ _ _ _ us hl => match us, hl with | [_], _ => rfl) (.cons (fun _ _ _ _ _ _ _ _ _ _ us hl => match us, hl with | [_, _], _ => rfl) (.cons (fun _ _ _ _ _ _ _ _ _ _ us hl => match us, hl with | [_], _ => rfl) (.cons (fun _ _ _ _ _ _ _ _ _ _ us hl => match us, hl with | [_, _], _ => rfl) (.cons (fun _ _ _ _ _ _ _ _ _ _ us hl => match us, hl with | [_, _], _ => rfl) (.cons (fun _ _ _ _ _ _ _ _ _ _ us hl => match us, hl with | [_], _ => rfl) (.cons (fun _ _ _ _ _ _ _ _ _ _ us hl => match us, hl with | [_, _, _], _ => rfl) (.cons (fun _ _ _ _ _ _ _ _ _ _ us hl => match us, hl with | [_, _], _ => rfl) (.cons (fun _ _ _ _ _ _ _ _ _ _ us hl => match us, hl with | [_, _], _ => rfl) (.cons (fun _ _ _ _ _ _ _ _ _ _ us hl => match us, hl with | [_], _ => rfl) (.cons (fun _ _ _ _ _ _ _ _ _ _ us hl => match us, hl with | [_, _], _ => rfl) (.cons (fun _ _ _ _ _ _ _ _ _ _ us hl => match us, hl with | [_, _], _ => rfl) (.cons (fun _ _ _ _ _ _ _ _ _ _ us hl => match us, hl with | [_, _, _], _ => rfl) (.cons (fun _ _ _ _ _ _ _ _ _ _ us hl => match us, hl with | [_, _, _], _ => rfl) (.cons (fun _ _ _ _ _ _ _ _ _ _ us hl => match us, hl with | [_, _], _ => rfl) (.cons (fun _ _ _ _ _ _ _ _ _ _ us hl => match us, hl with | [_, _], _ => rfl) (.cons (fun _ _ _ _ _ _ _ _ _ _ us hl => match us, hl with | [_], _ => rfl) (.cons (fun _ _ _ _ _ _ _ _ _ _ us hl => match us, hl with | [_], _ => rfl) (.nil))))))))))))))))))))))))))))))))
set_option maxHeartbeats 0 in
theorem ck : chkAll P P.fs fn = true := by decide +kernel
theorem up_check_kind : Up_check_kind P := ⟨Pg.has rfl rfl⟩
theorem up_is_shape : Up_is_shape P := ⟨Pg.has rfl rfl, up_check_kind⟩
theorem up_all_elements : Up_all_elements P := ⟨Pg.has rfl rfl⟩
theorem up_size : Up_size P := ⟨Pg.has rfl rfl, up_all_elements⟩
theorem up_paths : Up_paths P := ⟨Pg.has rfl rfl, up_all_elements⟩
theorem up_part : Up_part P := ⟨Pg.has rfl rfl⟩
theorem up_with_part : Up_with_part P := ⟨Pg.has rfl rfl⟩
theorem up_write_shape : Up_write_shape P := ⟨Pg.has rfl rfl⟩
theorem up_ShapeReader_init : Up_ShapeReader_init P := ⟨Pg.has rfl rfl⟩
theorem up_ShapeReader_sign : Up_ShapeReader_sign P := ⟨Pg.has rfl rfl⟩
theorem up_ShapeReader_take : Up_ShapeReader_take P := ⟨Pg.has rfl rfl, up_ShapeReader_sign⟩
theorem up_ShapeReader_finish : Up_ShapeReader_finish P := ⟨Pg.has rfl rfl, up_ShapeReader_take⟩
theorem up_ShapeReader_shape : Up_ShapeReader_shape P := ⟨Pg.has rfl rfl, up_ShapeReader_sign, up_ShapeReader_finish, up_ShapeReader_take⟩
theorem up_read_shape : Up_read_shape P := ⟨Pg.has rfl rfl, up_check_kind, up_ShapeReader_init, up_ShapeReader_shape⟩
theorem up__law_tape : Up__law_tape P := ⟨Pg.has rfl rfl⟩
theorem up__law_take : Up__law_take P := ⟨Pg.has rfl rfl⟩
theorem up__law_is_integer : Up__law_is_integer P := ⟨Pg.has rfl rfl⟩
theorem up__law_same_items : Up__law_same_items P := ⟨Pg.has rfl rfl, Pg.has rfl rfl, up__law_is_integer⟩
theorem up__law_kind : Up__law_kind P := ⟨Pg.has rfl rfl, up__law_take⟩
theorem up__law_shape : Up__law_shape P := ⟨Pg.has rfl rfl, up__law_take⟩
theorem up__law_paths : Up__law_paths P := ⟨Pg.has rfl rfl⟩
theorem up__law_part : Up__law_part P := ⟨Pg.has rfl rfl⟩
theorem up__law_text : Up__law_text P := ⟨Pg.has rfl rfl⟩
theorem up__law_read : Up__law_read P := ⟨Pg.has rfl rfl, up_read_shape⟩
theorem up__law_try_part : Up__law_try_part P := ⟨Pg.has rfl rfl, up_part⟩
theorem up__law_try_with : Up__law_try_with P := ⟨Pg.has rfl rfl, up_with_part⟩
theorem up__law_with : Up__law_with P := ⟨Pg.has rfl rfl⟩
theorem up__law_bent : Up__law_bent P := ⟨Pg.has rfl rfl, up__law_take⟩
theorem up__law_is : Up__law_is P := ⟨Pg.has rfl rfl⟩
theorem up__law_kind_right : Up__law_kind_right P := ⟨Pg.has rfl rfl, up_check_kind⟩
abbrev iLaw : Nat := 79
end K01
/-! K01Z: the law of k01 in plain data. -/
namespace K01
open PySem DL U
local macro_rules | `(tactic| and_intros) => `(tactic| repeat (first | refine ⟨_, rfl, ?_⟩ | refine ⟨rfl, ?_⟩))
abbrev Fin : QD := fun d _ => d = .bl true
theorem okq_it (p : List Int) (hp : p.length ≤ 1000) (n : Nat) : okq (n + 1) (itD p) = true := by
  show (decide ((p.map D.int).length ≤ 16777216) && (p.map D.int).all (okq n)) = true
  rw [Bool.and_eq_true]
  refine ⟨decide_eq_true (by rw [List.length_map]; omega), List.all_eq_true.mpr fun d hd => ?_⟩
  obtain ⟨i, _, rfl⟩ := List.mem_map.mp hd
  exact okq_int
theorem okq_encS : ∀ (s : Sh) (n : Nat), okSh s → size s + 1 ≤ n → okq n (encS s) = true
  | _, 0, _, h => by omega
  | .e, n + 1, _, _ => rfl
  | .n1 l c, n + 1, ⟨h1, h2⟩, h => by
    have := okq_encS c n h2 (by unfold size at h; omega)
    show (decide (2 ≤ 16777216) && ([D.str l, encS c]).all (okq n)) = true
    simp [this, okq_str (n := n) h1]
  | .n2 l a b, n + 1, ⟨h1, h2, h3⟩, h => by
    have e1 := okq_encS a n h2 (by unfold size at h; omega)
    have e2 := okq_encS b n h3 (by unfold size at h; omega)
    show (decide (3 ≤ 16777216) && ([D.str l, encS a, encS b]).all (okq n)) = true
    simp [e1, e2, okq_str (n := n) h1]
theorem enc_ne (s : Sh) (t : Bs) : dEq (encS s) (.str t) = false := by cases s <;> rfl
theorem shOf_sub {ways : Int} {labels : List Bs} : ∀ (p : List Int) (s t : Sh), shOf ways labels s → sub s p = some t → shOf ways labels t
  | [], s, t, o, e => by rw [sub_nil] at e; cases e; exact o
  | x :: p, .e, t, o, e => by rw [sub_e] at e; cases e
  | x :: p, .n1 l c, t, o, e => by
    obtain ⟨rfl, e⟩ := sub_n1 e
    exact shOf_sub p c t o.2.2 e
  | x :: p, .n2 l a b, t, o, e => by
    rcases sub_n2 e with ⟨rfl, e⟩ | ⟨rfl, e⟩
    · exact shOf_sub p a t o.2.2.1 e
    · exact shOf_sub p b t o.2.2.2 e
theorem repl_ok (v : Sh) (ov : okSh v) : ∀ (p : List Int) (s : Sh), okSh s → (sub s p).isSome = true → okSh (repl s p v) ∧ size (repl s p v) ≤ size s + size v
  | [], s, o, _ => by rw [repl_nil]; exact ⟨ov, by omega⟩
  | x :: p, .e, o, h => by rw [sub_e] at h; cases h
  | x :: p, .n1 l c, o, h => by
    obtain ⟨t, e⟩ := Option.isSome_iff_exists.mp h
    obtain ⟨rfl, e'⟩ := sub_n1 e
    obtain ⟨a1, a2⟩ := repl_ok v ov p c o.2 (by rw [e']; rfl)
    refine ⟨⟨o.1, a1⟩, ?_⟩
    show size (repl c p v) + 1 ≤ size c + 1 + size v
    omega
  | x :: p, .n2 l a b, o, h => by
    obtain ⟨t, e⟩ := Option.isSome_iff_exists.mp h
    rcases sub_n2 e with ⟨rfl, e'⟩ | ⟨rfl, e'⟩
    · obtain ⟨a1, a2⟩ := repl_ok v ov p a o.2.1 (by rw [e']; rfl)
      refine ⟨⟨o.1, a1, o.2.2⟩, ?_⟩
      show size (repl a p v) + size b + 1 ≤ size a + size b + 1 + size v
      omega
    · obtain ⟨a1, a2⟩ := repl_ok v ov p b o.2.2 (by rw [e']; rfl)
      refine ⟨⟨o.1, o.2.1, a1⟩, ?_⟩
      show size a + size (repl b p v) + 1 ≤ size a + size b + 1 + size v
      omega
theorem lst_neK (l : List D) : (!dEq (.lst l) (.lst [])) = !l.isEmpty := by cases l <;> rfl
theorem sz_lab {l : Bs} (h : letB l = true) : sizeOf (D.str l) ≤ 130 := by
  obtain ⟨c, rfl, _, _⟩ := letB_one h
  simp; omega
theorem sz_enc : ∀ (s : Sh), letS s → sizeOf (encS s) ≤ 300 * size s + 10
  | .e, _ => by simp [encS]
  | .n1 l c, h => by
    have e1 := sz_enc c h.2
    have e2 := sz_lab h.1
    simp [encS, size] at e2 ⊢; omega
  | .n2 l a b, h => by
    have e1 := sz_enc a h.2.1
    have e3 := sz_enc b h.2.2
    have e2 := sz_lab h.1
    simp [encS, size] at e2 ⊢; omega
theorem kind_good {d : D} {ways : Nat} {labels : List Bs} (h : KindOk d ways labels) : kindB ways labels = true ∧ (∀ l ∈ labels, letB l = true) := by
  obtain ⟨_, h1, h2⟩ := h
  have h1 : ways = 1 ∨ ways = 2 := by omega
  rcases h1 with rfl | rfl <;> rcases h2 with rfl | rfl | rfl <;> decide
/-- the last lines -/
theorem law_end {k : Nat} {ns : List Int} {p : Addr} {ways : Nat} {labels : List Bs} (kd : KindOk (kdD ways labels) ways labels) (hk : 100 ≤ k) (s : Sh) (os : shOf ways labels s) (hs : size s ≤ 12) {S : Sto} (tp : TapeOk p S) (x5 x6 x7 x8 x9 x10 : Option D) (x13 : Option D) :
    wSs (P.G k fun _ _ _ => False) (f_law.body.drop 17) [some (.scr ns), some (.ref p), some (kdD ways labels), some (encS s), some (.lst ((pathsS s []).map itD)), x5, x6, x7, x8, x9, x10, none, none, x13] S (bodyK Fin) := by
  obtain ⟨hkb, hlab⟩ := kind_good kd
  obtain ⟨hl0, hl3, hlo⟩ := kd.pos
  have hw : ways = 1 ∨ ways = 2 := by have := kd.2.1; omega
  have ls := os.lets hlab
  have ok := os.ok hlo
  have oke : ∀ n, 13 ≤ n → okd n (encS s) = true := fun n hn => okd_encS s n ok (by omega)
  have sze := sz_enc s ls
  -- what is asked of the other value
  have last : ∀ (d : D) (S1 : Sto), TapeOk p S1 → okd 20 d = true → sizeOf d ≤ 10000000 → wSs (P.G k fun _ _ _ => False) (f_law.body.drop 18) [some (.scr ns), some (.ref p), some (kdD ways labels), some (encS s), some (.lst ((pathsS s []).map itD)), x5, x6, x7, x8, x9, x10, some d, none, x13] S1 (bodyK Fin) := by
    intro d S1 t1 od sd
    refine ⟨_, rfl, _, rfl, w_is_shape up_is_shape hw hkb hlo 20 d (by decide) od sd (by omega) ?_⟩
    refine ⟨_, rfl, _, rfl, w_lis up__law_is hlo 20 d k _ _ _ (by decide) od (by omega) ?_⟩
    refine w_same up__law_same_items 1 _ _ k _ _ _ rfl rfl (by decide) (by omega) ?_
    rw [sameD_refl 1 _ rfl]
    refine ⟨_, rfl, ?_⟩
    intro pw hpw
    have pne : pw ≠ p := fun e => by
      obtain ⟨_, _, _, _, _, e2, _⟩ := t1
      rw [e, e2] at hpw; cases hpw
    refine ⟨_, rfl, _, rfl, ⟨_, ups_same⟩, _, ups_same, (show 7 < 16777216 by decide), ?_⟩
    have t2 : TapeOk p (ups (ups S1 pw (.lst [.tup [.int 3, .tup [.str [97]]], .tup [.int 0, .tup [.str [97]]], .tup [.int 1, .tup []], .tup [.int 2, .tup [.str [98], .str [97]]], .tup [.int 1, .tup [.str [97], .str [97]]], .tup [.int 1, .tup [.str [97, 98]]], .tup [.int 2, .tup [.str [65]]]])) pw (.lst ([.tup [.int 3, .tup [.str [97]]], .tup [.int 0, .tup [.str [97]]], .tup [.int 1, .tup []], .tup [.int 2, .tup [.str [98], .str [97]]], .tup [.int 1, .tup [.str [97], .str [97]]], .tup [.int 1, .tup [.str [97, 98]]], .tup [.int 2, .tup [.str [65]]]] ++ [.tup [.int 1, .tup [.str [97], .str [98], .str [99], .str [100]]]]))) := (t1.at (ups_ne pne.symm)).at (ups_ne pne.symm)
    refine ⟨_, rfl, w_kind_right up__law_kind_right hlo (by omega) ?_⟩
    rw [hkb]
    refine ⟨_, rfl, ?_⟩
    refine ⟨_, rfl, _, rfl, w_take up__law_take (by decide) (by decide) t2 _ (by omega) fun r S3 g0 g1 t3 o3 => ?_⟩
    have ew : S3 pw = some (.lst ([.tup [.int 3, .tup [.str [97]]], .tup [.int 0, .tup [.str [97]]], .tup [.int 1, .tup []], .tup [.int 2, .tup [.str [98], .str [97]]], .tup [.int 1, .tup [.str [97], .str [97]]], .tup [.int 1, .tup [.str [97, 98]]], .tup [.int 2, .tup [.str [65]]]] ++ [.tup [.int 1, .tup [.str [97], .str [98], .str [99], .str [100]]]])) := by rw [o3 pw pne]; exact ups_same
    have fin : ∀ (w : Int) (labs : List Bs), (∀ l ∈ labs, okS' l = true) → kindB w labs = false → P.spec k 78 [.tup [.int w, .tup (labs.map .str)]] S3 (fun d S' => ∃ b, tru S' d = some b ∧ Fin (.bl (!b)) S') (fun _ _ _ => False) := fun w labs h1 h2 => w_kind_right up__law_kind_right h1 (by omega) (by rw [h2]; exact ⟨_, rfl, rfl⟩)
    have hh : r = 0 ∨ r = 1 ∨ r = 2 ∨ r = 3 ∨ r = 4 ∨ r = 5 ∨ r = 6 ∨ r = 7 := by omega
    rcases hh with rfl | rfl | rfl | rfl | rfl | rfl | rfl | rfl
    · exact idx_lst ew rfl (fin 3 [[97]] (by decide) (by decide))
    · exact idx_lst ew rfl (fin 0 [[97]] (by decide) (by decide))
    · exact idx_lst ew rfl (fin 1 [] (by decide) (by decide))
    · exact idx_lst ew rfl (fin 2 [[98], [97]] (by decide) (by decide))
    · exact idx_lst ew rfl (fin 1 [[97], [97]] (by decide) (by decide))
    · exact idx_lst ew rfl (fin 1 [[97, 98]] (by decide) (by decide))
    · exact idx_lst ew rfl (fin 2 [[65]] (by decide) (by decide))
    · exact idx_lst ew rfl (fin 1 [[97], [98], [99], [100]] (by decide) (by decide))
  obtain ⟨xs, hxs, oxs, sxs, lxs⟩ : ∃ xs, encS s = .tup xs ∧ xs.all (okd 19) = true ∧ sizeOf xs ≤ 100000 ∧ xs.length ≤ 3 := by
    have o19 := oke 20 (by omega)
    cases s with
    | e => exact ⟨_, rfl, rfl, by simp, by simp⟩
    | n1 l c => exact ⟨_, rfl, o19, by have : sizeOf (encS (.n1 l c)) = 1 + sizeOf [D.str l, encS c] := by simp [encS]
                                       omega, by simp⟩
    | n2 l a b => exact ⟨_, rfl, o19, by have : sizeOf (encS (.n2 l a b)) = 1 + sizeOf [D.str l, encS a, encS b] := by simp [encS]
                                         omega, by simp⟩
  rw [hxs]
  have cutx : cutD xs (some 1) none = xs.drop 1 := cut_tail _ 1 1 rfl
  have szd1 : sizeOf (xs.drop 1) ≤ sizeOf xs := by
    cases xs with
    | nil => simp
    | cons a r => simp
  have oxd : (xs.drop 1).all (okd 19) = true := List.all_eq_true.mpr fun x hx => List.all_eq_true.mp oxs x (List.mem_of_mem_drop hx)
  refine ⟨_, rfl, _, rfl, _, rfl, ⟨by rw [cutx, List.length_drop]; show 1 + _ ≤ 16777216; omega, ?_⟩⟩
  refine ⟨_, rfl, ⟨by show _ + 1 ≤ 16777216; omega, ?_⟩⟩
  refine ⟨_, rfl, _, rfl, ?_⟩
  refine ⟨_, rfl, w_take up__law_take (by decide) (by decide) tp _ (by omega) fun r S3 g0 g1 t3 o3 => ?_⟩
  have o20 : okd 20 (.tup xs) = true := oxs
  have sx0 : sizeOf (D.tup xs) = 1 + sizeOf xs := by simp
  rw [hxs] at last
  have hh : r = 0 ∨ r = 1 ∨ r = 2 ∨ r = 3 ∨ r = 4 ∨ r = 5 := by omega
  have o19x : okd 19 (.tup xs) = true := by rw [← hxs]; exact oke 19 (by omega)
  rcases hh with rfl | rfl | rfl | rfl | rfl | rfl
  · exact ⟨_, rfl, last _ S3 t3 o20 (by omega)⟩
  · refine ⟨_, rfl, last _ S3 t3 ?_ ?_⟩
    · show ([D.tup xs]).all (okd 19) = true
      rw [List.all_cons, o19x]; rfl
    · simp; omega
  · refine ⟨_, rfl, last _ S3 t3 ?_ ?_⟩
    · show ([D.str [113]] ++ cutD xs (some 1) none).all (okd 19) = true
      rw [cutx, List.all_append, oxd]; rfl
    · rw [cutx]
      have hz := szd1
      simp at hz ⊢
      omega
  · refine ⟨_, rfl, last _ S3 t3 ?_ ?_⟩
    · show (xs ++ [D.tup []]).all (okd 19) = true
      rw [List.all_append, oxs]; rfl
    · have : sizeOf (xs ++ [D.tup []]) ≤ sizeOf xs + 100 := by
        clear last hxs oxs sxs lxs cutx szd1 oxd o20 sx0 o19x
        induction xs with
        | nil => simp
        | cons a r ih => simp at ih ⊢; omega
      rw [show sizeOf (D.tup (xs ++ [.tup []])) = 1 + sizeOf (xs ++ [D.tup []]) by simp]; omega
  · refine ⟨_, rfl, last _ S3 t3 ?_ ?_⟩
    · show ([D.str [97], D.tup xs]).all (okd 19) = true
      rw [List.all_cons, List.all_cons, o19x]; rfl
    · simp; omega
  · refine ⟨_, rfl, last _ S3 t3 ?_ ?_⟩
    · show ([D.str [97], D.str [98], D.tup xs]).all (okd 19) = true
      rw [List.all_cons, List.all_cons, List.all_cons, o19x]; rfl
    · simp; omega
theorem sb_some {ways : Nat} {labels : List Bs} {t : Sh} (o : shOf (ways : Int) labels t) (n : t ≠ .e) (y : Int) (hy : y = 0 ∨ y = 1) : (sub t [y]).isSome = decide (y < (ways : Int)) := by
  cases t with
  | e => exact absurd rfl n
  | n1 l c =>
    rw [o.1]
    rcases hy with rfl | rfl
    · show (sub c []).isSome = _; rw [sub_nil]; rfl
    · simp [sub]
  | n2 l a b =>
    rw [o.1]
    rcases hy with rfl | rfl
    · show (sub a []).isSome = _; rw [sub_nil]; rfl
    · show (sub b []).isSome = _; rw [sub_nil]; rfl
/-- from the path on -/
theorem law_path {k : Nat} {ns : List Int} {p : Addr} {ways : Nat} {labels : List Bs} (kd : KindOk (kdD ways labels) ways labels) (hk : 100 ≤ k) (s : Sh) (os : shOf ways labels s) (hs : size s ≤ 12) {S : Sto} (tp : TapeOk p S) (pt : List Int) (hb : bits01 pt) (hl : pt.length ≤ 40) (x5 x6 x13 : Option D) :
    wSs (P.G k fun _ _ _ => False) (f_law.body.drop 12) [some (.scr ns), some (.ref p), some (kdD ways labels), some (encS s), some (.lst ((pathsS s []).map itD)), x5, x6, some (itD pt), none, none, none, none, none, x13] S (bodyK Fin) := by
  obtain ⟨hkb, hlab⟩ := kind_good kd
  obtain ⟨hl0, hl3, hlo⟩ := kd.pos
  have ok := os.ok hlo
  -- the second half
  have half : ∀ x8 : Option D, wSs (P.G k fun _ _ _ => False) (f_law.body.drop 14) [some (.scr ns), some (.ref p), some (kdD ways labels), some (encS s), some (.lst ((pathsS s []).map itD)), x5, x6, some (itD pt), x8, none, none, none, none, x13] S (bodyK Fin) := by
    intro x8
    refine ⟨_, rfl, _, rfl, _, rfl, w_take up__law_take (by decide) (by decide) tp _ (by omega) fun r S1 g0 g1 t1 o1 => ?_⟩
    obtain ⟨sz, rfl⟩ := Int.eq_ofNat_of_zero_le g0
    refine w_shape up__law_shape kd sz k _ _ _ _ rfl (by omega) (by omega) t1 fun v S2 hv ov t2 _ => ?_
    have okv := ov.ok hlo
    -- from reach on
    have reach : ∀ R : Bool, R = (sub s pt).isSome → wSs (P.G k fun _ _ _ => False) (f_law.body.drop 16) [some (.scr ns), some (.ref p), some (kdD ways labels), some (encS s), some (.lst ((pathsS s []).map itD)), x5, x6, some (itD pt), x8, some (encS v), some (.bl R), none, none, x13] S2 (bodyK Fin) := by
      intro R hR
      have end_ := law_end (ns := ns) (x5 := x5) (x6 := x6) (x7 := some (itD pt)) (x8 := x8) (x9 := some (encS v)) (x10 := some (.bl R)) (x13 := x13) kd hk s os hs t2
      refine ⟨_, rfl, _, rfl, _, rfl, w_try_with up__law_try_with s v pt hb (by omega) (by omega) (fun e => ?_) (fun e => ?_)⟩
      · rw [e] at hR; subst hR
        refine ⟨_, rfl, _, rfl, ?_⟩
        refine ⟨_, rfl, _, rfl, _, rfl, w_lwith up__law_with v pt s k _ _ _ hb e (by omega) (by omega) ?_⟩
        obtain ⟨r1, r2⟩ := repl_ok v okv pt s ok e
        have oq : okq 20 (encS (repl s pt v)) = true := okq_encS _ 20 r1 (by omega)
        refine w_same up__law_same_items 20 _ _ k _ _ _ oq oq (by decide) (by omega) ?_
        rw [sameD_refl 20 _ oq]
        exact ⟨_, rfl, end_⟩
      · rw [e] at hR
        have hR : R = false := hR
        subst hR
        refine ⟨_, rfl, _, rfl, ?_⟩
        refine w_same up__law_same_items 1 _ _ k _ _ _ rfl rfl (by decide) (by omega) ?_
        rw [sameD_refl 1 _ rfl]
        exact ⟨_, rfl, end_⟩
    refine ⟨_, rfl, okd_it pt, rfl, ?_⟩
    rcases List.eq_nil_or_concat pt with rfl | ⟨p', y, rfl⟩
    · refine ⟨_, rfl, ?_⟩
      exact reach true (by rw [sub_nil]; rfl)
    · rw [List.concat_eq_append] at *
      have e1 : dEq (itD (p' ++ [y])) (.tup []) = false := by
        show dEqL ((p' ++ [y]).map .int) [] = false
        rw [List.map_append]
        cases p' <;> rfl
      have hy : y = 0 ∨ y = 1 := hb y (by simp)
      have ec : cutD ((p' ++ [y]).map D.int) none (some (-1)) = p'.map D.int := by
        unfold cutD
        have : HT.sIx ((p' ++ [y]).map D.int).length ((p' ++ [y]).map D.int).length (some (-1)) = p'.length := by
          unfold HT.sIx
          simp only []
          rw [if_pos (by decide), List.length_map, List.length_append, List.length_singleton]; omega
        rw [this, HT.sIx_none, List.drop_zero, Nat.sub_zero, List.map_append]
        exact List.take_left' (by rw [List.length_map])
      rw [e1]
      refine ⟨_, rfl, ?_⟩
      refine ⟨_, rfl, ?_⟩
      refine ⟨_, rfl, by show okd 60 (.tup (cutD ((p' ++ [y]).map D.int) none (some (-1)))) = true; rw [ec]; exact okd_it p', okd_itsL _, ?_⟩
      have e2 : (((pathsS s []).map itD).any fun z => dEq z (.tup (cutD ((p' ++ [y]).map D.int) none (some (-1))))) = decide (p' ∈ pathsS s []) := by rw [ec]; exact any_it _ _
      refine ⟨_, rfl, ?_⟩
      by_cases c : p' ∈ pathsS s []
      · obtain ⟨t, et, nt⟩ := mem_paths.mp c
        refine if_t (e2.trans (decide_eq_true c)) ?_
        have ey : atD ((p' ++ [y]).map D.int) (-1) = some (.int y) := by rw [List.map_append]; exact atD_last _ _
        refine ⟨_, rfl, _, ey, _, rfl, _, rfl, ?_⟩
        refine reach _ ?_
        rw [sub_app, et]
        exact (sb_some (shOf_sub p' s t os et) nt y hy).symm
      · refine if_f (e2.trans (decide_eq_false c)) ?_
        have e2' : (((pathsS s []).map itD).any fun z => dEq z (.tup (cutD ((p' ++ [y]).map D.int) none (some (-1))))) = false := e2.trans (decide_eq_false c)
        show wSs _ _ [_, _, _, _, _, _, _, _, _, _, some (.bl (((pathsS s []).map itD).any fun z => dEq z (.tup (cutD ((p' ++ [y]).map D.int) none (some (-1)))))), _, _, _] S2 _
        rw [e2']
        refine reach false ?_
        rw [sub_app]
        cases et : sub s p' with
        | none => rfl
        | some t =>
          have : t = .e := Decidable.byContradiction fun n => c (mem_paths.mpr ⟨t, et, n⟩)
          subst this
          show false = (sub .e [y]).isSome
          rw [sub_e]; rfl
  refine ⟨_, rfl, _, rfl, okd_it pt, okd_itsL _, ?_⟩
  have e2 : (((pathsS s []).map itD).any fun z => dEq z (itD pt)) = decide (pt ∈ pathsS s []) := any_it _ _
  by_cases c : pt ∈ pathsS s []
  · obtain ⟨t, et, nt⟩ := mem_paths.mp c
    refine if_t (e2.trans (decide_eq_true c)) ?_
    refine ⟨_, rfl, _, rfl, w_part up__law_part s t pt _ (by omega) et ?_⟩
    refine ⟨_, rfl, _, rfl, w_try_part up__law_try_part s pt hb (by omega) (fun t' e' n' => ?_) (fun hn => absurd (hn t et) nt)⟩
    have : t' = t := Option.some.inj (e'.symm.trans et)
    subst this
    have oq : okq 20 (encS t') = true := okq_encS _ 20 ((shOf_sub pt s t' os et).ok hlo) (by
      have : ∀ (p : List Int) (s t : Sh), sub s p = some t → size t ≤ size s := by
        intro p
        induction p with
        | nil => intro s t e; rw [sub_nil] at e; cases e; exact Nat.le_refl _
        | cons y p ih =>
          intro s t e
          cases s with
          | e => rw [sub_e] at e; cases e
          | n1 l c =>
            obtain ⟨rfl, e⟩ := sub_n1 e
            have := ih c t e
            show _ ≤ size c + 1; omega
          | n2 l a b =>
            rcases sub_n2 e with ⟨rfl, e⟩ | ⟨rfl, e⟩
            · have := ih a t e
              show _ ≤ size a + size b + 1; omega
            · have := ih b t e
              show _ ≤ size a + size b + 1; omega
      have := this pt s t' et
      omega)
    refine ⟨_, rfl, ?_⟩
    refine w_same up__law_same_items 20 _ _ k _ _ _ oq oq (by decide) (by omega) ?_
    rw [sameD_refl 20 _ oq]
    exact ⟨_, rfl, half _⟩
  · refine if_f (e2.trans (decide_eq_false c)) ?_
    refine ⟨_, rfl, _, rfl, w_try_part up__law_try_part s pt hb (by omega) (fun t' e' n' => absurd (mem_paths.mpr ⟨t', e', n'⟩) c) (fun hn => ?_)⟩
    refine ⟨_, rfl, ?_⟩
    refine w_same up__law_same_items 1 _ _ k _ _ _ rfl rfl (by decide) (by omega) ?_
    rw [sameD_refl 1 _ rfl]
    exact ⟨_, rfl, half _⟩
/-- from the drawing of the path on -/
theorem law_mid {k : Nat} {ns : List Int} {p : Addr} {ways : Nat} {labels : List Bs} (kd : KindOk (kdD ways labels) ways labels) (hk : 100 ≤ k) (s : Sh) (os : shOf ways labels s) (hs : size s ≤ 12) {S : Sto} (tp : TapeOk p S) (x5 x6 : Option D) :
    wSs (P.G k fun _ _ _ => False) (f_law.body.drop 10) [some (.scr ns), some (.ref p), some (kdD ways labels), some (encS s), some (.lst ((pathsS s []).map itD)), x5, x6, none, none, none, none, none, none, none] S (bodyK Fin) := by
  refine ⟨_, rfl, w_take up__law_take (by decide) (by decide) tp _ (by omega) fun r S1 g0 g1 t1 o1 => ?_⟩
  obtain ⟨m, rfl⟩ := Int.eq_ofNat_of_zero_le g0
  refine ⟨⟨by omega, by omega⟩, ?_⟩
  rw [rangeD_map, show ((m : Int)).toNat = m by omega]
  refine loopL_draw (e := fun i : Nat => D.int (0 + (i : Int))) (fun S' => TapeOk p S') (fun b : Int => b = 0 ∨ b = 1) D.int (List.range m) S1 _ t1 (fun i _ S2 kk t2 hkk => ?_) (fun bs S2 t2 hl hb => ?_)
  · refine ⟨_, rfl, w_take up__law_take (by decide) (by decide) t2 _ (by omega) fun r S3 g0 g1 t3 o3 => ?_⟩
    exact hkk r S3 (by omega) t3
  rw [List.length_range] at hl
  refine ⟨_, rfl, ?_⟩
  have go : ∀ (pt : List Int) (x13 : Option D) (S3 : Sto), bits01 pt → pt.length ≤ 40 → TapeOk p S3 → wSs (P.G k fun _ _ _ => False) (f_law.body.drop 12) [some (.scr ns), some (.ref p), some (kdD ways labels), some (encS s), some (.lst ((pathsS s []).map itD)), x5, x6, some (itD pt), none, none, none, none, none, x13] S3 (bodyK Fin) := fun pt x13 S3 h1 h2 h3 => law_path kd hk s os hs h3 pt h1 h2 _ _ _
  refine ⟨_, rfl, okd_itsL _, rfl, ?_⟩
  have e1 : (!dEq (.lst ((pathsS s []).map itD)) (.lst [])) = !((pathsS s []).map itD).isEmpty := lst_neK _
  cases e2 : ((pathsS s []).map itD).isEmpty with
  | true =>
    refine if_f (e1.trans (by rw [e2]; rfl)) ?_
    refine if_f (e1.trans (by rw [e2]; rfl)) ?_
    exact go bs _ S2 hb (by omega) t2
  | false =>
    refine if_t (e1.trans (by rw [e2]; rfl)) ?_
    refine ⟨_, rfl, w_take up__law_take (by decide) (by decide) t2 _ (by omega) fun r S3 g0 g1 t3 o3 => ?_⟩
    refine if_c (fun c => ?_) (fun c => ?_)
    rotate_left
    · exact go bs _ S3 hb (by omega) t3
    have hpos : 0 < (pathsS s []).length := by
      cases e3 : pathsS s [] with
      | nil => rw [e3] at e2; cases e2
      | cons a b => simp
    have hplen := paths_len s []
    have hll : (((pathsS s []).map itD).length : Int) = ((pathsS s []).length : Int) := by rw [List.length_map]
    refine ⟨_, rfl, _, rfl, _, rfl, _, rfl, w_take up__law_take (n := ((((pathsS s []).map itD).length : Nat) : Int)) (by omega) (by omega) t3 _ (by omega) fun r2 S4 g2 g3 t4 o4 => ?_⟩
    obtain ⟨x, hx, ex⟩ := idx_list (xs := pathsS s []) (e := itD) g2 (by omega)
    refine ⟨_, ex, ?_⟩
    refine ⟨_, rfl, w_take up__law_take (by decide) (by decide) t4 _ (by omega) fun r3 S5 g4 g5 t5 o5 => ?_⟩
    have hbx := bits_paths hx
    have hlx : x.length ≤ 13 := by
      obtain ⟨t, et, nt⟩ := mem_paths.mp hx
      rcases sub_size x s t et nt with h | h
      · omega
      · rw [h]; simp
    have hh : r3 = 0 ∨ r3 = 1 ∨ r3 = 2 := by omega
    rcases hh with rfl | rfl | rfl
    · refine ⟨_, rfl, ⟨by rw [List.length_map]; show _ + 1 ≤ 16777216; omega, ?_⟩⟩
      rw [show D.tup (x.map D.int ++ [.int 0]) = itD (x ++ [0]) by simp [itD]]
      refine go (x ++ [0]) _ S5 (fun z hz => ?_) (by rw [List.length_append, List.length_singleton]; omega) t5
      rcases List.mem_append.mp hz with hz | hz
      · exact hbx z hz
      · exact .inl (List.mem_singleton.mp hz)
    · refine ⟨_, rfl, ⟨by rw [List.length_map]; show _ + 1 ≤ 16777216; omega, ?_⟩⟩
      rw [show D.tup (x.map D.int ++ [.int 1]) = itD (x ++ [1]) by simp [itD]]
      refine go (x ++ [1]) _ S5 (fun z hz => ?_) (by rw [List.length_append, List.length_singleton]; omega) t5
      rcases List.mem_append.mp hz with hz | hz
      · exact hbx z hz
      · exact .inr (List.mem_singleton.mp hz)
    · refine ⟨_, rfl, ⟨by rw [List.length_map]; show _ + 0 ≤ 16777216; omega, ?_⟩⟩
      rw [show D.tup (x.map D.int ++ []) = itD x by simp [itD]]
      exact go x _ S5 hbx (by omega) t5
theorem plain_any (k : Nat) (hk : 100 ≤ k) (ns : List Int) : P.spec (k + 1) iLaw [.scr ns] (fun _ => none) Fin (fun _ _ _ => False) := by
  refine Pg.spec_succ (f := f_law) (Pg.has rfl rfl) rfl ?_
  refine ⟨_, rfl, w_tape up__law_tape ns _ (by omega) fun p S1 t1 _ _ => ?_⟩
  refine ⟨_, rfl, w_kind up__law_kind t1 _ (by omega) fun d ways labels S2 kd t2 _ => ?_⟩
  obtain ⟨hl0, hl3, hlo⟩ := kd.pos
  obtain ⟨wn, rfl⟩ : ∃ wn : Nat, ways = wn := ⟨ways.toNat, by have := kd.2.1; omega⟩
  obtain ⟨hkb, hlab⟩ := kind_good kd
  have hd : d = kdD wn labels := kd.1
  subst hd
  have hw : (wn : Int) = 1 ∨ (wn : Int) = 2 := kd.2.1
  refine ⟨_, rfl, _, rfl, _, rfl, w_take up__law_take (by decide) (by decide) t2 _ (by omega) fun r S3 g0 g1 t3 _ => ?_⟩
  obtain ⟨sz, rfl⟩ := Int.eq_ofNat_of_zero_le g0
  refine w_shape up__law_shape kd sz k _ _ _ _ rfl (by omega) (by omega) t3 fun s S4 hs os t4 _ => ?_
  have hsz : size s ≤ 12 := by omega
  have ok := os.ok hlo
  have ls := os.lets hlab
  refine ⟨_, rfl, ?_⟩
  refine w_paths up__law_paths s [] _ k _ _ _ ok (by omega) (by show 0 + _ ≤ _; omega) (by omega) rfl ?_
  refine ⟨_, pathsS s [], rfl, fun t => ne_tup, its_map _, fun ns rest e => paths_root e, fun ys hy hsrt => ?_⟩
  rw [sorted_paths hy hsrt]
  clear hy hsrt ys
  refine ⟨_, rfl, w_write_shape up_write_shape s _ (by omega) ls (by omega) ?_⟩
  refine ⟨_, rfl, w_psize up_size s (by omega) (by omega) ?_⟩
  refine ⟨_, rfl, w_ppaths up_paths s _ (by omega) (by omega) ?_⟩
  refine ⟨_, rfl, w_ltext up__law_text s k _ _ _ ls ok (by omega) (by omega) ?_⟩
  refine ⟨_, rfl, _, rfl, _, rfl, ?_⟩
  have hpl := paths_len s []
  have oq : okq 3 (.lst [.str (textS s), .int (size s : Nat), .lst ((pathsS s []).map itD)]) = true := by
    have e1 : okq 2 (.lst ((pathsS s []).map itD)) = true := by
      show (decide (((pathsS s []).map itD).length ≤ 16777216) && ((pathsS s []).map itD).all (okq 1)) = true
      rw [Bool.and_eq_true]
      refine ⟨decide_eq_true (by rw [List.length_map]; omega), List.all_eq_true.mpr fun d hd => ?_⟩
      obtain ⟨x, hx, rfl⟩ := List.mem_map.mp hd
      refine okq_it x ?_ 0
      obtain ⟨t, et, nt⟩ := mem_paths.mp hx
      rcases sub_size x s t et nt with h | h
      · omega
      · rw [h]; simp
    show (decide (3 ≤ 16777216) && ([D.str (textS s), .int (size s : Nat), .lst ((pathsS s []).map itD)]).all (okq 2)) = true
    rw [List.all_cons, List.all_cons, List.all_cons, e1, okq_str (text_ok ls)]
    rfl
  have el : D.int ((((pathsS s []).map itD).length : Nat) : Int) = .int (size s : Nat) := by rw [List.length_map, hpl]
  rw [el]
  refine w_same up__law_same_items 3 _ _ k _ _ _ oq oq (by decide) (by omega) ?_
  rw [sameD_refl 3 _ oq]
  refine ⟨_, rfl, ?_⟩
  have tl := text_len ls
  have ot := text_ok ls
  refine ⟨_, rfl, _, rfl, w_ltext up__law_text s k _ _ _ ls ok (by omega) (by omega) ?_⟩
  refine w_read_shape up_read_shape hw hkb hlab hlo ot (by omega) (by omega) (fun d od ed => ?_) (fun hn => absurd ⟨s, os, rfl⟩ hn)
  have es : d = s := by
    have := text_inj2 hlab d s [] [] od os (by rw [ed])
    exact this.1
  subst es
  have oqs : okq 20 (encS d) = true := okq_encS d 20 ok (by omega)
  refine ⟨_, rfl, w_same up__law_same_items 20 _ _ k _ _ _ oqs oqs (by decide) (by omega) ?_⟩
  rw [sameD_refl 20 _ oqs]
  refine ⟨_, rfl, ?_⟩
  refine ⟨_, rfl, _, rfl, w_ltext up__law_text d k _ _ _ ls ok (by omega) (by omega) ?_⟩
  refine w_bent up__law_bent ot (by omega) t4 (by omega) fun t' S5 ot' lt' t5 o5 => ?_
  refine ⟨_, rfl, _, rfl, w_lread up__law_read hw hkb hlab hlo ot' (by omega) (by omega) (fun u ou eu => ?_) (fun hn => ?_)⟩
  · -- a shape was found
    have lu := ou.lets hlab
    have oku := ou.ok hlo
    have hu : size u ≤ 14 := by
      rcases hw with hw | hw
      · rw [hw] at ou os
        have e1 := text_eq1 hlab ou
        have e2 := text_eq1 hlab os
        rw [eu] at e1; omega
      · rw [hw] at ou os
        have e1 := text_eq2 hlab ou
        have e2 := text_eq2 hlab os
        rw [eu] at e1; omega
    have okdu : okd 20 (encS u) = true := okd_encS u 20 oku (by omega)
    refine ⟨_, rfl, okd_mono (by decide) okdu, rfl, ?_⟩
    have e1 : (!dEq (encS u) (.str [110, 111, 110, 101])) = true := by rw [enc_ne]; rfl
    refine if_t e1 ?_
    refine ⟨_, rfl, _, rfl, w_lis up__law_is hlo 20 (encS u) k _ _ _ (by decide) okdu (by omega) ?_⟩
    rw [isSh_enc u 20 ou (by omega)]
    refine ⟨_, rfl, ?_⟩
    refine ⟨_, rfl, w_ltext up__law_text u k _ _ _ lu oku (by omega) (by omega) ?_⟩
    refine ⟨_, rfl, okd_str' (text_ok lu), okd_str' ot', ?_⟩
    have e2 : (!dEq (.str (textS u)) (.str t')) = false := by rw [eu]; simp [dEq]
    refine if_f e2 ?_
    refine ⟨_, rfl, okd_mono (by decide) okdu, rfl, ?_⟩
    have e3 : dEq (encS u) (.str [110, 111, 110, 101]) = false := enc_ne u _
    refine if_f e3 (if_f e3 ?_)
    exact law_mid kd (by omega) d os (by omega) t5 _ _
  · refine ⟨_, rfl, rfl, rfl, ?_⟩
    refine ⟨_, rfl, rfl, rfl, ?_⟩
    refine ⟨_, rfl, _, rfl, w_ltext up__law_text d k _ _ _ ls ok (by omega) (by omega) ?_⟩
    refine ⟨okd_str' ot', okd_str' ot, ?_⟩
    have e2 : dEq (.str t') (.str (textS d)) = false := by
      show (t' == textS d) = false
      exact beq_eq_false_iff_ne.mpr fun e => hn ⟨d, os, e.symm⟩
    refine if_f e2 ?_
    exact law_mid kd (by omega) d os (by omega) t5 _ _
theorem plainLaw (ns : List Int) (_ : ns.length ≤ 63) : P.spec 200 iLaw [.scr ns] (fun _ => none) Fin (fun _ _ _ => False) := plain_any 199 (by decide) ns
end K01
open PySem PySem.W PyProof.Rows
set_option maxHeartbeats 0 in
theorem PySem.Challenge.cw_treesays_k01_shapes_and_their_texts_holds : PySem.Challenge.rw_treesays_k01_shapes_and_their_texts.Holds := by
  w_on; o_law; k_head; (case hw => w_witness2)
  k_fill
  refine DL.fin_walk (l := PySem.Challenge.rw_treesays_k01_shapes_and_their_texts) (P := K01.P) (fn := K01.fn) (i := K01.iLaw) (k := 200) (x := "_law_script") (by rfl) (by rfl) ⟨rfl, by decide, by decide⟩ (fun w h Y => PySem.W.kIn_of Y) (by rfl) (by rfl) (by decide +kernel) (by rfl) ?c K01.ck K01.bd ?g (by decide +kernel) ?x ?d K01.plainLaw
  case c =>
    intro w
    show He.obsD _ _ _ = He.valD _
    kernel_rfl
  case g =>
    intro w nm d e n1 n2
    exact DL.gl_ok (gl := K01.P.gl) (by kernel_rfl) e n1 n2
  case x =>
    intro w
    exact .inr (by kernel_rfl)
  case d =>
    intro w nm d e
    simp [K01.P] at e
