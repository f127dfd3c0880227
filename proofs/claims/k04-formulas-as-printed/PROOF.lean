import PyProof.Rows.All
import Wide.All
import OpenK.AllK
import Wide.FinOn
import HandS.ForMost
import HandS.More
import HandS.DictComp
import KE.KeyNested
import HandS.HeadHook1
import HandS.Nested
import HandS.TupAny
import HandS.Deep
import HandS.Style
import HandS.Flow
import HandS.IsInst
import HandS.Conv
import HandS.ForExc
import HandS.SortRule
import HandS.TupLe
import KE.LtData
import HandS.Iter
import KE.GoesMore
import KE.GoesEnum
import HandS.Walk
import HandS.Set
import HandS.SetFor
import HandS.Strs
import PyProof.Rows.SortShellAny
import HandS.RaiseMore
import HandS.SortInts
import HandS.FStr
import HandS.Small
import HandS.TryMany
import HandS.ExcIs
import HandS.ExcField
import HandS.HotCalls
import HandS.Defaults
import HandS.ExcInit
import KE.KExcInit
import HandS.ExcOwn
import HandS.CallRecv
import HandS.SetKeys
import HandS.TupLen
import HandS.WordsDict
import HandS.Zip
import PyProof.Rows.TupDisplay
import KE.SortKeyHeap
import HandS.TupMul
import HandS.HeadHook2
import HandS.HeadEnd
import HandS.HeadHook4
import HandS.HeadWalk
import PySem.Challenge.RW_treesays_k04_formulas_are_read_as_printe
set_option Elab.async false
set_option linter.all false
set_option maxRecDepth 100000
/-! DL1: data as values, own syntax, what is wanted (weakest preconditions over data). -/
namespace DL
open PySem L2
noncomputable abbrev Bs := List Nat
inductive D where
  | non | bl (b : Bool) | int (i : Int) | str (s : Bs) | tup (xs : List D) | lst (xs : List D) | dct (kvs : List (D × D)) | ref (a : Addr) | opq (ns : List Int) (fv : Option (Addr × HO × List V)) (caps : List D)
deriving Inhabited
/-- the law's script; with fv a function's value, what it captured -/
noncomputable abbrev D.scr (ns : List Int) : D := .opq ns none []
noncomputable abbrev D.fnv (q : Addr) (o : HO) (ws : List V) (caps : List D) : D := .opq [] (some (q, o, ws)) caps
inductive DO where
  | lst (xs : List D) | dct (kvs : List (D × D)) | tdc (kvs : List (D × D)) | ins (c : Bs) (fs : List (Bs × D))
noncomputable abbrev Sto := Addr → Option DO
noncomputable def ups (S : Sto) (a : Addr) (o : DO) : Sto := fun b => if b = a then some o else S b
noncomputable def del (S : Sto) (a : Addr) : Sto := fun b => if b = a then none else S b
noncomputable abbrev SZ : Nat := 16777216
/-! ### equality -/
mutual
noncomputable def dEq : D → D → Bool
  | .non, .non => true
  | .bl a, .bl b => a == b
  | .bl a, .int j => (if a then 1 else 0) == j
  | .int i, .bl b => i == (if b then 1 else 0)
  | .int i, .int j => i == j
  | .str s, .str t => s == t
  | .tup xs, .tup ys => dEqL xs ys
  | .lst xs, .lst ys => dEqL xs ys
  | _, _ => false
noncomputable def dEqL : List D → List D → Bool
  | [], [] => true
  | x :: xs, y :: ys => dEq x y && dEqL xs ys
  | _, _ => false
end
/-- data that == may be asked of: no dicts, no references, nested at most n deep -/
noncomputable def okd : Nat → D → Bool
  | _, .non => true
  | _, .bl _ => true
  | _, .int _ => true
  | _, .str s => s.all (· < 0x110000)
  | n + 1, .tup xs => xs.all (okd n)
  | n + 1, .lst xs => xs.all (okd n)
  | _, _ => false
noncomputable abbrev okD (d : D) : Prop := okd 60 d = true
/-! ### reading -/
noncomputable def keyb : D → D → Bool
  | .int i, .int j => i == j
  | .str s, .str t => s == t
  | _, _ => false
noncomputable def isKey : D → Bool
  | .int _ => true
  | .str _ => true
  | _ => false
noncomputable def lookD : List (D × D) → D → Option D
  | [], _ => none
  | (k, d) :: r, q => if keyb k q then some d else lookD r q
noncomputable def putD : List (D × D) → D → D → List (D × D)
  | [], q, e => [(q, e)]
  | (k, d) :: r, q, e => if keyb k q then (k, e) :: r else (k, d) :: putD r q e
/-- a key that is a tuple, nested -/
noncomputable def tkq : Nat → D → Bool
  | _, .non => true
  | _, .bl _ => true
  | _, .int _ => true
  | _, .str _ => true
  | n + 1, .tup xs => xs.all (tkq n)
  | _, _ => false
noncomputable def isTK : D → Bool
  | .tup xs => xs.all (tkq 6)
  | _ => false
noncomputable def lookT : List (D × D) → D → Option D
  | [], _ => none
  | (k, d) :: r, q => if dEq k q then some d else lookT r q
noncomputable def putT : List (D × D) → D → D → List (D × D)
  | [], q, e => [(q, e)]
  | (k, d) :: r, q, e => if dEq k q then (k, e) :: r else (k, d) :: putT r q e
/-- the fields of an instance -/
noncomputable def lookF : List (Bs × D) → Bs → Option D
  | [], _ => none
  | (k, d) :: r, q => if k == q then some d else lookF r q
noncomputable def putFd : List (Bs × D) → Bs → D → List (Bs × D)
  | [], q, e => [(q, e)]
  | (k, d) :: r, q, e => if k == q then (k, e) :: r else (k, d) :: putFd r q e
noncomputable def tru (S : Sto) : D → Option Bool
  | .non => some false
  | .bl b => some b
  | .int i => some (i != 0)
  | .str s => some (!s.isEmpty)
  | .tup xs => some (!xs.isEmpty)
  | .lst xs => some (!xs.isEmpty)
  | .dct kvs => none
  | .ref a => match S a with
    | some (.lst xs) => some (!xs.isEmpty)
    | some (.dct kvs) => some (!kvs.isEmpty)
    | _ => none
  | .opq _ _ _ => none
/-- a list or tuple, as it stands -/
noncomputable def vw (S : Sto) : D → Option (List D)
  | .tup xs => some xs
  | .lst xs => some xs
  | .ref a => match S a with
    | some (.lst xs) => some xs
    | _ => none
  | _ => none
/-- a list, as it stands -/
noncomputable def lvw (S : Sto) : D → Option (List D)
  | .lst xs => some xs
  | .ref a => match S a with
    | some (.lst xs) => some xs
    | _ => none
  | _ => none
noncomputable def dvw (S : Sto) : D → Option (List (D × D))
  | .dct kvs => some kvs
  | .ref a => match S a with
    | some (.dct kvs) => some kvs
    | _ => none
  | _ => none
noncomputable def atD {α : Type} (xs : List α) (i : Int) : Option α :=
  if 0 ≤ i then xs[i.toNat]? else if -(xs.length : Int) ≤ i then xs[(i + xs.length).toNat]? else none
noncomputable def cutD {α : Type} (xs : List α) (lo hi : Option Int) : List α := (xs.drop (HT.sIx xs.length 0 lo)).take (HT.sIx xs.length xs.length hi - HT.sIx xs.length 0 lo)
/-! ### own syntax -/
inductive Op2 where
  | add | sub | mul | fdiv | mod
deriving DecidableEq
inductive Cm where
  | eq | ne | lt | le | gt | ge | is | isnt | isin | notin
deriving DecidableEq
inductive Bf where
  | len | abs | int | list | tuple | any | all | sum | sorted | dict
deriving DecidableEq
inductive B1 where
  | max | min | sstr | sdct | str | sdi | anyt | allt
deriving DecidableEq
inductive Ty where
  | int | bool | str | tuple | list | dict
deriving DecidableEq
mutual
inductive Tg where
  | nm (i : Nat) | tup (ts : Tgs)
inductive Tgs where
  | nil | cons (t : Tg) (ts : Tgs)
end
mutual
inductive E where
  | var (i : Nat)
  | non | bl (b : Bool) | int (i : Int) | str (s : Bs)
  | glb (x : Str) (d : D)
  | tup (es : Es) | lst (es : Es) | newl (es : Es)
  | dct (es : Es) | newd | newk (es : Es) | fmt (a : E) | fst (es : Es)
  | bin (o : Op2) (a b : E)
  | neg (a : E) | not (a : E)
  | boo (an : Bool) (es : Es)
  | cmp (o : Cm) (a b : E)
  | chn (o p : Cm) (a b c : E)
  | ite (c a b : E)
  | idx (a i : E)
  | sl (a : E) (lo hi : Eo)
  | call (f : Nat) (es : Es)
  | bif (f : Bf) (a : E)
  | isi (t : Ty) (a : E)
  | lc (elt : E) (tg : Tg) (it : Wk) (tt : Es) (own : List Nat)
  | frz (a : E)
  | b1 (f : B1) (a : E)
  | fld (c : Bs) (a : E) (f : Bs)
  | mk (c : Bs) (i : Nat) (es : Es)
  | meth (c m : Bs) (i : Nat) (a : E) (es : Es)
  | repN (a b : E)
  | dgt (a k v : E)
inductive Es where
  | nil | cons (e : E) (es : Es)
inductive Eo where
  | none | some (e : E)
inductive Wk where
  | over (e : E) | rng1 (a : E) | rng2 (a b : E) | enum (a : E)
end
/-- an except suite: return of a constant, of one of two constants by isinstance(e, the base class), of a comparison, of the error's field -/
inductive Su where
  | con (d : D) | isx (d e : D) | gt (i : Nat) (n : Int) | fld | sme (k : Nat) (y : Bs)
inductive S where
  | set (t : Tg) (e : E)
  | aug (i : Nat) (o : Op2) (e : E)
  | put (o i e : E)
  | expr (e : E)
  | app (o e : E)
  | ret (e : E) | retN
  | ite (c : E) (a b : List S)
  | loop (c : E) (b : List S)
  | each (t : Tg) (it : Wk) (b : List S)
  | brk | cont | pass
  | fz (i : Nat)
  | par (i j : Nat) (a b : E)
  | rais (c : Nat)
  | raisn (c : Nat) (e : E)
  | xini (f : Bs)
  | tri (b : List S) (c : Nat) (x : Option Nat) (h : Su)
  | putf (c : Bs) (o : E) (f : Bs) (e : E)
  | augf (c : Bs) (o : E) (f : Bs) (op : Op2) (e : E)
  | frf (i : Nat) (c f : Bs)
  | bld (i n : Nat) (js : List Nat) (b : Nat) (e : E) (c m : Bs) (xi : Nat)
  | bxp (b a : Nat) (c m : Bs) (xi : Nat) (c2 m2 : Bs) (n2 : Nat)
/-! ### what is wanted -/
noncomputable abbrev Env := List (Option D)
noncomputable def get : Env → Nat → Option D
  | [], _ => none
  | x :: _, 0 => x
  | _ :: r, i + 1 => get r i
noncomputable def put : Env → Nat → D → Env
  | [], _, _ => []
  | _ :: r, 0, d => some d :: r
  | x :: r, i + 1, d => x :: put r i d
noncomputable def wip : Env → List Nat → Env
  | ρ, [] => ρ
  | ρ, v :: vs => (wip ρ vs).set v none
noncomputable abbrev QD := D → Sto → Prop
noncomputable abbrev QX := Nat → D → Sto → Prop
noncomputable abbrev DSp := List D → Sto → QD → QX → Prop
/-- fk: the function value that this def was handed, what it says; hsp: what a method says that is handed a function value -/
structure Gx where
  spec : Nat → DSp
  spc : Nat → DSp
  xq : QX
  fk : Option (D × DSp)
  hsp : Nat → D → DSp → DSp
  /-- how deep it may still call -/
  dp : Nat
noncomputable def Gx.nox (G : Gx) : Gx := { G with xq := fun _ _ _ => False, fk := none }
/-- the slots' values -/
noncomputable def getL (ρ : Env) : List Nat → Option (List D)
  | [] => some []
  | j :: js => match get ρ j, getL ρ js with
    | some d, some ds => some (d :: ds)
    | _, _ => none
noncomputable def wBin (o : Op2) (x y : D) (Q : D → Prop) : Prop :=
  match o, x, y with
  | .add, .int i, .int j => Q (.int (i + j))
  | .add, .str s, .str t => s.length + t.length ≤ SZ ∧ Q (.str (s ++ t))
  | .add, .tup s, .tup t => s.length + t.length ≤ SZ ∧ Q (.tup (s ++ t))
  | .add, .lst s, .lst t => s.length + t.length ≤ SZ ∧ Q (.lst (s ++ t))
  | .sub, .int i, .int j => Q (.int (i - j))
  | .mul, .int i, .int j => ((-(2 ^ 64) < i ∧ i < 2 ^ 64) ∨ (-(2 ^ 64) < j ∧ j < 2 ^ 64)) ∧ Q (.int (i * j))
  | .fdiv, .int i, .int j => (0 < j ∧ j < 1073741824) ∧ Q (.int (i / j))
  | .mod, .int i, .int j => 0 < j ∧ Q (.int (i % j))
  | _, _, _ => False
/-- += on ints -/
noncomputable def wAug (o : Op2) (x y : D) (Q : D → Prop) : Prop :=
  match o, x, y with
  | .add, .int i, .int j => Q (.int (i + j))
  | .sub, .int i, .int j => Q (.int (i - j))
  | _, _, _ => False
noncomputable def wCmp (o : Cm) (x y : D) (St : Sto) (Q : Bool → Prop) : Prop :=
  match o with
  | .eq => okD x ∧ okD y ∧ Q (dEq x y)
  | .ne => okD x ∧ okD y ∧ Q (!dEq x y)
  | .lt => match x, y with
    | .int i, .int j => Q (decide (i < j))
    | .str s, .str t => Q (decide (s < t))
    | _, _ => False
  | .le => match x, y with
    | .int i, .int j => Q (decide (i ≤ j))
    | .str s, .str t => Q (!decide (t < s))
    | _, _ => False
  | .gt => match x, y with
    | .int i, .int j => Q (decide (j < i))
    | .str s, .str t => Q (decide (t < s))
    | _, _ => False
  | .ge => match x, y with
    | .int i, .int j => Q (decide (j ≤ i))
    | .str s, .str t => Q (!decide (s < t))
    | _, _ => False
  | .is => match y with
    | .non => Q (match x with | .non => true | _ => false)
    | .bl b => match x with | .bl a => Q (decide (a = b)) | _ => False
    | _ => False
  | .isnt => match y with
    | .non => Q (!(match x with | .non => true | _ => false))
    | .bl b => match x with | .bl a => Q (!decide (a = b)) | _ => False
    | _ => False
  | .isin => match y with
    | .str t => match x with | .str [c] => Q (decide (c ∈ t)) | _ => False
    | .dct kvs => isKey x = true ∧ Q (lookD kvs x).isSome
    | .tup ds => okD x ∧ okD (.tup ds) ∧ Q (ds.any fun z => dEq z x)
    | .lst ds => okD x ∧ okD (.lst ds) ∧ Q (ds.any fun z => dEq z x)
    | .ref a => match St a with
      | some (.lst ds) => okD x ∧ okD (.lst ds) ∧ Q (ds.any fun z => dEq z x)
      | some (.dct kvs) => isKey x = true ∧ Q (lookD kvs x).isSome
      | some (.tdc kvs) => isTK x = true ∧ Q (lookT kvs x).isSome
      | _ => False
    | _ => False
  | .notin => match y with
    | .str t => match x with | .str [c] => Q (!decide (c ∈ t)) | _ => False
    | .dct kvs => isKey x = true ∧ Q (!(lookD kvs x).isSome)
    | .tup ds => okD x ∧ okD (.tup ds) ∧ Q (!(ds.any fun z => dEq z x))
    | .lst ds => okD x ∧ okD (.lst ds) ∧ Q (!(ds.any fun z => dEq z x))
    | .ref a => match St a with
      | some (.lst ds) => okD x ∧ okD (.lst ds) ∧ Q (!(ds.any fun z => dEq z x))
      | some (.dct kvs) => isKey x = true ∧ Q (!(lookD kvs x).isSome)
      | some (.tdc kvs) => isTK x = true ∧ Q (!(lookT kvs x).isSome)
      | _ => False
    | _ => False
noncomputable def wIdx (St : Sto) (x y : D) (Q : D → Prop) : Prop :=
  match x, y with
  | .tup ds, .int i => ∃ d, atD ds i = some d ∧ Q d
  | .lst ds, .int i => ∃ d, atD ds i = some d ∧ Q d
  | .str s, .int i => ∃ c, atD s i = some c ∧ Q (.str [c])
  | .dct kvs, k => isKey k = true ∧ ∃ d, lookD kvs k = some d ∧ Q d
  | .ref a, k => match St a with
    | some (.lst ds) => match k with
      | .int i => ∃ d, atD ds i = some d ∧ Q d
      | _ => False
    | some (.dct kvs) => isKey k = true ∧ ∃ d, lookD kvs k = some d ∧ Q d
    | some (.tdc kvs) => isTK k = true ∧ ∃ d, lookT kvs k = some d ∧ Q d
    | _ => False
  | _, _ => False
noncomputable def wSl (St : Sto) (x : D) (lo hi : Option Int) (Q : D → Prop) : Prop :=
  match x with
  | .tup ds => Q (.tup (cutD ds lo hi))
  | .lst ds => Q (.lst (cutD ds lo hi))
  | .str s => Q (.str (cutD s lo hi))
  | .ref a => match St a with
    | some (.lst ds) => Q (.lst (cutD ds lo hi))
    | _ => False
  | _ => False
noncomputable def boolsD : List D → Option (List Bool)
  | [] => some []
  | .bl b :: r => (boolsD r).map (b :: ·)
  | _ :: _ => none
noncomputable def intsD : List D → Option (List Int)
  | [] => some []
  | .int i :: r => (intsD r).map (i :: ·)
  | _ :: _ => none
noncomputable def strsD : List D → Option (List Bs)
  | [] => some []
  | .str s :: r => (strsD r).map (s :: ·)
  | _ :: _ => none
/-- the order of sorted: intsD, texts, tuples of intsD -/
noncomputable def ltInts : List Int → List Int → Bool
  | [], [] => false
  | [], _ :: _ => true
  | _ :: _, [] => false
  | a :: s, b :: t => if a = b then ltInts s t else decide (a < b)
noncomputable def tupInts : D → Option (List Int)
  | .tup ds => intsD ds
  | _ => none
noncomputable def itD (ns : List Int) : D := .tup (ns.map .int)
noncomputable def itsD : List D → Option (List (List Int))
  | [] => some []
  | d :: r => match tupInts d, itsD r with
    | some a, some b => some (a :: b)
    | _, _ => none
noncomputable def lenD (St : Sto) : D → Option Nat
  | .str s => some s.length
  | .tup xs => some xs.length
  | .lst xs => some xs.length
  | .ref a => match St a with
    | some (.lst xs) => some xs.length
    | some (.dct xs) => none
    | _ => none
  | _ => none
noncomputable def wBf (f : Bf) (x : D) (St : Sto) (Q : D → Prop) : Prop :=
  match f with
  | .len => ∃ n, lenD St x = some n ∧ Q (.int n)
  | .abs => match x with | .int i => Q (.int (if i < 0 then -i else i)) | _ => False
  | .int => match x with | .int i => Q (.int i) | .bl b => Q (.int (if b then 1 else 0)) | _ => False
  | .list => ∃ ds, vw St x = some ds ∧ Q (.lst ds)
  | .tuple => ∃ ds, vw St x = some ds ∧ Q (.tup ds)
  | .any => ∃ ds bs, vw St x = some ds ∧ (∀ t, x ≠ .tup t) ∧ boolsD ds = some bs ∧ Q (.bl (bs.any id))
  | .all => ∃ ds bs, vw St x = some ds ∧ (∀ t, x ≠ .tup t) ∧ boolsD ds = some bs ∧ Q (.bl (bs.all id))
  | .sum => ∃ ds ns, vw St x = some ds ∧ (∀ t, x ≠ .tup t) ∧ intsD ds = some ns ∧ Q (.int ns.sum)
  | .sorted => ∃ ds nss, vw St x = some ds ∧ (∀ t, x ≠ .tup t) ∧ itsD ds = some nss ∧ (∀ (ns : List Int) (rest : List (List Int)), nss = ns :: rest → ns = []) ∧ ∀ ys : List (List Int), ys.Perm nss → ys.Pairwise (fun a b => ltInts b a = false) → Q (.lst (ys.map itD))
  | .dict => False
/-- a number's text -/
noncomputable def decS (i : Int) : Bs := (Str.ofString (toString i)).cps.toList
noncomputable def wB1 (f : B1) (x : D) (St : Sto) (Q : D → Prop) : Prop :=
  match f with
  | .max => ∃ ds ns, vw St x = some ds ∧ (∀ t, x ≠ .tup t) ∧ intsD ds = some ns ∧ 0 < ns.length ∧ ∀ m, m ∈ ns → (∀ y, y ∈ ns → y ≤ m) → Q (.int m)
  | .min => ∃ ds ns, vw St x = some ds ∧ (∀ t, x ≠ .tup t) ∧ intsD ds = some ns ∧ 0 < ns.length ∧ ∀ m, m ∈ ns → (∀ y, y ∈ ns → m ≤ y) → Q (.int m)
  | .sstr => ∃ ds ts, vw St x = some ds ∧ (∀ t, x ≠ .tup t) ∧ strsD ds = some ts ∧ ts.length < 64 ∧ ∀ ys : List Bs, ys.Perm ts → (ys.Pairwise fun a b => ¬ b < a) → Q (.lst (ys.map .str))
  | .sdct => ∃ kvs ts, dvw St x = some kvs ∧ strsD (kvs.map (·.1)) = some ts ∧ ts.length < 64 ∧ (∀ y ∈ ts, y.length ≤ SZ) ∧ ∀ ys : List Bs, ys.Perm ts → (ys.Pairwise fun a b => ¬ b < a) → Q (.lst (ys.map .str))
  | .anyt => match x with | .tup ds => ∃ bs, boolsD ds = some bs ∧ Q (.bl (bs.any id)) | _ => False
  | .allt => match x with | .tup ds => ∃ bs, boolsD ds = some bs ∧ Q (.bl (bs.all id)) | _ => False
  | .sdi => ∃ kvs ns, dvw St x = some kvs ∧ intsD (kvs.map (·.1)) = some ns ∧ ∀ ys : List Int, ys.Perm ns → ys.Pairwise (· ≤ ·) → Q (.lst (ys.map .int))
  | .str => match x with | .int i => (i.natAbs.log2 < 1920 ∧ (decS i).length ≤ 1000) ∧ Q (.str (decS i)) | .str s => Q (.str s) | _ => False
noncomputable def dropD (kvs : List (D × D)) (y : D) : List (D × D) := kvs.filter fun kv => !keyb kv.1 y
inductive Tk where
  | non | bool | int | str | tuple | list | dict
deriving DecidableEq
noncomputable def tkD (St : Sto) : D → Option Tk
  | .non => some .non
  | .bl _ => some .bool
  | .int _ => some .int
  | .str _ => some .str
  | .tup _ => some .tuple
  | .lst _ => some .list
  | .dct _ => some .dict
  | .ref a => match St a with
    | some (.lst _) => some .list
    | some (.dct _) => some .dict
    | _ => none
  | .opq _ _ _ => none
noncomputable def isK : Ty → Tk → Bool
  | .int, .int => true
  | .int, .bool => true
  | .bool, .bool => true
  | .str, .str => true
  | .tuple, .tuple => true
  | .list, .list => true
  | .dict, .dict => true
  | _, _ => false
mutual
noncomputable def bindT : Tg → D → Env → (Env → Prop) → Prop
  | .nm i, d, ρ, Q => Q (put ρ i d)
  | .tup ts, .tup ds, ρ, Q => bindTs ts ds ρ Q
  | _, _, _, _ => False
noncomputable def bindTs : Tgs → List D → Env → (Env → Prop) → Prop
  | .nil, [], ρ, Q => Q ρ
  | .cons t ts, d :: ds, ρ, Q => bindT t d ρ fun ρ' => bindTs ts ds ρ' Q
  | _, _, _, _ => False
end
/-- the items of a comprehension, one after the other -/
noncomputable def loopL (f : D → Sto → (List D → Sto → Prop) → Prop) : List D → Sto → (List D → Sto → Prop) → Prop
  | [], St, Q => Q [] St
  | d :: ds, St, Q => f d St fun ys S1 => loopL f ds S1 fun zs S2 => Q (ys ++ zs) S2
/-- a dict comprehension: okK says what a key is, pt puts -/
noncomputable def okX (tk : Bool) (d : D) : Bool := match tk with
  | true => isTK d
  | false => isKey d
noncomputable def pairsD : List D → Option (List (D × D))
  | [] => some []
  | k :: v :: r => (pairsD r).map ((k, v) :: ·)
  | _ => none
noncomputable def enumD : Nat → List D → List D
  | _, [] => []
  | n, d :: r => .tup [.int n, d] :: enumD (n + 1) r
noncomputable def zipD : List D → List D → List D
  | a :: r, b :: s => .tup [a, b] :: zipD r s
  | _, _ => []
noncomputable def rangeD (lo : Int) : Nat → List D
  | 0 => []
  | n + 1 => .int lo :: rangeD (lo + 1) n
noncomputable def isDct (S : Sto) (p : Addr) : Prop := (∃ kvs, S p = some (.dct kvs)) ∨ ∃ kvs, S p = some (.tdc kvs)
/-- get with a default -/
noncomputable def wDgt (S : Sto) (p : Addr) (y z : D) (Q : D → Prop) : Prop := match S p with
  | some (.dct kvs) => isKey y = true ∧ Q ((lookD kvs y).getD z)
  | some (.tdc kvs) => isTK y = true ∧ Q ((lookT kvs y).getD z)
  | _ => False
/-- a value's end: as a test its truth -/
noncomputable def fin (t : Bool) (d : D) (St : Sto) (Q : QD) : Prop := match t with
  | false => Q d St
  | true => ∃ b, tru St d = some b ∧ Q (.bl b) St
/-- of a test's value -/
noncomputable def mB (Q : Bool → Sto → Prop) : QD := fun d S => match d with
  | .bl b => Q b S
  | _ => False
mutual
/-- t: as a test; what comes is then a Bool -/
noncomputable def wX (G : Gx) (t : Bool) : E → Env → Sto → QD → Prop
  | .var i, ρ, St, Q => ∃ d, get ρ i = some d ∧ fin t d St Q
  | .non, _, St, Q => fin t .non St Q
  | .bl b, _, St, Q => fin t (.bl b) St Q
  | .int i, _, St, Q => fin t (.int i) St Q
  | .str s, _, St, Q => fin t (.str s) St Q
  | .glb _ d, _, St, Q => fin t d St Q
  | .tup es, ρ, St, Q => wEs G es ρ St fun ds S1 => fin t (.tup ds) S1 Q
  | .lst es, ρ, St, Q => wEs G es ρ St fun ds S1 => fin t (.lst ds) S1 Q
  | .newl es, ρ, St, Q => wEs G es ρ St fun ds S1 => ∀ p, S1 p = none → fin t (.ref p) (ups S1 p (.lst ds)) Q
  | .dct es, ρ, St, Q => wEs G es ρ St fun ds S1 => ∃ kvs, pairsD ds = some kvs ∧ (kvs.map (·.1)).all isKey = true ∧ (kvs.map (·.1)).Nodup ∧ fin t (.dct kvs) S1 Q
  | .newk es, ρ, St, Q => wEs G es ρ St fun ds S1 => ∃ kvs, pairsD ds = some kvs ∧ (kvs.map (·.1)).all isKey = true ∧ (kvs.map (·.1)).Nodup ∧ ∀ p, S1 p = none → fin t (.ref p) (ups S1 p (.dct kvs)) Q
  | .newd, _, St, Q => ∀ p, St p = none → fin t (.ref p) (ups St p (.dct [])) Q
  | .fmt a, ρ, St, Q => wX G false a ρ St fun x S1 => wB1 .str x S1 fun z => fin t z S1 Q
  | .fst es, ρ, St, Q => wJs G [] es ρ St fun s S1 => fin t (.str s) S1 Q
  | .bin o a b, ρ, St, Q => wX G false a ρ St fun x S1 => wX G false b ρ S1 fun y S2 => wBin o x y fun z => fin t z S2 Q
  | .neg a, ρ, St, Q => wX G false a ρ St fun x S1 => match x with | .int i => fin t (.int (-i)) S1 Q | _ => False
  | .not a, ρ, St, Q => match t with
    | false => wX G false a ρ St fun x S1 => ∃ b, tru S1 x = some b ∧ Q (.bl (!b)) S1
    | true => wX G true a ρ St (mB fun b S1 => Q (.bl (!b)) S1)
  | .boo an es, ρ, St, Q => wB G t an es ρ St Q
  | .cmp o a b, ρ, St, Q => wX G false a ρ St fun x S1 => wX G false b ρ S1 fun y S2 => wCmp o x y S2 fun k => Q (.bl k) S2
  | .chn o p a b c, ρ, St, Q => wX G false a ρ St fun x S1 => wX G false b ρ S1 fun y S2 => wCmp o x y S2 fun k => if k = true then wX G false c ρ S2 fun z S3 => wCmp p y z S3 fun l => Q (.bl l) S3 else Q (.bl false) S2
  | .ite c a b, ρ, St, Q => match t with
    | false => wX G true c ρ St (mB fun k S1 => if k = true then wX G false a ρ S1 Q else wX G false b ρ S1 Q)
    | true => False
  | .idx a i, ρ, St, Q => wX G false a ρ St fun x S1 => wX G false i ρ S1 fun y S2 => wIdx S2 x y fun z => fin t z S2 Q
  | .sl a lo hi, ρ, St, Q => wX G false a ρ St fun x S1 => wEo G lo ρ S1 fun l S2 => wEo G hi ρ S2 fun h S3 => wSl S3 x l h fun z => fin t z S3 Q
  | .call f es, ρ, St, Q => wEs G es ρ St fun ds S1 => G.spec f ds S1 (fun d S2 => fin t d S2 Q) G.xq
  | .bif f a, ρ, St, Q => wX G false a ρ St fun x S1 => wBf f x S1 fun z => fin t z S1 Q
  | .isi u a, ρ, St, Q => wX G false a ρ St fun x S1 => ∃ k, tkD S1 x = some k ∧ fin t (.bl (isK u k)) S1 Q
  | .lc elt tg it tt own, ρ, St, Q => wIt G it ρ St fun ds S1 =>
      loopL (fun d S2 k => bindT tg d (wip ρ own) fun ρ' => wTs G.nox tt ρ' S2 fun b S3 => if b = true then wX G.nox false elt ρ' S3 fun y S4 => k [y] S4 else k [] S3) ds S1 fun ys S2 => fin t (.lst ys) S2 Q
  | .frz a, ρ, St, Q => wX G false a ρ St fun x S1 => match x with
    | .ref p => match S1 p with
      | some (.lst ds) => fin t (.lst ds) (del S1 p) Q
      | some (.dct kvs) => fin t (.dct kvs) (del S1 p) Q
      | _ => False
    | _ => False
  | .b1 f a, ρ, St, Q => wX G false a ρ St fun x S1 => wB1 f x S1 fun z => fin t z S1 Q
  | .fld c a f, ρ, St, Q => wX G false a ρ St fun x S1 => match x with
    | .ref p => match S1 p with
      | some (.ins c' fs) => c' = c ∧ ∃ d, lookF fs f = some d ∧ fin t d S1 Q
      | _ => False
    | _ => False
  | .mk c i es, ρ, St, Q => wEs G es ρ St fun ds S1 => ∀ p, S1 p = none → G.spc i (.ref p :: ds) (ups S1 p (.ins c [])) (fun d S2 => d = .non ∧ fin t (.ref p) S2 Q) G.xq
  | .meth c m i a es, ρ, St, Q => wX G false a ρ St fun x S1 => ∃ p fs, x = .ref p ∧ S1 p = some (.ins c fs) ∧ lookF fs m = none ∧ wEs G es ρ S1 fun ds S2 => G.spec i (x :: ds) S2 (fun d S3 => fin t d S3 Q) G.xq
  | .dgt a k v, ρ, St, Q => wX G false a ρ St fun x S1 => ∃ p, x = .ref p ∧ isDct S1 p ∧ wX G false k ρ S1 fun y S2 => wX G false v ρ S2 fun z S3 => wDgt S3 p y z fun d => fin t d S3 Q
  | .repN a b, ρ, St, Q => wX G false a ρ St fun x S1 => wX G false b ρ S1 fun y S2 => ∃ (ds : List D) (n : Int), lvw S2 x = some ds ∧ y = .int n ∧ (0 ≤ n ∧ n ≤ 16777216 ∧ ds.length * n.toNat ≤ SZ) ∧ ∀ p, S2 p = none → fin t (.ref p) (ups S2 p (.lst (List.replicate n.toNat ds).flatten)) Q
noncomputable def wEs (G : Gx) : Es → Env → Sto → (List D → Sto → Prop) → Prop
  | .nil, _, St, Q => Q [] St
  | .cons e es, ρ, St, Q => wX G false e ρ St fun x S1 => wEs G es ρ S1 fun xs S2 => Q (x :: xs) S2
/-- the parts of an f-string, one behind the other -/
noncomputable def wJs (G : Gx) : Bs → Es → Env → Sto → (Bs → Sto → Prop) → Prop
  | acc, .nil, _, St, Q => Q acc St
  | acc, .cons e es, ρ, St, Q => wX G false e ρ St fun x S1 => match x with
    | .str s => acc.length + s.length ≤ SZ ∧ wJs G (acc ++ s) es ρ S1 Q
    | _ => False
noncomputable def wEo (G : Gx) : Eo → Env → Sto → (Option Int → Sto → Prop) → Prop
  | .none, _, St, Q => Q none St
  | .some e, ρ, St, Q => wX G false e ρ St fun x S1 => match x with | .int i => Q (some i) S1 | _ => False
/-- and, or: as values, as tests -/
noncomputable def wB (G : Gx) (t : Bool) (an : Bool) : Es → Env → Sto → QD → Prop
  | .nil, _, _, _ => False
  | .cons e .nil, ρ, St, Q => wX G t e ρ St Q
  | .cons e (.cons f es), ρ, St, Q => match t with
    | false => wX G false e ρ St fun x S1 => ∃ b, tru S1 x = some b ∧ if b = an then wB G false an (.cons f es) ρ S1 Q else Q x S1
    | true => wX G true e ρ St (mB fun b S1 => if b = an then wB G true an (.cons f es) ρ S1 Q else Q (.bl b) S1)
/-- the tests of a comprehension: none or one -/
noncomputable def wTs (G : Gx) : Es → Env → Sto → (Bool → Sto → Prop) → Prop
  | .nil, _, St, Q => Q true St
  | .cons e .nil, ρ, St, Q => wX G true e ρ St (mB Q)
  | .cons _ (.cons _ _), _, _, _ => False
noncomputable def wIt (G : Gx) : Wk → Env → Sto → (List D → Sto → Prop) → Prop
  | .over e, ρ, St, Q => wX G false e ρ St fun x S1 => match x with
    | .tup ds => Q ds S1
    | .lst ds => Q ds S1
    | .str s => Q (s.map fun c => .str [c]) S1
    | .opq ns none [] => Q (ns.map .int) S1
    | _ => False
  | .rng1 a, ρ, St, Q => wX G false a ρ St fun x S1 => match x with | .int j => (j ≤ 16777216 ∧ -(2 ^ 62) ≤ j) ∧ Q (rangeD 0 j.toNat) S1 | _ => False
  | .rng2 a b, ρ, St, Q => wX G false a ρ St fun x S1 => wX G false b ρ S1 fun y S2 => match x, y with
    | .int i, .int j => (-(2 ^ 62) ≤ i ∧ i < 2 ^ 62 ∧ -(2 ^ 62) ≤ j ∧ j < 2 ^ 62 ∧ j - i ≤ 16777216) ∧ Q (rangeD i (j - i).toNat) S2
    | _, _ => False
  | .enum e, ρ, St, Q => wX G false e ρ St fun x S1 => match x with
    | .lst ds => Q (enumD 0 ds) S1
    | .tup ds => Q (enumD 0 ds) S1
    | _ => False
end
noncomputable abbrev wE (G : Gx) (e : E) (ρ : Env) (St : Sto) (Q : QD) : Prop := wX G false e ρ St Q
noncomputable abbrev wT (G : Gx) (e : E) (ρ : Env) (St : Sto) (Q : Bool → Sto → Prop) : Prop := wX G true e ρ St (mB Q)
structure Ks where
  nx : Env → Sto → Prop
  rt : QD
  bk : Env → Sto → Prop
  ct : Env → Sto → Prop
noncomputable def forL (f : D → Env → Sto → (Env → Sto → Prop) → Prop) : List D → Env → Sto → (Env → Sto → Prop) → Prop
  | [], ρ, St, q => q ρ St
  | d :: ds, ρ, St, q => f d ρ St fun ρ' S' => forL f ds ρ' S' q
noncomputable def whileN (c : Env → Sto → (Bool → Sto → Prop) → Prop) (b : Env → Sto → (Env → Sto → Prop) → Prop) : Nat → Env → Sto → (Env → Sto → Prop) → Prop
  | 0, _, _, _ => False
  | n + 1, ρ, St, q => c ρ St fun k S1 => if k = true then b ρ S1 fun ρ' S' => whileN c b n ρ' S' q else q ρ S1
mutual
noncomputable def asgTg : Tg → List Nat
  | .nm i => [i]
  | .tup ts => asgTgs ts
noncomputable def asgTgs : Tgs → List Nat
  | .nil => []
  | .cons t ts => asgTg t ++ asgTgs ts
end
mutual
/-- the slots that are stored to -/
noncomputable def asgS : S → List Nat
  | .set t _ => asgTg t
  | .aug i _ _ => [i]
  | .ite _ a b => asgSs a ++ asgSs b
  | .loop _ b => asgSs b
  | .each t _ b => asgTg t ++ asgSs b
  | .par i j _ _ => [i, j]
  | .tri b _ (some i) _ => i :: asgSs b
  | .tri b _ none _ => asgSs b
  | .bld i _ _ b _ _ _ _ => [i, b]
  | _ => []
noncomputable def asgSs : List S → List Nat
  | [] => []
  | s :: r => asgS s ++ asgSs r
end
/-- an except suite, d what the error bears -/
noncomputable def wSu : Su → Env → D → Sto → QD → Prop
  | .con e, _, _, S, q => q e S
  | .isx e _, _, d, S, q => d = .non ∧ q e S
  | .gt i n, ρ, _, S, q => ∃ j, get ρ i = some (.int j) ∧ q (.bl (decide (n < j))) S
  | .fld, _, d, S, q => ∃ n, d = .int n ∧ q d S
  | .sme k y, ρ, d, S, q => ∃ (n : Int) (p : Addr) (kvs : List (D × D)) (s : Bs), d = .int n ∧ get ρ k = some (.ref p) ∧ S p = some (.dct kvs) ∧ lookD kvs (.str y) = some (.str s) ∧ q (.bl (decide (n = ((s.length : Nat) : Int) + 1))) S
/-- a method of the instance in slot b is handed the function made in slot i at q -/
noncomputable def wBld (hsp : D → DSp → DSp) (sp : DSp) (xq : QX) (i : Nat) (js : List Nat) (b : Nat) (c m : Bs) (q : Addr) (ρ : Env) (S : Sto) (nx : Env → Sto → Prop) : Prop :=
  ∃ p fs caps, get ρ i = some (.ref q) ∧ get ρ b = some (.ref p) ∧ getL ρ js = some caps ∧ S p = some (.ins c fs) ∧ lookF fs m = none ∧
    ∀ (o : HO) (ws : List V) (oc : D), hsp (.fnv q o ws (oc :: caps)) (fun as => sp (as ++ caps)) [.ref p, .fnv q o ws (oc :: caps)] S (fun _ S2 => nx ρ S2) xq
/-- how many classes of errors -/
noncomputable abbrev NX : Nat := 8
mutual
noncomputable def wS (G : Gx) : S → Env → Sto → Ks → Prop
  | .set t e, ρ, St, K => wE G e ρ St fun x S1 => bindT t x ρ fun ρ' => K.nx ρ' S1
  | .aug i o e, ρ, St, K => ∃ x, get ρ i = some x ∧ wE G e ρ St fun y S1 => wAug o x y fun z => K.nx (put ρ i z) S1
  | .put o i e, ρ, St, K => wE G e ρ St fun v S1 => wE G o ρ S1 fun x S2 => wE G i ρ S2 fun y S3 => match x with
    | .ref a => match S3 a with
      | some (.dct kvs) => isKey y = true ∧ kvs.length < SZ ∧ K.nx ρ (ups S3 a (.dct (putD kvs y v)))
      | some (.tdc kvs) => isTK y = true ∧ kvs.length < SZ ∧ K.nx ρ (ups S3 a (.tdc (putT kvs y v)))
      | some (.lst ds) => match y with
        | .int k => ∃ j, ixN ds.length k = some j ∧ K.nx ρ (ups S3 a (.lst (ds.set j v)))
        | _ => False
      | _ => False
    | _ => False
  | .expr e, ρ, St, K => wE G e ρ St fun _ S1 => K.nx ρ S1
  | .app o e, ρ, St, K => wE G o ρ St fun x S1 => ∃ a, x = .ref a ∧ (∃ ds, S1 a = some (.lst ds)) ∧ wE G e ρ S1 fun y S2 => ∃ ds, S2 a = some (.lst ds) ∧ ds.length < SZ ∧ K.nx ρ (ups S2 a (.lst (ds ++ [y])))
  | .ret e, ρ, St, K => wE G e ρ St K.rt
  | .retN, _, St, K => K.rt .non St
  | .ite c a b, ρ, St, K => wT G c ρ St fun k S1 => if k = true then wSs G a ρ S1 K else wSs G b ρ S1 K
  | .loop c b, ρ, St, K => ∃ n, whileN (wT G c) (fun ρ S1 q => wSs G b ρ S1 { nx := q, rt := K.rt, bk := K.nx, ct := q }) n ρ St K.nx
  | .each t it b, ρ, St, K => wIt G it ρ St fun ds S1 => forL (fun d ρ S2 q => bindT t d ρ fun ρ' => wSs G b ρ' S2 { nx := q, rt := K.rt, bk := K.nx, ct := q }) ds ρ S1 K.nx
  | .brk, ρ, St, K => K.bk ρ St
  | .cont, ρ, St, K => K.ct ρ St
  | .pass, ρ, St, K => K.nx ρ St
  | .fz i, ρ, St, K => ∃ a, get ρ i = some (.ref a) ∧ match St a with
    | some (.lst ds) => K.nx (put ρ i (.lst ds)) (del St a)
    | some (.dct kvs) => K.nx (put ρ i (.dct kvs)) (del St a)
    | _ => False
  | .rais c, _, St, _ => c < NX ∧ G.xq c .non St
  | .raisn c e, ρ, St, _ => (c < NX ∧ 1 ≤ G.dp) ∧ wE G e ρ St fun x S1 => ∃ n, x = .int n ∧ G.xq c (.int n) S1
  | .xini _, _, _, _ => False
  | .tri b c none h, ρ, St, K => wSs { G with xq := fun c' d S' => c' < NX ∧ if c' = c then wSu h (wip ρ (asgSs b)) d S' K.rt else G.xq c' d S' } b ρ St K
  | .tri b c (some i) (.sme k y), ρ, St, K => 1 ≤ G.dp ∧ wSs { G with xq := fun c' d S' => c' < NX ∧ if c' = c then wSu (.sme k y) (wip ρ (i :: asgSs b)) d S' K.rt else G.xq c' d S' } b ρ St K
  | .tri b c (some i) h, ρ, St, K => wSs { G with xq := fun c' d S' => c' < NX ∧ if c' = c then wSu h (wip ρ (i :: asgSs b)) d S' K.rt else G.xq c' d S' } b ρ St K
  | .putf c o f e, ρ, St, K => wE G e ρ St fun v S1 => wE G o ρ S1 fun x S2 => match x with
    | .ref a => match S2 a with
      | some (.ins c' fs) => (c' = c ∧ fs.length < 1000) ∧ K.nx ρ (ups S2 a (.ins c (putFd fs f v)))
      | _ => False
    | _ => False
  | .augf c o f op e, ρ, St, K => wE G o ρ St fun x S1 => match x with
    | .ref a => match S1 a with
      | some (.ins c' fs) => c' = c ∧ ∃ d, lookF fs f = some d ∧ wE G e ρ S1 fun y S2 => wAug op d y fun z => match S2 a with
        | some (.ins c2 fs2) => (c2 = c ∧ fs2.length < 1000) ∧ K.nx ρ (ups S2 a (.ins c (putFd fs2 f z)))
        | _ => False
      | _ => False
    | _ => False
  | .frf i c f, ρ, St, K => ∃ p fs a ds, get ρ i = some (.ref p) ∧ St p = some (.ins c fs) ∧ lookF fs f = some (.ref a) ∧ St a = some (.lst ds) ∧ K.nx ρ (ups (del St a) p (.ins c (putFd fs f (.lst ds))))
  | .bld i n js b e c m xi, ρ, St, K => ∀ q : Addr, St q = none → wE G e (put ρ i (.ref q)) St fun x S1 => wBld (G.hsp xi) (G.spc n) G.xq i js b c m q (put (put ρ i (.ref q)) b x) S1 K.nx
  | .bxp b a c m xi c2 m2 n2, ρ, St, K => ∃ p fs pa fa, get ρ b = some (.ref p) ∧ get ρ a = some (.ref pa) ∧ St p = some (.ins c fs) ∧ lookF fs m = none ∧ St pa = some (.ins c2 fa) ∧ lookF fa m2 = none ∧
    ∀ (q : Addr) (o : HO) (ws : List V), G.hsp xi (.fnv q o ws [.ref pa]) (fun as => G.spc n2 (.ref pa :: as)) [.ref p, .fnv q o ws [.ref pa]] St (fun _ S2 => K.nx ρ S2) G.xq
  | .par i j a b, ρ, St, K => wE G a ρ St fun x S1 => wE G b ρ S1 fun y S2 => K.nx (put (put ρ i x) j y) S2
noncomputable def wSs (G : Gx) : List S → Env → Sto → Ks → Prop
  | [], ρ, St, K => K.nx ρ St
  | s :: r, ρ, St, K => wS G s ρ St { K with nx := fun ρ' S' => wSs G r ρ' S' K }
end
end DL
/-! DLN: dicts whose keys are tuples, nested. -/
namespace DL
open PySem PySem.Spec PyProof.Rows L2
/-- one entry -/
noncomputable abbrev Ent := NestedKey × Addr × Value
/-- the dict at a with these entries, its keys nested tuples -/
noncomputable def DNo (w : World) (a : Addr) (xs : List Ent) : HO := .ext fun h => xs.length ≤ sizeLine ∧ (a == sysModules) = false ∧ ∃ o es ep, h.get? a = some o ∧ o.ExactDict ∧ o.data = .dict es ep ∧
  es.toList = xs.map (fun x => ⟨x.1.hash w, .ref x.2.1, x.2.2⟩) ∧ (xs.map (·.1)).Nodup
mutual
/-- the value v is the key k -/
inductive NkV (K : PySem.W.Frag) (H : Hp) : V → NestedKey → Prop
  | non : NkV K H .non .none
  | bl (b : Bool) : NkV K H (.bl b) (.num (if b = true then 1 else 0))
  | int (i : Int) : NkV K H (.int i) (.num i)
  | str (x : Str) : NkV K H (.str x) (.text x)
  | tup {a : Addr} {xs : List V} {ks : List NestedKey} : SqT K H a xs → NkL K H xs ks → NkV K H (.ref a) (.tup ks)
inductive NkL (K : PySem.W.Frag) (H : Hp) : List V → List NestedKey → Prop
  | nil : NkL K H [] []
  | cons {v : V} {k : NestedKey} {vs : List V} {ks : List NestedKey} : NkV K H v k → NkL K H vs ks → NkL K H (v :: vs) (k :: ks)
end
section
variable {X : Cx} {pins : List (Addr × Obj)} {σ : L2.St} {H : Hp} {s : Shared}
mutual
theorem nk_is (I : Inv X pins σ H s) : ∀ {v : V} {k : NestedKey} {u : Value}, NkV X.K H v k → RelV v u → NestedIs s.heap k u
  | _, _, u, .non, r => by
    obtain rfl : u = Value.none := r
    exact .none
  | _, _, u, .bl b, r => by
    obtain rfl : u = Value.bool b := r
    exact .bool rfl
  | _, _, u, .int i, r => by
    obtain ⟨t, rfl⟩ := (show ∃ t, u = Value.int i t from r)
    exact .int i t
  | _, _, u, .str x, r => by
    obtain ⟨t, rfl⟩ := (show ∃ t, u = Value.str x t from r)
    exact .text x t
  | _, _, u, .tup h l, r => by
    cases r
    obtain ⟨its, rv, ⟨o, h1, h2, n, h3⟩, _⟩ := I.tuple h
    exact .tup h1 h2 h3 (by simpa using nk_all I l rv)
theorem nk_all (I : Inv X pins σ H s) : ∀ {vs : List V} {ks : List NestedKey} {us : List Value}, NkL X.K H vs ks → Vals vs us → NestedAll s.heap ks us
  | _, _, _, .nil, r => by cases r; exact .nil
  | _, _, _, .cons h t, r => by
    cases r with
    | cons r1 r2 => exact .cons (nk_is I h r1) (nk_all I t r2)
end
/-- all keys of the entries stand there -/
noncomputable def KeysOk (K : PySem.W.Frag) (H : Hp) (xs : List Ent) : Prop := ∀ x ∈ xs, NkV K H (.ref x.2.1) x.1 ∧ x.1.depth ≤ 8
theorem dn_of (I : Inv X pins σ H s) {a : Addr} {xs : List Ent} (h : H a = some (DNo X.w a xs)) (ks : KeysOk X.K H xs) : xs.length ≤ sizeLine ∧ (a == sysModules) = false ∧ s.heap.DictOfH (nestedKind X.prog X.w) a xs := by
  obtain ⟨⟨z, y, o, es, ep, h1, h2, h3, h4, h5⟩, _⟩ := (show ObjOk X.prog X.w H s.heap a (DNo X.w a xs) from I.hok a _ h)
  exact ⟨z, y, o, es, ep, h1, h2, h3, h4, fun x hx => ⟨nk_is I (ks x hx).1 rfl, (ks x hx).2⟩, h5⟩
theorem dn_new {P : Program} {w : World} {H' : Hp} {h' : Heap} {a : Addr} {xs : List Ent} (z : xs.length ≤ sizeLine) (hd : (a == sysModules) = false) (dd : h'.DictOfH (nestedKind P w) a xs) : ObjOk P w H' h' a (DNo w a xs) := by
  obtain ⟨o, es, ep, h1, h2, h3, h4, _, h5⟩ := dd
  refine ⟨⟨z, hd, o, es, ep, h1, h2, h3, h4, h5⟩, ⟨o, h1⟩, ?_⟩
  rintro g1 g2 ⟨z, hd, o, es, ep, h1, h2⟩ k
  exact ⟨z, hd, o, es, ep, k o h1, h2⟩
theorem room_n {A : Around} (hu : A.units + 9 < cLine) : A.in1.units + 8 < cLine := by rw [Around.in1_units]; omega
theorem len_stored (xs : List Ent) (k : NestedKey) (b : Addr) (v : Value) : (storedH xs k b v).length ≤ xs.length + 1 := by
  unfold storedH
  split
  · rw [List.length_map]; omega
  · rw [List.length_append]; exact Nat.le_refl _
/-! ### the rules -/
noncomputable def rIxDN (K : PySem.W.Frag) (w : World) : R2 := fun x y H Q => ∃ (a : Addr) (xs : List Ent) (b c : Addr) (k : NestedKey) (u : Value) (v : V), x = .ref a ∧ y = .ref b ∧ H a = some (DNo w a xs) ∧ KeysOk K H xs ∧ NkV K H (.ref b) k ∧ k.depth ≤ 8 ∧
  atKey xs k = some (c, u) ∧ RelV v u ∧ Q v H
theorem ix_dn {X : Cx} (hu : X.A.units + 9 < cLine) : IxR X (rIxDN X.K X.w) := by
  intro value slice pins s σ H x y v u Q I rx ry h hs
  obtain ⟨a, xs, b, c, k, u0, v0, ex, ey, hH, ks, nk, kd, at_, rv, q⟩ := h
  subst ex ey
  obtain rfl : v = Value.ref a := rx
  obtain rfl : u = Value.ref b := ry
  obtain ⟨z, hd, dd⟩ := dn_of I hH ks
  refine tail_any dd.typeIs PySem.F.slot_dict_getitem.lookup ?_ hs
  exact wpAny_getItem_heap (knd := nestedKind X.prog X.w) (room_n hu) ⟨nk_is I nk rfl, kd⟩ dd at_ ⟨v0, H, I.tok _, rv, q⟩
noncomputable def rInDN (K : PySem.W.Frag) (w : World) : R2 := fun x y H Q => ∃ (a : Addr) (xs : List Ent) (b : Addr) (k : NestedKey), y = .ref a ∧ x = .ref b ∧ H a = some (DNo w a xs) ∧ KeysOk K H xs ∧ NkV K H (.ref b) k ∧ k.depth ≤ 8 ∧
  Q (.bl (atKey xs k).isSome) H
noncomputable def rNotInDN (K : PySem.W.Frag) (w : World) : R2 := fun x y H Q => ∃ (a : Addr) (xs : List Ent) (b : Addr) (k : NestedKey), y = .ref a ∧ x = .ref b ∧ H a = some (DNo w a xs) ∧ KeysOk K H xs ∧ NkV K H (.ref b) k ∧ k.depth ≤ 8 ∧
  Q (.bl (!(atKey xs k).isSome)) H
theorem op_inDN {X : Cx} (hu : X.A.units + 9 < cLine) : OpR X (compareOp .In) (rInDN X.K X.w) := by
  intro pins s σ H x y v u Q I rx ry h
  obtain ⟨a, xs, b, k, ey, ex, hH, ks, nk, kd, q⟩ := h
  subst ex ey
  obtain rfl : u = Value.ref a := ry
  obtain rfl : v = Value.ref b := rx
  obtain ⟨z, hd, dd⟩ := dn_of I hH ks
  exact wpAny_in_heap (knd := nestedKind X.prog X.w) (room_n hu) ⟨nk_is I nk rfl, kd⟩ hd dd ⟨.bl _, H, I.tok _, rfl, q⟩
theorem op_notInDN {X : Cx} (hu : X.A.units + 9 < cLine) : OpR X (compareOp .NotIn) (rNotInDN X.K X.w) := by
  intro pins s σ H x y v u Q I rx ry h
  obtain ⟨a, xs, b, k, ey, ex, hH, ks, nk, kd, q⟩ := h
  subst ex ey
  obtain rfl : u = Value.ref a := ry
  obtain rfl : v = Value.ref b := rx
  obtain ⟨z, hd, dd⟩ := dn_of I hH ks
  exact wpAny_notIn_heap (knd := nestedKind X.prog X.w) (room_n hu) ⟨nk_is I nk rfl, kd⟩ hd dd ⟨.bl _, H, I.tok _, rfl, q⟩
noncomputable def rSetDN (K : PySem.W.Frag) (w : World) : TSet := fun o i v H Q => ∃ (a : Addr) (xs : List Ent) (b : Addr) (k : NestedKey), o = .ref a ∧ i = .ref b ∧ H a = some (DNo w a xs) ∧ KeysOk K H xs ∧ NkV K H (.ref b) k ∧ k.depth ≤ 8 ∧ xs.length < sizeLine ∧
  ∀ u, RelV v u → Q (upd H a (DNo w a (storedH xs k b u)))
theorem set_dn {X : Cx} (hu : X.A.units + 9 < cLine) : PSet X (rSetDN X.K X.w) := by
  intro pins s σ H o i v ov iv u Q I ro ri rv h
  obtain ⟨a, xs, b, k, eo, ei, hH, ks, nk, kd, hz, q⟩ := h
  subst eo ei
  obtain rfl : ov = Value.ref a := ro
  obtain rfl : iv = Value.ref b := ri
  obtain ⟨z, hd, dd⟩ := dn_of I hH ks
  refine wpAny_setItem_heap (hsz := z) (knd := nestedKind X.prog X.w) (room_n hu) ⟨nk_is I nk rfl, kd⟩ dd fun h' dd' hs => ?_
  have he : ∃ q, h'.get? a = some q := let ⟨q, _, _, hq, _⟩ := dd'; ⟨q, hq⟩
  exact ⟨_, d_write I (by rw [hH]; exact True.intro) hs he (dn_new (by have := len_stored xs k b u; omega) hd dd'), q u rv⟩
end
end DL
/-! DLC: dict comprehensions over any sort of dict. -/
namespace DL
open PySem PySem.Spec PyProof.Rows L2
section
variable {X : Cx}
end
end DL
/-! DL2: data in the abstract heap; the frame. -/
namespace DL
open PySem PySem.Spec PyProof.Rows L2
noncomputable def mkS (s : Bs) : Str := ⟨s.toArray⟩
theorem mkS_inj {a b : Bs} (h : mkS a = mkS b) : a = b := congrArg (fun x : Str => x.cps.toList) h
theorem mkS_len (a : Bs) : (mkS a).length = a.length := by simp [mkS, Str.length]
theorem mkS_tl (x : Str) : mkS x.cps.toList = x := by cases x; simp [mkS]
noncomputable def kD : Key → D
  | .inl i => .int i
  | .inr s => .str s.cps.toList
mutual
/-- v is the data d in the frozen part F -/
inductive Is (K : PySem.W.Frag) (F : Hp) : V → D → Prop
  | non : Is K F .non .non
  | bl (b : Bool) : Is K F (.bl b) (.bl b)
  | int (i : Int) : Is K F (.int i) (.int i)
  | str (s : Bs) : s.length ≤ sizeLine → Is K F (.str (mkS s)) (.str s)
  | tup {a : Addr} {xs : List V} {ds : List D} : SqT K F a xs → xs.length ≤ sizeLine → IsL K F xs ds → Is K F (.ref a) (.tup ds)
  | lst {a : Addr} {xs : List V} {ds : List D} : F a = some (.lst xs) → xs.length ≤ sizeLine → IsL K F xs ds → Is K F (.ref a) (.lst ds)
  | dct {a : Addr} {kvs : List (Key × V)} {ds : List (D × D)} : F a = some (.dK kvs) → kvs.length ≤ sizeLine → IsM K F kvs ds → Is K F (.ref a) (.dct ds)
  | ref (a : Addr) : Is K F (.ref a) (.ref a)
  | scr {a : Addr} {ns : List Int} : SqL K F a (ns.map V.int) → ns.length ≤ sizeLine → Is K F (.ref a) (.opq ns none [])
  | fnv {q : Addr} {o : HO} {ws : List V} {caps : List D} : F q = some o → IsL K F ws caps → Is K F (.ref q) (.opq [] (some (q, o, ws)) caps)
inductive IsL (K : PySem.W.Frag) (F : Hp) : List V → List D → Prop
  | nil : IsL K F [] []
  | cons {v : V} {vs : List V} {d : D} {ds : List D} : Is K F v d → IsL K F vs ds → IsL K F (v :: vs) (d :: ds)
inductive IsM (K : PySem.W.Frag) (F : Hp) : List (Key × V) → List (D × D) → Prop
  | nil : IsM K F [] []
  | cons {k : Key} {v : V} {vs : List (Key × V)} {d : D} {ds : List (D × D)} : Is K F v d → IsM K F vs ds → IsM K F ((k, v) :: vs) ((kD k, d) :: ds)
end
section
variable {K : PySem.W.Frag} {ω : World} {F F' : Hp}
theorem sqL_same {H H' : Hp} {a : Addr} {xs : List V} (e : Same H H') (h : SqL K H a xs) : SqL K H' a xs := by
  rcases h with (h | ⟨o, h⟩) | h
  · exact .inl (.inl (e _ _ h))
  · exact .inl (.inr ⟨o, e _ _ h⟩)
  · exact .inr h
theorem sqT_same {H H' : Hp} {a : Addr} {xs : List V} (e : Same H H') (h : SqT K H a xs) : SqT K H' a xs := by
  rcases h with (h | ⟨o, h⟩) | h
  · exact .inl (.inl (e _ _ h))
  · exact .inl (.inr ⟨o, e _ _ h⟩)
  · exact .inr h
mutual
theorem Is.mono (e : Same F F') : ∀ {v : V} {d : D}, Is K F v d → Is K F' v d
  | _, _, .non => .non
  | _, _, .bl b => .bl b
  | _, _, .int i => .int i
  | _, _, .str s h => .str s h
  | _, _, .tup h z t => .tup (sqT_same e h) z (IsL.mono e t)
  | _, _, .lst h z t => .lst (e _ _ h) z (IsL.mono e t)
  | _, _, .dct h z t => .dct (e _ _ h) z (IsM.mono e t)
  | _, _, .ref a => .ref a
  | _, _, .scr h z => .scr (sqL_same e h) z
  | _, _, .fnv h l => .fnv (e _ _ h) (l.mono e)
theorem IsL.mono (e : Same F F') : ∀ {v : List V} {d : List D}, IsL K F v d → IsL K F' v d
  | _, _, .nil => .nil
  | _, _, .cons h t => .cons (Is.mono e h) (IsL.mono e t)
theorem IsM.mono (e : Same F F') : ∀ {v : List (Key × V)} {d : List (D × D)}, IsM K F v d → IsM K F' v d
  | _, _, .nil => .nil
  | _, _, .cons h t => .cons (Is.mono e h) (IsM.mono e t)
end
theorem IsL.length : ∀ {v : List V} {d : List D}, IsL K F v d → v.length = d.length
  | _, _, .nil => rfl
  | _, _, .cons _ t => congrArg (· + 1) (IsL.length t)
theorem IsL.append : ∀ {v w : List V} {d e : List D}, IsL K F v d → IsL K F w e → IsL K F (v ++ w) (d ++ e)
  | _, _, _, _, .nil, s => s
  | _, _, _, _, .cons h t, s => .cons h (IsL.append t s)
theorem IsL.get : ∀ {v : List V} {d : List D} {i : Nat} {x : D}, IsL K F v d → d[i]? = some x → ∃ u, v[i]? = some u ∧ Is K F u x
  | _, _, _, _, .nil, e => by simp at e
  | _, _, 0, _, .cons h _, e => by simp at e; subst e; exact ⟨_, rfl, h⟩
  | _, _, i + 1, _, .cons _ t, e => by
    obtain ⟨u, a, b⟩ := IsL.get (i := i) t (by simpa using e)
    exact ⟨u, by simpa using a, b⟩
theorem IsL.getV : ∀ {v : List V} {d : List D} {i : Nat} {u : V}, IsL K F v d → v[i]? = some u → ∃ x, d[i]? = some x ∧ Is K F u x
  | _, _, _, _, .nil, e => by simp at e
  | _, _, 0, _, .cons h _, e => by simp at e; subst e; exact ⟨_, rfl, h⟩
  | _, _, i + 1, _, .cons _ t, e => by
    obtain ⟨u, a, b⟩ := IsL.getV (i := i) t (by simpa using e)
    exact ⟨u, by simpa using a, b⟩
theorem IsL.take : ∀ {v : List V} {d : List D} (n : Nat), IsL K F v d → IsL K F (v.take n) (d.take n)
  | _, _, 0, _ => .nil
  | _, _, _ + 1, .nil => .nil
  | _, _, n + 1, .cons h t => .cons h (IsL.take n t)
theorem IsL.drop : ∀ {v : List V} {d : List D} (n : Nat), IsL K F v d → IsL K F (v.drop n) (d.drop n)
  | _, _, 0, r => r
  | _, _, _ + 1, .nil => .nil
  | _, _, n + 1, .cons _ t => IsL.drop n t
theorem IsL.set {x : V} {y : D} (r : Is K F x y) : ∀ {v : List V} {d : List D} (i : Nat), IsL K F v d → IsL K F (v.set i x) (d.set i y)
  | _, _, _, .nil => .nil
  | _, _, 0, .cons _ t => .cons r t
  | _, _, i + 1, .cons q t => .cons q (IsL.set r i t)
theorem IsL.snoc {v : List V} {d : List D} {x : V} {y : D} (h : IsL K F v d) (r : Is K F x y) : IsL K F (v ++ [x]) (d ++ [y]) := h.append (.cons r .nil)
theorem IsL.reverse : ∀ {v : List V} {d : List D}, IsL K F v d → IsL K F v.reverse d.reverse
  | _, _, .nil => .nil
  | _, _, .cons h t => by
    rw [List.reverse_cons, List.reverse_cons]
    exact (IsL.reverse t).snoc h
theorem IsL.cut {v : List V} {d : List D} (h : IsL K F v d) (lo hi : Option Int) : IsL K F (cutV v lo hi) (cutD d lo hi) := by
  unfold cutV cutD
  rw [h.length]
  exact (h.drop _).take _
theorem IsM.length : ∀ {v : List (Key × V)} {d : List (D × D)}, IsM K F v d → v.length = d.length
  | _, _, .nil => rfl
  | _, _, .cons _ t => congrArg (· + 1) (IsM.length t)
end
theorem keyb_kD (a b : Key) : keyb (kD a) (kD b) = decide (a = b) := by
  cases a with
  | inl i => cases b with
    | inl j => rw [key_ll]; rfl
    | inr s => rw [key_lr]; rfl
  | inr s => cases b with
    | inl j => rw [key_rl]; rfl
    | inr t =>
      rw [key_rr]
      show (s.cps.toList == t.cps.toList) = decide (s = t)
      by_cases e : s = t
      · subst e; simp
      · rw [decide_eq_false e]
        exact beq_eq_false_iff_ne.mpr fun q => e (by rw [← mkS_tl s, ← mkS_tl t, q])
/-- the key of a value -/
theorem isKey_of {K : PySem.W.Frag} {F : Hp} {v : V} {d : D} (h : Is K F v d) (k : isKey d = true) : ∃ q : Key, v = kV q ∧ d = kD q := by
  cases h with
  | int i => exact ⟨.inl i, rfl, rfl⟩
  | str s z => exact ⟨.inr (mkS s), rfl, by simp [kD, mkS]⟩
  | non => cases k
  | bl _ => cases k
  | tup => cases k
  | lst => cases k
  | dct => cases k
  | ref => cases k
  | scr => cases k
  | fnv => cases k
section
variable {K : PySem.W.Frag} {ω : World} {F F' : Hp}
theorem IsM.look {q : Key} : ∀ {v : List (Key × V)} {d : List (D × D)}, IsM K F v d → (valV v q = none ∧ lookD d (kD q) = none) ∨ (∃ x y, valV v q = some x ∧ lookD d (kD q) = some y ∧ Is K F x y)
  | _, _, .nil => .inl ⟨rfl, rfl⟩
  | _, _, @IsM.cons _ _ k v vs d ds h t => by
    unfold lookD
    rw [keyb_kD]
    by_cases e : k = q
    · exact .inr ⟨v, d, valV_pos e, by rw [decide_eq_true e]; rfl, h⟩
    · rw [decide_eq_false e, valV_neg e]
      exact IsM.look t
theorem IsM.replace {q : Key} {x : V} {y : D} (r : Is K F x y) : ∀ {v : List (Key × V)} {d : List (D × D)}, IsM K F v d → (v.map (·.1)).Nodup → IsM K F (putK v q x) (putD d (kD q) y) := by
  intro v d h nd
  have gen : ∀ {v : List (Key × V)} {d : List (D × D)}, IsM K F v d → (v.map (·.1)).Nodup → (valV v q = none → IsM K F (v ++ [(q, x)]) (putD d (kD q) y)) ∧ (valV v q ≠ none → IsM K F (v.map fun kv => if kv.1 = q then (kv.1, x) else kv) (putD d (kD q) y)) := by
    intro v d h
    induction v generalizing d with
    | nil =>
      intro _
      cases h
      exact ⟨fun _ => .cons r .nil, fun z => absurd rfl z⟩
    | cons p vs ih =>
      intro nd
      cases h with
      | @cons k u _ d' ds h t =>
        have nd2 : (vs.map (·.1)).Nodup := (List.nodup_cons.mp nd).2
        have nk : k ∉ vs.map (·.1) := (List.nodup_cons.mp nd).1
        unfold putD
        rw [keyb_kD]
        by_cases e : k = q
        · subst e
          rw [decide_eq_true rfl]
          refine ⟨fun z => ?_, fun _ => ?_⟩
          · rw [valV_pos rfl] at z; cases z
          · rw [List.map_cons]
            have : vs.map (fun kv : Key × V => if kv.1 = k then (kv.1, x) else kv) = vs := by
              conv => rhs; rw [← List.map_id vs]
              refine List.map_congr_left fun kv hm => ?_
              rw [if_neg fun (z : kv.1 = k) => nk (by rw [← z]; exact List.mem_map_of_mem hm)]
              rfl
            rw [this, if_pos rfl]
            exact .cons r t
        · rw [decide_eq_false e, valV_neg e]
          obtain ⟨i1, i2⟩ := ih t nd2
          refine ⟨fun z => .cons h (i1 z), fun z => ?_⟩
          rw [List.map_cons, if_neg e]
          exact .cons h (i2 z)
  obtain ⟨g1, g2⟩ := gen h nd
  unfold putK
  rw [valV_any]
  cases e : valV v q with
  | none => simpa using g1 e
  | some z => simpa using g2 (by rw [e]; exact fun q => by cases q)
end
/-! ### keys that are tuples -/
mutual
noncomputable def nkD : D → Option NestedKey
  | .non => some .none
  | .bl b => some (.num (if b = true then 1 else 0))
  | .int i => some (.num i)
  | .str s => some (.text (mkS s))
  | .tup ds => (nkL ds).map .tup
  | _ => none
noncomputable def nkL : List D → Option (List NestedKey)
  | [] => some []
  | d :: r => match nkD d, nkL r with
    | some a, some b => some (a :: b)
    | _, _ => none
end
theorem nkL_cons {d : D} {r : List D} {ks : List NestedKey} (h : nkL (d :: r) = some ks) : ∃ a b, nkD d = some a ∧ nkL r = some b ∧ ks = a :: b := by
  rw [nkL] at h
  split at h
  · next a b e1 e2 => cases h; exact ⟨a, b, e1, e2, rfl⟩
  · cases h
theorem nkD_tup {ds : List D} {k : NestedKey} (h : nkD (.tup ds) = some k) : ∃ ks, nkL ds = some ks ∧ k = .tup ks := by
  rw [nkD, Option.map_eq_some_iff] at h
  obtain ⟨ks, a, b⟩ := h
  exact ⟨ks, a, b.symm⟩
theorem int_bd (i j : Int) : (i == j) = decide (i = j) := by
  by_cases e : i = j
  · subst e; simp
  · rw [decide_eq_false e]; exact beq_eq_false_iff_ne.mpr e
mutual
theorem nk_of : ∀ (n : Nat) (d : D), tkq n d = true → ∃ k, nkD d = some k ∧ k.depth ≤ n
  | n, .non, _ => ⟨_, rfl, Nat.zero_le _⟩
  | n, .bl _, _ => ⟨_, rfl, Nat.zero_le _⟩
  | n, .int _, _ => ⟨_, rfl, Nat.zero_le _⟩
  | n, .str _, _ => ⟨_, rfl, Nat.zero_le _⟩
  | n + 1, .tup xs, h => by
    obtain ⟨ks, a, b⟩ := nk_ofL n xs (List.all_eq_true.mp h)
    exact ⟨.tup ks, by rw [nkD, a]; rfl, by rw [NestedKey.depth]; omega⟩
  | 0, .tup _, h => by cases h
  | n, .lst _, h => by cases n <;> cases h
  | n, .dct _, h => by cases n <;> cases h
  | n, .ref _, h => by cases n <;> cases h
  | n, .opq _ _ _, h => by cases n <;> cases h
theorem nk_ofL : ∀ (n : Nat) (ds : List D), (∀ d ∈ ds, tkq n d = true) → ∃ ks, nkL ds = some ks ∧ NestedKey.depthAll ks ≤ n
  | n, [], _ => ⟨[], rfl, Nat.zero_le _⟩
  | n, d :: ds, h => by
    obtain ⟨k, a, b⟩ := nk_of n d (h d List.mem_cons_self)
    obtain ⟨ks, c, e⟩ := nk_ofL n ds fun x hx => h x (List.mem_cons_of_mem _ hx)
    exact ⟨k :: ks, by rw [nkL, a, c], by rw [NestedKey.depthAll]; omega⟩
end
theorem nk_tk {d : D} (h : isTK d = true) : ∃ k, nkD d = some k ∧ k.depth ≤ 8 := by
  cases d with
  | tup xs =>
    obtain ⟨ks, a, b⟩ := nk_ofL 6 xs (List.all_eq_true.mp h)
    exact ⟨.tup ks, by rw [nkD, a]; rfl, by rw [NestedKey.depth]; omega⟩
  | _ => cases h
mutual
theorem nk_eq : ∀ (x y : D) (a b : NestedKey), nkD x = some a → nkD y = some b → dEq x y = NestedKey.beq a b
  | .non, y, a, b, h1, h2 => by
    cases h1
    cases y with
    | tup ys => obtain ⟨ks, _, rfl⟩ := nkD_tup h2; rfl
    | _ => cases h2 <;> rfl
  | .bl c, y, a, b, h1, h2 => by
    cases h1
    cases y with
    | tup ys => obtain ⟨ks, _, rfl⟩ := nkD_tup h2; rfl
    | bl d => cases h2; cases c <;> cases d <;> rfl
    | int j =>
      cases h2
      show ((if c = true then (1 : Int) else 0) == j) = decide ((if c = true then (1 : Int) else 0) = j)
      exact int_bd _ _
    | _ => cases h2 <;> rfl
  | .int i, y, a, b, h1, h2 => by
    cases h1
    cases y with
    | tup ys => obtain ⟨ks, _, rfl⟩ := nkD_tup h2; rfl
    | bl d =>
      cases h2
      show (i == (if d = true then (1 : Int) else 0)) = decide (i = if d = true then (1 : Int) else 0)
      exact int_bd _ _
    | int j =>
      cases h2
      show (i == j) = decide (i = j)
      exact int_bd _ _
    | _ => cases h2 <;> rfl
  | .str s, y, a, b, h1, h2 => by
    cases h1
    cases y with
    | tup ys => obtain ⟨ks, _, rfl⟩ := nkD_tup h2; rfl
    | str t =>
      cases h2
      show (s == t) = decide (mkS s = mkS t)
      by_cases e : s = t
      · subst e; simp
      · rw [decide_eq_false fun z => e (mkS_inj z)]
        exact beq_eq_false_iff_ne.mpr e
    | _ => cases h2 <;> rfl
  | .tup xs, y, a, b, h1, h2 => by
    obtain ⟨ks, e1, rfl⟩ := nkD_tup h1
    cases y with
    | tup ys =>
      obtain ⟨ls, e2, rfl⟩ := nkD_tup h2
      show dEqL xs ys = NestedKey.beqAll ks ls
      exact nk_eqL xs ys ks ls e1 e2
    | _ => cases h2 <;> rfl
  | .lst _, _, _, _, h1, _ => by cases h1
  | .dct _, _, _, _, h1, _ => by cases h1
  | .ref _, _, _, _, h1, _ => by cases h1
  | .opq _ _ _, _, _, _, h1, _ => by cases h1
theorem nk_eqL : ∀ (xs ys : List D) (ks ls : List NestedKey), nkL xs = some ks → nkL ys = some ls → dEqL xs ys = NestedKey.beqAll ks ls
  | [], [], ks, ls, h1, h2 => by cases h1; cases h2; rfl
  | [], y :: ys, ks, ls, h1, h2 => by
    cases h1
    obtain ⟨_, _, _, _, rfl⟩ := nkL_cons h2
    rfl
  | x :: xs, [], ks, ls, h1, h2 => by
    cases h2
    obtain ⟨_, _, _, _, rfl⟩ := nkL_cons h1
    rfl
  | x :: xs, y :: ys, ks, ls, h1, h2 => by
    obtain ⟨a, as, e1, e2, rfl⟩ := nkL_cons h1
    obtain ⟨b, bs, e3, e4, rfl⟩ := nkL_cons h2
    rw [dEqL, NestedKey.beqAll, nk_eq x y a b e1 e3, nk_eqL xs ys as bs e2 e4]
end
section
variable {K : PySem.W.Frag} {F H : Hp}
mutual
theorem Is.nk (e : Same F H) : ∀ {v : V} {d : D} {k : NestedKey}, Is K F v d → nkD d = some k → NkV K H v k
  | _, _, _, .non, h => by cases h; exact .non
  | _, _, _, .bl b, h => by cases h; exact .bl b
  | _, _, _, .int i, h => by cases h; exact .int i
  | _, _, _, .str s z, h => by cases h; exact .str _
  | _, _, _, .tup hx z t, h => by
    obtain ⟨ks, a, rfl⟩ := nkD_tup h
    exact .tup (sqT_same e hx) (IsL.nk e t a)
  | _, _, _, .lst _ _ _, h => by cases h
  | _, _, _, .dct _ _ _, h => by cases h
  | _, _, _, .ref _, h => by cases h
  | _, _, _, .scr _ _, h => by cases h
  | _, _, _, .fnv _ _, h => by cases h
theorem IsL.nk (e : Same F H) : ∀ {v : List V} {d : List D} {k : List NestedKey}, IsL K F v d → nkL d = some k → NkL K H v k
  | _, _, _, .nil, h => by cases h; exact .nil
  | _, _, _, .cons h t, k => by
    obtain ⟨a, b, e1, e2, rfl⟩ := nkL_cons k
    exact .cons (Is.nk e h e1) (IsL.nk e t e2)
end
end
/-- the entries, one by one -/
inductive IsT (K : PySem.W.Frag) (F : Hp) : List Ent → List (D × D) → Prop
  | nil : IsT K F [] []
  | cons {k : NestedKey} {b : Addr} {u : Value} {v : V} {kd d : D} {xs : List Ent} {ds : List (D × D)} : Is K F (.ref b) kd → isTK kd = true → nkD kd = some k → RelV v u → Is K F v d → IsT K F xs ds → IsT K F ((k, b, u) :: xs) ((kd, d) :: ds)
theorem IsT.mono {K : PySem.W.Frag} {F F' : Hp} (e : Same F F') {xs : List Ent} {ds : List (D × D)} (h : IsT K F xs ds) : IsT K F' xs ds := by
  induction h with
  | nil => exact .nil
  | cons a b c d f _ ih => exact .cons (a.mono e) b c d (f.mono e) ih
theorem IsT.length {K : PySem.W.Frag} {F : Hp} {xs : List Ent} {ds : List (D × D)} (h : IsT K F xs ds) : xs.length = ds.length := by
  induction h with
  | nil => rfl
  | cons _ _ _ _ _ _ ih => rw [List.length_cons, List.length_cons, ih]
theorem IsT.keys {K : PySem.W.Frag} {F H : Hp} (e : Same F H) {xs : List Ent} {ds : List (D × D)} (h : IsT K F xs ds) : KeysOk K H xs := by
  induction h with
  | nil => intro x hx; cases hx
  | @cons k b u v kd d xs ds a t n r i _ ih =>
    intro x hx
    rcases List.mem_cons.mp hx with q | hx
    · subst q
      obtain ⟨k', e1, e2⟩ := nk_tk t
      have : k' = k := Option.some.inj (e1.symm.trans n)
      subst this
      exact ⟨a.nk e n, e2⟩
    · exact ih x hx
theorem IsT.look {K : PySem.W.Frag} {F : Hp} {q : D} {k : NestedKey} (hq : nkD q = some k) {xs : List Ent} {ds : List (D × D)} (h : IsT K F xs ds) :
    (atKey xs k = none ∧ lookT ds q = none) ∨ ∃ c u v d, atKey xs k = some (c, u) ∧ lookT ds q = some d ∧ RelV v u ∧ Is K F v d := by
  induction h with
  | nil => exact .inl ⟨rfl, rfl⟩
  | @cons k' b u v kd d xs ds a t n r i _ ih =>
    have hb := nk_eq kd q k' k n hq
    unfold lookT
    by_cases e : k' = k
    · subst e
      rw [hb, NestedKey.beq_self, if_pos rfl]
      exact .inr ⟨b, u, v, d, by simp [atKey], rfl, r, i⟩
    · have e2 : dEq kd q = false := by rw [hb, ← NestedKey.decide_eq]; exact decide_eq_false e
      rw [e2, if_neg Bool.false_ne_true]
      have e3 : atKey ((k', b, u) :: xs) k = atKey xs k := by simp [atKey, List.find?_cons, e]
      rw [e3]
      exact ih
theorem IsT.put {K : PySem.W.Frag} {F : Hp} {q y : D} {k : NestedKey} {b : Addr} {v : V} {u : Value} (hb : Is K F (.ref b) q) (tk : isTK q = true) (hq : nkD q = some k) (r : RelV v u) (i : Is K F v y) {xs : List Ent} {ds : List (D × D)} (h : IsT K F xs ds) (nd : (xs.map (·.1)).Nodup) :
    IsT K F (storedH xs k b u) (putT ds q y) ∧ ((storedH xs k b u).map (·.1)).Nodup := by
  have gen : ∀ {xs : List Ent} {ds : List (D × D)}, IsT K F xs ds → (xs.map (·.1)).Nodup → (atKey xs k = none → IsT K F (xs ++ [(k, b, u)]) (putT ds q y)) ∧ ((atKey xs k).isSome = true → IsT K F (xs.map (putAt k u)) (putT ds q y)) := by
    intro xs ds h
    induction h with
    | nil => intro _; exact ⟨fun _ => .cons hb tk hq r i .nil, fun e => by simp [atKey] at e⟩
    | @cons k' b' u' v' kd d xs ds a t n r' i' tl ih =>
      intro nd
      rw [List.map_cons, List.nodup_cons] at nd
      have hbq := nk_eq kd q k' k n hq
      unfold putT
      by_cases e : k' = k
      · subst e
        rw [hbq, NestedKey.beq_self, if_pos rfl]
        refine ⟨fun e => by simp [atKey] at e, fun _ => ?_⟩
        rw [List.map_cons, map_putAt_of_not_mem xs k' u nd.1]
        have : putAt k' u (k', b', u') = (k', b', u) := by simp [putAt]
        rw [this]
        exact .cons a t n r i tl
      · have e2 : dEq kd q = false := by rw [hbq, ← NestedKey.decide_eq]; exact decide_eq_false e
        rw [e2, if_neg Bool.false_ne_true]
        have e3 : atKey ((k', b', u') :: xs) k = atKey xs k := by simp [atKey, List.find?_cons, e]
        rw [e3]
        refine ⟨fun z => .cons a t n r' i' ((ih nd.2).1 z), fun z => ?_⟩
        rw [List.map_cons]
        have : putAt k u (k', b', u') = (k', b', u') := by simp [putAt, e]
        rw [this]
        exact .cons a t n r' i' ((ih nd.2).2 z)
  obtain ⟨g1, g2⟩ := gen h nd
  cases e : atKey xs k with
  | none =>
    rw [storedH_new e]
    refine ⟨g1 e, ?_⟩
    rw [List.map_append, List.nodup_append]
    refine ⟨nd, by simp, fun x hx z hz => ?_⟩
    obtain rfl : z = k := by simpa using hz
    intro ex
    subst ex
    obtain ⟨⟨k0, p⟩, hm, rfl⟩ := List.mem_map.mp hx
    obtain ⟨j, hj⟩ := List.mem_iff_getElem?.mp hm
    rw [atKey_of_get nd hj] at e
    cases e
  | some p =>
    rw [storedH_old e]
    exact ⟨g2 (by rw [e]; rfl), by rw [keys_map_putAt]; exact nd⟩
/-- the fields of an instance, one by one -/
inductive IsF (K : PySem.W.Frag) (F : Hp) : List (Str × V) → List (Bs × D) → Prop
  | nil : IsF K F [] []
  | cons {f : Bs} {v : V} {d : D} {vs : List (Str × V)} {ds : List (Bs × D)} : Is K F v d → IsF K F vs ds → IsF K F ((mkS f, v) :: vs) ((f, d) :: ds)
theorem IsF.mono {K : PySem.W.Frag} {F F' : Hp} (e : Same F F') {vs : List (Str × V)} {ds : List (Bs × D)} (h : IsF K F vs ds) : IsF K F' vs ds := by
  induction h with
  | nil => exact .nil
  | cons a _ ih => exact .cons (a.mono e) ih
theorem IsF.length {K : PySem.W.Frag} {F : Hp} {vs : List (Str × V)} {ds : List (Bs × D)} (h : IsF K F vs ds) : vs.length = ds.length := by
  induction h with
  | nil => rfl
  | cons _ _ ih => rw [List.length_cons, List.length_cons, ih]
theorem IsF.look {K : PySem.W.Frag} {F : Hp} {f : Bs} {vs : List (Str × V)} {ds : List (Bs × D)} (h : IsF K F vs ds) : (vs.lookup (mkS f) = none ∧ lookF ds f = none) ∨ ∃ v d, vs.lookup (mkS f) = some v ∧ lookF ds f = some d ∧ Is K F v d := by
  induction h with
  | nil => exact .inl ⟨rfl, rfl⟩
  | @cons g v d vs ds i _ ih =>
    unfold lookF
    by_cases e : g = f
    · subst e
      exact .inr ⟨v, d, by simp [List.lookup], by simp, i⟩
    · have e2 : (g == f) = false := beq_eq_false_iff_ne.mpr e
      have e3 : (mkS f == mkS g) = false := beq_eq_false_iff_ne.mpr fun z => e (mkS_inj z).symm
      rw [e2, if_neg Bool.false_ne_true, List.lookup_cons, e3]
      exact ih
theorem IsF.put {K : PySem.W.Frag} {F : Hp} {f : Bs} {v : V} {d : D} (i : Is K F v d) {vs : List (Str × V)} {ds : List (Bs × D)} (h : IsF K F vs ds) : IsF K F (putF (mkS f) v vs) (putFd ds f d) := by
  induction h with
  | nil => exact .cons i .nil
  | @cons g v' d' vs ds i' tl ih =>
    unfold putF putFd
    by_cases e : g = f
    · subst e
      rw [if_pos rfl, if_pos (beq_self_eq_true _)]
      exact .cons i tl
    · rw [if_neg fun z => e (mkS_inj z), if_neg (by rw [beq_eq_false_iff_ne.mpr e]; exact Bool.false_ne_true)]
      exact .cons i' ih
/-! ### the store -/
noncomputable def OIs (K : PySem.W.Frag) (ω : World) (F H : Hp) (a : Addr) : DO → Prop
  | .lst ds => ∃ xs, H a = some (.lst xs) ∧ xs.length ≤ sizeLine ∧ IsL K F xs ds
  | .dct ds => ∃ kvs, H a = some (.dK kvs) ∧ kvs.length ≤ sizeLine ∧ (kvs.map (·.1)).Nodup ∧ IsM K F kvs ds
  | .tdc ds => ∃ xs, H a = some (DNo ω a xs) ∧ xs.length ≤ sizeLine ∧ (xs.map (·.1)).Nodup ∧ IsT K F xs ds
  | .ins c fs => ∃ dx vs, H a = some (.ins (He.ga K (mkS c)) dx vs) ∧ IsF K F vs fs
/-- the tables of code objects of defs that make defs -/
class TBS where
  T : List NdefX.NTab
variable [TBS]
/-- the table at P: its code objects are frozen -/
noncomputable def TabF (F H : Hp) (p : NdefX.NTab) : Prop := ∃ ps : Array Value, H p.1 = some (.tbl ps) ∧ TriplesOk ps.toList ∧ ∀ (pos : Pos) (cv : Value), codeAmong pos ps.toList = some cv → ∃ c, cv = .ref c ∧ F c = some (LamX.CodeO c (p.2 pos.line pos.col))
theorem TabF.mono {F F' H H' : Hp} {p : NdefX.NTab} (h : TabF F H p) (e : Same F F') (k : H' p.1 = H p.1) : TabF F' H' p := by
  obtain ⟨ps, a, b, c⟩ := h
  refine ⟨ps, k.trans a, b, fun pos cv g => ?_⟩
  obtain ⟨c', e1, e2⟩ := c pos cv g
  exact ⟨c', e1, e _ _ e2⟩
noncomputable def notTbl (o : HO) : Prop := ∀ ps, o ≠ .tbl ps
structure SR (K : PySem.W.Frag) (ω : World) (F : Hp) (St : Sto) (H : Hp) : Prop where
  sub : Same F H
  own : ∀ a o, St a = some o → F a = none ∧ OIs K ω F H a o
  tabs : ∀ p ∈ TBS.T, F p.1 = none ∧ St p.1 = none ∧ TabF F H p
structure Fr (F : Hp) (St : Sto) (H : Hp) (F' : Hp) (S' : Sto) (H' : Hp) : Prop where
  ext : Same F F'
  keep : ∀ a o, H a = some o → St a = none → notTbl o → H' a = some o ∧ S' a = none ∧ (F a = none → F' a = none)
theorem Fr.refl {F : Hp} {St : Sto} {H : Hp} : Fr F St H F St H := ⟨Same.refl _, fun _ _ h n _ => ⟨h, n, fun z => z⟩⟩
theorem Fr.trans {F F1 F2 H H1 H2 : Hp} {St S1 S2 : Sto} (a : Fr F St H F1 S1 H1) (b : Fr F1 S1 H1 F2 S2 H2) : Fr F St H F2 S2 H2 :=
  ⟨a.ext.trans b.ext, fun c o h n nt => by
    obtain ⟨h1, n1, f1⟩ := a.keep c o h n nt
    obtain ⟨h2, n2, f2⟩ := b.keep c o h1 n1 nt
    exact ⟨h2, n2, fun z => f2 (f1 z)⟩⟩
section
variable {K : PySem.W.Frag} {ω : World} {F H : Hp} {St : Sto}
theorem OIs.mono {F' : Hp} {a : Addr} {o : DO} (e : Same F F') (h : OIs K ω F H a o) : OIs K ω F' H a o := by
  cases o with
  | lst ds => obtain ⟨xs, a, z, b⟩ := h; exact ⟨xs, a, z, b.mono e⟩
  | dct ds => obtain ⟨xs, a, z, nd, b⟩ := h; exact ⟨xs, a, z, nd, b.mono e⟩
  | tdc ds => obtain ⟨xs, a, z, nd, b⟩ := h; exact ⟨xs, a, z, nd, b.mono e⟩
  | ins C fs => obtain ⟨dx, vs, a, b⟩ := h; exact ⟨dx, vs, a, b.mono e⟩
theorem OIs.at {H' : Hp} {a : Addr} {o : DO} (e : H' a = H a) (h : OIs K ω F H a o) : OIs K ω F H' a o := by
  cases o with
  | lst ds => obtain ⟨xs, a, b⟩ := h; exact ⟨xs, e.trans a, b⟩
  | dct ds => obtain ⟨xs, a, b⟩ := h; exact ⟨xs, e.trans a, b⟩
  | tdc ds => obtain ⟨xs, a, b⟩ := h; exact ⟨xs, e.trans a, b⟩
  | ins C fs => obtain ⟨dx, vs, a, b⟩ := h; exact ⟨dx, vs, e.trans a, b⟩
theorem OIs.some {a : Addr} {o : DO} (h : OIs K ω F H a o) : ∃ u, H a = some u := by
  cases o with
  | lst ds => obtain ⟨xs, a, b⟩ := h; exact ⟨_, a⟩
  | dct ds => obtain ⟨xs, a, b⟩ := h; exact ⟨_, a⟩
  | tdc ds => obtain ⟨xs, a, b⟩ := h; exact ⟨_, a⟩
  | ins C fs => obtain ⟨dx, vs, a, b⟩ := h; exact ⟨_, a⟩
/-- a fresh address is free in the frozen part and in the store -/
theorem SR.fresh (r : SR K ω F St H) {p : Addr} (h : H p = none) : F p = none ∧ St p = none := by
  refine ⟨r.sub.free h, ?_⟩
  cases e : St p with
  | none => rfl
  | some o =>
    obtain ⟨u, q⟩ := (r.own p o e).2.some
    rw [h] at q; cases q
/-- a new frozen object -/
theorem SR.lay (r : SR K ω F St H) {p : Addr} {o : HO} (h : H p = none) : SR K ω (upd F p o) St (upd H p o) ∧ Fr F St H (upd F p o) St (upd H p o) := by
  obtain ⟨fp, sp⟩ := r.fresh h
  have sF : Same F (upd F p o) := fun b u e => by rw [upd_ne (ne_of_none e fp)]; exact e
  refine ⟨⟨fun b u e => ?_, fun a q e => ?_, fun pt hpt => ?_⟩, sF, fun a u e n _ => ?_⟩
  · by_cases hb : b = p
    · subst hb; rw [upd_same] at e ⊢; exact e
    · rw [upd_ne hb] at e ⊢; exact r.sub _ _ e
  · have na : a ≠ p := fun z => by subst z; rw [sp] at e; cases e
    obtain ⟨x, y⟩ := r.own a q e
    exact ⟨by rw [upd_ne na]; exact x, (y.mono sF).at (upd_ne na)⟩
  · obtain ⟨t1, t2, t3⟩ := r.tabs pt hpt
    obtain ⟨ps, h1, _⟩ := t3
    have na : pt.1 ≠ p := ne_of_none h1 h
    exact ⟨by rw [upd_ne na]; exact t1, t2, (r.tabs pt hpt).2.2.mono sF (upd_ne na)⟩
  · have na : a ≠ p := ne_of_none e h
    exact ⟨by rw [upd_ne na]; exact e, n, fun z => by rw [upd_ne na]; exact z⟩
/-- a new object of the store -/
theorem SR.make (r : SR K ω F St H) {p : Addr} {o : HO} {q : DO} (h : H p = none) (hq : OIs K ω F (upd H p o) p q) : SR K ω F (ups St p q) (upd H p o) ∧ Fr F St H F (ups St p q) (upd H p o) := by
  obtain ⟨fp, sp⟩ := r.fresh h
  refine ⟨⟨fun b u e => ?_, fun a u e => ?_, fun pt hpt => ?_⟩, Same.refl _, fun a u e n _ => ?_⟩
  · rw [upd_ne (ne_of_none (r.sub _ _ e) h)]; exact r.sub _ _ e
  · by_cases hb : a = p
    · subst hb
      unfold ups at e
      rw [if_pos rfl] at e
      cases e
      exact ⟨fp, hq⟩
    · unfold ups at e
      rw [if_neg hb] at e
      obtain ⟨x, y⟩ := r.own a u e
      exact ⟨x, y.at (upd_ne hb)⟩
  · obtain ⟨t1, t2, t3⟩ := r.tabs pt hpt
    obtain ⟨ps, h1, _⟩ := t3
    have na : pt.1 ≠ p := ne_of_none h1 h
    exact ⟨t1, by unfold ups; rw [if_neg na]; exact t2, (r.tabs pt hpt).2.2.mono (Same.refl _) (upd_ne na)⟩
  · have na : a ≠ p := ne_of_none e h
    exact ⟨by rw [upd_ne na]; exact e, by unfold ups; rw [if_neg na]; exact n, fun z => z⟩
/-- an object of the store is changed -/
theorem SR.write (r : SR K ω F St H) {p : Addr} {o : HO} {q q0 : DO} (h : St p = some q0) (hq : OIs K ω F (upd H p o) p q) : SR K ω F (ups St p q) (upd H p o) ∧ Fr F St H F (ups St p q) (upd H p o) := by
  obtain ⟨fp, _⟩ := r.own p q0 h
  refine ⟨⟨fun b u e => ?_, fun a u e => ?_, fun pt hpt => ?_⟩, Same.refl _, fun a u e n _ => ?_⟩
  · rw [upd_ne (ne_of_none e fp)]; exact r.sub _ _ e
  · by_cases hb : a = p
    · subst hb
      unfold ups at e
      rw [if_pos rfl] at e
      cases e
      exact ⟨fp, hq⟩
    · unfold ups at e
      rw [if_neg hb] at e
      obtain ⟨x, y⟩ := r.own a u e
      exact ⟨x, y.at (upd_ne hb)⟩
  · obtain ⟨t1, t2, t3⟩ := r.tabs pt hpt
    have na : pt.1 ≠ p := fun z => by rw [z, h] at t2; cases t2
    exact ⟨t1, by unfold ups; rw [if_neg na]; exact t2, t3.mono (Same.refl _) (upd_ne na)⟩
  · have na : a ≠ p := fun z => by subst z; rw [h] at n; cases n
    exact ⟨by rw [upd_ne na]; exact e, by unfold ups; rw [if_neg na]; exact n, fun z => z⟩
/-- an object of the store is frozen -/
theorem SR.freeze (r : SR K ω F St H) {p : Addr} {o : HO} {q0 : DO} (h : St p = some q0) (ho : H p = some o) : SR K ω (upd F p o) (del St p) H ∧ Fr F St H (upd F p o) (del St p) H := by
  obtain ⟨fp, _⟩ := r.own p q0 h
  have sF : Same F (upd F p o) := fun b u e => by rw [upd_ne (ne_of_none e fp)]; exact e
  refine ⟨⟨fun b u e => ?_, fun a u e => ?_, fun pt hpt => ?_⟩, sF, fun a u e n _ => ?_⟩
  · by_cases hb : b = p
    · subst hb; rw [upd_same] at e; rw [ho]; exact e
    · rw [upd_ne hb] at e; exact r.sub _ _ e
  · by_cases hb : a = p
    · subst hb; unfold del at e; rw [if_pos rfl] at e; cases e
    · unfold del at e
      rw [if_neg hb] at e
      obtain ⟨x, y⟩ := r.own a u e
      exact ⟨by rw [upd_ne hb]; exact x, y.mono sF⟩
  · obtain ⟨t1, t2, t3⟩ := r.tabs pt hpt
    have na : pt.1 ≠ p := fun z => by rw [z, h] at t2; cases t2
    exact ⟨by rw [upd_ne na]; exact t1, by unfold del; rw [if_neg na]; exact t2, t3.mono sF rfl⟩
  · have na : a ≠ p := fun z => by subst z; rw [h] at n; cases n
    exact ⟨e, by unfold del; rw [if_neg na]; exact n, fun z => by rw [upd_ne na]; exact z⟩
/-- part of the store is forgotten -/
noncomputable def Sub (S' St : Sto) : Prop := ∀ a o, S' a = some o → St a = some o
omit [TBS] in
theorem Sub.refl (St : Sto) : Sub St St := fun _ _ h => h
omit [TBS] in
theorem Sub.none {S' : Sto} (h : Sub S' St) {a : Addr} (n : St a = none) : S' a = none := by
  cases e : S' a with
  | none => rfl
  | some o => rw [h a o e] at n; cases n
omit [TBS] in
theorem Sub.ups {p : Addr} {o : DO} (h : St p = Option.none) : Sub St (DL.ups St p o) := fun a q e => by
  unfold DL.ups
  rw [if_neg (fun z => by subst z; rw [h] at e; cases e)]
  exact e
theorem SR.sub' {S' : Sto} (r : SR K ω F St H) (h : Sub S' St) : SR K ω F S' H := ⟨r.sub, fun a o e => r.own a o (h a o e), fun p hp => ⟨(r.tabs p hp).1, h.none (r.tabs p hp).2.1, (r.tabs p hp).2.2⟩⟩
theorem Fr.sub' {F0 H0 : Hp} {S0 S' : Sto} (r : Fr F0 S0 H0 F St H) (h : Sub S' St) : Fr F0 S0 H0 F S' H := ⟨r.ext, fun a o e n nt => by
  obtain ⟨x, y, z⟩ := r.keep a o e n nt
  exact ⟨x, h.none y, z⟩⟩
end
/-! ### the slots -/
structure RE (K : PySem.W.Frag) (F : Hp) (ρ : Env) (σ : L2.St) : Prop where
  len : ρ.length = σ.length
  at_ : ∀ i d, get ρ i = some d → ∃ v, σ[i]? = some (some v) ∧ Is K F v d
theorem RE.mono {K : PySem.W.Frag} {F F' : Hp} {ρ : Env} {σ : L2.St} (r : RE K F ρ σ) (e : Same F F') : RE K F' ρ σ := ⟨r.len, fun i d h => by
  obtain ⟨v, a, b⟩ := r.at_ i d h
  exact ⟨v, a, b.mono e⟩⟩
theorem put_length (ρ : Env) (i : Nat) (d : D) : (put ρ i d).length = ρ.length := by
  induction ρ generalizing i with
  | nil => cases i <;> rfl
  | cons x r ih => cases i with
    | zero => rfl
    | succ i => simp [put, ih]
theorem get_put (ρ : Env) (i j : Nat) (d e : D) (h : get (put ρ i d) j = some e) : (j = i ∧ e = d ∧ i < ρ.length) ∨ (j ≠ i ∧ get ρ j = some e) := by
  induction ρ generalizing i j with
  | nil => cases i <;> cases j <;> simp [put, get] at h
  | cons x r ih => cases i with
    | zero => cases j with
      | zero => simp [put, get] at h; exact .inl ⟨rfl, h.symm, by simp⟩
      | succ j => simp [put, get] at h; exact .inr ⟨by omega, by simpa [get] using h⟩
    | succ i => cases j with
      | zero => simp [put, get] at h; exact .inr ⟨by omega, by simpa [get] using h⟩
      | succ j =>
        simp [put, get] at h
        rcases ih i j h with ⟨a, b, c⟩ | ⟨a, b⟩
        · exact .inl ⟨by omega, b, by simpa using c⟩
        · exact .inr ⟨by omega, by simpa [get] using b⟩
theorem RE.put {K : PySem.W.Frag} {F : Hp} {ρ : Env} {σ : L2.St} (r : RE K F ρ σ) (i : Nat) {v : V} {d : D} (h : Is K F v d) : RE K F (DL.put ρ i d) (σ.set i (some v)) := by
  refine ⟨by rw [put_length, List.length_set]; exact r.len, fun j e he => ?_⟩
  rcases get_put ρ i j d e he with ⟨rfl, rfl, c⟩ | ⟨a, b⟩
  · exact ⟨v, by rw [List.getElem?_set_self (by rw [← r.len]; exact c)], h⟩
  · obtain ⟨u, x, y⟩ := r.at_ j e b
    exact ⟨u, by rw [List.getElem?_set_ne (Ne.symm a)]; exact x, y⟩
theorem get_set_none (ρ : Env) (v i : Nat) (d : D) (h : get (ρ.set v none) i = some d) : get ρ i = some d ∧ i ≠ v := by
  induction ρ generalizing v i with
  | nil => simp [get] at h
  | cons x r ih => cases v with
    | zero => cases i with
      | zero => simp [get] at h
      | succ i => simp [get] at h; exact ⟨by simpa [get] using h, by omega⟩
    | succ v => cases i with
      | zero => simp [get] at h; exact ⟨by simpa [get] using h, by omega⟩
      | succ i =>
        simp [get] at h
        obtain ⟨a, b⟩ := ih v i h
        exact ⟨by simpa [get] using a, by omega⟩
theorem RE.wip {K : PySem.W.Frag} {F : Hp} {ρ : Env} {σ : L2.St} (r : RE K F ρ σ) : ∀ vs : List Nat, RE K F (DL.wip ρ vs) (wipe σ vs)
  | [] => r
  | v :: vs => by
    have ih := RE.wip r vs
    refine ⟨by unfold DL.wip wipe; rw [List.length_set, List.length_set]; exact ih.len, fun i d h => ?_⟩
    unfold DL.wip at h
    obtain ⟨a, b⟩ := get_set_none _ _ _ _ h
    obtain ⟨u, x, y⟩ := ih.at_ i d a
    refine ⟨u, ?_, y⟩
    unfold wipe
    rw [List.getElem?_set_ne (Ne.symm b)]
    exact x
end DL
/-! DL3: each construct of an expression, over data. -/
namespace DL
open PySem PySem.Spec PyProof.Rows L2
variable [TBS]
/-- exceptions: their classes, the name of the one field -/
structure XC where
  cls : Nat → Value
  fld : Nat → Str
noncomputable def PayOk (C : XC) (c : Nat) (d : D) (dx : Option Addr) (H : Hp) : Prop :=
  (d = .non ∧ dx = none) ∨ ∃ a n, d = .int n ∧ dx = some a ∧ H a = some (.xd [(C.fld c, .int n)])
/-- the promise over data, as one of the layer's -/
noncomputable def lift (K : PySem.W.Frag) (ω : World) (C : XC) (sp : DSp) : Sp := fun vs H Q E => ∃ ds St F q qx, SR K ω F St H ∧ IsL K F vs ds ∧ sp ds St q qx ∧
  (∀ d S' v F' H', q d S' → Fr F St H F' S' H' → SR K ω F' S' H' → Is K F' v d → Q v H') ∧
  (∀ c d S' F' H' dx, qx c d S' → Fr F St H F' S' H' → SR K ω F' S' H' → PayOk C c d dx H' → E (C.cls c) dx H')
/-- what stays of a context through a def's body, what changes -/
structure Bx where
  prog : Program
  w : World
  K : PySem.W.Frag
  mg : Str → Option Value
  base : Heap
  N : List Str
  lm : Prop
structure Dl where
  A : Around
  s_0 : Shared
  H_0 : Hp
  env : PySem.Env
  outer : List PySem.Env
  stack : List PySem.Env
  ex : List Addr
  fn : Str → Bool
  calm : Bool
  pn : List (Addr × Obj)
  xe : Value → Shared → Prop
noncomputable def cx (B : Bx) (δ : Dl) : Cx where
  prog := B.prog
  w := B.w
  K := B.K
  mg := B.mg
  base := B.base
  A := δ.A
  N := B.N
  s_0 := δ.s_0
  H_0 := δ.H_0
  env := δ.env
  outer := δ.outer
  stack := δ.stack
  ex := δ.ex
  fn := δ.fn
  calm := δ.calm
  pn := δ.pn
  xe := δ.xe
/-- what is wanted where an exception leaves -/
noncomputable def EQ (K : PySem.W.Frag) (ω : World) (W : WX) (C : XC) (xq : QX) (F : Hp) (St : Sto) (H : Hp) (σ : L2.St) : Prop :=
  ∀ c d S' F' H' dx, Fr F St H F' S' H' → SR K ω F' S' H' → PayOk C c d dx H' → xq c d S' → W (C.cls c) dx σ H'
theorem EQ.step {K : PySem.W.Frag} {ω : World} {W : WX} {C : XC} {xq : QX} {F F1 : Hp} {St S1 : Sto} {H H1 : Hp} {σ : L2.St} (h : EQ K ω W C xq F St H σ) (f : Fr F St H F1 S1 H1) : EQ K ω W C xq F1 S1 H1 σ :=
  fun c d S' F' H' dx g r p q => h c d S' F' H' dx (f.trans g) r p q
structure SE (B : Bx) (Y : Dl → Prop) (W : WX) (C : XC) (xq : QX) (x : Expr) (w : Env → Sto → QD → Prop) : Prop where
  ex : ∃ t : TE, (∀ δ, Y δ → PE (cx B δ) x t) ∧ ∀ (ρ : Env) (St : Sto) (F : Hp) (σ : L2.St) (H : Hp) (q : QD) (Q : VK), SR B.K B.w F St H → RE B.K F ρ σ → EQ B.K B.w W C xq F St H σ → w ρ St q →
    (∀ d S' F' v H', Fr F St H F' S' H' → SR B.K B.w F' S' H' → Is B.K F' v d → q d S' → Q v H') → t σ H Q
structure ST (B : Bx) (Y : Dl → Prop) (W : WX) (C : XC) (xq : QX) (x : Expr) (w : Env → Sto → (Bool → Sto → Prop) → Prop) : Prop where
  ex : ∃ t : TT, (∀ δ, Y δ → PT (cx B δ) x t) ∧ ∀ (ρ : Env) (St : Sto) (F : Hp) (σ : L2.St) (H : Hp) (q : Bool → Sto → Prop) (Q : Bool → Hp → Prop), SR B.K B.w F St H → RE B.K F ρ σ → EQ B.K B.w W C xq F St H σ → w ρ St q →
    (∀ b S' F' H', Fr F St H F' S' H' → SR B.K B.w F' S' H' → q b S' → Q b H') → t σ H Q
structure SA (B : Bx) (Y : Dl → Prop) (W : WX) (C : XC) (xq : QX) (xs : List Expr) (w : Env → Sto → (List D → Sto → Prop) → Prop) : Prop where
  ex : ∃ t : TA, (∀ δ, Y δ → PA (cx B δ) xs t) ∧ ∀ (ρ : Env) (St : Sto) (F : Hp) (σ : L2.St) (H : Hp) (q : List D → Sto → Prop) (Q : List V → Hp → Prop), SR B.K B.w F St H → RE B.K F ρ σ → EQ B.K B.w W C xq F St H σ → w ρ St q →
    (∀ ds S' F' vs H', Fr F St H F' S' H' → SR B.K B.w F' S' H' → IsL B.K F' vs ds → ds.length = xs.length → q ds S' → Q vs H') → t σ H Q
section
variable {B : Bx} {Y : Dl → Prop} {W : WX} {C : XC} {xq : QX} {a b c : Expr} {wa wb wc : Env → Sto → QD → Prop} {pos : Pos}
theorem SE.var {i : Nat} {x : Str} (hN : B.N[i]? = some x) (hv : ∀ δ, Y δ → Vis δ.env.scope x) (hd : (x == ("__debug__" : Str)) = false) (hc : (x == ("__classdict__" : Str)) = false) :
    SE B Y W C xq (.Name x pos) (fun ρ St q => ∃ d, get ρ i = some d ∧ q d St) := by
  refine ⟨⟨_, fun δ hδ => pe_var hN (hv δ hδ) hd hc, fun ρ St F σ H q Q r e _ w k => ?_⟩⟩
  obtain ⟨d, g, w⟩ := w
  obtain ⟨v, hv, is⟩ := e.at_ i d g
  exact ⟨v, hv, k d St F v H Fr.refl r is w⟩
theorem SE.non {j : Nat} : SE B Y W C xq (.Constant .none j pos) (fun _ St q => q .non St) :=
  ⟨⟨_, fun δ hδ => pe_non, fun ρ St F σ H q Q r e _ w k => k _ St F _ H Fr.refl r .non w⟩⟩
theorem SE.bl {j : Nat} {b : Bool} : SE B Y W C xq (.Constant (.bool b) j pos) (fun _ St q => q (.bl b) St) :=
  ⟨⟨_, fun δ hδ => pe_bl, fun ρ St F σ H q Q r e _ w k => k _ St F _ H Fr.refl r (.bl b) w⟩⟩
theorem SE.int {j : Nat} {i : Int} : SE B Y W C xq (.Constant (.int i) j pos) (fun _ St q => q (.int i) St) :=
  ⟨⟨_, fun δ hδ => pe_int, fun ρ St F σ H q Q r e _ w k => k _ St F _ H Fr.refl r (.int i) w⟩⟩
theorem SE.str {j : Nat} {z : Str} {s : Bs} (hz : z = mkS s) (hl : s.length ≤ sizeLine) : SE B Y W C xq (.Constant (.str z) j pos) (fun _ St q => q (.str s) St) := by
  subst hz
  exact ⟨⟨_, fun δ hδ => pe_str, fun ρ St F σ H q Q r e _ w k => k _ St F _ H Fr.refl r (.str s hl) w⟩⟩
theorem SE.glb {x : Str} {v : V} {u : Value} {d : D} (hg : ∀ δ, Y δ → Gl (cx B δ) x) (hm : B.mg x = some u) (rv : RelV v u) (is : Is B.K (fun _ => none) v d) (hd : (x == ("__debug__" : Str)) = false) :
    SE B Y W C xq (.Name x pos) (fun _ St q => q d St) :=
  ⟨⟨_, fun δ hδ => pe_glob (hg δ hδ) hm rv hd, fun ρ St F σ H q Q r e _ w k => k d St F v H Fr.refl r (is.mono fun _ _ z => by cases z) w⟩⟩
theorem SA.nil : SA B Y W C xq [] (fun _ St q => q [] St) := ⟨⟨_, fun δ hδ => pa_nil, fun ρ St F σ H q Q r e _ w k => k [] St F [] H Fr.refl r .nil rfl w⟩⟩
theorem SA.cons {es : List Expr} {ws : Env → Sto → (List D → Sto → Prop) → Prop} (ha : SE B Y W C xq a wa) (hs : SA B Y W C xq es ws) (st : ∀ env, starEach (a :: es) env = (false, eval a env) :: starEach es env) :
    SA B Y W C xq (a :: es) (fun ρ St q => wa ρ St fun x S1 => ws ρ S1 fun xs S2 => q (x :: xs) S2) := by
  obtain ⟨ta, pa, ka⟩ := ha.ex
  obtain ⟨ts, ps, ks⟩ := hs.ex
  refine ⟨⟨_, fun δ hδ => pa_cons (pa δ hδ) (ps δ hδ) (st _), fun ρ St F σ H q Q r e x w k => ?_⟩⟩
  refine ka ρ St F σ H _ _ r e x w fun d S1 F1 v H1 f1 r1 i1 w1 => ?_
  refine ks ρ S1 F1 σ H1 _ _ r1 (e.mono f1.ext) (x.step f1) w1 fun ds S2 F2 vs H2 f2 r2 i2 l2 w2 => ?_
  exact k _ S2 F2 _ H2 (f1.trans f2) r2 (.cons (i1.mono f2.ext) i2) (by rw [List.length_cons, List.length_cons, l2]) w2
theorem small_of {n : Nat} (h : n ≤ SZ) : n ≤ sizeLine := by rw [sizeLine_eq]; exact h
theorem SE.tup {es : List Expr} {ws : Env → Sto → (List D → Sto → Prop) → Prop} {n : Nat} (hs : SA B Y W C xq es ws) (hl : es.length ≤ 1000) :
    SE B Y W C xq (.Tuple es n pos) (fun ρ St q => ws ρ St fun ds S1 => q (.tup ds) S1) := by
  obtain ⟨ts, ps, ks⟩ := hs.ex
  refine ⟨⟨_, fun δ hδ => pe_tup (ps δ hδ), fun ρ St F σ H q Q r e x w k => ?_⟩⟩
  refine ks ρ St F σ H _ _ r e x w fun ds S1 F1 vs H1 f1 r1 i1 l1 w1 => ?_
  have hz : vs.length ≤ sizeLine := by rw [i1.length, l1]; exact Nat.le_of_lt (small1000 hl)
  refine ⟨hz, fun p hp => ?_⟩
  obtain ⟨r2, f2⟩ := r1.lay (o := .tup vs) hp
  exact k _ S1 _ _ _ (f1.trans f2) r2 (.tup (.inl (.inl upd_same)) hz (i1.mono f2.ext)) w1
theorem SE.lst {es : List Expr} {ws : Env → Sto → (List D → Sto → Prop) → Prop} (hs : SA B Y W C xq es ws) (hl : es.length ≤ 1000) :
    SE B Y W C xq (.List es pos) (fun ρ St q => ws ρ St fun ds S1 => q (.lst ds) S1) := by
  obtain ⟨ts, ps, ks⟩ := hs.ex
  refine ⟨⟨_, fun δ hδ => pe_lst (ps δ hδ), fun ρ St F σ H q Q r e x w k => ?_⟩⟩
  refine ks ρ St F σ H _ _ r e x w fun ds S1 F1 vs H1 f1 r1 i1 l1 w1 => ?_
  have hz : vs.length ≤ sizeLine := by rw [i1.length, l1]; exact Nat.le_of_lt (small1000 hl)
  refine ⟨hz, fun p hp => ?_⟩
  obtain ⟨r2, f2⟩ := r1.lay (o := .lst vs) hp
  exact k _ S1 _ _ _ (f1.trans f2) r2 (.lst upd_same hz (i1.mono f2.ext)) w1
theorem SE.newl {es : List Expr} {ws : Env → Sto → (List D → Sto → Prop) → Prop} (hs : SA B Y W C xq es ws) (hl : es.length ≤ 1000) :
    SE B Y W C xq (.List es pos) (fun ρ St q => ws ρ St fun ds S1 => ∀ p, S1 p = none → q (.ref p) (ups S1 p (.lst ds))) := by
  obtain ⟨ts, ps, ks⟩ := hs.ex
  refine ⟨⟨_, fun δ hδ => pe_lst (ps δ hδ), fun ρ St F σ H q Q r e x w k => ?_⟩⟩
  refine ks ρ St F σ H _ _ r e x w fun ds S1 F1 vs H1 f1 r1 i1 l1 w1 => ?_
  have hz : vs.length ≤ sizeLine := by rw [i1.length, l1]; exact Nat.le_of_lt (small1000 hl)
  refine ⟨hz, fun p hp => ?_⟩
  obtain ⟨r2, f2⟩ := r1.make (o := .lst vs) (q := .lst ds) hp ⟨vs, upd_same, hz, i1⟩
  exact k _ _ _ _ _ (f1.trans f2) r2 (.ref p) (w1 p (r1.fresh hp).2)
theorem SE.newd : SE B Y W C xq (.Dict [] [] pos) (fun _ St q => ∀ p, St p = none → q (.ref p) (ups St p (.dct []))) := by
  refine ⟨⟨_, fun δ hδ => pe_dnewK, fun ρ St F σ H q Q r e x w k p hp => ?_⟩⟩
  obtain ⟨r2, f2⟩ := r.make (o := .dK []) (q := .dct []) hp ⟨[], upd_same, Nat.zero_le _, List.nodup_nil, .nil⟩
  exact k _ _ _ _ _ f2 r2 (.ref p) (w p (r.fresh hp).2)
/-! ### two operands -/
theorem SE.op2 {op : Operator} {rr : R2} {z : D → D → Sto → (D → Prop) → Prop} (ho : ∀ δ, Y δ → OpR (cx B δ) (binaryOp op) rr) (ha : SE B Y W C xq a wa) (hb : SE B Y W C xq b wb)
    (hr : ∀ (F : Hp) (St : Sto) (H : Hp) (v u : V) (x y : D) (q : D → Prop) (Q : VK), SR B.K B.w F St H → Is B.K F v x → Is B.K F u y → z x y St q → (∀ d F' v' H', Fr F St H F' St H' → SR B.K B.w F' St H' → Is B.K F' v' d → q d → Q v' H') → rr v u H Q) :
    SE B Y W C xq (.BinOp a op b pos) (fun ρ St q => wa ρ St fun x S1 => wb ρ S1 fun y S2 => z x y S2 fun d => q d S2) := by
  obtain ⟨ta, pa, ka⟩ := ha.ex
  obtain ⟨tb, pb, kb⟩ := hb.ex
  refine ⟨⟨_, fun δ hδ => pe_op (ho δ hδ) (pa δ hδ) (pb δ hδ), fun ρ St F σ H q Q r e x w k => ?_⟩⟩
  refine ka ρ St F σ H _ _ r e x w fun d S1 F1 v H1 f1 r1 i1 w1 => ?_
  refine kb ρ S1 F1 σ H1 _ _ r1 (e.mono f1.ext) (x.step f1) w1 fun d2 S2 F2 v2 H2 f2 r2 i2 w2 => ?_
  exact hr F2 S2 H2 v v2 d d2 _ Q r2 (i1.mono f2.ext) i2 w2 fun d3 F3 v3 H3 f3 r3 i3 w3 => k d3 S2 F3 v3 H3 ((f1.trans f2).trans f3) r3 i3 w3
theorem sum_len {m n : Nat} (h : m + n ≤ SZ) : m + n ≤ sizeLine := small_of h
theorem mkS_cat (a b : Bs) : mkS a ++ mkS b = mkS (a ++ b) := by
  have : (mkS a ++ mkS b).cps.toList = a ++ b := by
    show ((mkS a).cps ++ (mkS b).cps).toList = a ++ b
    simp [mkS]
  rw [← this, mkS_tl]
/-- + -/
noncomputable def rAddD (K : PySem.W.Frag) : R2 := fun x y H Q => rI0 (fun i j => .int (i + j)) x y H Q ∨ (∃ i j, x = .str i ∧ y = .str j ∧ i.length + j.length ≤ sizeLine ∧ Q (.str (i ++ j)) H) ∨ rCatA K x y H Q ∨ rCat x y H Q
theorem op_addD {X : Cx} : OpR X (binaryOp .Add) (rAddD X.K) := op_add.or (op_add_str.or (op_catA.or op_cat))
theorem SE.add (ha : SE B Y W C xq a wa) (hb : SE B Y W C xq b wb) : SE B Y W C xq (.BinOp a .Add b pos) (fun ρ St q => wa ρ St fun x S1 => wb ρ S1 fun y S2 => wBin .add x y fun d => q d S2) := by
  refine SE.op2 (rr := rAddD B.K) (z := fun x y _ => wBin .add x y) (fun δ _ => op_addD) ha hb fun F St H v u x y q Q r ix iy w k => ?_
  cases ix with
  | int i => cases iy with
    | int j => exact .inl ⟨i, j, rfl, rfl, k _ F _ H Fr.refl r (.int _) w⟩
    | _ => exact False.elim w
  | str s zs => cases iy with
    | str t zt =>
      obtain ⟨hz, w⟩ := w
      refine .inr (.inl ⟨mkS s, mkS t, rfl, rfl, by rw [mkS_len, mkS_len]; exact sum_len hz, ?_⟩)
      rw [mkS_cat]
      exact k _ F _ H Fr.refl r (.str _ (by rw [List.length_append]; exact sum_len hz)) w
    | _ => exact False.elim w
  | @tup p xs ds hx zx ix => cases iy with
    | @tup p2 ys es hy zy iy =>
      obtain ⟨hz, w⟩ := w
      have hz' : xs.length + ys.length ≤ sizeLine := by rw [ix.length, iy.length]; exact sum_len hz
      refine .inr (.inr (.inl ⟨p, p2, xs, ys, rfl, rfl, sqT_same r.sub hx, sqT_same r.sub hy, hz', fun e => ?_, fun e e2 => ?_, fun e e2 p3 hp => ?_⟩))
      · subst e
        cases ix
        exact k _ F _ H Fr.refl r (.tup hy zy iy) w
      · subst e2
        cases iy
        rw [List.append_nil] at w
        exact k _ F _ H Fr.refl r (.tup hx zx ix) w
      · obtain ⟨r2, f2⟩ := r.lay (o := .tup (xs ++ ys)) hp
        exact k _ _ _ _ f2 r2 (.tup (.inl (.inl upd_same)) (by rw [List.length_append]; exact hz') ((ix.append iy).mono f2.ext)) w
    | _ => exact False.elim w
  | @lst p xs ds hx zx ix => cases iy with
    | @lst p2 ys es hy zy iy =>
      obtain ⟨hz, w⟩ := w
      have hz' : xs.length + ys.length ≤ sizeLine := by rw [ix.length, iy.length]; exact sum_len hz
      refine .inr (.inr (.inr ⟨p, p2, xs, ys, rfl, rfl, r.sub _ _ hx, r.sub _ _ hy, hz', fun p3 hp => ?_⟩))
      obtain ⟨r2, f2⟩ := r.lay (o := .lst (xs ++ ys)) hp
      exact k _ _ _ _ f2 r2 (.lst upd_same (by rw [List.length_append]; exact hz') ((ix.append iy).mono f2.ext)) w
    | _ => exact False.elim w
  | _ => exact False.elim (by cases iy <;> exact w)
theorem SE.sub (ha : SE B Y W C xq a wa) (hb : SE B Y W C xq b wb) : SE B Y W C xq (.BinOp a .Sub b pos) (fun ρ St q => wa ρ St fun x S1 => wb ρ S1 fun y S2 => wBin .sub x y fun d => q d S2) := by
  refine SE.op2 (z := fun x y _ => wBin .sub x y) (fun δ _ => op_sub) ha hb fun F St H v u x y q Q r ix iy w k => ?_
  cases ix with
  | int i => cases iy with
    | int j => exact ⟨i, j, rfl, rfl, k _ F _ H Fr.refl r (.int _) w⟩
    | _ => exact False.elim w
  | _ => exact False.elim (by cases iy <;> exact w)
theorem SE.mul (ha : SE B Y W C xq a wa) (hb : SE B Y W C xq b wb) : SE B Y W C xq (.BinOp a .Mult b pos) (fun ρ St q => wa ρ St fun x S1 => wb ρ S1 fun y S2 => wBin .mul x y fun d => q d S2) := by
  refine SE.op2 (z := fun x y _ => wBin .mul x y) (fun δ _ => op_mul) ha hb fun F St H v u x y q Q r ix iy w k => ?_
  cases ix with
  | int i => cases iy with
    | int j =>
      obtain ⟨hz, w⟩ := w
      exact ⟨i, j, rfl, rfl, hz, k _ F _ H Fr.refl r (.int _) w⟩
    | _ => exact False.elim w
  | _ => exact False.elim (by cases iy <;> exact w)
theorem SE.fdiv (ha : SE B Y W C xq a wa) (hb : SE B Y W C xq b wb) : SE B Y W C xq (.BinOp a .FloorDiv b pos) (fun ρ St q => wa ρ St fun x S1 => wb ρ S1 fun y S2 => wBin .fdiv x y fun d => q d S2) := by
  refine SE.op2 (z := fun x y _ => wBin .fdiv x y) (fun δ _ => op_fdiv) ha hb fun F St H v u x y q Q r ix iy w k => ?_
  cases ix with
  | int i => cases iy with
    | int j =>
      obtain ⟨hz, w⟩ := w
      exact ⟨i, j, rfl, rfl, hz, k _ F _ H Fr.refl r (.int _) w⟩
    | _ => exact False.elim w
  | _ => exact False.elim (by cases iy <;> exact w)
theorem SE.mod (ha : SE B Y W C xq a wa) (hb : SE B Y W C xq b wb) : SE B Y W C xq (.BinOp a .Mod b pos) (fun ρ St q => wa ρ St fun x S1 => wb ρ S1 fun y S2 => wBin .mod x y fun d => q d S2) := by
  refine SE.op2 (z := fun x y _ => wBin .mod x y) (fun δ _ => op_mod) ha hb fun F St H v u x y q Q r ix iy w k => ?_
  cases ix with
  | int i => cases iy with
    | int j =>
      obtain ⟨hz, w⟩ := w
      exact ⟨i, j, rfl, rfl, hz, k _ F _ H Fr.refl r (.int _) w⟩
    | _ => exact False.elim w
  | _ => exact False.elim (by cases iy <;> exact w)
theorem SE.neg (ha : SE B Y W C xq a wa) : SE B Y W C xq (.UnaryOp .USub a pos) (fun ρ St q => wa ρ St fun x S1 => match x with | .int i => q (.int (-i)) S1 | _ => False) := by
  obtain ⟨ta, pa, ka⟩ := ha.ex
  refine ⟨⟨_, fun δ hδ => pe_un un_neg (pa δ hδ), fun ρ St F σ H q Q r e x w k => ?_⟩⟩
  refine ka ρ St F σ H _ _ r e x w fun d S1 F1 v H1 f1 r1 i1 w1 => ?_
  cases i1 with
  | int i => exact ⟨i, rfl, k _ S1 F1 _ H1 f1 r1 (.int _) w1⟩
  | _ => exact False.elim w1
/-! ### truth -/
theorem tru_of {K : PySem.W.Frag} {ω : World} {F : Hp} {St : Sto} {H : Hp} {v : V} {d : D} {b : Bool} (r : SR K ω F St H) (i : Is K F v d) (h : tru St d = some b) : TruV K v H b := by
  cases i with
  | non => exact (Option.some.inj h).symm
  | bl x => exact (Option.some.inj h).symm
  | int j => exact (Option.some.inj h).symm
  | str s z =>
    refine ⟨by rw [mkS_len]; exact z, ?_⟩
    rw [mkS_len, ← Option.some.inj h]
    cases s with
    | nil => rfl
    | cons c t => simp; omega
  | @tup a xs ds hx z ix =>
    refine .inr (.inl ⟨xs, sqT_same r.sub hx, ?_⟩)
    rw [← Option.some.inj h]
    cases ix <;> rfl
  | @lst a xs ds hx z ix =>
    refine .inl ⟨xs, SqL.of (r.sub _ _ hx), ?_⟩
    rw [← Option.some.inj h]
    cases ix <;> rfl
  | dct => cases h
  | scr => cases h
  | fnv => cases h
  | ref a =>
    cases e : St a with
    | none => simp only [tru, e] at h; cases h
    | some o =>
      simp only [tru, e] at h
      have ho := (r.own a o e).2
      cases o with
      | lst ds =>
        obtain ⟨xs, hx, z, ix⟩ := ho
        refine .inl ⟨xs, SqL.of hx, ?_⟩
        rw [← Option.some.inj h]
        cases ix <;> rfl
      | dct ds =>
        obtain ⟨xs, hx, z, nd, ix⟩ := ho
        refine .inr (.inr ⟨xs, hx, ?_⟩)
        rw [← Option.some.inj h]
        cases ix <;> rfl
      | ins => cases h
      | tdc => cases h
theorem SE.not (ha : SE B Y W C xq a wa) : SE B Y W C xq (.UnaryOp .Not a pos) (fun ρ St q => wa ρ St fun x S1 => ∃ b, tru S1 x = some b ∧ q (.bl (!b)) S1) := by
  obtain ⟨ta, pa, ka⟩ := ha.ex
  refine ⟨⟨tNotT B.K ta, fun δ hδ => pe_notT (pa δ hδ), fun ρ St F σ H q Q r e x w k => ?_⟩⟩
  refine ka ρ St F σ H _ _ r e x w fun d S1 F1 v H1 f1 r1 i1 w1 => ?_
  obtain ⟨b, hb, w1⟩ := w1
  exact ⟨b, tru_of r1 i1 hb, k _ S1 F1 _ H1 f1 r1 (.bl _) w1⟩
theorem SE.bool1 {op : BoolOp} (ha : SE B Y W C xq a wa) : SE B Y W C xq (.BoolOp op [a] pos) wa := by
  obtain ⟨ta, pa, ka⟩ := ha.ex
  exact ⟨⟨_, fun δ hδ => pe_one (pa δ hδ), ka⟩⟩
theorem SE.and {rest : List Expr} (ha : SE B Y W C xq a wa) (hb : SE B Y W C xq (.BoolOp .And (b :: rest) pos) wb) :
    SE B Y W C xq (.BoolOp .And (a :: b :: rest) pos) (fun ρ St q => wa ρ St fun x S1 => ∃ k, tru S1 x = some k ∧ if k = true then wb ρ S1 q else q x S1) := by
  obtain ⟨ta, pa, ka⟩ := ha.ex
  obtain ⟨tb, pb, kb⟩ := hb.ex
  refine ⟨⟨tAndT B.K ta tb, fun δ hδ => pe_andT (pa δ hδ) (pb δ hδ), fun ρ St F σ H q Q r e x w k => ?_⟩⟩
  refine ka ρ St F σ H _ _ r e x w fun d S1 F1 v H1 f1 r1 i1 w1 => ?_
  obtain ⟨t, ht, w1⟩ := w1
  refine ⟨t, tru_of r1 i1 ht, ?_⟩
  cases t with
  | true => exact kb ρ S1 F1 σ H1 _ _ r1 (e.mono f1.ext) (x.step f1) w1 fun d2 S2 F2 v2 H2 f2 r2 i2 w2 => k d2 S2 F2 v2 H2 (f1.trans f2) r2 i2 w2
  | false => exact k d S1 F1 v H1 f1 r1 i1 w1
theorem SE.or {rest : List Expr} (ha : SE B Y W C xq a wa) (hb : SE B Y W C xq (.BoolOp .Or (b :: rest) pos) wb) :
    SE B Y W C xq (.BoolOp .Or (a :: b :: rest) pos) (fun ρ St q => wa ρ St fun x S1 => ∃ k, tru S1 x = some k ∧ if k = false then wb ρ S1 q else q x S1) := by
  obtain ⟨ta, pa, ka⟩ := ha.ex
  obtain ⟨tb, pb, kb⟩ := hb.ex
  refine ⟨⟨tOrT B.K ta tb, fun δ hδ => pe_orT (pa δ hδ) (pb δ hδ), fun ρ St F σ H q Q r e x w k => ?_⟩⟩
  refine ka ρ St F σ H _ _ r e x w fun d S1 F1 v H1 f1 r1 i1 w1 => ?_
  obtain ⟨t, ht, w1⟩ := w1
  refine ⟨t, tru_of r1 i1 ht, ?_⟩
  cases t with
  | true => exact k d S1 F1 v H1 f1 r1 i1 w1
  | false => exact kb ρ S1 F1 σ H1 _ _ r1 (e.mono f1.ext) (x.step f1) w1 fun d2 S2 F2 v2 H2 f2 r2 i2 w2 => k d2 S2 F2 v2 H2 (f1.trans f2) r2 i2 w2
theorem SE.ite {tc : Env → Sto → (Bool → Sto → Prop) → Prop} (hc : ST B Y W C xq c tc) (ha : SE B Y W C xq a wa) (hb : SE B Y W C xq b wb) :
    SE B Y W C xq (.IfExp c a b pos) (fun ρ St q => tc ρ St fun k S1 => if k = true then wa ρ S1 q else wb ρ S1 q) := by
  obtain ⟨tcc, pc, kc⟩ := hc.ex
  obtain ⟨ta, pa, ka⟩ := ha.ex
  obtain ⟨tb, pb, kb⟩ := hb.ex
  refine ⟨⟨_, fun δ hδ => pe_ifExp (pc δ hδ) (pa δ hδ) (pb δ hδ), fun ρ St F σ H q Q r e x w k => ?_⟩⟩
  refine kc ρ St F σ H _ _ r e x w fun t S1 F1 H1 f1 r1 w1 => ?_
  cases t with
  | true => exact ka ρ S1 F1 σ H1 _ _ r1 (e.mono f1.ext) (x.step f1) w1 fun d2 S2 F2 v2 H2 f2 r2 i2 w2 => k d2 S2 F2 v2 H2 (f1.trans f2) r2 i2 w2
  | false => exact kb ρ S1 F1 σ H1 _ _ r1 (e.mono f1.ext) (x.step f1) w1 fun d2 S2 F2 v2 H2 f2 r2 i2 w2 => k d2 S2 F2 v2 H2 (f1.trans f2) r2 i2 w2
theorem ST.val (ha : SE B Y W C xq a wa) (he : ∀ env whole, isTrue a env whole = (do let v ← whole; standAt a.pos; holding [v] (truthy v))) : ST B Y W C xq a (fun ρ St q => wa ρ St fun x S1 => ∃ b, tru S1 x = some b ∧ q b S1) := by
  obtain ⟨ta, pa, ka⟩ := ha.ex
  refine ⟨⟨fun σ H Q => ta σ H fun x H' => ∃ k, TruV B.K x H' k ∧ Q k H', fun δ hδ => pt_truth (pa δ hδ) (he _), fun ρ St F σ H q Q r e x w k => ?_⟩⟩
  refine ka ρ St F σ H _ _ r e x w fun d S1 F1 v H1 f1 r1 i1 w1 => ?_
  obtain ⟨b, hb, w1⟩ := w1
  exact ⟨b, tru_of r1 i1 hb, k _ S1 F1 H1 f1 r1 w1⟩
theorem ST.not {tc : Env → Sto → (Bool → Sto → Prop) → Prop} (hc : ST B Y W C xq a tc) : ST B Y W C xq (.UnaryOp .Not a pos) (fun ρ St q => tc ρ St fun b S1 => q (!b) S1) := by
  obtain ⟨tcc, pc, kc⟩ := hc.ex
  exact ⟨⟨_, fun δ hδ => pt_not (pc δ hδ), fun ρ St F σ H q Q r e x w k => kc ρ St F σ H _ _ r e x w fun t S1 F1 H1 f1 r1 w1 => k _ S1 F1 H1 f1 r1 w1⟩⟩
end
/-- a test whatever its 'whole' is -/
structure SW (B : Bx) (Y : Dl → Prop) (W : WX) (C : XC) (xq : QX) (x : Expr) (w : Env → Sto → (Bool → Sto → Prop) → Prop) : Prop where
  ex : ∃ t : TT, (∀ δ, Y δ → PW (cx B δ) x t) ∧ ∀ (ρ : Env) (St : Sto) (F : Hp) (σ : L2.St) (H : Hp) (q : Bool → Sto → Prop) (Q : Bool → Hp → Prop), SR B.K B.w F St H → RE B.K F ρ σ → EQ B.K B.w W C xq F St H σ → w ρ St q →
    (∀ b S' F' H', Fr F St H F' S' H' → SR B.K B.w F' S' H' → q b S' → Q b H') → t σ H Q
section
variable {B : Bx} {Y : Dl → Prop} {W : WX} {C : XC} {xq : QX} {a b c : Expr} {wa wb wc : Env → Sto → QD → Prop} {ta tb : Env → Sto → (Bool → Sto → Prop) → Prop} {pos : Pos}
theorem SW.st (h : SW B Y W C xq a ta) : ST B Y W C xq a ta := by
  obtain ⟨t, p, k⟩ := h.ex
  exact ⟨⟨t, fun δ hδ => (p δ hδ).pt, k⟩⟩
theorem SW.and1 (h : ST B Y W C xq a ta) : SW B Y W C xq (.BoolOp .And [a] pos) ta := by
  obtain ⟨t, p, k⟩ := h.ex
  exact ⟨⟨_, fun δ hδ => pw_and1 (p δ hδ), k⟩⟩
theorem SW.or1 (h : ST B Y W C xq a ta) : SW B Y W C xq (.BoolOp .Or [a] pos) ta := by
  obtain ⟨t, p, k⟩ := h.ex
  exact ⟨⟨_, fun δ hδ => pw_or1 (p δ hδ), k⟩⟩
theorem SW.and {rest : List Expr} (ha : ST B Y W C xq a ta) (hb : SW B Y W C xq (.BoolOp .And (b :: rest) pos) tb) :
    SW B Y W C xq (.BoolOp .And (a :: b :: rest) pos) (fun ρ St q => ta ρ St fun k S1 => if k = true then tb ρ S1 q else q k S1) := by
  obtain ⟨t1, p1, k1⟩ := ha.ex
  obtain ⟨t2, p2, k2⟩ := hb.ex
  refine ⟨⟨_, fun δ hδ => pw_and (p1 δ hδ) (p2 δ hδ), fun ρ St F σ H q Q r e x w k => ?_⟩⟩
  refine k1 ρ St F σ H _ _ r e x w fun t S1 F1 H1 f1 r1 w1 => ?_
  cases t with
  | true => exact k2 ρ S1 F1 σ H1 _ _ r1 (e.mono f1.ext) (x.step f1) w1 fun d2 S2 F2 H2 f2 r2 w2 => k d2 S2 F2 H2 (f1.trans f2) r2 w2
  | false => exact k _ S1 F1 H1 f1 r1 w1
theorem SW.or {rest : List Expr} (ha : ST B Y W C xq a ta) (hb : SW B Y W C xq (.BoolOp .Or (b :: rest) pos) tb) :
    SW B Y W C xq (.BoolOp .Or (a :: b :: rest) pos) (fun ρ St q => ta ρ St fun k S1 => if k = false then tb ρ S1 q else q k S1) := by
  obtain ⟨t1, p1, k1⟩ := ha.ex
  obtain ⟨t2, p2, k2⟩ := hb.ex
  refine ⟨⟨_, fun δ hδ => pw_or (p1 δ hδ) (p2 δ hδ), fun ρ St F σ H q Q r e x w k => ?_⟩⟩
  refine k1 ρ St F σ H _ _ r e x w fun t S1 F1 H1 f1 r1 w1 => ?_
  cases t with
  | true => exact k _ S1 F1 H1 f1 r1 w1
  | false => exact k2 ρ S1 F1 σ H1 _ _ r1 (e.mono f1.ext) (x.step f1) w1 fun d2 S2 F2 H2 f2 r2 w2 => k d2 S2 F2 H2 (f1.trans f2) r2 w2
/-! ### comparisons -/
noncomputable def CmR (B : Bx) (Y : Dl → Prop) (op : CmpOp) (o : Cm) : Prop := ∃ rr : R2, (∀ δ, Y δ → OpR (cx B δ) (compareOp op) rr) ∧ ∀ (F : Hp) (St : Sto) (H : Hp) (v u : V) (x y : D) (q : Bool → Prop) (Q : VK), SR B.K B.w F St H → Is B.K F v x → Is B.K F u y → wCmp o x y St q → (∀ b, q b → Q (.bl b) H) → rr v u H Q
theorem SE.cmp {op : CmpOp} {o : Cm} (hc : CmR B Y op o) (hm : behindInMarks op b = false) (ha : SE B Y W C xq a wa) (hb : SE B Y W C xq b wb) :
    SE B Y W C xq (.Compare a [op] [b] pos) (fun ρ St q => wa ρ St fun x S1 => wb ρ S1 fun y S2 => wCmp o x y S2 fun k => q (.bl k) S2) := by
  obtain ⟨rr, ho, hr⟩ := hc
  obtain ⟨ta, pa, ka⟩ := ha.ex
  obtain ⟨tb, pb, kb⟩ := hb.ex
  refine ⟨⟨_, fun δ hδ => pe_cmpR (ho δ hδ) (pa δ hδ) (pb δ hδ) hm, fun ρ St F σ H q Q r e x w k => ?_⟩⟩
  refine ka ρ St F σ H _ _ r e x w fun d S1 F1 v H1 f1 r1 i1 w1 => ?_
  refine kb ρ S1 F1 σ H1 _ _ r1 (e.mono f1.ext) (x.step f1) w1 fun d2 S2 F2 v2 H2 f2 r2 i2 w2 => ?_
  exact hr F2 S2 H2 v v2 d d2 _ Q r2 (i1.mono f2.ext) i2 w2 fun b hb => k _ S2 F2 _ H2 (f1.trans f2) r2 (.bl b) hb
theorem ST.cmp {op : CmpOp} {o : Cm} (hc : CmR B Y op o) (hm : behindInMarks op b = false) (ha : SE B Y W C xq a wa) (hb : SE B Y W C xq b wb) :
    ST B Y W C xq (.Compare a [op] [b] pos) (fun ρ St q => wa ρ St fun x S1 => wb ρ S1 fun y S2 => wCmp o x y S2 fun k => q k S2) := by
  obtain ⟨rr, ho, hr⟩ := hc
  obtain ⟨ta, pa, ka⟩ := ha.ex
  obtain ⟨tb, pb, kb⟩ := hb.ex
  refine ⟨⟨_, fun δ hδ => pt_cmpR (ho δ hδ) (pa δ hδ) (pb δ hδ) hm, fun ρ St F σ H q Q r e x w k => ?_⟩⟩
  refine ka ρ St F σ H _ _ r e x w fun d S1 F1 v H1 f1 r1 i1 w1 => ?_
  refine kb ρ S1 F1 σ H1 _ _ r1 (e.mono f1.ext) (x.step f1) w1 fun d2 S2 F2 v2 H2 f2 r2 i2 w2 => ?_
  exact hr F2 S2 H2 v v2 d d2 _ _ r2 (i1.mono f2.ext) i2 w2 fun b hb => ⟨b, rfl, k _ S2 F2 H2 (f1.trans f2) r2 hb⟩
end
end DL
/-! DLR: t[::-1], t[:0:-1] of a tuple. -/
namespace DL
open PySem PySem.Spec PyProof.Rows L2
variable [TBS]
section
variable {prog : Program} {w : World} {A : Around} {E : Value → Shared → Prop} {s : Shared}
end
end DL
/-! DLS: sorted of tuples of ints, the first of them empty. -/
namespace DL
open PySem PySem.Spec PyProof.Rows L2 PySem.W PySem.Builtin.List
variable [TBS]
/-! ### the order -/
theorem ltInts_cons (a b : Int) (s t : List Int) : ltInts (a :: s) (b :: t) = if a = b then ltInts s t else decide (a < b) := rfl
theorem ltInts_asymm : ∀ s t : List Int, ltInts s t = true → ltInts t s = false
  | [], [], h => by cases h
  | [], _ :: _, _ => rfl
  | _ :: _, [], h => by cases h
  | a :: s, b :: t, h => by
    rw [ltInts_cons] at h ⊢
    by_cases e : a = b
    · rw [if_pos e] at h
      rw [if_pos e.symm]
      exact ltInts_asymm s t h
    · rw [if_neg e] at h
      rw [if_neg fun z => e z.symm]
      have := of_decide_eq_true h
      exact decide_eq_false (by omega)
theorem ltInts_neg : ∀ s t u : List Int, ltInts s t = false → ltInts t u = false → ltInts s u = false
  | [], [], u, _, h => h
  | [], _ :: _, u, h, _ => by cases h
  | a :: s, [], [], _, _ => rfl
  | a :: s, [], _ :: _, _, h => by cases h
  | a :: s, b :: t, [], _, _ => rfl
  | a :: s, b :: t, c :: u, h, k => by
    rw [ltInts_cons] at h k ⊢
    by_cases e : a = b
    · rw [if_pos e] at h
      subst e
      by_cases e2 : a = c
      · rw [if_pos e2] at k ⊢
        exact ltInts_neg s t u h k
      · rw [if_neg e2] at k ⊢
        exact k
    · rw [if_neg e] at h
      have h := of_decide_eq_false h
      by_cases e2 : b = c
      · subst e2
        rw [if_neg e]
        exact decide_eq_false h
      · rw [if_neg e2] at k
        have k := of_decide_eq_false k
        rw [if_neg (by omega)]
        exact decide_eq_false (by omega)
theorem swo_ints {α : Type} (k : α → List Int) : SrtO.Swo fun v u => ltInts (k v) (k u) := ⟨fun x y h => ltInts_asymm _ _ h, fun x y z h1 h2 => ltInts_neg _ _ _ h2 h1⟩
/-! ### a tuple of ints in the heap -/
noncomputable def IsIT (h : Heap) (v : Value) (ns : List Int) : Prop := ∃ a items, v = .ref a ∧ h.IsTuple a items ∧ items.size = ns.length ∧ ∀ j (h1 : j < items.size) (h2 : j < ns.length), ∃ t, items[j] = .int ns[j] t
theorem IsIT.keeps {h h' : Heap} {v : Value} {ns : List Int} (i : IsIT h v ns) (k : ∀ b o, h.get? b = some o → o.cls = .type "tuple" → h'.get? b = some o) : IsIT h' v ns := by
  obtain ⟨a, items, rfl, ⟨o, ho, hc, n, hd⟩, r⟩ := i
  exact ⟨a, items, rfl, ⟨o, k _ _ ho hc, hc, n, hd⟩, r⟩
theorem lexAt_ints (xs ys : List Int) : ∀ (k i : Nat), i + k = min xs.length ys.length →
    Ob.lexAt (fun j => decide (xs.getD j 0 = ys.getD j 0)) (fun j => decide (xs.getD j 0 < ys.getD j 0)) (decide (xs.length < ys.length)) i k = ltInts (xs.drop i) (ys.drop i)
  | 0, i, h => by
    rw [Ob.lexAt_zero]
    rcases Nat.lt_or_ge xs.length ys.length with c | c
    · have e : i = xs.length := by omega
      rw [e, List.drop_length, decide_eq_true c]
      have hd : ys.drop xs.length = ys[xs.length] :: ys.drop (xs.length + 1) := List.drop_eq_getElem_cons c
      rw [hd]
      rfl
    · have e : i = ys.length := by omega
      rw [e, List.drop_length, decide_eq_false (by omega)]
      cases xs.drop ys.length <;> rfl
  | k + 1, i, h => by
    have h1 : i < xs.length := by omega
    have h2 : i < ys.length := by omega
    rw [Ob.lexAt_succ, lexAt_ints xs ys k (i + 1) (by omega), List.drop_eq_getElem_cons h1, List.drop_eq_getElem_cons h2, ltInts_cons]
    have e1 : xs.getD i 0 = xs[i] := by rw [List.getD_eq_getElem?_getD, List.getElem?_eq_getElem h1]; rfl
    have e2 : ys.getD i 0 = ys[i] := by rw [List.getD_eq_getElem?_getD, List.getElem?_eq_getElem h2]; rfl
    rw [e1, e2]
    by_cases e : xs[i] = ys[i]
    · rw [if_pos (decide_eq_true e), if_pos e]
    · rw [if_neg (by rw [decide_eq_false e]; exact Bool.false_ne_true), if_neg e]
section
variable {prog : Program} {w : World} {A : Around} {E : Value → Shared → Prop} {s : Shared}
theorem lt_it {v u : Value} {xs ys : List Int} {Q : Bool → Shared → Prop} (hv : IsIT s.heap v xs) (hu : IsIT s.heap u ys) (hr : A.units + 2 < cLine) (h : Q (ltInts xs ys) s) : wpAny (model prog w) A (keyLt' oneType' v u) Q E s := by
  obtain ⟨l, items, rfl, ⟨⟨cls, dd, data, sl⟩, ho, hc, n, hd⟩, z1, i1⟩ := hv
  obtain ⟨b, items2, rfl, ⟨⟨cls2, dd2, data2, sl2⟩, ho2, hc2, n2, hd2⟩, z2, i2⟩ := hu
  simp only at hc hd hc2 hd2
  subst hc hd hc2 hd2
  rw [keyLt'_oneType, oneLt'_eq]
  simp only [if_true]
  have hh := lexAt_ints xs ys (min xs.length ys.length) 0 (Nat.zero_add _)
  rw [List.drop_zero, List.drop_zero] at hh
  refine wpAny_bind (wpAny_cRoomFor (by omega) ?_)
  refine wpAny_bind (wpAny_callSpecialIfBound?_slot (T := "tuple") ⟨_, ho, rfl⟩ F.slot_tuple_lt (call_meets F.slot_tuple_lt ⟨_, ho, rfl⟩ F.entry_tuple_lt (F.args_tuple_lt_2 _ _)
    (Ob.tuple_ltAt l b items items2 n n2 dd dd2 sl sl2 (fun j => decide (xs.getD j 0 = ys.getD j 0)) (fun j => decide (xs.getD j 0 < ys.getD j 0))) ⟨ho, ho2, fun j h1 h2 => ?_, fun j h1 h2 hj => ?_, ?_⟩))
  · obtain ⟨t1, e1⟩ := i1 j h1 (by omega)
    obtain ⟨t2, e2⟩ := i2 j h2 (by omega)
    have g1 : xs.getD j 0 = xs[j]'(by omega) := by rw [List.getD_eq_getElem?_getD, List.getElem?_eq_getElem (by omega)]; rfl
    have g2 : ys.getD j 0 = ys[j]'(by omega) := by rw [List.getD_eq_getElem?_getD, List.getElem?_eq_getElem (by omega)]; rfl
    rw [e1, e2, g1, g2]
    exact SeqAt.EqAt.int_int _ _ _ _
  · obtain ⟨t1, e1⟩ := i1 j h1 (by omega)
    obtain ⟨t2, e2⟩ := i2 j h2 (by omega)
    have g1 : xs.getD j 0 = xs[j]'(by omega) := by rw [List.getD_eq_getElem?_getD, List.getElem?_eq_getElem (by omega)]; rfl
    have g2 : ys.getD j 0 = ys[j]'(by omega) := by rw [List.getD_eq_getElem?_getD, List.getElem?_eq_getElem (by omega)]; rfl
    rw [e1, e2, g1, g2]
    exact Ob.RcOp.lt_int _ _ _ _
  · rw [z1, z2, hh]
    exact wpAny_truthy_bool h
theorem looks_it {M : Model} {v : Value} {ns : List Int} (i : IsIT s.heap v ns) : Looks M s.heap (typeOf v) (.type "tuple") := by
  obtain ⟨a, items, rfl, ⟨o, ho, hc, _⟩, _⟩ := i
  rw [← hc]
  exact (Looks.ld ho).andThen .now
theorem firsts_it {M : Model} {k : Value → List Int} : ∀ (vs : List Value) {Q : List (Option Value) → Shared → Prop}, (∀ v ∈ vs, IsIT s.heap v (k v)) → (∀ fs : List (Option Value), fs.length = vs.length → (∀ v rest, vs = v :: rest → k v = [] → fs[0]? = some none) → Q fs s) → wpAny M A (vs.mapM firstOfTuple') Q E s
  | [], Q, _, h => by rw [List.mapM_nil]; exact wpAny_pure (h [] rfl fun v rest e => by cases e)
  | v :: vs, Q, hv, h => by
    have hi := hv v List.mem_cons_self
    have hl := looks_it (M := M) hi
    obtain ⟨a, items, rfl, ⟨o, ho, hc, n, hd⟩, z, i⟩ := hi
    rw [List.mapM_cons]
    refine wpAny_bind ?_
    rw [kas_first_eq]
    refine wpAny_bind (hl.here ?_)
    rw [if_neg (by first | decide | simp)]
    refine wpAny_bind (listItems_at ho hd (wpAny_pure ?_))
    refine wpAny_bind (firsts_it vs (fun u hu => hv u (List.mem_cons_of_mem _ hu)) fun fs l _ => wpAny_pure (h _ (by rw [List.length_cons, l, List.length_cons]) fun v rest e k0 => ?_))
    cases e
    rw [k0] at z
    have : items[0]? = none := Array.getElem?_eq_none (by rw [z]; exact Nat.le_refl _)
    rw [this]
    rfl
theorem kind_it {M : Model} {k : Value → List Int} {vs : List Value} {Q : SortKind → Shared → Prop} (h2 : 2 ≤ vs.length) (hv : ∀ v ∈ vs, IsIT s.heap v (k v)) (h0 : ∀ v rest, vs = v :: rest → k v = []) (h : Q oneType' s) :
    wpAny M A (keyKind' vs.toArray) Q E s := by
  obtain ⟨v₁, v₂, rest, rfl⟩ : ∃ v₁ v₂ rest, vs = v₁ :: v₂ :: rest := by
    match vs, h2 with
    | [], h2 => simp at h2
    | [_], h2 => simp at h2
    | v₁ :: v₂ :: rest, _ => exact ⟨v₁, v₂, rest, rfl⟩
  rw [keyKind'_eq, List.mapM_toArray, map_eq_pure_bind]
  refine wpAny_bind (wpAny_bind (firsts_it _ hv fun fs l e0 => wpAny_pure ?_))
  have e1 := e0 _ _ rfl (h0 _ _ rfl)
  cases fs with
  | nil => simp at l
  | cons f fs =>
    have : f = none := by simpa using e1
    subst this
    rw [if_neg (by simp), if_neg (by simp)]
    rw [oneTypeOnly'_eq, List.mapM_toArray, map_eq_pure_bind]
    refine wpAny_bind (wpAny_bind (wpAny_bind (kas_mapM (r := .type "tuple") _ (fun v hm Q' hq => (looks_it (hv v hm)).here hq) (wpAny_pure ?_))))
    have hall : ((List.map (fun _ => Value.type "tuple") (v₁ :: v₂ :: rest)).toArray.all fun x => x == Value.type "tuple") = true := by
      simp only [List.all_toArray, List.all_map, List.all_eq_true]
      intro _ _
      rfl
    have h0 : (List.map (fun _ => Value.type "tuple") (v₁ :: v₂ :: rest)).toArray[0]? = some (Value.type "tuple") := by simp
    rw [h0]
    simp only [hall, if_true]
    exact wpAny_pure (wpAny_pure h)
theorem its_sortable {a : Addr} {vs : List Value} {k : Value → List Int} (h2 : 2 ≤ vs.length) (hv : ∀ v ∈ vs, IsIT s.heap v (k v)) (h0 : ∀ v rest, vs = v :: rest → k v = []) (hr : A.units + 2 < cLine) (ha : ∀ o, s.heap.get? a = some o → o.cls ≠ .type "tuple") :
    SrtO.SortableO prog w A s a vs fun v u => ltInts (k v) (k u) := by
  intro h' keep
  have hv' : ∀ v ∈ vs, IsIT h' v (k v) := fun v hm => (hv v hm).keeps fun b o e c => keep b o (fun z => by subst z; exact ha o e c) e
  exact ⟨oneType', fun Q E hq => kind_it (s := { s with heap := h' }) h2 hv' h0 hq, fun p q hp hq => lt_it (s := { s with heap := h' }) (hv' _ hp) (hv' _ hq) hr ⟨rfl, rfl⟩⟩
end
/-- sorted(xs), xs a list of tuples of ints, the first one empty -/
noncomputable def rSortedT (K : PySem.W.Frag) : List V → Hp → VK → Prop := fun vs H Q => ∃ (a : Addr) (xs : List V) (k : V → List Int), vs = [V.ref a] ∧ SqL K H a xs ∧ (∀ x ∈ xs, ∃ t, x = V.ref t ∧ SqT K H t ((k x).map V.int)) ∧ (∀ x rest, xs = x :: rest → k x = []) ∧
  ∀ ys p, SrtO.Srtd (fun v u => ltInts (k v) (k u)) ys → ys.Perm xs → H p = none → Q (.ref p) (upd H p (.lst ys))
section
variable {X : Cx}
theorem vals_ints : ∀ {ns : List Int} {us : List Value}, Vals (ns.map V.int) us → us.length = ns.length ∧ ∀ j (h1 : j < us.length) (h2 : j < ns.length), ∃ t, us[j] = .int ns[j] t
  | [], us, h => by cases h; exact ⟨rfl, fun j h1 => by simp at h1⟩
  | n :: ns, us, h => by
    cases h with
    | cons h t =>
      obtain ⟨a, b⟩ := vals_ints t
      refine ⟨by rw [List.length_cons, a, List.length_cons], fun j h1 h2 => ?_⟩
      cases j with
      | zero => exact h
      | succ j => exact b j (by simpa using h1) (by simpa using h2)
theorem cr_sortedT (hu : X.A.units + 10 < cLine) : CallR X (.builtin "sorted") (rSortedT X.K) := by
  intro pins s σ H vs us Q I r h
  obtain ⟨a, xs, k, rfl, hs, hx, h0, q⟩ := h
  obtain ⟨its, rv, hl, hz⟩ := I.list hs
  obtain ⟨u, rfl, ru⟩ := vals1 r
  obtain rfl : u = Value.ref a := ru
  obtain ⟨e1, e2⟩ := refs_back rv fun x m => by
    obtain ⟨t, e, _⟩ := hx x m
    exact ⟨t, e⟩
  have hv : ∀ v ∈ its, IsIT s.heap v (k (backV v)) := fun v hv => by
    obtain ⟨t, rfl⟩ := e2 v hv
    have hm : V.ref t ∈ xs := by rw [e1]; exact List.mem_map.mpr ⟨_, hv, rfl⟩
    obtain ⟨t', e, ht⟩ := hx _ hm
    cases e
    obtain ⟨its2, r2, p, _⟩ := I.tuple ht
    obtain ⟨l1, l2⟩ := vals_ints r2
    exact ⟨t, its2.toArray, rfl, p, (show its2.toArray.size = (k (V.ref t)).length by simpa using l1), fun j h1 h2 => (show ∃ t_1, its2.toArray[j] = .int ((k (V.ref t))[j]'h2) t_1 by simpa using l2 j (by simpa using h1) h2)⟩
  have h0' : ∀ v rest, its = v :: rest → k (backV v) = [] := fun v rest e => h0 (backV v) (rest.map backV) (by rw [e1, e]; rfl)
  refine SrtO.sorted_ord (ltv := fun v u => ltInts (k (backV v)) (k (backV u))) (swo_ints _) hl.isList (by rw [← rv.length]; exact hz) (fun h2 h₁ a' ha kk => ?_) fun out h1 h2 => ?_
  · refine its_sortable (s := { s with heap := h₁ }) h2 (fun v hm => (hv v hm).keeps fun b o e _ => (kk b o e).2) h0' ?_ fun o e c => ?_
    · show X.A.units + 1 + 1 + 2 < cLine
      omega
    · have e' : some o = some (seqObj "list" its.toArray 0) := e.symm.trans ha
      cases e'
      exact absurd (Value.type.inj c) (by decide)
  · have h3 : ∀ u ∈ out, ∃ a, u = Value.ref a := fun u hu => e2 u (h2.perm.mem_iff.mp hu)
    obtain ⟨n, hn⟩ := PyProof.Rows.sortedAll_at s.heap its out.toArray
    have hb : (out.map backV).Perm xs := by
      rw [e1]
      exact h2.perm.map backV
    refine ⟨.ref (s.heap.objs.size + 1), upd H (s.heap.objs.size + 1) (.lst (out.map backV)), I.laid (t' := s.toks) (fun b o e => PyProof.Rows.sortedAll_old e) (Nat.le_succ _) ⟨?_, out, n, vals_back h3, hn⟩, rfl, q _ _ (SrtO.srtd_map h1) hb (I.hok.fresh (Nat.le_succ _))⟩
    rw [hb.length_eq]
    exact hz
/-- the same, its items' keys told one by one -/
noncomputable def rSortedZ (K : PySem.W.Frag) : List V → Hp → VK → Prop := fun vs H Q => ∃ (a : Addr) (xs : List V) (nss : List (List Int)), vs = [V.ref a] ∧ SqL K H a xs ∧ xs.length = nss.length ∧
  (∀ (i : Nat) (x : V) (ns : List Int), xs[i]? = some x → nss[i]? = some ns → ∃ t, x = V.ref t ∧ SqT K H t (ns.map V.int)) ∧ (∀ (ns : List Int) (rest : List (List Int)), nss = ns :: rest → ns = []) ∧
  ∀ (ps : List (V × List Int)) p, ps.Perm (xs.zip nss) → ps.Pairwise (fun a b => ltInts b.2 a.2 = false) → H p = none → Q (.ref p) (upd H p (.lst (ps.map (·.1))))
theorem sqT_ints {pins : List (Addr × Obj)} {s : Shared} {σ : L2.St} {H : Hp} (I : Inv X pins σ H s) {t : Addr} {a b : List Int} (ha : SqT X.K H t (a.map V.int)) (hb : SqT X.K H t (b.map V.int)) : a = b := by
  obtain ⟨i1, r1, ⟨o, ho, _, n, hd⟩, _⟩ := I.tuple ha
  obtain ⟨i2, r2, ⟨o2, ho2, _, n2, hd2⟩, _⟩ := I.tuple hb
  rw [ho] at ho2
  cases ho2
  rw [hd] at hd2
  have e : i1 = i2 := by
    injection hd2 with e1 _
    exact congrArg Array.toList e1
  subst e
  obtain ⟨l1, e1⟩ := vals_ints r1
  obtain ⟨l2, e2⟩ := vals_ints r2
  refine List.ext_getElem (by omega) fun j h1 h2 => ?_
  obtain ⟨t1, f1⟩ := e1 j (by omega) h1
  obtain ⟨t2, f2⟩ := e2 j (by omega) h2
  rw [f1] at f2
  injection f2 with e _
open Classical in
noncomputable def keyOfV (K : PySem.W.Frag) (H : Hp) (x : V) : List Int := if h : ∃ (ns : List Int) (t : Addr), x = V.ref t ∧ SqT K H t (ns.map V.int) then Classical.choose h else []
theorem zip_map_self {α β : Type} (f : α → β) : ∀ xs : List α, xs.zip (xs.map f) = xs.map fun x => (x, f x)
  | [] => rfl
  | x :: xs => by rw [List.map_cons, List.zip_cons_cons, zip_map_self f xs, List.map_cons]
theorem cr_sortedZ (hu : X.A.units + 10 < cLine) : CallR X (.builtin "sorted") (rSortedZ X.K) := by
  intro pins s σ H vs us Q I r h
  obtain ⟨a, xs, nss, rfl, hs, hl, hx, h0, q⟩ := h
  have key : ∀ i x ns, xs[i]? = some x → nss[i]? = some ns → keyOfV X.K H x = ns := fun i x ns e1 e2 => by
    obtain ⟨t, rfl, ht⟩ := hx i x ns e1 e2
    have hex : ∃ (ns : List Int) (t' : Addr), V.ref t = V.ref t' ∧ SqT X.K H t' (ns.map V.int) := ⟨ns, t, rfl, ht⟩
    unfold keyOfV
    rw [dif_pos hex]
    obtain ⟨t', e, ht'⟩ := Classical.choose_spec hex
    cases e
    exact sqT_ints I ht' ht
  have en : nss = xs.map (keyOfV X.K H) := by
    refine List.ext_getElem (by rw [List.length_map, hl]) fun j h1 h2 => ?_
    rw [List.getElem_map]
    have h3 : j < xs.length := by rw [hl]; exact h1
    exact (key j _ _ (List.getElem?_eq_getElem h3) (List.getElem?_eq_getElem h1)).symm
  refine cr_sortedT hu pins s σ H _ us Q I r ⟨a, xs, keyOfV X.K H, rfl, hs, fun x hm => ?_, fun x rest e => ?_, fun ys p h1 h2 hp => ?_⟩
  · obtain ⟨i, hi, e⟩ := List.mem_iff_getElem.mp hm
    have h3 : i < nss.length := by omega
    obtain ⟨t, e2, ht⟩ := hx i x nss[i] (by rw [List.getElem?_eq_getElem hi, e]) (List.getElem?_eq_getElem h3)
    refine ⟨t, e2, ?_⟩
    rw [key i x nss[i] (by rw [List.getElem?_eq_getElem hi, e]) (List.getElem?_eq_getElem h3)]
    exact ht
  · exact h0 _ (rest.map (keyOfV X.K H)) (by rw [en, e]; rfl)
  · have := q (ys.map fun y => (y, keyOfV X.K H y)) p (by rw [en, zip_map_self]; exact h2.map _) (List.pairwise_map.mpr h1) hp
    rw [List.map_map, show ((fun x : V × List Int => x.1) ∘ fun y => (y, keyOfV X.K H y)) = id from rfl, List.map_id] at this
    exact this
end
end DL
/-! DLE: enumerate(t) of a tuple. -/
namespace DL
open PySem PySem.Spec PyProof.Rows L2 PySem.W
variable [TBS]
/-- each item of the tuple at a, in a new pair with its place -/
noncomputable def IteT (K : PySem.W.Frag) (a : Addr) : L2.It where
  go := fun i H => ∃ (xs : List V) (x : V), SqT K H a xs ∧ xs[i]? = some x
  yld := fun i H v H' => ∃ P x, v = V.ref P ∧ H P = none ∧ H' = upd H P (.tup [V.int (i : Nat), x]) ∧ ∀ xs : List V, SqT K H a xs → xs[i]? = some x
  stop := fun i H => ∃ xs : List V, SqT K H a xs ∧ xs.length ≤ i
theorem sqT_inj {X : Cx} {pins : List (Addr × Obj)} {s : Shared} {σ : L2.St} {H : Hp} (I : Inv X pins σ H s) {t : Addr} {a b : List V} (ha : SqT X.K H t a) (hb : SqT X.K H t b) : a = b := by
  obtain ⟨i1, r1, ⟨o, ho, _, n, hd⟩, _⟩ := I.tuple ha
  obtain ⟨i2, r2, ⟨o2, ho2, _, n2, hd2⟩, _⟩ := I.tuple hb
  rw [ho] at ho2
  cases ho2
  rw [hd] at hd2
  have e : i1 = i2 := by
    injection hd2 with e1 _
    exact congrArg Array.toList e1
  subst e
  have gen : ∀ {xs ys : List V} {us : List Value}, Vals xs us → Vals ys us → xs = ys := by
    intro xs ys us h k
    induction h generalizing ys with
    | nil => cases k; rfl
    | cons p _ ih => cases k with
      | cons p2 q2 =>
        have := p.abs.symm.trans p2.abs
        cases this
        rw [ih q2]
  exact gen r1 r2
theorem turn_enumT {P : Program} {w : World} {K : PySem.W.Frag} {elts : List Expr} {kk : Nat} {tpos : Pos} (a e it : Addr) :
    Turn P w K (.Tuple elts kk tpos) (IteT K a) [e, it] e (fun i h => (∃ old, IsEnum h e it ((i : Nat) : Int) old) ∧ h.IsTupleIter it a i ∧ e ≠ it ∧ e ≠ a ∧ a ≠ it) where
  mem := List.mem_cons_self
  obj := fun i h q b hb => by
    obtain ⟨⟨old, g⟩, ⟨o, g2, g3, g4⟩, _⟩ := q
    rcases (show b = e ∨ b = it by simpa using hb) with rfl | rfl
    · exact ⟨_, g, fun v z => nomatch z⟩
    · exact ⟨o, g2, fun v z => by rw [g4] at z; cases z⟩
  keep := fun i h h' q kp => ⟨⟨q.1.choose, kp e (by simp) _ q.1.choose_spec⟩, q.2.1.at fun o z => kp it (by simp) o z, q.2.2⟩
  item := by
    rintro X rfl rfl rfl cl i pins s σ H E I fp ⟨⟨old, g⟩, git, n1, n2, n3⟩ ⟨xs, x, hq, hx⟩
    obtain ⟨us, rv, ist, hz⟩ := I.tuple hq
    obtain ⟨u, hu, ru⟩ := rv.get hx
    have le : e < s.heap.objs.size := Heap.lt_size g
    have li : it < s.heap.objs.size := by obtain ⟨_, q, _⟩ := git; exact Heap.lt_size q
    have hi : i < us.toArray.size := by
      rw [List.size_toArray]
      exact (List.getElem?_eq_some_iff.mp hu).1
    refine wpAny_pyNext_enum_itemD (Draws.tuple (A := X.A.in1) (I.ok.hd cl) it a n3 us.toArray) g ⟨git, ist⟩ hi n1 (by simp; exact ⟨n1, n2⟩) fun y h1 tk hy ho ⟨hit, _⟩ hT hs hk => ?_
    have ey : y = u := by
      have hy' : us[i]? = some y := by simpa using hy
      exact Option.some.inj (hy'.symm.trans hu)
    subst ey
    refine ⟨_, rfl, wpAny_letOwnedTupleGo_enum (s := { s with heap := h1, toks := tk + 1 }) ho fun h2 g2 sb => ?_⟩
    have hT2 : h2.get? s.heap.objs.size = some { cls := .type "tuple", data := .seq #[.int i tk, y] } := (sb.2 _ (Nat.ne_of_gt le)).trans hT
    have nw : ObjOk X.prog X.w (upd H s.heap.objs.size (.tup [V.int (i : Nat), x])) h2 s.heap.objs.size (.tup [V.int (i : Nat), x]) :=
      ⟨by show 2 ≤ sizeLine; decide, [.int i tk, y], .cons ⟨_, rfl⟩ (.cons ru .nil), ⟨_, hT2, rfl, _, rfl⟩⟩
    have I2 := I.turnedNew (t' := tk + 1) (h' := h2) (ch := [e, it]) (fun b ob hb z => by
      have hb : b ≠ e ∧ b ≠ it := by simpa using hb
      exact (sb.2 b hb.1).trans (hk b ob hb.1 hb.2 z)) fp (Nat.le_refl _) nw
    refine ⟨V.ref s.heap.objs.size, _, I2, rfl, ⟨_, x, rfl, I.hok.fresh (Nat.le_refl _), rfl, fun ys hys => by rw [sqT_inj I hys hq]; exact hx⟩, ⟨⟨y, ?_⟩, hit.at fun o z => (sb.2 it n1.symm).trans z, n1, n2, n3⟩, fun b hb => ?_⟩
    · rw [show ((i + 1 : Nat) : Int) = (i : Int) + 1 from by omega]
      exact g2
    · have lb : b < s.heap.objs.size := by
        rcases (show b = e ∨ b = it by simpa using hb) with rfl | rfl
        · exact le
        · exact li
      rw [upd_ne (Nat.ne_of_lt lb)]
      exact (fp b hb).1
  done := by
    rintro X rfl rfl rfl cl i pins s σ H E I fp ⟨⟨old, g⟩, git, n1, n2, n3⟩ ⟨xs, hq, hx⟩
    obtain ⟨us, rv, ist, hz⟩ := I.tuple hq
    have hn : us.toArray.size = xs.length := by rw [List.size_toArray]; exact rv.length.symm
    have hle : us.toArray.size ≤ i := by omega
    have dr : Draws X.prog X.w X.A.in1 it [it, a] i (fun _ _ => True) (fun j h => j = i ∧ h.IsTupleIter it a i ∧ h.IsTuple a us.toArray) :=
      { live := fun _ _ st => by
          obtain ⟨o, ho, _⟩ := st.2.1
          exact ⟨o, ho⟩
        frame := fun _ _ _ st kp => ⟨st.1, st.2.1.at fun o z => kp it (by simp) o z, st.2.2.at fun o z => kp a (by simp) o z⟩
        item := fun j s Q E hj st _ => absurd st.1 (Nat.ne_of_lt hj)
        done := fun s Q E st hE => wpAny_nextOf_tuple_end (A := X.A.in1) (I.ok.hd cl) st.2.1 st.2.2 (Array.getElem?_eq_none hle) hE }
    obtain ⟨f0, f1, f2, f3, f4, f5⟩ := fp it (by simp)
    exact wpAny_pyNext_enum_endD dr g ⟨rfl, git, ist⟩ fun h2 eb => ⟨rfl, I.turned (t' := s.toks) (fun b o hb q => eb b o hb q) f0 f1 f3 f4 f5⟩
  self := fun A i s Q E q h => wpAny_pyIter_enum q.1.choose_spec h
/-- enumerate(v) makes its iterator, then itself -/
theorem new_enum1 {v : Value} {o : Obj} {HH : Heap → Prop} (B : Begins v o HH) :
    Meets (Builtin.«enumerate.__new__» ⟨[.type "enumerate", v], []⟩) (fun _ R z => HH z.heap ∧ R (.ok (.ret (.ref (z.heap.push o).objs.size))) { z with heap := (z.heap.push o).push { cls := .type "enumerate", data := .fields #[.none, .bool false, .ref z.heap.objs.size, rawInt 0, .none, .none] } }) :=
  .of_wp fun pr ww AA R z hh => by
    obtain ⟨zp, zg, zd, zt, zo⟩ := z
    obtain ⟨z1, z2⟩ := hh
    have z3 := sub_enumerate
    have z4 : ∀ {A2 : Around} {E2 : Value → Shared → Prop} {Q2 : Value → Shared → Prop}, Q2 (.ref zp.objs.size) ⟨zp.push o, zg, zd, zt, zo⟩ → wpAny (model pr ww) A2 (pyIter v) Q2 E2 ⟨zp, zg, zd, zt, zo⟩ := fun y => B.iter pr ww _ _ ⟨zp, zg, zd, zt, zo⟩ _ z1 y
    wp_walk using z4
    refine wpAny_stack_any fun sk => wpAny_pure ?_
    split
    · next c _ _ _ _ _ =>
      cases (c == Value.type "enumerate") <;> (wp_walk using z4; exact ⟨_, rfl, z2⟩)
    · wp_walk using z4
      exact ⟨_, rfl, z2⟩
theorem call_enumT {pr : Program} {ww : World} {AA : Around} {EE : Value → Shared → Prop} {z : Shared} {t : Addr} {items : Array Value} {Q : Value → Shared → Prop} (ht : z.heap.IsTuple t items)
    (h : ∀ h2, IsEnum h2 (z.heap.objs.size + 1) z.heap.objs.size 0 .none → h2.IsTupleIter z.heap.objs.size t 0 → (∀ b o, z.heap.get? b = some o → h2.get? b = some o) → Q (.ref (z.heap.objs.size + 1)) { z with heap := h2 }) :
    wpAny (model pr ww) AA (call (.type "enumerate") [.ref t]) Q EE z := by
  refine callType_new F.called_enumerate (by decide) (F.typeCall_enumerate_1 _) (F.newCall_enumerate_1 _) (fun ob => F.args_object_init_2 ob _) F.entry_enumerate_new (new_enum1 (begins_tuple t items)) ⟨ht, ?_⟩
  generalize ho : ({ cls := .type "tuple_iterator", data := .fields #[.ref t, .int 0 0] } : Obj) = o
  have hz : (z.heap.push o).objs.size = z.heap.objs.size + 1 := Heap.size_push ..
  show _ ∧ _
  rw [hz]
  have g1 : ((z.heap.push o).push { cls := .type "enumerate", data := .fields #[.none, .bool false, .ref z.heap.objs.size, rawInt 0, .none, .none] }).get? (z.heap.objs.size + 1) = some { cls := .type "enumerate", data := .fields #[.none, .bool false, .ref z.heap.objs.size, rawInt 0, .none, .none] } := by
    rw [← hz]
    exact Heap.get?_push_size _ rfl
  have g2 : (z.heap.push o).get? z.heap.objs.size = some o := Heap.get?_push_size _ (by rw [← ho]; rfl)
  refine ⟨⟨_, g1, rfl⟩, h _ g1 ⟨o, Heap.get?_push_of_some _ g2, by rw [← ho], by rw [← ho]; rfl⟩ fun b u y => Heap.get?_push_of_some _ (Heap.get?_push_of_some _ y)⟩
/-- of a list or a tuple -/
noncomputable def iEnumA (K : PySem.W.Frag) (ta : TA) : TI := fun σ H R => ta σ H fun vs H1 => (∃ a xs, vs = [V.ref a] ∧ SqL K H1 a xs ∧ R (Ite K a) H1) ∨ ∃ a xs, vs = [V.ref a] ∧ SqT K H1 a xs ∧ R (IteT K a) H1
theorem pi_enumA {X : Cx} {e : Expr} {ta : TA} {p pos tpos : Pos} {elts : List Expr} {kk : Nat} (hg : Gl X "enumerate") (hm : X.mg "enumerate" = none) (ha : PA X [e] ta) (hs : starEach [e] X.env = [(false, eval e X.env)] := by rfl) :
    PI X (.Tuple elts kk tpos) (.Call (.Name "enumerate" p) [e] [] pos) (iEnumA X.K ta) := by
  refine ⟨fun pins z σ H R I h => ?_⟩
  refine Call_ (ld_blt I hg hm boot_enumerate (PyProof.Rows.callWith_type1 (thn (ha.run pos pins z σ H _ I h) fun us z1 ⟨vs, H1, I1, r1, q1⟩ => ?_) hs rfl))
  have fresh : ∀ b, b = z1.heap.objs.size + 1 ∨ b = z1.heap.objs.size → FpOk X pins H1 b := fun b hb2 => by
    have hle : z1.heap.objs.size ≤ b := by
      rcases hb2 with y | y
      · rw [y]; exact Nat.le_succ _
      · rw [y]; exact Nat.le_refl _
    exact I1.fpOk hle (I1.hok.fresh hle)
  rcases q1 with ⟨a, xs, rfl, hq, q⟩ | ⟨a, xs, rfl, hq, q⟩
  · obtain ⟨u, rfl, ru⟩ := vals1 r1
    obtain rfl : u = Value.ref a := ru
    obtain ⟨its, rv, ist, hz⟩ := I1.list hq
    refine call_enumerate_list ist.isList fun h2 g1 g2 _ kp => wpAny_pyIter_enum g1 ?_
    have I2 : Inv X pins σ H1 { z1 with heap := h2 } := I1.kept (t' := z1.toks) kp
    exact ⟨z1.heap.objs.size + 1, [z1.heap.objs.size + 1, z1.heap.objs.size], _, _, H1, rfl, I2, turn_enum a (z1.heap.objs.size + 1) z1.heap.objs.size, ⟨⟨.none, g1⟩, g2, Nat.succ_ne_self _⟩, fun b hb => fresh b (by simpa using hb), q⟩
  · obtain ⟨u, rfl, ru⟩ := vals1 r1
    obtain rfl : u = Value.ref a := ru
    obtain ⟨its, rv, ist, hz⟩ := I1.tuple hq
    have ha1 : a < z1.heap.objs.size := by
      obtain ⟨o, ho, _⟩ := ist
      exact Heap.lt_size ho
    refine call_enumT ist fun h2 g1 g2 kp => wpAny_pyIter_enum g1 ?_
    have I2 : Inv X pins σ H1 { z1 with heap := h2 } := I1.kept (t' := z1.toks) kp
    exact ⟨z1.heap.objs.size + 1, [z1.heap.objs.size + 1, z1.heap.objs.size], _, _, H1, rfl, I2, turn_enumT a (z1.heap.objs.size + 1) z1.heap.objs.size, ⟨⟨.none, g1⟩, g2, Nat.succ_ne_self _, Nat.ne_of_gt (Nat.lt_of_lt_of_le ha1 (Nat.le_succ _)), Nat.ne_of_lt ha1⟩, fun b hb => fresh b (by simpa using hb), q⟩
end DL
/-! DL4: comparisons, subscripts, slices over data. -/
namespace DL
open PySem PySem.Spec PyProof.Rows L2
variable [TBS]
mutual
noncomputable def toPy : D → PyData
  | .non => .none
  | .bl b => .bool b
  | .int i => .int i
  | .str s => .str (mkS s)
  | .tup xs => .tuple (toPyL xs)
  | .lst xs => .list (toPyL xs)
  | .dct _ => .none
  | .ref _ => .none
  | .opq _ _ _ => .none
noncomputable def toPyL : List D → List PyData
  | [] => []
  | x :: xs => toPy x :: toPyL xs
end
theorem okd_tup {n : Nat} {xs : List D} (h : okd n (.tup xs) = true) : ∃ m, n = m + 1 ∧ xs.all (okd m) = true := by
  cases n with
  | zero => simp [okd] at h
  | succ m => exact ⟨m, rfl, by simpa [okd] using h⟩
theorem okd_lst {n : Nat} {xs : List D} (h : okd n (.lst xs) = true) : ∃ m, n = m + 1 ∧ xs.all (okd m) = true := by
  cases n with
  | zero => simp [okd] at h
  | succ m => exact ⟨m, rfl, by simpa [okd] using h⟩
theorem okd_dct {n : Nat} {xs : List (D × D)} (h : okd n (.dct xs) = true) : False := by cases n <;> simp [okd] at h
theorem okd_ref {n : Nat} {a : Addr} (h : okd n (.ref a) = true) : False := by cases n <;> simp [okd] at h
theorem okd_scr {n : Nat} {a : List Int} {b : Option (Addr × HO × List V)} {c : List D} (h : okd n (.opq a b c) = true) : False := by cases n <;> simp [okd] at h
omit [TBS] in
theorem okd_str {n : Nat} {s : Bs} (h : okd n (.str s) = true) : s.all (· < 0x110000) = true := by cases n <;> simpa [okd] using h
omit [TBS] in
theorem all_cons {p : D → Bool} {x : D} {xs : List D} (h : (x :: xs).all p = true) : p x = true ∧ xs.all p = true := by
  rw [List.all_cons, Bool.and_eq_true] at h
  exact h
section
variable {K : PySem.W.Frag} {ω : World} {F H : Hp}
mutual
theorem Is.dp (e : Same F H) : ∀ {n : Nat} {v : V} {d : D}, Is K F v d → okd n d = true → Dp K H v (toPy d)
  | _, _, _, .non, _ => .non
  | _, _, _, .bl b, _ => .bl b
  | _, _, _, .int i, _ => .int i
  | _, _, _, .str s _, _ => .str _
  | _, _, _, .tup h _ t, k => by
    obtain ⟨m, _, k⟩ := okd_tup k
    exact .tup (sqT_same e h) (IsL.dp e t k)
  | _, _, _, .lst h _ t, k => by
    obtain ⟨m, _, k⟩ := okd_lst k
    exact .lst (SqL.of (e _ _ h)) (IsL.dp e t k)
  | _, _, _, .dct _ _ _, k => (okd_dct k).elim
  | _, _, _, .ref _, k => (okd_ref k).elim
  | _, _, _, .scr _ _, k => (okd_scr k).elim
  | _, _, _, .fnv _ _, k => (okd_scr k).elim
theorem IsL.dp (e : Same F H) : ∀ {n : Nat} {v : List V} {d : List D}, IsL K F v d → d.all (okd n) = true → DpAll K H v (toPyL d)
  | _, _, _, .nil, _ => .nil
  | _, _, _, .cons h t, k => .cons (Is.dp e h (all_cons k).1) (IsL.dp e t (all_cons k).2)
end
end
mutual
theorem lay_toPy : ∀ (d : D) {n : Nat}, okd n d = true → (toPy d).canLay0 = true ∧ (toPy d).depth ≤ n
  | .non, n, h => by simp [toPy, PyData.canLay0, PyData.depth]
  | .bl b, n, h => by simp [toPy, PyData.canLay0, PyData.depth]
  | .int b, n, h => by simp [toPy, PyData.canLay0, PyData.depth]
  | .str s, n, h => by
    have := okd_str h
    refine ⟨?_, by simp [toPy, PyData.depth]⟩
    simp only [toPy, PyData.canLay0, PyData.strOk, mkS]
    simpa using this
  | .tup xs, n, h => by
    obtain ⟨m, rfl, h⟩ := okd_tup h
    obtain ⟨a, b⟩ := lay_toPyL xs h
    exact ⟨by simpa only [toPy, PyData.canLay0] using a, by simp only [toPy, PyData.depth]; omega⟩
  | .lst xs, n, h => by
    obtain ⟨m, rfl, h⟩ := okd_lst h
    obtain ⟨a, b⟩ := lay_toPyL xs h
    exact ⟨by simpa only [toPy, PyData.canLay0] using a, by simp only [toPy, PyData.depth]; omega⟩
  | .dct xs, n, h => (okd_dct h).elim
  | .ref a, n, h => (okd_ref h).elim
  | .opq a b c, n, h => (okd_scr h).elim
theorem lay_toPyL : ∀ (d : List D) {n : Nat}, d.all (okd n) = true → PyData.canLayAll0 (toPyL d) = true ∧ PyData.depthAll (toPyL d) ≤ n
  | [], n, h => by simp [toPyL, PyData.canLayAll0, PyData.depthAll]
  | x :: xs, n, h => by
    obtain ⟨a, b⟩ := lay_toPy x (all_cons h).1
    obtain ⟨c, d⟩ := lay_toPyL xs (all_cons h).2
    refine ⟨by simp only [toPyL, PyData.canLayAll0]; rw [a, c]; rfl, ?_⟩
    simp only [toPyL, PyData.depthAll]
    omega
end
theorem shaped_of {d : D} (h : okD d) : SeqAt.shaped (toPy d) = true := by
  obtain ⟨a, b⟩ := lay_toPy d h
  unfold SeqAt.shaped
  rw [a, decide_eq_true (by omega)]
  rfl
theorem mkS_beq (s t : Bs) : (mkS s == mkS t) = (s == t) := by
  by_cases e : s = t
  · subst e; simp
  · rw [beq_eq_false_iff_ne.mpr e]
    exact beq_eq_false_iff_ne.mpr fun q => e (mkS_inj q)
mutual
theorem eqv_toPy : ∀ (x y : D) {n m : Nat}, okd n x = true → okd m y = true → PyData.eqv (toPy x) (toPy y) = dEq x y
  | .non, y, n, m, hx, hy => by
    cases y <;> first | exact (okd_dct hy).elim | exact (okd_ref hy).elim | exact (okd_scr hy).elim | simp [toPy, PyData.eqv, dEq]
  | .bl b, y, n, m, hx, hy => by
    cases y <;> first | exact (okd_dct hy).elim | exact (okd_ref hy).elim | exact (okd_scr hy).elim | simp [toPy, PyData.eqv, dEq]
  | .int b, y, n, m, hx, hy => by
    cases y <;> first | exact (okd_dct hy).elim | exact (okd_ref hy).elim | exact (okd_scr hy).elim | simp [toPy, PyData.eqv, dEq]
  | .str s, y, n, m, hx, hy => by
    cases y <;> first | exact (okd_dct hy).elim | exact (okd_ref hy).elim | exact (okd_scr hy).elim | (simp only [toPy, PyData.eqv, dEq]; try rw [mkS_beq])
  | .tup xs, y, n, m, hx, hy => by
    obtain ⟨n', rfl, hx⟩ := okd_tup hx
    cases y with
    | tup ys =>
      obtain ⟨m', rfl, hy⟩ := okd_tup hy
      simp only [toPy, PyData.eqv, dEq]
      exact eqvL_toPy xs ys hx hy
    | dct => exact (okd_dct hy).elim
    | ref => exact (okd_ref hy).elim
    | opq => exact (okd_scr hy).elim
    | _ => simp [toPy, PyData.eqv, dEq]
  | .lst xs, y, n, m, hx, hy => by
    obtain ⟨n', rfl, hx⟩ := okd_lst hx
    cases y with
    | lst ys =>
      obtain ⟨m', rfl, hy⟩ := okd_lst hy
      simp only [toPy, PyData.eqv, dEq]
      exact eqvL_toPy xs ys hx hy
    | dct => exact (okd_dct hy).elim
    | ref => exact (okd_ref hy).elim
    | opq => exact (okd_scr hy).elim
    | _ => simp [toPy, PyData.eqv, dEq]
  | .dct xs, y, n, m, hx, hy => (okd_dct hx).elim
  | .ref a, y, n, m, hx, hy => (okd_ref hx).elim
  | .opq a b c, y, n, m, hx, hy => (okd_scr hx).elim
theorem eqvL_toPy : ∀ (x y : List D) {n m : Nat}, x.all (okd n) = true → y.all (okd m) = true → PyData.eqvAll (toPyL x) (toPyL y) = dEqL x y
  | [], [], n, m, hx, hy => by simp [toPyL, PyData.eqvAll, dEqL]
  | [], _ :: _, n, m, hx, hy => by simp [toPyL, PyData.eqvAll, dEqL]
  | _ :: _, [], n, m, hx, hy => by simp [toPyL, PyData.eqvAll, dEqL]
  | x :: xs, y :: ys, n, m, hx, hy => by
    simp only [toPyL, PyData.eqvAll, dEqL]
    rw [eqv_toPy x y (all_cons hx).1 (all_cons hy).1, eqvL_toPy xs ys (all_cons hx).2 (all_cons hy).2]
end
theorem any_toPy {d : D} {n : Nat} (hd : okd n d = true) : ∀ (ds : List D) {m : Nat}, ds.all (okd m) = true → ((toPyL ds).any fun z => PyData.eqv z (toPy d)) = ds.any fun z => dEq z d
  | [], _, _ => rfl
  | x :: xs, m, h => by
    simp only [toPyL, List.any_cons]
    rw [eqv_toPy x d (all_cons h).1 hd, any_toPy hd xs (all_cons h).2]
section
variable {B : Bx} {Y : Dl → Prop} {W : WX} {C : XC} {xq : QX}
theorem room64 {j : Nat} {A : Around} (hr : Room j A) : A.units + 64 < cLine := hr.units
theorem room65 {j : Nat} {A : Around} (hr : Room j A) : A.units + 65 < cLine := by have := hr.un; omega
theorem room1 {j : Nat} {A : Around} (hr : Room j A) : A.units + 1 < cLine := by have := hr.un; omega
theorem room9 {j : Nat} {A : Around} (hr : Room j A) : A.units + 9 < cLine := by have := hr.un; omega
theorem cm_eq {j : Nat} (hr : ∀ δ, Y δ → Room j δ.A) : CmR B Y .Eq .eq := ⟨rEqD B.K, fun δ hδ => op_eqD (room64 (hr δ hδ)), fun F St H v u x y q Q r ix iy w k => by
  obtain ⟨kx, ky, w⟩ := w
  refine ⟨toPy x, toPy y, ix.dp r.sub kx, iy.dp r.sub ky, shaped_of kx, shaped_of ky, ?_⟩
  rw [eqv_toPy x y kx ky]
  exact k _ w⟩
theorem cm_ne {j : Nat} (hr : ∀ δ, Y δ → Room j δ.A) : CmR B Y .NotEq .ne := ⟨rNeD B.K, fun δ hδ => op_neD (room64 (hr δ hδ)), fun F St H v u x y q Q r ix iy w k => by
  obtain ⟨kx, ky, w⟩ := w
  refine ⟨toPy x, toPy y, ix.dp r.sub kx, iy.dp r.sub ky, shaped_of kx, shaped_of ky, ?_⟩
  rw [eqv_toPy x y kx ky]
  exact k _ w⟩
theorem tl_mkS (s : Bs) : (mkS s).cps.toList = s := by simp [mkS]
theorem cm_lt : CmR B Y .Lt .lt := ⟨_, fun δ hδ => op_lt.or op_lt_str, fun F St H v u x y q Q r ix iy w k => by
  cases ix with
  | int i => cases iy with
    | int j => exact .inl ⟨i, j, rfl, rfl, k _ w⟩
    | _ => exact False.elim w
  | str s _ => cases iy with
    | str t _ => exact .inr ⟨mkS s, mkS t, rfl, rfl, by rw [tl_mkS, tl_mkS]; exact k _ w⟩
    | _ => exact False.elim w
  | _ => exact False.elim (by cases iy <;> exact w)⟩
theorem cm_gt : CmR B Y .Gt .gt := ⟨_, fun δ hδ => op_gt.or op_gt_str, fun F St H v u x y q Q r ix iy w k => by
  cases ix with
  | int i => cases iy with
    | int j => exact .inl ⟨i, j, rfl, rfl, k _ w⟩
    | _ => exact False.elim w
  | str s _ => cases iy with
    | str t _ => exact .inr ⟨mkS s, mkS t, rfl, rfl, by rw [tl_mkS, tl_mkS]; exact k _ w⟩
    | _ => exact False.elim w
  | _ => exact False.elim (by cases iy <;> exact w)⟩
theorem cm_le : CmR B Y .LtE .le := ⟨_, fun δ hδ => op_le.or op_le_str, fun F St H v u x y q Q r ix iy w k => by
  cases ix with
  | int i => cases iy with
    | int j => exact .inl ⟨i, j, rfl, rfl, k _ w⟩
    | _ => exact False.elim w
  | str s _ => cases iy with
    | str t _ => exact .inr ⟨mkS s, mkS t, rfl, rfl, by rw [tl_mkS, tl_mkS]; exact k _ w⟩
    | _ => exact False.elim w
  | _ => exact False.elim (by cases iy <;> exact w)⟩
theorem cm_ge : CmR B Y .GtE .ge := ⟨_, fun δ hδ => op_ge.or op_ge_str, fun F St H v u x y q Q r ix iy w k => by
  cases ix with
  | int i => cases iy with
    | int j => exact .inl ⟨i, j, rfl, rfl, k _ w⟩
    | _ => exact False.elim w
  | str s _ => cases iy with
    | str t _ => exact .inr ⟨mkS s, mkS t, rfl, rfl, by rw [tl_mkS, tl_mkS]; exact k _ w⟩
    | _ => exact False.elim w
  | _ => exact False.elim (by cases iy <;> exact w)⟩
theorem cm_is : CmR B Y .Is .is := ⟨_, fun δ hδ => op_isN.or op_isBl, fun F St H v u x y q Q r ix iy w k => by
  cases iy with
  | non =>
    refine .inl ⟨rfl, ?_⟩
    have := k _ w
    cases ix <;> simpa using this
  | bl b => cases ix with
    | bl a => exact .inr ⟨a, b, rfl, rfl, k _ w⟩
    | _ => exact False.elim w
  | _ => exact False.elim w⟩
theorem cm_isnt : CmR B Y .IsNot .isnt := ⟨_, fun δ hδ => op_notN.or op_notBl, fun F St H v u x y q Q r ix iy w k => by
  cases iy with
  | non =>
    refine .inl ⟨rfl, ?_⟩
    have := k _ w
    cases ix <;> simpa using this
  | bl b => cases ix with
    | bl a => exact .inr ⟨a, b, rfl, rfl, k _ w⟩
    | _ => exact False.elim w
  | _ => exact False.elim w⟩
noncomputable def rInT (K : PySem.W.Frag) : R2 := fun x y H Q => ∃ d ds, Dp K H x d ∧ Dp K H y (.tuple ds) ∧ SeqAt.shaped d = true ∧ SeqAt.shaped (.tuple ds) = true ∧ Q (.bl (ds.any fun z => PyData.eqv z d)) H
noncomputable def rNotInT (K : PySem.W.Frag) : R2 := fun x y H Q => ∃ d ds, Dp K H x d ∧ Dp K H y (.tuple ds) ∧ SeqAt.shaped d = true ∧ SeqAt.shaped (.tuple ds) = true ∧ Q (.bl (!ds.any fun z => PyData.eqv z d)) H
theorem op_inT {X : Cx} (hu : X.A.units + 65 < cLine) : OpR X (compareOp .In) (rInT X.K) := by
  intro pins s σ H x y v u Q I rx ry h
  obtain ⟨d, ds, hd, he, sd, se, q⟩ := h
  obtain ⟨as, r1⟩ := Dp.reads I d x v hd rx
  obtain ⟨bs, r2⟩ := Dp.reads I (.tuple ds) y u he ry
  exact SeqAt.in_tuple_reads r2 r1 (SeqAt.canLay_of_shaped se) (SeqAt.canLay_of_shaped sd) (room_in_shaped sd hu) ⟨.bl _, H, I, rfl, q⟩
theorem op_notInT {X : Cx} (hu : X.A.units + 65 < cLine) : OpR X (compareOp .NotIn) (rNotInT X.K) := by
  intro pins s σ H x y v u Q I rx ry h
  obtain ⟨d, ds, hd, he, sd, se, q⟩ := h
  obtain ⟨as, r1⟩ := Dp.reads I d x v hd rx
  obtain ⟨bs, r2⟩ := Dp.reads I (.tuple ds) y u he ry
  exact SeqAt.notIn_tuple_reads r2 r1 (SeqAt.canLay_of_shaped se) (SeqAt.canLay_of_shaped sd) (room_in_shaped sd hu) ⟨.bl _, H, I, rfl, q⟩
noncomputable def rInDk : R2 := fun x y H Q => ∃ a o, y = .ref a ∧ DGet H a x o ∧ Q (.bl o.isSome) H
noncomputable def rNotInDk : R2 := fun x y H Q => ∃ a o, y = .ref a ∧ DGet H a x o ∧ Q (.bl (!o.isSome)) H
theorem op_inDk {X : Cx} (hu : X.A.units + 1 < cLine) : OpR X (compareOp .In) rInDk := by
  intro pins s σ H x y v u Q I rx ry h
  obtain ⟨a, o, ey, g, q⟩ := h
  subst ey
  obtain rfl : u = Value.ref a := ry
  exact d_in hu I g rx fun s' I' => ⟨.bl o.isSome, H, I', rfl, q⟩
theorem op_notInDk {X : Cx} (hu : X.A.units + 1 < cLine) : OpR X (compareOp .NotIn) rNotInDk := by
  intro pins s σ H x y v u Q I rx ry h
  obtain ⟨a, o, ey, g, q⟩ := h
  subst ey
  obtain rfl : u = Value.ref a := ry
  exact d_notIn hu I g rx fun s' I' => ⟨.bl (!o.isSome), H, I', rfl, q⟩
noncomputable def rInAll (K : PySem.W.Frag) : R2 := fun x y H Q => (∃ (c : Nat) (z : Str), x = .str ⟨#[c]⟩ ∧ y = .str z ∧ Q (.bl (decide (c ∈ z.cps.toList))) H) ∨ rInDk x y H Q ∨ rInD K x y H Q ∨ rInT K x y H Q
noncomputable def rNotInAll (K : PySem.W.Frag) : R2 := fun x y H Q => (∃ (c : Nat) (z : Str), x = .str ⟨#[c]⟩ ∧ y = .str z ∧ Q (.bl (!decide (c ∈ z.cps.toList))) H) ∨ rNotInDk x y H Q ∨ rNotInD K x y H Q ∨ rNotInT K x y H Q
theorem look_get {K : PySem.W.Frag} {F H : Hp} {a : Addr} {kvs : List (Key × V)} {ds : List (D × D)} {v : V} {x : D} (h : H a = some (.dK kvs)) (m : IsM K F kvs ds) (ix : Is K F v x) (kx : isKey x = true) :
    ∃ o, DGet H a v o ∧ o.isSome = (lookD ds x).isSome ∧ ∀ d, lookD ds x = some d → ∃ u, o = some u ∧ Is K F u d := by
  obtain ⟨q, rfl, rfl⟩ := isKey_of ix kx
  refine ⟨valV kvs q, DGet.k h, ?_, fun d hd => ?_⟩
  · rcases m.look (q := q) with ⟨a, b⟩ | ⟨x, y, a, b, _⟩ <;> rw [a, b] <;> rfl
  · rcases m.look (q := q) with ⟨a, b⟩ | ⟨x, y, a, b, i⟩
    · rw [b] at hd; cases hd
    · rw [b] at hd; cases hd; exact ⟨x, a, i⟩
/-- a dict of nested keys is read -/
theorem dn_get {K : PySem.W.Frag} {ω : World} {F H : Hp} {St : Sto} {a : Addr} {ds : List (D × D)} {v : V} {x : D} (r : SR K ω F St H) (e : St a = some (.tdc ds)) (ix : Is K F v x) (tk : isTK x = true) :
    ∃ xs b k, H a = some (DNo ω a xs) ∧ KeysOk K H xs ∧ v = .ref b ∧ NkV K H (.ref b) k ∧ k.depth ≤ 8 ∧ xs.length ≤ sizeLine ∧ xs.length = ds.length ∧ (xs.map (·.1)).Nodup ∧ nkD x = some k ∧ IsT K F xs ds ∧
      ((atKey xs k = none ∧ lookT ds x = none) ∨ ∃ c u v d, atKey xs k = some (c, u) ∧ lookT ds x = some d ∧ RelV v u ∧ Is K F v d) := by
  obtain ⟨xs, hx, z, nd, it⟩ := (r.own a _ e).2
  obtain ⟨k, hk, dk⟩ := nk_tk tk
  have nv := ix.nk r.sub hk
  cases ix with
  | @tup b _ _ hb _ _ => exact ⟨xs, b, k, hx, it.keys r.sub, rfl, nv, dk, z, it.length, nd, hk, it, it.look hk⟩
  | _ => cases tk
theorem cm_in {j : Nat} (hr : ∀ δ, Y δ → Room j δ.A) : CmR B Y .In .isin := ⟨fun x y H Q => rInAll B.K x y H Q ∨ rInDN B.K B.w x y H Q, fun δ hδ => OpR.or (op_in_sign.or ((op_inDk (room1 (hr δ hδ))).or ((op_inD (room65 (hr δ hδ))).or (op_inT (room65 (hr δ hδ)))))) (op_inDN (room9 (hr δ hδ))), fun F St H v u x y q Q r ix iy w k => by
  by_cases ht : ∃ a ds, u = .ref a ∧ y = .ref a ∧ St a = some (.tdc ds)
  · obtain ⟨a, ds, rfl, rfl, e⟩ := ht
    simp only [wCmp, e] at w
    obtain ⟨tk, w⟩ := w
    obtain ⟨xs, b, kk, hx, ks, rfl, nv, dk, _, _, _, _, _, h⟩ := dn_get r e ix tk
    refine .inr ⟨a, xs, b, kk, rfl, rfl, hx, ks, nv, dk, ?_⟩
    have e2 : (atKey xs kk).isSome = (lookT ds x).isSome := by
      rcases h with ⟨a, b⟩ | ⟨_, _, _, _, a, b, _⟩ <;> rw [a, b] <;> rfl
    rw [e2]
    exact k _ w
  refine .inl ?_
  cases iy with
  | str t _ => cases ix with
    | str s _ =>
      cases s with
      | nil => exact False.elim w
      | cons c s =>
        cases s with
        | cons => exact False.elim w
        | nil =>
          refine .inl ⟨c, mkS t, rfl, rfl, ?_⟩
          rw [tl_mkS]
          exact k _ w
    | _ => exact False.elim w
  | @dct a kvs ds hd z m =>
    obtain ⟨kx, w⟩ := w
    obtain ⟨o, g, e, _⟩ := look_get (r.sub _ _ hd) m ix kx
    refine .inr (.inl ⟨a, o, rfl, g, ?_⟩)
    rw [e]
    exact k _ w
  | @tup a xs ds hx z il =>
    obtain ⟨kx, ky, w⟩ := w
    refine .inr (.inr (.inr ⟨toPy x, toPyL ds, ix.dp r.sub kx, (Is.tup hx z il).dp r.sub ky, shaped_of kx, shaped_of ky, ?_⟩))
    obtain ⟨m, _, ky'⟩ := okd_tup ky
    rw [any_toPy kx ds ky']
    exact k _ w
  | @lst a xs ds hx z il =>
    obtain ⟨kx, ky, w⟩ := w
    refine .inr (.inr (.inl ⟨toPy x, toPyL ds, ix.dp r.sub kx, (Is.lst hx z il).dp r.sub ky, shaped_of kx, shaped_of ky, ?_⟩))
    obtain ⟨m, _, ky'⟩ := okd_lst ky
    rw [any_toPy kx ds ky']
    exact k _ w
  | ref a =>
    cases e : St a with
    | none => simp only [wCmp, e] at w
    | some o =>
      have ho := (r.own a o e).2
      cases o with
      | lst ds =>
        simp only [wCmp, e] at w
        obtain ⟨kx, ky, w⟩ := w
        obtain ⟨xs, hx, z, il⟩ := ho
        obtain ⟨m, _, ky'⟩ := okd_lst ky
        refine .inr (.inr (.inl ⟨toPy x, toPyL ds, ix.dp r.sub kx, .lst (SqL.of hx) (il.dp r.sub ky'), shaped_of kx, shaped_of (d := .lst ds) ky, ?_⟩))
        rw [any_toPy kx ds ky']
        exact k _ w
      | dct ds =>
        simp only [wCmp, e] at w
        obtain ⟨kx, w⟩ := w
        obtain ⟨kvs, hd, z, nd, m⟩ := ho
        obtain ⟨o, g, e, _⟩ := look_get hd m ix kx
        refine .inr (.inl ⟨a, o, rfl, g, ?_⟩)
        rw [e]
        exact k _ w
      | tdc ds => exact absurd ⟨a, ds, rfl, rfl, e⟩ ht
      | ins => simp only [wCmp, e] at w
  | _ => exact False.elim w⟩
theorem cm_notin {j : Nat} (hr : ∀ δ, Y δ → Room j δ.A) : CmR B Y .NotIn .notin := ⟨fun x y H Q => rNotInAll B.K x y H Q ∨ rNotInDN B.K B.w x y H Q, fun δ hδ => OpR.or (op_notIn_sign.or ((op_notInDk (room1 (hr δ hδ))).or ((op_notInD (room65 (hr δ hδ))).or (op_notInT (room65 (hr δ hδ)))))) (op_notInDN (room9 (hr δ hδ))), fun F St H v u x y q Q r ix iy w k => by
  by_cases ht : ∃ a ds, u = .ref a ∧ y = .ref a ∧ St a = some (.tdc ds)
  · obtain ⟨a, ds, rfl, rfl, e⟩ := ht
    simp only [wCmp, e] at w
    obtain ⟨tk, w⟩ := w
    obtain ⟨xs, b, kk, hx, ks, rfl, nv, dk, _, _, _, _, _, h⟩ := dn_get r e ix tk
    refine .inr ⟨a, xs, b, kk, rfl, rfl, hx, ks, nv, dk, ?_⟩
    have e2 : (atKey xs kk).isSome = (lookT ds x).isSome := by
      rcases h with ⟨a, b⟩ | ⟨_, _, _, _, a, b, _⟩ <;> rw [a, b] <;> rfl
    rw [e2]
    exact k _ w
  refine .inl ?_
  cases iy with
  | str t _ => cases ix with
    | str s _ =>
      cases s with
      | nil => exact False.elim w
      | cons c s =>
        cases s with
        | cons => exact False.elim w
        | nil =>
          refine .inl ⟨c, mkS t, rfl, rfl, ?_⟩
          rw [tl_mkS]
          exact k _ w
    | _ => exact False.elim w
  | @dct a kvs ds hd z m =>
    obtain ⟨kx, w⟩ := w
    obtain ⟨o, g, e, _⟩ := look_get (r.sub _ _ hd) m ix kx
    refine .inr (.inl ⟨a, o, rfl, g, ?_⟩)
    rw [e]
    exact k _ w
  | @tup a xs ds hx z il =>
    obtain ⟨kx, ky, w⟩ := w
    refine .inr (.inr (.inr ⟨toPy x, toPyL ds, ix.dp r.sub kx, (Is.tup hx z il).dp r.sub ky, shaped_of kx, shaped_of ky, ?_⟩))
    obtain ⟨m, _, ky'⟩ := okd_tup ky
    rw [any_toPy kx ds ky']
    exact k _ w
  | @lst a xs ds hx z il =>
    obtain ⟨kx, ky, w⟩ := w
    refine .inr (.inr (.inl ⟨toPy x, toPyL ds, ix.dp r.sub kx, (Is.lst hx z il).dp r.sub ky, shaped_of kx, shaped_of ky, ?_⟩))
    obtain ⟨m, _, ky'⟩ := okd_lst ky
    rw [any_toPy kx ds ky']
    exact k _ w
  | ref a =>
    cases e : St a with
    | none => simp only [wCmp, e] at w
    | some o =>
      have ho := (r.own a o e).2
      cases o with
      | lst ds =>
        simp only [wCmp, e] at w
        obtain ⟨kx, ky, w⟩ := w
        obtain ⟨xs, hx, z, il⟩ := ho
        obtain ⟨m, _, ky'⟩ := okd_lst ky
        refine .inr (.inr (.inl ⟨toPy x, toPyL ds, ix.dp r.sub kx, .lst (SqL.of hx) (il.dp r.sub ky'), shaped_of kx, shaped_of (d := .lst ds) ky, ?_⟩))
        rw [any_toPy kx ds ky']
        exact k _ w
      | dct ds =>
        simp only [wCmp, e] at w
        obtain ⟨kx, w⟩ := w
        obtain ⟨kvs, hd, z, nd, m⟩ := ho
        obtain ⟨o, g, e, _⟩ := look_get hd m ix kx
        refine .inr (.inl ⟨a, o, rfl, g, ?_⟩)
        rw [e]
        exact k _ w
      | tdc ds => exact absurd ⟨a, ds, rfl, rfl, e⟩ ht
      | ins => simp only [wCmp, e] at w
  | _ => exact False.elim w⟩
/-! ### chains -/
variable {a b c : Expr} {wa wb wc : Env → Sto → QD → Prop} {pos : Pos}
theorem SE.chn {o1 o2 : CmpOp} {c1 c2 : Cm} (h1 : CmR B Y o1 c1) (h2 : CmR B Y o2 c2) (hm : lastMarks [o1, o2] [b, c] = false) (ha : SE B Y W C xq a wa) (hb : SE B Y W C xq b wb) (hc : SE B Y W C xq c wc) :
    SE B Y W C xq (.Compare a [o1, o2] [b, c] pos) (fun ρ St q => wa ρ St fun x S1 => wb ρ S1 fun y S2 => wCmp c1 x y S2 fun k => if k = true then wc ρ S2 fun z S3 => wCmp c2 y z S3 fun l => q (.bl l) S3 else q (.bl false) S2) := by
  obtain ⟨r1, p1, k1⟩ := h1
  obtain ⟨r2, p2, k2⟩ := h2
  obtain ⟨ta, pa, ka⟩ := ha.ex
  obtain ⟨tb, pb, kb⟩ := hb.ex
  obtain ⟨tc, pc, kc⟩ := hc.ex
  refine ⟨⟨_, fun δ hδ => pe_chain (p1 δ hδ) (p2 δ hδ) (pa δ hδ) (pb δ hδ) (pc δ hδ) hm, fun ρ St F σ H q Q r e x w k => ?_⟩⟩
  refine ka ρ St F σ H _ _ r e x w fun d S1 F1 v H1 f1 r1 i1 w1 => ?_
  refine kb ρ S1 F1 σ H1 _ _ r1 (e.mono f1.ext) (x.step f1) w1 fun d2 S2 F2 v2 H2 f2 r2 i2 w2 => ?_
  refine k1 F2 S2 H2 v v2 d d2 _ _ r2 (i1.mono f2.ext) i2 w2 fun b hb => ⟨b, rfl, ?_⟩
  cases b with
  | false => exact k _ S2 F2 _ H2 (f1.trans f2) r2 (.bl false) hb
  | true =>
    refine kc ρ S2 F2 σ H2 _ _ r2 ((e.mono f1.ext).mono f2.ext) ((x.step f1).step f2) hb fun d3 S3 F3 v3 H3 f3 r3 i3 w3 => ?_
    exact k2 F3 S3 H3 v2 v3 d2 d3 _ Q r3 (i2.mono f3.ext) i3 w3 fun l hl => k _ S3 F3 _ H3 ((f1.trans f2).trans f3) r3 (.bl l) hl
theorem ST.chn {o1 o2 : CmpOp} {c1 c2 : Cm} (h1 : CmR B Y o1 c1) (h2 : CmR B Y o2 c2) (hm : lastMarks [o1, o2] [b, c] = false) (ha : SE B Y W C xq a wa) (hb : SE B Y W C xq b wb) (hc : SE B Y W C xq c wc) :
    ST B Y W C xq (.Compare a [o1, o2] [b, c] pos) (fun ρ St q => wa ρ St fun x S1 => wb ρ S1 fun y S2 => wCmp c1 x y S2 fun k => if k = true then wc ρ S2 fun z S3 => wCmp c2 y z S3 fun l => q l S3 else q false S2) := by
  obtain ⟨r1, p1, k1⟩ := h1
  obtain ⟨r2, p2, k2⟩ := h2
  obtain ⟨ta, pa, ka⟩ := ha.ex
  obtain ⟨tb, pb, kb⟩ := hb.ex
  obtain ⟨tc, pc, kc⟩ := hc.ex
  refine ⟨⟨_, fun δ hδ => pt_chain (p1 δ hδ) (p2 δ hδ) (pa δ hδ) (pb δ hδ) (pc δ hδ) hm, fun ρ St F σ H q Q r e x w k => ?_⟩⟩
  refine ka ρ St F σ H _ _ r e x w fun d S1 F1 v H1 f1 r1 i1 w1 => ?_
  refine kb ρ S1 F1 σ H1 _ _ r1 (e.mono f1.ext) (x.step f1) w1 fun d2 S2 F2 v2 H2 f2 r2 i2 w2 => ?_
  refine k1 F2 S2 H2 v v2 d d2 _ _ r2 (i1.mono f2.ext) i2 w2 fun b hb => ⟨b, rfl, ?_⟩
  cases b with
  | false => exact ⟨false, rfl, k _ S2 F2 H2 (f1.trans f2) r2 hb⟩
  | true =>
    refine kc ρ S2 F2 σ H2 _ _ r2 ((e.mono f1.ext).mono f2.ext) ((x.step f1).step f2) hb fun d3 S3 F3 v3 H3 f3 r3 i3 w3 => ?_
    exact k2 F3 S3 H3 v2 v3 d2 d3 _ _ r3 (i2.mono f3.ext) i3 w3 fun l hl => ⟨l, rfl, k _ S3 F3 H3 ((f1.trans f2).trans f3) r3 hl⟩
/-! ### subscripts -/
noncomputable def rIxDk : R2 := fun x y H Q => ∃ a v, x = .ref a ∧ DGet H a y (some v) ∧ Q v H
theorem ix_dk {X : Cx} (hu : X.A.units + 1 < cLine) : IxR X rIxDk := by
  intro value slice pins s σ H x y v u Q I rx ry h hs
  obtain ⟨a, z, ex, g, q⟩ := h
  subst ex
  obtain rfl : v = Value.ref a := rx
  exact tail_any (dict_typeIs I g) slot_dict_getitem.lookup (d_getItem hu I g ry fun w' s' I' r' => ⟨z, H, I', r', q⟩) hs
theorem at_atI {α : Type} {xs : List α} {i : Int} {d : α} (h : atD xs i = some d) : ∃ j, ixN xs.length i = some j ∧ xs[j]? = some d := by
  unfold atD at h
  unfold ixN
  by_cases h0 : 0 ≤ i
  · rw [if_pos h0] at h ⊢
    obtain ⟨hj, _⟩ := List.getElem?_eq_some_iff.mp h
    exact ⟨i.toNat, by rw [if_pos (by omega)], h⟩
  · rw [if_neg h0] at h ⊢
    by_cases h1 : -(xs.length : Int) ≤ i
    · rw [if_pos h1] at h ⊢
      exact ⟨_, rfl, h⟩
    · rw [if_neg h1] at h; cases h
theorem atI_isL {K : PySem.W.Frag} {F : Hp} {xs : List V} {ds : List D} {i : Int} {d : D} (il : IsL K F xs ds) (h : atD ds i = some d) : ∃ v, atI xs i = some v ∧ Is K F v d := by
  obtain ⟨j, h1, h2⟩ := at_atI h
  obtain ⟨v, a, b⟩ := il.get h2
  refine ⟨v, ?_, b⟩
  unfold atI
  rw [il.length, h1]
  exact a
theorem atI_of {α : Type} {xs : List α} {i : Int} {d : α} (h : atD xs i = some d) : atI xs i = some d := by
  obtain ⟨j, h1, h2⟩ := at_atI h
  unfold atI
  rw [h1]
  exact h2
noncomputable def rIxA (K : PySem.W.Frag) (w : World) : R2 := fun x y H Q => rIx K x y H Q ∨ rIxDk x y H Q ∨ rIxDN K w x y H Q
theorem ix_any {X : Cx} (hu : X.A.units + 9 < cLine) : IxR X (rIxA X.K X.w) := ix_seq.or ((ix_dk (by omega)).or (ix_dn hu))
theorem SE.idxU (hu : ∀ δ, Y δ → δ.A.units + 9 < cLine) (ha : SE B Y W C xq a wa) (hb : SE B Y W C xq b wb) (hs : PlainIx b) :
    SE B Y W C xq (.Subscript a b pos) (fun ρ St q => wa ρ St fun x S1 => wb ρ S1 fun y S2 => wIdx S2 x y fun z => q z S2) := by
  obtain ⟨ta, pa, ka⟩ := ha.ex
  obtain ⟨tb, pb, kb⟩ := hb.ex
  refine ⟨⟨tOp (rIxA B.K B.w) ta tb, fun δ hδ => pe_ix (ix_any (hu δ hδ)) (pa δ hδ) (pb δ hδ) hs, fun ρ St F σ H q Q r e x w k => ?_⟩⟩
  refine ka ρ St F σ H _ _ r e x w fun d S1 F1 v H1 f1 r1 i1 w1 => ?_
  refine kb ρ S1 F1 σ H1 _ _ r1 (e.mono f1.ext) (x.step f1) w1 fun d2 S2 F2 v2 H2 f2 r2 i2 w2 => ?_
  have i1' := i1.mono f2.ext
  have fin : ∀ d3 v3, Is B.K F2 v3 d3 → q d3 S2 → Q v3 H2 := fun d3 v3 i3 w3 => k d3 S2 F2 v3 H2 (f1.trans f2) r2 i3 w3
  cases i1' with
  | @tup p xs ds hx z il => cases i2 with
    | int i =>
      obtain ⟨d3, h3, w3⟩ := w2
      obtain ⟨v3, g3, i3⟩ := atI_isL il h3
      exact .inl (.inr (.inl ⟨p, xs, i, v3, rfl, rfl, sqT_same r2.sub hx, g3, fin _ _ i3 w3⟩))
    | _ => exact False.elim w2
  | @lst p xs ds hx z il => cases i2 with
    | int i =>
      obtain ⟨d3, h3, w3⟩ := w2
      obtain ⟨v3, g3, i3⟩ := atI_isL il h3
      exact .inl (.inl ⟨p, xs, i, v3, rfl, rfl, SqL.of (r2.sub _ _ hx), g3, fin _ _ i3 w3⟩)
    | _ => exact False.elim w2
  | str s z => cases i2 with
    | int i =>
      obtain ⟨cc, h3, w3⟩ := w2
      refine .inl (.inr (.inr ⟨mkS s, i, cc, rfl, rfl, by rw [mkS_len]; exact z, by rw [tl_mkS]; exact atI_of h3, fin (.str [cc]) (.str (mkS [cc])) (.str _ ?_) w3⟩))
      exact Nat.le_of_lt (small1000 (by simp))
    | _ => exact False.elim w2
  | @dct p kvs ds hd z m =>
    have w2 : isKey d2 = true ∧ ∃ d, lookD ds d2 = some d ∧ q d S2 := by cases d2 <;> exact w2
    obtain ⟨kk, d3, h3, w3⟩ := w2
    obtain ⟨o, g, _, g2⟩ := look_get (r2.sub _ _ hd) m i2 kk
    obtain ⟨u, rfl, iu⟩ := g2 d3 h3
    exact .inr (.inl ⟨p, u, rfl, g, fin _ _ iu w3⟩)
  | ref p =>
    cases e : S2 p with
    | none => simp only [wIdx, e] at w2
    | some o =>
      have ho := (r2.own p o e).2
      cases o with
      | lst ds =>
        simp only [wIdx, e] at w2
        obtain ⟨xs, hx, z, il⟩ := ho
        cases i2 with
        | int i =>
          obtain ⟨d3, h3, w3⟩ := w2
          obtain ⟨v3, g3, i3⟩ := atI_isL il h3
          exact .inl (.inl ⟨p, xs, i, v3, rfl, rfl, SqL.of hx, g3, fin _ _ i3 w3⟩)
        | _ => exact False.elim w2
      | dct ds =>
        simp only [wIdx, e] at w2
        obtain ⟨kk, d3, h3, w3⟩ := w2
        obtain ⟨kvs, hd, z, nd, m⟩ := ho
        obtain ⟨o, g, _, g2⟩ := look_get hd m i2 kk
        obtain ⟨u, rfl, iu⟩ := g2 d3 h3
        exact .inr (.inl ⟨p, u, rfl, g, fin _ _ iu w3⟩)
      | tdc ds =>
        simp only [wIdx, e] at w2
        obtain ⟨tk, d3, h3, w3⟩ := w2
        obtain ⟨xs, b, kk, hx, ks, rfl, nv, dk, _, _, _, _, _, h⟩ := dn_get r2 e i2 tk
        rcases h with ⟨_, q2⟩ | ⟨c, u, v3, d4, e3, e4, rv, i4⟩
        · rw [h3] at q2; cases q2
        · rw [h3] at e4; cases e4
          exact .inr (.inr ⟨p, xs, b, c, kk, u, v3, rfl, rfl, hx, ks, nv, dk, e3, rv, fin _ _ i4 w3⟩)
      | ins => simp only [wIdx, e] at w2
  | non => exact False.elim (by cases d2 <;> exact w2)
  | bl => exact False.elim (by cases d2 <;> exact w2)
  | int => exact False.elim (by cases d2 <;> exact w2)
  | scr => exact False.elim (by cases d2 <;> exact w2)
  | fnv => exact False.elim (by cases d2 <;> exact w2)
theorem SE.idx {j : Nat} (hr : ∀ δ, Y δ → Room j δ.A) (ha : SE B Y W C xq a wa) (hb : SE B Y W C xq b wb) (hs : PlainIx b) :
    SE B Y W C xq (.Subscript a b pos) (fun ρ St q => wa ρ St fun x S1 => wb ρ S1 fun y S2 => wIdx S2 x y fun z => q z S2) := SE.idxU (fun δ hδ => room9 (hr δ hδ)) ha hb hs
/-! ### slices -/
structure SO (B : Bx) (Y : Dl → Prop) (W : WX) (C : XC) (xq : QX) (x : Option Expr) (w : Env → Sto → (Option Int → Sto → Prop) → Prop) : Prop where
  ex : ∃ t : TO, (∀ δ, Y δ → PO (cx B δ) x t) ∧ ∀ (ρ : Env) (St : Sto) (F : Hp) (σ : L2.St) (H : Hp) (q : Option Int → Sto → Prop) (Q : Option Int → Hp → Prop), SR B.K B.w F St H → RE B.K F ρ σ → EQ B.K B.w W C xq F St H σ → w ρ St q →
    (∀ b S' F' H', Fr F St H F' S' H' → SR B.K B.w F' S' H' → q b S' → Q b H') → t σ H Q
theorem SO.none : SO B Y W C xq none (fun _ St q => q none St) := ⟨⟨_, fun δ hδ => po_none, fun ρ St F σ H q Q r e x w k => k _ St F H Fr.refl r w⟩⟩
theorem SO.some (ha : SE B Y W C xq a wa) : SO B Y W C xq (some a) (fun ρ St q => wa ρ St fun x S1 => match x with | .int i => q (some i) S1 | _ => False) := by
  obtain ⟨ta, pa, ka⟩ := ha.ex
  refine ⟨⟨_, fun δ hδ => po_some (pa δ hδ), fun ρ St F σ H q Q r e x w k => ?_⟩⟩
  refine ka ρ St F σ H _ _ r e x w fun d S1 F1 v H1 f1 r1 i1 w1 => ?_
  cases i1 with
  | int i => exact ⟨i, rfl, k _ S1 F1 H1 f1 r1 w1⟩
  | _ => exact False.elim w1
noncomputable def rSlD (K : PySem.W.Frag) : V → Option Int → Option Int → Hp → VK → Prop := fun x lo hi H Q => rSlA K x lo hi H Q ∨ rSlL K x lo hi H Q ∨ rSlS x lo hi H Q
theorem sl_any {X : Cx} : SlR X (rSlD X.K) := sl_tupA.or (sl_list.or sl_str)
theorem cutD_whole {α : Type} {xs : List α} {lo hi : Option Int} (h : HT.sIx xs.length 0 lo = 0 ∧ HT.sIx xs.length xs.length hi = xs.length) : cutD xs lo hi = xs := by
  unfold cutD
  rw [h.1, h.2]
  simp
omit [TBS] in
theorem cutD_le {α : Type} (xs : List α) (lo hi : Option Int) : (cutD xs lo hi).length ≤ xs.length := by
  unfold cutD
  rw [List.length_take, List.length_drop]
  omega
theorem cutS_mk (s : Bs) (lo hi : Option Int) : cutS (mkS s) lo hi = mkS (cutD s lo hi) := by
  unfold cutS cutD mkS
  simp [Str.length]
theorem SE.sl {lo hi : Option Expr} {wl wh : Env → Sto → (Option Int → Sto → Prop) → Prop} {p2 : Pos} (ha : SE B Y W C xq a wa) (hl : SO B Y W C xq lo wl) (hh : SO B Y W C xq hi wh) :
    SE B Y W C xq (.Subscript a (.Slice lo hi none p2) pos) (fun ρ St q => wa ρ St fun x S1 => wl ρ S1 fun l S2 => wh ρ S2 fun h S3 => wSl S3 x l h fun z => q z S3) := by
  obtain ⟨ta, pa, ka⟩ := ha.ex
  obtain ⟨tl, pl, kl⟩ := hl.ex
  obtain ⟨th, ph, kh⟩ := hh.ex
  refine ⟨⟨tSl (rSlD B.K) ta tl th, fun δ hδ => pe_slice sl_any (pa δ hδ) (pl δ hδ) (ph δ hδ), fun ρ St F σ H q Q r e x w k => ?_⟩⟩
  refine ka ρ St F σ H _ _ r e x w fun d S1 F1 v H1 f1 r1 i1 w1 => ?_
  refine kl ρ S1 F1 σ H1 _ _ r1 (e.mono f1.ext) (x.step f1) w1 fun l S2 F2 H2 f2 r2 w2 => ?_
  refine kh ρ S2 F2 σ H2 _ _ r2 ((e.mono f1.ext).mono f2.ext) ((x.step f1).step f2) w2 fun h S3 F3 H3 f3 r3 w3 => ?_
  have i3 := (i1.mono f2.ext).mono f3.ext
  have ff := (f1.trans f2).trans f3
  cases i3 with
  | @tup p xs ds hx z il =>
    refine .inl ⟨p, xs, rfl, sqT_same r3.sub hx, fun hw => ?_, fun _ p2 hp => ?_⟩
    · rw [il.length] at hw
      have w3 : q (.tup (cutD ds l h)) S3 := w3
      rw [cutD_whole hw] at w3
      exact k _ S3 F3 _ H3 ff r3 (.tup hx z il) w3
    · obtain ⟨r4, f4⟩ := r3.lay (o := .tup (cutV xs l h)) hp
      exact k _ S3 _ _ _ (ff.trans f4) r4 (.tup (.inl (.inl upd_same)) (Nat.le_trans (cutV_length _ _ _) z) ((il.cut l h).mono f4.ext)) w3
  | @lst p xs ds hx z il =>
    refine .inr (.inl ⟨p, xs, rfl, SqL.of (r3.sub _ _ hx), fun p2 hp => ?_⟩)
    obtain ⟨r4, f4⟩ := r3.lay (o := .lst (cutV xs l h)) hp
    exact k _ S3 _ _ _ (ff.trans f4) r4 (.lst upd_same (Nat.le_trans (cutV_length _ _ _) z) ((il.cut l h).mono f4.ext)) w3
  | str s z =>
    refine .inr (.inr ⟨mkS s, rfl, by rw [mkS_len]; exact z, ?_⟩)
    rw [cutS_mk]
    exact k _ S3 F3 _ H3 ff r3 (.str _ (Nat.le_trans (cutD_le _ _ _) z)) w3
  | ref p =>
    cases e : S3 p with
    | none => simp only [wSl, e] at w3
    | some o =>
      have ho := (r3.own p o e).2
      cases o with
      | lst ds =>
        simp only [wSl, e] at w3
        obtain ⟨xs, hx, z, il⟩ := ho
        refine .inr (.inl ⟨p, xs, rfl, SqL.of hx, fun p2 hp => ?_⟩)
        obtain ⟨r4, f4⟩ := r3.lay (o := .lst (cutV xs l h)) hp
        exact k _ S3 _ _ _ (ff.trans f4) r4 (.lst upd_same (Nat.le_trans (cutV_length _ _ _) z) ((il.cut l h).mono f4.ext)) w3
      | _ => simp only [wSl, e] at w3
  | _ => exact False.elim w3
/-- a list or a tuple by its view -/
theorem view_of {K : PySem.W.Frag} {ω : World} {F : Hp} {St : Sto} {H : Hp} {v : V} {d : D} {ds : List D} (r : SR K ω F St H) (i : Is K F v d) (h : vw St d = some ds) :
    ∃ a xs, v = .ref a ∧ xs.length ≤ sizeLine ∧ IsL K F xs ds ∧ ((SqT K H a xs ∧ d = .tup ds) ∨ (H a = some (.lst xs) ∧ ∀ t, d ≠ .tup t)) := by
  cases i with
  | @tup a xs es hx z il => cases h; exact ⟨a, xs, rfl, z, il, .inl ⟨sqT_same r.sub hx, rfl⟩⟩
  | @lst a xs es hx z il => cases h; exact ⟨a, xs, rfl, z, il, .inr ⟨r.sub _ _ hx, fun t q => by cases q⟩⟩
  | ref a =>
    cases e : St a with
    | none => simp only [vw, e] at h; cases h
    | some o =>
      have ho := (r.own a o e).2
      simp only [vw, e] at h
      cases o with
      | lst es =>
        cases h
        obtain ⟨xs, hx, z, il⟩ := ho
        exact ⟨a, xs, rfl, z, il, .inr ⟨hx, fun t q => by cases q⟩⟩
      | _ => cases h
  | _ => cases h
end
end DL
/-! DL5: calls, built-ins, walks, comprehensions over data. -/
namespace DL
open PySem PySem.Spec PyProof.Rows L2
variable [TBS]
/-! ### what is seen of the text -/
noncomputable def notStar : Expr → Bool
  | .Starred _ _ => false
  | _ => true
theorem star_cons {e : Expr} {es : List Expr} (h : notStar e = true) (env : PySem.Env) : starEach (e :: es) env = (false, eval e env) :: starEach es env := by
  cases e <;> first | rfl | cases h
theorem star_all : ∀ {es : List Expr}, es.all notStar = true → ∀ (env : PySem.Env) (pos : Pos), (backTo pos (starEach es env)).any (·.1) = false ∧ (backTo pos (starEach es env)).all (fun x => !x.1) = true ∧ (backTo pos (starEach es env)).length = es.length
  | [], _, _, _ => ⟨rfl, rfl, rfl⟩
  | e :: es, h, env, pos => by
    rw [List.all_cons, Bool.and_eq_true] at h
    obtain ⟨a, b, c⟩ := star_all h.2 env pos
    rw [star_cons h.1 env]
    refine ⟨?_, ?_, ?_⟩
    · show (false || (backTo pos (starEach es env)).any (·.1)) = false
      rw [a]; rfl
    · show (!false && (backTo pos (starEach es env)).all (fun x => !x.1)) = true
      rw [b]; rfl
    · show (backTo pos (starEach es env)).length + 1 = es.length + 1
      rw [c]
noncomputable def notCall : Expr → Bool
  | .Call (.Name _ _) _ _ _ => false
  | _ => true
theorem attr_base {o : Expr} (h : notCall o = true) (m : Str) (env : PySem.Env) (whole : Sem Value) : attributeBase o m env whole = whole := by
  cases o <;> first | rfl | (rename_i f _ _ _; cases f <;> first | rfl | cases h)
noncomputable def notSet : Expr → Bool
  | .Set _ _ _ => false
  | _ => true
theorem folded_set {e : Expr} (h : notSet e = true) (env : PySem.Env) (x : Value) : foldedSetIterable e env x = pure x := by
  cases e <;> first | rfl | cases h
theorem marks_set {e : Expr} (h : notSet e = true) (op : CmpOp) : behindInMarks op e = false := by
  cases e <;> first | rfl | cases h
noncomputable def notSlice : Expr → Bool
  | .Slice _ _ _ _ => false
  | _ => true
theorem plain_ix {e : Expr} (h : notSlice e = true) : PlainIx e := by
  intro o i
  cases e <;> first | rfl | cases h
noncomputable def plainTest : Expr → Bool
  | .UnaryOp .Not _ _ => false
  | .BoolOp _ _ _ => false
  | .IfExp _ _ _ _ => false
  | .Compare _ _ _ _ => false
  | _ => true
theorem plain_test {e : Expr} (h : plainTest e = true) (env : PySem.Env) (whole : Sem Value) : isTrue e env whole = (do let v ← whole; standAt e.pos; holding [v] (truthy v)) := by
  cases e with
  | UnaryOp op a pos => cases op <;> first | rfl | cases h
  | BoolOp => cases h
  | IfExp => cases h
  | Compare => cases h
  | _ => rfl
noncomputable def notComp : Expr → Bool
  | .ListComp _ _ _ _ => false
  | .SetComp _ _ _ _ => false
  | .DictComp _ _ _ _ _ => false
  | _ => true
theorem no_swap {e : Expr} (h : notComp e = true) (t : Option Expr) (l : Nat) (env : PySem.Env) : swapsWith e t l env = pure false := by
  cases e <;> first | rfl | cases h
section
variable {B : Bx} {Y : Dl → Prop} {W : WX} {C : XC} {xq : QX} {a b c : Expr} {wa wb wc : Env → Sto → QD → Prop} {pos : Pos}
/-! ### a def's call -/
theorem SE.call {k : Nat} {f : Addr} {fd : FuncData} {ps : List Str} {sp : DSp} {x : Str} {p : Pos} {es : List Expr} {ws : Env → Sto → (List D → Sto → Prop) → Prop}
    (tk : ∀ δ, Y δ → Takes (cx B δ) W) (F0 : FnOk B.prog B.w B.K B.mg B.base (L2.CX B.prog B.w) k f fd ps (lift B.K B.w C sp)) (hr : ∀ δ, Y δ → Room k δ.A) (hg : ∀ δ, Y δ → Gl (cx B δ) x) (hm : B.mg x = some (.ref f))
    (hk : PySem.W.keepIn B.K (.ref f) = true) (hb : Binds B.K fd ps []) (hd : (x == ("__debug__" : Str)) = false) (hs : SA B Y W C xq (a :: es) ws) (st : (a :: es).all notStar = true) :
    SE B Y W C xq (.Call (.Name x p) (a :: es) [] pos) (fun ρ St q => ws ρ St fun ds S1 => sp ds S1 q xq) := by
  obtain ⟨ts, ps', ks⟩ := hs.ex
  have st2 := st
  rw [List.all_cons, Bool.and_eq_true] at st2
  refine ⟨⟨tCallS (lift B.K B.w C sp) (WE W) ts, fun δ hδ => pe_callS (X := cx B δ) F0 (hr δ hδ) (hg δ hδ) hm hk hb (fun σ => passAt (tk δ hδ) σ) (ps' δ hδ) hd (star_cons st2.1 _) (star_all st2.2 _ _).1, fun ρ St F σ H q Q r e x w k => ?_⟩⟩
  refine ks ρ St F σ H _ _ r e x w fun ds S1 F1 vs H1 f1 r1 i1 _ w1 => ?_
  refine ⟨ds, S1, F1, q, xq, r1, i1, w1, fun d S' v F' H' hq f2 r2 i2 => k d S' F' v H' (f1.trans f2) r2 i2 hq, fun c d S' F' H' dx hq f2 r2 p2 => ?_⟩
  exact (x.step f1) c d S' F' H' dx f2 r2 p2 hq
theorem SE.frz (ha : SE B Y W C xq a wa) : SE B Y W C xq a (fun ρ St q => wa ρ St fun x S1 => match x with
    | .ref p => match S1 p with
      | some (.lst ds) => q (.lst ds) (del S1 p)
      | some (.dct kvs) => q (.dct kvs) (del S1 p)
      | _ => False
    | _ => False) := by
  obtain ⟨ta, pa, ka⟩ := ha.ex
  refine ⟨⟨ta, pa, fun ρ St F σ H q Q r e x w k => ?_⟩⟩
  refine ka ρ St F σ H _ _ r e x w fun d S1 F1 v H1 f1 r1 i1 w1 => ?_
  cases i1 with
  | ref p =>
    cases e : S1 p with
    | none => simp only [e] at w1
    | some o =>
      have ho := (r1.own p o e).2
      cases o with
      | lst ds =>
        simp only [e] at w1
        obtain ⟨xs, hx, z, il⟩ := ho
        obtain ⟨r2, f2⟩ := r1.freeze e hx
        exact k _ _ _ _ H1 (f1.trans f2) r2 (.lst upd_same z (il.mono f2.ext)) w1
      | dct ds =>
        simp only [e] at w1
        obtain ⟨xs, hx, z, nd, il⟩ := ho
        obtain ⟨r2, f2⟩ := r1.freeze e hx
        exact k _ _ _ _ H1 (f1.trans f2) r2 (.dct upd_same z (il.mono f2.ext)) w1
      | ins => simp only [e] at w1
      | tdc => simp only [e] at w1
  | _ => exact False.elim w1
/-! ### built-ins of one argument -/
theorem SE.blt {r : List V → Hp → VK → Prop} {x : Str} {id : String} {p : Pos} {z : D → Sto → (D → Prop) → Prop} (hc : ∀ δ, Y δ → CallR (cx B δ) (.builtin id) r) (hg : ∀ δ, Y δ → Gl (cx B δ) x) (hm : B.mg x = none) (hv : bootBuiltins x = some (.builtin id))
    (ha : SE B Y W C xq a wa) (st : notStar a = true) (hn : x ≠ "__name__" := by decide) (hdb : (x == ("__debug__" : Str)) = false := by decide)
    (hr : ∀ (F : Hp) (St : Sto) (H : Hp) (v : V) (x : D) (q : D → Prop) (Q : VK), SR B.K B.w F St H → Is B.K F v x → z x St q → (∀ d F' v' H', Fr F St H F' St H' → SR B.K B.w F' St H' → Is B.K F' v' d → q d → Q v' H') → r [v] H Q) :
    SE B Y W C xq (.Call (.Name x p) [a] [] pos) (fun ρ St q => wa ρ St fun x S1 => z x S1 fun d => q d S1) := by
  obtain ⟨ta, pa, ka⟩ := ha.ex
  refine ⟨⟨tCB r (tCons ta tNil), fun δ hδ => pe_callB (hc δ hδ) (hg δ hδ) hm hv (pa_cons (pa δ hδ) pa_nil (star_cons st _)) hn hdb (star_cons st _) rfl, fun ρ St F σ H q Q r e x w k => ?_⟩⟩
  refine ka ρ St F σ H _ _ r e x w fun d S1 F1 v H1 f1 r1 i1 w1 => ?_
  exact hr F1 S1 H1 v d _ Q r1 i1 w1 fun d2 F2 v2 H2 f2 r2 i2 w2 => k d2 S1 F2 v2 H2 (f1.trans f2) r2 i2 w2
theorem SE.bty {r : List V → Hp → VK → Prop} {x : Str} {T : String} {p : Pos} {z : D → Sto → (D → Prop) → Prop} (hc : ∀ δ, Y δ → CallR (cx B δ) (.type T) r) (hg : ∀ δ, Y δ → Gl (cx B δ) x) (hm : B.mg x = none) (hv : bootBuiltins x = some (.type T))
    (ha : SE B Y W C xq a wa) (st : notStar a = true) (hn : x ≠ "__name__" := by decide) (hdb : (x == ("__debug__" : Str)) = false := by decide)
    (hr : ∀ (F : Hp) (St : Sto) (H : Hp) (v : V) (x : D) (q : D → Prop) (Q : VK), SR B.K B.w F St H → Is B.K F v x → z x St q → (∀ d F' v' H', Fr F St H F' St H' → SR B.K B.w F' St H' → Is B.K F' v' d → q d → Q v' H') → r [v] H Q) :
    SE B Y W C xq (.Call (.Name x p) [a] [] pos) (fun ρ St q => wa ρ St fun x S1 => z x S1 fun d => q d S1) := by
  obtain ⟨ta, pa, ka⟩ := ha.ex
  refine ⟨⟨tCB r (tCons ta tNil), fun δ hδ => pe_callTy (hc δ hδ) (hg δ hδ) hm hv (pa_cons (pa δ hδ) pa_nil (star_cons st _)) hn hdb (star_cons st _) rfl, fun ρ St F σ H q Q r e x w k => ?_⟩⟩
  refine ka ρ St F σ H _ _ r e x w fun d S1 F1 v H1 f1 r1 i1 w1 => ?_
  exact hr F1 S1 H1 v d _ Q r1 i1 w1 fun d2 F2 v2 H2 f2 r2 i2 w2 => k d2 S1 F2 v2 H2 (f1.trans f2) r2 i2 w2
theorem len_of {K : PySem.W.Frag} {ω : World} {F : Hp} {St : Sto} {H : Hp} {v : V} {d : D} {n : Nat} (r : SR K ω F St H) (i : Is K F v d) (h : lenD St d = some n) : LenV K v H n := by
  cases i with
  | str s z => cases h; exact ⟨by rw [mkS_len]; exact z, by rw [mkS_len]⟩
  | @tup a xs ds hx z il => cases h; exact .inr ⟨xs, sqT_same r.sub hx, il.length.symm⟩
  | @lst a xs ds hx z il => cases h; exact .inl ⟨xs, SqL.of (r.sub _ _ hx), il.length.symm⟩
  | ref a =>
    cases e : St a with
    | none => simp only [lenD, e] at h; cases h
    | some o =>
      have ho := (r.own a o e).2
      simp only [lenD, e] at h
      cases o with
      | lst ds =>
        cases h
        obtain ⟨xs, hx, z, il⟩ := ho
        exact .inl ⟨xs, SqL.of hx, il.length.symm⟩
      | _ => cases h
  | _ => cases h
theorem SE.len {p : Pos} (hg : ∀ δ, Y δ → Gl (cx B δ) "len") (hm : B.mg "len" = none) (ha : SE B Y W C xq a wa) (st : notStar a = true) :
    SE B Y W C xq (.Call (.Name "len" p) [a] [] pos) (fun ρ St q => wa ρ St fun x S1 => wBf .len x S1 fun d => q d S1) := by
  refine SE.blt (z := wBf .len) (r := fun xs H Q => ∃ x n, xs = [x] ∧ LenV B.K x H n ∧ Q (.int n) H) (fun δ _ => call_len) hg hm PySem.boot_len ha st (hr := fun F St H v x q Q r i w k => ?_)
  obtain ⟨n, hn, w⟩ := w
  exact ⟨v, n, rfl, len_of r i hn, k _ F _ H Fr.refl r (.int _) w⟩
theorem SE.abs {p : Pos} (hg : ∀ δ, Y δ → Gl (cx B δ) "abs") (hm : B.mg "abs" = none) (ha : SE B Y W C xq a wa) (st : notStar a = true) :
    SE B Y W C xq (.Call (.Name "abs" p) [a] [] pos) (fun ρ St q => wa ρ St fun x S1 => wBf .abs x S1 fun d => q d S1) := by
  refine SE.blt (z := wBf .abs) (fun δ _ => call_abs) hg hm boot_abs ha st (hr := fun F St H v x q Q r i w k => ?_)
  cases i with
  | int i => exact ⟨i, rfl, k _ F _ H Fr.refl r (.int _) w⟩
  | _ => exact False.elim w
theorem SE.intf {p : Pos} (hg : ∀ δ, Y δ → Gl (cx B δ) "int") (hm : B.mg "int" = none) (ha : SE B Y W C xq a wa) (st : notStar a = true) :
    SE B Y W C xq (.Call (.Name "int" p) [a] [] pos) (fun ρ St q => wa ρ St fun x S1 => wBf .int x S1 fun d => q d S1) := by
  refine SE.bty (z := wBf .int) (fun δ _ => call_int1) hg hm boot_int ha st (hr := fun F St H v x q Q r i w k => ?_)
  cases i with
  | int i => exact .inl ⟨i, rfl, k _ F _ H Fr.refl r (.int _) w⟩
  | bl b => exact .inr ⟨b, rfl, k _ F _ H Fr.refl r (.int _) w⟩
  | _ => exact False.elim w
theorem SE.listf {p : Pos} (hg : ∀ δ, Y δ → Gl (cx B δ) "list") (hm : B.mg "list" = none) (ha : SE B Y W C xq a wa) (st : notStar a = true) :
    SE B Y W C xq (.Call (.Name "list" p) [a] [] pos) (fun ρ St q => wa ρ St fun x S1 => wBf .list x S1 fun d => q d S1) := by
  refine SE.bty (z := wBf .list) (r := fun xs H Q => ∃ p ys, xs = [.ref p] ∧ (SqL B.K H p ys ∨ SqT B.K H p ys) ∧ ∀ l, H l = none → Q (.ref l) (upd H l (.lst ys))) (fun δ _ => call_list_of) hg hm boot_list ha st (hr := fun F St H v x q Q r i w k => ?_)
  obtain ⟨ds, hv, w⟩ := w
  obtain ⟨a, xs, ev, z, il, h⟩ := view_of r i hv
  refine ⟨a, xs, by rw [ev], h.elim (fun h => .inr h.1) (fun h => .inl (SqL.of h.1)), fun l hl => ?_⟩
  obtain ⟨r2, f2⟩ := r.lay (o := .lst xs) hl
  exact k _ _ _ _ f2 r2 (.lst upd_same z (il.mono f2.ext)) w
theorem SE.tuplef {p : Pos} (hg : ∀ δ, Y δ → Gl (cx B δ) "tuple") (hm : B.mg "tuple" = none) (ha : SE B Y W C xq a wa) (st : notStar a = true) :
    SE B Y W C xq (.Call (.Name "tuple" p) [a] [] pos) (fun ρ St q => wa ρ St fun x S1 => wBf .tuple x S1 fun d => q d S1) := by
  refine SE.bty (z := wBf .tuple) (r := fun xs H Q => ∃ p ys, xs = [.ref p] ∧ ((SqL B.K H p ys ∧ ∀ l, H l = none → Q (.ref l) (upd H l (.tup ys))) ∨ (SqT B.K H p ys ∧ Q (.ref p) H))) (fun δ _ => call_tuple_of) hg hm boot_tuple ha st (hr := fun F St H v x q Q r i w k => ?_)
  obtain ⟨ds, hv, w⟩ := w
  obtain ⟨a, xs, ev, z, il, h⟩ := view_of r i hv
  refine ⟨a, xs, by rw [ev], ?_⟩
  rcases h with ⟨hx, ed⟩ | ⟨hx, _⟩
  · subst ed
    exact .inr ⟨hx, k _ F _ H Fr.refl r (by rw [← ev]; exact i) w⟩
  · refine .inl ⟨SqL.of hx, fun l hl => ?_⟩
    obtain ⟨r2, f2⟩ := r.lay (o := .tup xs) hl
    exact k _ _ _ _ f2 r2 (.tup (.inl (.inl upd_same)) z (il.mono f2.ext)) w
theorem bools_of {K : PySem.W.Frag} {F : Hp} : ∀ {xs : List V} {ds : List D} {bs : List Bool}, IsL K F xs ds → boolsD ds = some bs → xs = bs.map V.bl
  | _, _, _, .nil, h => by cases h; rfl
  | _, d :: ds, bs, .cons h t, e => by
    cases h with
    | bl b =>
      simp only [boolsD, Option.map_eq_some_iff] at e
      obtain ⟨cs, e1, e2⟩ := e
      rw [← e2, List.map_cons, bools_of t e1]
    | _ => cases e
theorem ints_of {K : PySem.W.Frag} {F : Hp} : ∀ {xs : List V} {ds : List D} {bs : List Int}, IsL K F xs ds → intsD ds = some bs → xs = bs.map V.int
  | _, _, _, .nil, h => by cases h; rfl
  | _, d :: ds, bs, .cons h t, e => by
    cases h with
    | int b =>
      simp only [intsD, Option.map_eq_some_iff] at e
      obtain ⟨cs, e1, e2⟩ := e
      rw [← e2, List.map_cons, ints_of t e1]
    | _ => cases e
theorem strs_of {K : PySem.W.Frag} {F : Hp} : ∀ {xs : List V} {ds : List D} {bs : List Bs}, IsL K F xs ds → strsD ds = some bs → xs = (bs.map mkS).map V.str ∧ ∀ s ∈ bs, s.length ≤ sizeLine
  | _, _, _, .nil, h => by cases h; exact ⟨rfl, fun _ z => by cases z⟩
  | _, d :: ds, bs, .cons h t, e => by
    cases h with
    | str b z =>
      simp only [strsD, Option.map_eq_some_iff] at e
      obtain ⟨cs, e1, e2⟩ := e
      obtain ⟨g1, g2⟩ := strs_of t e1
      refine ⟨by rw [← e2, List.map_cons, List.map_cons, g1], fun s hs => ?_⟩
      rw [← e2] at hs
      rcases List.mem_cons.mp hs with e | hs
      · rw [e]; exact z
      · exact g2 s hs
    | _ => cases e
theorem SE.anyf {p : Pos} (cl : ∀ δ, Y δ → δ.calm = true) (hg : ∀ δ, Y δ → Gl (cx B δ) "any") (hm : B.mg "any" = none) (ha : SE B Y W C xq a wa) (st : notStar a = true) :
    SE B Y W C xq (.Call (.Name "any" p) [a] [] pos) (fun ρ St q => wa ρ St fun x S1 => wBf .any x S1 fun d => q d S1) := by
  refine SE.blt (z := wBf .any) (r := rAny B.K) (fun δ hδ => cr_any (cl δ hδ)) hg hm (by decide +kernel) ha st (hr := fun F St H v x q Q r i w k => ?_)
  obtain ⟨ds, bs, hv, nt, hb, w⟩ := w
  obtain ⟨a, xs, ev, z, il, h⟩ := view_of r i hv
  rcases h with ⟨_, e⟩ | ⟨hx, _⟩
  · exact absurd e (nt _)
  · have e := bools_of il hb
    subst e
    exact ⟨a, bs, by rw [ev], SqL.of hx, k _ F _ H Fr.refl r (.bl _) w⟩
theorem SE.allf {p : Pos} (cl : ∀ δ, Y δ → δ.calm = true) (hg : ∀ δ, Y δ → Gl (cx B δ) "all") (hm : B.mg "all" = none) (ha : SE B Y W C xq a wa) (st : notStar a = true) :
    SE B Y W C xq (.Call (.Name "all" p) [a] [] pos) (fun ρ St q => wa ρ St fun x S1 => wBf .all x S1 fun d => q d S1) := by
  refine SE.blt (z := wBf .all) (r := rAll B.K) (fun δ hδ => cr_all (cl δ hδ)) hg hm (by decide +kernel) ha st (hr := fun F St H v x q Q r i w k => ?_)
  obtain ⟨ds, bs, hv, nt, hb, w⟩ := w
  obtain ⟨a, xs, ev, z, il, h⟩ := view_of r i hv
  rcases h with ⟨_, e⟩ | ⟨hx, _⟩
  · exact absurd e (nt _)
  · have e := bools_of il hb
    subst e
    exact ⟨a, bs, by rw [ev], SqL.of hx, k _ F _ H Fr.refl r (.bl _) w⟩
theorem SE.sumf {p : Pos} (cl : ∀ δ, Y δ → δ.calm = true) (hg : ∀ δ, Y δ → Gl (cx B δ) "sum") (hm : B.mg "sum" = none) (ha : SE B Y W C xq a wa) (st : notStar a = true) :
    SE B Y W C xq (.Call (.Name "sum" p) [a] [] pos) (fun ρ St q => wa ρ St fun x S1 => wBf .sum x S1 fun d => q d S1) := by
  refine SE.blt (z := wBf .sum) (r := rSum B.K) (fun δ hδ => cr_sum (cl δ hδ)) hg hm (by decide +kernel) ha st (hr := fun F St H v x q Q r i w k => ?_)
  obtain ⟨ds, bs, hv, nt, hb, w⟩ := w
  obtain ⟨a, xs, ev, z, il, h⟩ := view_of r i hv
  rcases h with ⟨_, e⟩ | ⟨hx, _⟩
  · exact absurd e (nt _)
  · have e := ints_of il hb
    subst e
    exact ⟨a, bs, by rw [ev], SqL.of hx, k _ F _ H Fr.refl r (.int _) w⟩
theorem its_of {K : PySem.W.Frag} {F : Hp} : ∀ {xs : List V} {ds : List D} {nss : List (List Int)}, IsL K F xs ds → itsD ds = some nss →
    ds = nss.map itD ∧ xs.length = nss.length ∧ ∀ (i : Nat) (x : V) (ns : List Int), xs[i]? = some x → nss[i]? = some ns → ∃ t, x = .ref t ∧ SqT K F t (ns.map V.int) ∧ ns.length ≤ sizeLine
  | _, [], nss, .nil, h => by
    cases h
    exact ⟨rfl, rfl, fun i x ns e => by simp at e⟩
  | _, d :: ds, nss, .cons hx t, h => by
    simp only [itsD] at h
    cases e1 : tupInts d with
    | none => rw [e1] at h; cases h
    | some a =>
      cases e2 : itsD ds with
      | none => rw [e1, e2] at h; cases h
      | some b =>
        rw [e1, e2] at h
        cases h
        obtain ⟨q1, q2, q3⟩ := its_of t e2
        cases hx with
        | @tup p xs es hp z il =>
          have e1 : intsD es = some a := e1
          have ex := ints_of il e1
          have ee : es = a.map .int := by
            clear q1 q2 q3 z hp t il ex
            induction es generalizing a with
            | nil => cases e1; rfl
            | cons y es ih =>
              cases y with
              | int i =>
                simp only [intsD, Option.map_eq_some_iff] at e1
                obtain ⟨b', e3, rfl⟩ := e1
                rw [ih _ e3 e3]; rfl
              | _ => cases e1
          subst ex
          refine ⟨by rw [q1, ee]; rfl, by rw [List.length_cons, List.length_cons, q2], fun i x ns h1 h2 => ?_⟩
          cases i with
          | zero =>
            cases h1; cases h2
            exact ⟨p, rfl, hp, by simpa using z⟩
          | succ i => exact q3 i x ns (by simpa using h1) (by simpa using h2)
        | _ => cases e1
theorem isl_zip {K : PySem.W.Frag} {F : Hp} : ∀ {ps : List (V × List Int)}, (∀ p ∈ ps, ∃ t, p.1 = .ref t ∧ SqT K F t (p.2.map V.int) ∧ p.2.length ≤ sizeLine) → IsL K F (ps.map (·.1)) ((ps.map (·.2)).map itD)
  | [], _ => .nil
  | (x, ns) :: ps, h => by
    obtain ⟨t, e, ht, z⟩ := h _ List.mem_cons_self
    have e : x = .ref t := e
    subst e
    have g : ∀ {ns : List Int}, IsL K F (ns.map V.int) (ns.map D.int) := by
      intro ns
      induction ns with
      | nil => exact .nil
      | cons n ns ih => exact .cons (.int n) ih
    exact .cons (.tup ht (by rw [List.length_map]; exact z) g) (isl_zip fun p hp => h p (List.mem_cons_of_mem _ hp))
theorem SE.sortedf {p : Pos} {j : Nat} (hr : ∀ δ, Y δ → Room j δ.A) (hg : ∀ δ, Y δ → Gl (cx B δ) "sorted") (hm : B.mg "sorted" = none) (ha : SE B Y W C xq a wa) (st : notStar a = true) :
    SE B Y W C xq (.Call (.Name "sorted" p) [a] [] pos) (fun ρ St q => wa ρ St fun x S1 => wBf .sorted x S1 fun d => q d S1) := by
  refine SE.blt (z := wBf .sorted) (r := rSortedZ B.K) (fun δ hδ => cr_sortedZ (X := cx B δ) (by have := (hr δ hδ).un; show δ.A.units + 10 < cLine; omega)) hg hm (by decide +kernel) ha st (hr := fun F St H v x q Q r i w k => ?_)
  obtain ⟨ds, nss, hv, nt, hb, h0, w⟩ := w
  obtain ⟨a, xs, ev, z, il, h⟩ := view_of r i hv
  rcases h with ⟨_, e⟩ | ⟨hx, _⟩
  · exact absurd e (nt _)
  · obtain ⟨e1, e2, e3⟩ := its_of il hb
    refine ⟨a, xs, nss, by rw [ev], SqL.of hx, e2, fun i x ns h1 h2 => ?_, h0, fun ps p h1 h2 hp => ?_⟩
    · obtain ⟨t, e4, ht, _⟩ := e3 i x ns h1 h2
      exact ⟨t, e4, sqT_same r.sub ht⟩
    · have hz : (xs.zip nss).map (·.2) = nss := List.map_snd_zip (by omega)
      have hp2 : (ps.map (·.2)).Perm nss := by
        have := h1.map (·.2)
        rw [hz] at this
        exact this
      have hl : (ps.map (·.1)).length ≤ sizeLine := by
        rw [List.length_map, h1.length_eq, List.length_zip]
        omega
      have isl : IsL B.K F (ps.map (·.1)) ((ps.map (·.2)).map itD) := isl_zip fun q hq => by
        have hm := h1.mem_iff.mp hq
        obtain ⟨i, hi, e⟩ := List.mem_iff_getElem.mp hm
        rw [List.length_zip] at hi
        rw [List.getElem_zip] at e
        rw [← e]
        exact e3 i _ _ (List.getElem?_eq_getElem (by omega)) (List.getElem?_eq_getElem (by omega))
      obtain ⟨r2, f2⟩ := r.lay (o := .lst (ps.map (·.1))) hp
      exact k _ _ _ _ f2 r2 (.lst upd_same hl (isl.mono f2.ext)) (w _ hp2 (List.pairwise_map.mpr h2))
theorem dview_of {K : PySem.W.Frag} {ω : World} {F : Hp} {St : Sto} {H : Hp} {v : V} {d : D} {ds : List (D × D)} (r : SR K ω F St H) (i : Is K F v d) (h : dvw St d = some ds) :
    ∃ a kvs, v = .ref a ∧ H a = some (.dK kvs) ∧ kvs.length ≤ sizeLine ∧ IsM K F kvs ds := by
  cases i with
  | @dct a xs es hx z il => cases h; exact ⟨a, xs, rfl, r.sub _ _ hx, z, il⟩
  | ref a =>
    cases e : St a with
    | none => simp only [dvw, e] at h; cases h
    | some o =>
      have ho := (r.own a o e).2
      simp only [dvw, e] at h
      cases o with
      | dct es =>
        cases h
        obtain ⟨xs, hx, z, nd, il⟩ := ho
        exact ⟨a, xs, rfl, hx, z, il⟩
      | _ => cases h
  | _ => cases h
/-! ### isinstance -/
noncomputable def Tk.nm : Tk → String
  | .non => "NoneType"
  | .bool => "bool"
  | .int => "int"
  | .str => "str"
  | .tuple => "tuple"
  | .list => "list"
  | .dict => "dict"
noncomputable def tyNm : Ty → String
  | .bool => "bool"
  | .int => "int"
  | .str => "str"
  | .tuple => "tuple"
  | .list => "list"
  | .dict => "dict"
theorem kit_tk (t : Ty) (k : Tk) : kitB k.nm (tyNm t) = some (isK t k) := by cases t <;> cases k <;> decide +kernel
theorem ty_of {K : PySem.W.Frag} {ω : World} {F : Hp} {St : Sto} {H : Hp} {v : V} {d : D} {k : Tk} (r : SR K ω F St H) (i : Is K F v d) (h : tkD St d = some k) : TyX K H v (.type k.nm) := by
  cases i with
  | non => cases h; exact .base .non
  | bl b => cases h; exact .base (.bl b)
  | int b => cases h; exact .base (.int b)
  | str b _ => cases h; exact .base (.str _)
  | @tup a xs ds hx z il =>
    cases h
    rcases hx with (hx | ⟨o, hx⟩) | ⟨o, its, n, h1, h2, _⟩
    · exact .base (.tup (r.sub _ _ hx))
    · exact .fTuple (r.sub _ _ hx)
    · exact .kTuple h1 h2
  | @lst a xs ds hx z il => cases h; exact .base (.lst (r.sub _ _ hx))
  | @dct a xs ds hx z il => cases h; exact .base (.dK (r.sub _ _ hx))
  | scr => cases h
  | fnv => cases h
  | ref a =>
    cases e : St a with
    | none => simp only [tkD, e] at h; cases h
    | some o =>
      have ho := (r.own a o e).2
      simp only [tkD, e] at h
      cases o with
      | lst ds => cases h; obtain ⟨xs, hx, _⟩ := ho; exact .base (.lst hx)
      | dct ds => cases h; obtain ⟨xs, hx, _⟩ := ho; exact .base (.dK hx)
      | ins => cases h
      | tdc => cases h
theorem boot_ty (t : Ty) : bootBuiltins (Str.ofString (tyNm t)) = some (.type (tyNm t)) := by cases t <;> decide +kernel
theorem ty_plain (t : Ty) : (Str.ofString (tyNm t)) ≠ "__name__" ∧ ((Str.ofString (tyNm t)) == ("__debug__" : Str)) = false := by cases t <;> decide +kernel
theorem SE.isi {p p2 : Pos} {t : Ty} (hg : ∀ δ, Y δ → Gl (cx B δ) "isinstance") (hm : B.mg "isinstance" = none) (hg2 : ∀ δ, Y δ → Gl (cx B δ) (Str.ofString (tyNm t))) (hm2 : B.mg (Str.ofString (tyNm t)) = none) (ha : SE B Y W C xq a wa) (st : notStar a = true) :
    SE B Y W C xq (.Call (.Name "isinstance" p) [a, .Name (Str.ofString (tyNm t)) p2] [] pos) (fun ρ St q => wa ρ St fun x S1 => ∃ k, tkD S1 x = some k ∧ q (.bl (isK t k)) S1) := by
  obtain ⟨ta, pa, ka⟩ := ha.ex
  refine ⟨⟨tCB (rIsi B.K) (tCons ta (tCons (tC (.ty (tyNm t))) tNil)), fun δ hδ => pe_callB call_isi (hg δ hδ) hm boot_isinstance
    (pa_cons (pa δ hδ) (pa_cons (pe_bltn (hg2 δ hδ) hm2 (boot_ty t) rfl (ty_plain t).1 (ty_plain t).2) pa_nil) (star_cons st _)) (by decide) (by decide) (star_cons st _) rfl, fun ρ St F σ H q Q r e x w k => ?_⟩⟩
  refine ka ρ St F σ H _ _ r e x w fun d S1 F1 v H1 f1 r1 i1 w1 => ?_
  obtain ⟨kk, hk, w1⟩ := w1
  exact ⟨v, .ty (tyNm t), _, _, _, rfl, .ty _, ty_of r1 i1 hk, kit_ty (kit_tk t kk), k _ S1 F1 _ H1 f1 r1 (.bl _) w1⟩
/-! ### dict(d) -/
/-! ### join -/
end
end DL
/-! DLT: sets of keys of any kind as set(x) makes them; sorted(set(x)) of texts. -/
namespace DL
open PySem PySem.Spec PyProof.Rows L2
/-- what a walk over the set wants of its table -/
noncomputable def ExtT (w : World) (t : SetTable) : Prop := Ris t.place.toList ∧ (w.params.followText "set-order" = true ∨ t.led = true)
section
variable {P : Program} {w : World} {κ : Type} [DecidableEq κ] (knd : KeyKind P w κ)
noncomputable def SetG (h : Heap) (a : Addr) (S : κ → Bool) (n : Nat) : Prop :=
  ∃ o es ep t, h.get? a = some o ∧ o.ExactSet ∧ o.data = .set es ep t ∧ ElemsOf knd es.toList ∧ (∀ k, S k = true ↔ ∃ e ∈ es.toList, knd.is k e.2 = true) ∧ es.size < scanBound ∧ t.fits es.size = true ∧ es.size = n ∧ ExtT w t
end
section
variable {P : Program} {w : World} {κ : Type} [DecidableEq κ] {knd : KeyKind P w κ} {A : Around} {E : Value → Shared → Prop} {s : Shared} {a : Addr} {S : κ → Bool} {n : Nat}
theorem SetG.ty (h : SetG knd s.heap a S n) : s.TypeIs (.ref a) "set" := by
  obtain ⟨o, _, _, _, ho, hx, _⟩ := h
  exact ⟨o, ho, hx.1⟩
end
section
variable {prog : Program} {w : World} {κ : Type} [DecidableEq κ] {knd : KeyKind prog w κ} {A : Around} {R : Result → Shared → Prop} {I : Addr} {fp wr : List Addr} {G : Array GenState → Array GenState → Prop} {n : Nat} {PP : Nat → Value → Prop} {St : Nat → Shared → Prop}
end
section
variable {prog : Program} {w : World} {κ : Type} [DecidableEq κ] {knd : KeyKind prog w κ} {A : Around} {E : Value → Shared → Prop} {s : Shared}
end
end DL
/-! DLU: sorted(set(x)), len(set(x)) of texts. -/
namespace DL
open PySem PySem.Spec PyProof.Rows L2
theorem perm_of_cover {α : Type} [BEq α] [LawfulBEq α] : ∀ {l r : List α}, l.Nodup → (∀ x ∈ l, x ∈ r) → r.length ≤ l.length → r.Perm l
  | [], r, _, _, h => by
    have : r = [] := List.length_eq_zero_iff.mp (Nat.le_zero.mp h)
    rw [this]
  | x :: l, r, nd, hs, h => by
    obtain ⟨n1, n2⟩ := List.nodup_cons.mp nd
    have hx := hs x List.mem_cons_self
    have p := List.perm_cons_erase hx
    have hl := p.length_eq
    rw [List.length_cons] at hl h
    exact p.trans (.cons x (perm_of_cover n2 (fun y hy => (List.mem_erase_of_ne (fun e => n1 (by rw [← e]; exact hy))).mpr (hs y (List.mem_cons_of_mem _ hy))) (by omega)))
theorem rising_pair : ∀ (p : Str) (l : List Str), risingS p l = true → (p :: l).Pairwise fun a b => ¬ b.cps.toList < a.cps.toList
  | p, [], _ => by simp
  | p, x :: r, h => by
    have h' : (!ltCps x.cps.toList p.cps.toList && risingS x r) = true := h
    rw [Bool.and_eq_true, Bool.not_eq_true', ltCps_eq] at h'
    have ih := rising_pair x r h'.2
    have hxp := of_decide_eq_false h'.1
    refine List.pairwise_cons.mpr ⟨fun y hy => ?_, ih⟩
    rcases List.mem_cons.mp hy with rfl | hy
    · exact hxp
    · intro hlt
      have hyx := (List.pairwise_cons.mp ih).1 y hy
      exact hxp (List.lt_of_le_of_lt (List.not_lt.mp hyx) hlt)
theorem sortedS_pair : ∀ (l : List Str), sortedS l = true → l.Pairwise fun a b => ¬ b.cps.toList < a.cps.toList
  | [], _ => .nil
  | x :: r, h => rising_pair x r h
section
variable {P : Program} {w : World} {A : Around} {E : Value → Shared → Prop} {s : Shared} {a : Addr}
end
section
variable {X : Cx} {a : Expr} {ta : TE} {p p2 q pos : Pos}
end
end DL
/-! DLV: more built-ins over data. -/
namespace DL
open PySem PySem.Spec PyProof.Rows L2
/-! ### any, all of a tuple of bools (after cr_any, cr_all of HandS.List) -/
theorem iter_tupB {prog : Program} {w : World} {A : Around} {E : Value → Shared → Prop} {s : Shared} {l : Addr} {items : Array Value} {Q : Value → Shared → Prop} (hl : IsTup s.heap l items)
    (h : ∀ s₂ : Shared, s₂ = { s with heap := s.heap.push { cls := .type "tuple_iterator", data := .fields #[.ref l, .int 0 0] } } →
      (s₂.heap.IsTupleIter s.heap.objs.size l 0 ∧ IsTup s₂.heap l items) → l ≠ s.heap.objs.size → Q (.ref s.heap.objs.size) s₂) : wpAny (model prog w) A (pyIter (.ref l)) Q E s := by
  have hlt : l < s.heap.objs.size := by obtain ⟨_, e, _⟩ := hl; exact Heap.lt_size e
  exact wpAny_pyIter_tuple hl (h _ rfl ⟨⟨_, Heap.get?_push_size _ rfl, rfl, rfl⟩, hl.push _⟩ (Nat.ne_of_lt hlt))
noncomputable def rAnyT (K : PySem.W.Frag) : List V → Hp → VK → Prop := fun vs H Q => ∃ (a : Addr) (bs : List Bool), vs = [V.ref a] ∧ SqT K H a (bs.map V.bl) ∧ Q (.bl (bs.any id)) H
noncomputable def rAllT (K : PySem.W.Frag) : List V → Hp → VK → Prop := fun vs H Q => ∃ (a : Addr) (bs : List Bool), vs = [V.ref a] ∧ SqT K H a (bs.map V.bl) ∧ Q (.bl (bs.all id)) H
theorem cr_anyT {X : Cx} (hc : X.calm = true) : CallR X (.builtin "any") (rAnyT X.K) := by
  intro pins s σ H vs us Q I r h
  obtain ⟨a, bs, rfl, hs, q⟩ := h
  obtain ⟨its, rv, hl, _⟩ := I.tuple hs
  rw [Vals.ref1 r]
  have hb := rv.bls
  refine call_any_walk (iter_tupB hl fun s₂ e2 st hne => ?_)
  subst e2
  refine ⟨_, _, _, _, _, _, _, rfl, Walks.tuple (A := X.A.in1) (I.ok.hd hc) _ a hne its.toArray, st, truth_bools hb, fun h' tk hk => ?_⟩
  refine ⟨.bl _, H, I.kept fun b o eo => hk b o (fun hmem => ?_) (Heap.get?_push_of_some _ eo), ?_, q⟩
  · rcases List.mem_cons.mp hmem with e1 | hmem
    · exact absurd (e1 ▸ Heap.lt_size eo) (Nat.lt_irrefl _)
    · cases hmem
  · show Value.bool _ = Value.bool _
    rw [← L2.any_range, hb, List.size_toArray, List.length_map]
theorem cr_allT {X : Cx} (hc : X.calm = true) : CallR X (.builtin "all") (rAllT X.K) := by
  intro pins s σ H vs us Q I r h
  obtain ⟨a, bs, rfl, hs, q⟩ := h
  obtain ⟨its, rv, hl, _⟩ := I.tuple hs
  rw [Vals.ref1 r]
  have hb := rv.bls
  refine call_all_walk (iter_tupB hl fun s₂ e2 st hne => ?_)
  subst e2
  refine ⟨_, _, _, _, _, _, _, rfl, Walks.tuple (A := X.A.in1) (I.ok.hd hc) _ a hne its.toArray, st, truth_bools hb, fun h' tk hk => ?_⟩
  refine ⟨.bl _, H, I.kept fun b o eo => hk b o (fun hmem => ?_) (Heap.get?_push_of_some _ eo), ?_, q⟩
  · rcases List.mem_cons.mp hmem with e1 | hmem
    · exact absurd (e1 ▸ Heap.lt_size eo) (Nat.lt_irrefl _)
    · cases hmem
  · show Value.bool _ = Value.bool _
    rw [← L2.all_range, hb, List.size_toArray, List.length_map]
variable [TBS]
theorem mkS_out {ys : List Str} : (ys.map fun y => y.cps.toList).map mkS = ys := by
  rw [List.map_map]
  conv => rhs; rw [← List.map_id ys]
  exact List.map_congr_left fun y _ => mkS_tl y
theorem isl_strs {K : PySem.W.Frag} {F : Hp} : ∀ {ys : List Bs}, (∀ y ∈ ys, y.length ≤ sizeLine) → IsL K F ((ys.map mkS).map V.str) (ys.map .str)
  | [], _ => .nil
  | y :: ys, h => .cons (.str y (h y List.mem_cons_self)) (isl_strs fun z hz => h z (List.mem_cons_of_mem _ hz))
section
variable {B : Bx} {Y : Dl → Prop} {W : WX} {C : XC} {xq : QX} {a b c : Expr} {wa wb wc : Env → Sto → QD → Prop} {pos : Pos}
theorem SE.maxf {p : Pos} (cl : ∀ δ, Y δ → δ.calm = true) (hg : ∀ δ, Y δ → Gl (cx B δ) "max") (hm : B.mg "max" = none) (ha : SE B Y W C xq a wa) (st : notStar a = true) :
    SE B Y W C xq (.Call (.Name "max" p) [a] [] pos) (fun ρ St q => wa ρ St fun x S1 => wB1 .max x S1 fun d => q d S1) := by
  refine SE.blt (z := wB1 .max) (r := rMax B.K) (fun δ hδ => cr_max (cl δ hδ)) hg hm (by decide +kernel) ha st (hr := fun F St H v x q Q r i w k => ?_)
  obtain ⟨ds, ns, hv, nt, hb, h0, w⟩ := w
  obtain ⟨a, xs, ev, z, il, h⟩ := view_of r i hv
  rcases h with ⟨_, e⟩ | ⟨hx, _⟩
  · exact absurd e (nt _)
  · obtain rfl := ints_of il hb
    exact ⟨a, ns, by rw [ev], SqL.of hx, h0, fun m h1 h2 => k _ F _ H Fr.refl r (.int _) (w m h1 h2)⟩
theorem SE.minf {p : Pos} (cl : ∀ δ, Y δ → δ.calm = true) (hg : ∀ δ, Y δ → Gl (cx B δ) "min") (hm : B.mg "min" = none) (ha : SE B Y W C xq a wa) (st : notStar a = true) :
    SE B Y W C xq (.Call (.Name "min" p) [a] [] pos) (fun ρ St q => wa ρ St fun x S1 => wB1 .min x S1 fun d => q d S1) := by
  refine SE.blt (z := wB1 .min) (r := rMin B.K) (fun δ hδ => cr_min (cl δ hδ)) hg hm (by decide +kernel) ha st (hr := fun F St H v x q Q r i w k => ?_)
  obtain ⟨ds, ns, hv, nt, hb, h0, w⟩ := w
  obtain ⟨a, xs, ev, z, il, h⟩ := view_of r i hv
  rcases h with ⟨_, e⟩ | ⟨hx, _⟩
  · exact absurd e (nt _)
  · obtain rfl := ints_of il hb
    exact ⟨a, ns, by rw [ev], SqL.of hx, h0, fun m h1 h2 => k _ F _ H Fr.refl r (.int _) (w m h1 h2)⟩
theorem perm_out {ts : List Bs} {ys : List Str} (h : ys.Perm (ts.map mkS)) : (ys.map fun y => y.cps.toList).Perm ts := by
  have := h.map fun y : Str => y.cps.toList
  rw [List.map_map, show ((fun y : Str => y.cps.toList) ∘ mkS) = id from funext fun x => by simp [mkS], List.map_id] at this
  exact this
theorem new_strs {K : PySem.W.Frag} {ω : World} {F : Hp} {St : Sto} {H : Hp} (r : SR K ω F St H) {ys : List Str} {ts : List Bs} (hz : ∀ y ∈ ts, y.length ≤ sizeLine) (h64 : ys.length ≤ 64) (hm : ∀ y ∈ ys.map fun y => y.cps.toList, y ∈ ts) {p : Addr} (hp : H p = none) :
    ∃ F', Fr F St H F' St (upd H p (.lst (ys.map V.str))) ∧ SR K ω F' St (upd H p (.lst (ys.map V.str))) ∧ Is K F' (.ref p) (.lst ((ys.map fun y => y.cps.toList).map .str)) := by
  obtain ⟨r2, f2⟩ := r.lay (o := .lst (ys.map V.str)) hp
  refine ⟨_, f2, r2, .lst upd_same (by rw [List.length_map, sizeLine_eq]; omega) ?_⟩
  have := isl_strs (K := K) (F := upd F p (.lst (ys.map V.str))) (ys := ys.map fun y => y.cps.toList) fun y hy => hz y (hm y hy)
  rw [mkS_out] at this
  exact this
theorem SE.sstr {p : Pos} (hg : ∀ δ, Y δ → Gl (cx B δ) "sorted") (hm : B.mg "sorted" = none) (ha : SE B Y W C xq a wa) (st : notStar a = true) :
    SE B Y W C xq (.Call (.Name "sorted" p) [a] [] pos) (fun ρ St q => wa ρ St fun x S1 => wB1 .sstr x S1 fun d => q d S1) := by
  refine SE.blt (z := wB1 .sstr) (r := rSortedS B.K) (fun δ hδ => cr_sortedS) hg hm (by decide +kernel) ha st (hr := fun F St H v x q Q r i w k => ?_)
  obtain ⟨ds, ts, hv, nt, hb, h64, w⟩ := w
  obtain ⟨a, xs, ev, z, il, h⟩ := view_of r i hv
  rcases h with ⟨_, e⟩ | ⟨hx, _⟩
  · exact absurd e (nt _)
  · obtain ⟨e, hz⟩ := strs_of il hb
    refine ⟨a, ts.map mkS, by rw [ev], by rw [← e]; exact SqL.of hx, by rw [List.length_map]; exact h64, fun ys p h1 h2 hp => ?_⟩
    have hp1 := perm_out h1
    obtain ⟨F', f2, r2, i2⟩ := new_strs r hz (by rw [h1.length_eq, List.length_map]; omega) (fun y hy => hp1.mem_iff.mp hy) hp
    exact k _ F' _ _ f2 r2 i2 (w _ hp1 (List.pairwise_map.mpr (sortedS_pair ys h2)))
theorem keys_of {K : PySem.W.Frag} {F : Hp} : ∀ {kvs : List (Key × V)} {ds : List (D × D)} {ts : List Bs}, IsM K F kvs ds → strsD (ds.map (·.1)) = some ts → kvs.map (·.1) = (ts.map mkS).map Sum.inr
  | _, _, _, .nil, h => by cases h; rfl
  | _, _, ts, @IsM.cons _ _ k v vs d ds h t, e => by
    cases k with
    | inl i => cases e
    | inr s =>
      have e : (strsD (ds.map (·.1))).map (s.cps.toList :: ·) = some ts := e
      rw [Option.map_eq_some_iff] at e
      obtain ⟨us, e1, e2⟩ := e
      rw [← e2, List.map_cons, List.map_cons, List.map_cons, keys_of t e1, mkS_tl]
theorem SE.sdct {p : Pos} (cl : ∀ δ, Y δ → δ.calm = true) (hg : ∀ δ, Y δ → Gl (cx B δ) "sorted") (hm : B.mg "sorted" = none) (ha : SE B Y W C xq a wa) (st : notStar a = true) :
    SE B Y W C xq (.Call (.Name "sorted" p) [a] [] pos) (fun ρ St q => wa ρ St fun x S1 => wB1 .sdct x S1 fun d => q d S1) := by
  refine SE.blt (z := wB1 .sdct) (r := _) (fun δ hδ => call_sortedD (X := cx B δ) (cl δ hδ)) hg hm (by decide +kernel) ha st (hr := fun F St H v x q Q r i w k => ?_)
  obtain ⟨ds, ts, hv, hb, h64, hz, w⟩ := w
  obtain ⟨a, kvs, ev, hd, z, m⟩ := dview_of r i hv
  refine ⟨a, kvs, ts.map mkS, by rw [ev], .inl hd, keys_of m hb, by rw [List.length_map]; exact h64, fun ys p h1 h2 hp => ?_⟩
  have hp1 := perm_out h1
  obtain ⟨F', f2, r2, i2⟩ := new_strs r (ts := ts) (fun y hy => small_of (hz y hy)) (by rw [h1.length_eq, List.length_map]; omega) (fun y hy => hp1.mem_iff.mp hy) hp
  exact k _ F' _ _ f2 r2 i2 (w _ hp1 (List.pairwise_map.mpr (sortedS_pair ys h2)))
theorem SE.strI {p : Pos} (hg : ∀ δ, Y δ → Gl (cx B δ) "str") (hm : B.mg "str" = none) (ha : SE B Y W C xq a wa) (st : notStar a = true) :
    SE B Y W C xq (.Call (.Name "str" p) [a] [] pos) (fun ρ St q => wa ρ St fun x S1 => wB1 .str x S1 fun d => q d S1) := by
  refine SE.bty (z := wB1 .str) (r := _) (fun δ hδ => CallR.or (call_str_int (X := cx B δ)) (SkE.call_str_str (X := cx B δ))) hg hm (by decide +kernel) ha st (hr := fun F St H v x q Q r i w k => ?_)
  cases i with
  | int i =>
    obtain ⟨⟨h1, h2⟩, w⟩ := w
    refine .inl ⟨i, rfl, h1, ?_⟩
    have := k _ F (.str (mkS (decS i))) H Fr.refl r (.str _ (Nat.le_of_lt (small1000 h2))) w
    rw [show mkS (decS i) = Str.ofString (toString i) from mkS_tl _] at this
    exact this
  | str s z => exact .inr ⟨mkS s, rfl, k _ F (.str (mkS s)) H Fr.refl r (.str s z) w⟩
  | _ => exact w.elim
/-- what sorted says of a dict whose keys are ints -/
noncomputable def rSdi : List V → Hp → VK → Prop := fun xs H Q => ∃ (d0 : Addr) (es : List (Key × V)) (ns : List Int), xs = [.ref d0] ∧ Rd H d0 (.dK es) ∧ es.map (·.1) = ns.map Sum.inl ∧
  ∀ (ys : List Int) (p : Addr), ys.Perm ns → ys.Pairwise (· ≤ ·) → H p = none → Q (.ref p) (upd H p (.lst (ys.map V.int)))
set_option maxHeartbeats 0 in
theorem cr_sdi {X : Cx} (cm : X.calm = true) : CallR X (.builtin "sorted") rSdi := by
  intro pins s σ H xs us Q I rv want
  obtain ⟨d0, es, ns, rfl, at0, ek, fin0⟩ := want
  obtain ⟨u0, rfl, r0⟩ := vals1 rv
  cases r0
  obtain ⟨sz, low, raw, rl, dd⟩ := dk_rd I.hok at0
  obtain ⟨ep, tab⟩ := dd.dictAt
  have ek2 : raw.map (·.1) = ns.map Sum.inl := rl.keys.symm.trans ek
  have len2 : raw.length = ns.length := by simpa using congrArg List.length ek2
  have small : raw.length ≤ sizeLine := by rw [← rl.length]; exact sz
  refine Calls.call_function_entry PyProof.Rows.kind_sorted PyProof.Rows.plain_sorted
    PyProof.Rows.entry_sorted (PyProof.Rows.args_sorted1 _) ?_
  unfold Builtin.«sorted»
  refine wpAny_bind (m := checkCount "sorted" 1 1 _)
    (wpAny_pure ?_)
  refine wpAny_bind (PySem.W.kdu_collect (A := X.A.in1) (PySem.W.kdl_dict (knd := mixKind X.prog X.w) (kvs := raw) (ep := ep) low) (I.ok.hd cm) tab small fun h1 tk acc kept got => ?_)
  have la : acc.toList.length = ns.length := by rw [Array.length_toList, got.1, len2]
  have hi : IntsAre acc.toList ns := L2.ints_each la fun j v ev => by
    obtain ⟨k0, x0, q1, q2⟩ := got.2 j v (by rw [← Array.getElem?_toList]; exact ev)
    have q3 : (raw.map (·.1))[j]? = some k0 := by rw [List.getElem?_map, q1]; rfl
    rw [ek2, List.getElem?_map] at q3
    cases q4 : ns[j]? with
    | none => rw [q4] at q3; cases q3
    | some y =>
      rw [q4] at q3
      have q5 : Sum.inl y = k0 := Option.some.inj q3
      subst q5
      rcases keyIs_shape (show keyIs (Sum.inl y) v = true from q2) with ⟨i, t, ek, ev⟩ | ⟨z, t, ek, ev⟩
      · cases ek
        exact ⟨y, t, rfl, ev⟩
      · cases ek
  have I1 : Inv X pins σ H { s with heap := h1, toks := tk } := I.kept kept
  have l16 : acc.toList.length ≤ sizeLine := by rw [la, ← len2]; exact small
  refine wpAny_bind (wpAny_newList ?_ l16)
  have hob : (h1.push (seqObj "list" acc.toList.toArray 0)).get? h1.objs.size = some (seqObj "list" acc.toList.toArray 0) :=
    Heap.get?_push_size _ rfl
  show wpAny _ _ _ _ _ { s with heap := h1.push (seqObj "list" acc.toList.toArray 0), toks := tk }
  refine wpAny_bind (wpAny_holding (wpAny_call_entry PyProof.Rows.slot_list_sort ⟨_, hob, rfl⟩ PyProof.Rows.entry_list_sort (SrtO.list_sort_ord (s := { s with heap := h1.push (seqObj "list" acc.toList.toArray 0), toks := tk }) SrtO.swo_int hob l16 (fun h2 => SrtO.ints_sortable hi h2) fun out o1 o2 => ⟨.none, rfl, ?_⟩)
    (PyProof.Rows.args_list_sort _)))
  obtain ⟨k1, k2, k3⟩ := SrtO.ints_out hi o1 o2
  obtain ⟨ep', he'⟩ := PyProof.Rows.sortedHeap_at (vs := acc.toList) (out := out.toArray) hob
  have lo : ((out.map SrtO.iv).map V.int).length ≤ sizeLine := by
    rw [List.length_map, k2.length_eq, ← la]
    exact l16
  refine wpAny_pure ⟨_, rfl, .ref h1.objs.size, upd H h1.objs.size (.lst ((out.map SrtO.iv).map V.int)), I1.laid (t' := tk) (fun b u e => ?_) (Nat.le_refl _)
    (show ObjOk X.prog X.w _ _ _ (.lst ((out.map SrtO.iv).map V.int)) from ⟨lo, out, ep', vals_of_ints k1, he'⟩), rfl, fin0 _ _ k2 k3 (I1.hok.fresh (Nat.le_refl _))⟩
  have hb : b < h1.objs.size := Heap.lt_size e
  rw [PyProof.Rows.sortedHeap_old (Nat.ne_of_lt hb) (by rw [size_push']; exact Nat.lt_succ_of_lt hb)]
  exact Heap.get?_push_of_some _ e
theorem keys_ofI {K : PySem.W.Frag} {F : Hp} : ∀ {kvs : List (Key × V)} {ds : List (D × D)} {ts : List Int}, IsM K F kvs ds → intsD (ds.map (·.1)) = some ts → kvs.map (·.1) = ts.map Sum.inl
  | _, _, _, .nil, h => by cases h; rfl
  | _, _, ts, @IsM.cons _ _ k v vs d ds h t, e => by
    cases k with
    | inr s => cases e
    | inl i =>
      have e : (intsD (ds.map (·.1))).map (i :: ·) = some ts := e
      rw [Option.map_eq_some_iff] at e
      obtain ⟨us, e1, e2⟩ := e
      rw [← e2, List.map_cons, List.map_cons, keys_ofI t e1]
theorem isl_intsV {K : PySem.W.Frag} {F : Hp} : ∀ ys : List Int, IsL K F (ys.map V.int) (ys.map .int)
  | [] => .nil
  | y :: ys => .cons (.int y) (isl_intsV ys)
theorem SE.sdi {p : Pos} (cl : ∀ δ, Y δ → δ.calm = true) (hg : ∀ δ, Y δ → Gl (cx B δ) "sorted") (hm : B.mg "sorted" = none) (ha : SE B Y W C xq a wa) (st : notStar a = true) :
    SE B Y W C xq (.Call (.Name "sorted" p) [a] [] pos) (fun ρ St q => wa ρ St fun x S1 => wB1 .sdi x S1 fun d => q d S1) := by
  refine SE.blt (z := wB1 .sdi) (r := _) (fun δ hδ => cr_sdi (X := cx B δ) (cl δ hδ)) hg hm (by decide +kernel) ha st (hr := fun F St H v x q Q r i w k => ?_)
  obtain ⟨ds, ns, hv, hb, w⟩ := w
  obtain ⟨a, kvs, ev, hd, z, m⟩ := dview_of r i hv
  have ek := keys_ofI m hb
  refine ⟨a, kvs, ns, by rw [ev], .inl hd, ek, fun ys p h1 h2 hp => ?_⟩
  have zl : ys.length ≤ sizeLine := by
    rw [h1.length_eq]
    have := congrArg List.length ek
    rw [List.length_map, List.length_map] at this
    rw [← this]
    have zz := z
    exact zz
  obtain ⟨r2, f2⟩ := r.lay (o := .lst (ys.map V.int)) hp
  exact k _ _ _ _ f2 r2 (.lst upd_same (by rw [List.length_map]; exact zl) (isl_intsV ys)) (w ys h1 h2)
theorem SE.anyT {p : Pos} (cl : ∀ δ, Y δ → δ.calm = true) (hg : ∀ δ, Y δ → Gl (cx B δ) "any") (hm : B.mg "any" = none) (ha : SE B Y W C xq a wa) (st : notStar a = true) :
    SE B Y W C xq (.Call (.Name "any" p) [a] [] pos) (fun ρ St q => wa ρ St fun x S1 => wB1 .anyt x S1 fun d => q d S1) := by
  refine SE.blt (z := wB1 .anyt) (r := rAnyT B.K) (fun δ hδ => cr_anyT (X := cx B δ) (cl δ hδ)) hg hm (by decide +kernel) ha st (hr := fun F St H v x q Q r i w k => ?_)
  cases i with
  | @tup a xs ds hx z il =>
    obtain ⟨bs, hb, w⟩ := w
    have e := bools_of il hb
    subst e
    exact ⟨a, bs, rfl, sqT_same r.sub hx, k _ F _ H Fr.refl r (.bl _) w⟩
  | _ => exact False.elim w
theorem SE.allT {p : Pos} (cl : ∀ δ, Y δ → δ.calm = true) (hg : ∀ δ, Y δ → Gl (cx B δ) "all") (hm : B.mg "all" = none) (ha : SE B Y W C xq a wa) (st : notStar a = true) :
    SE B Y W C xq (.Call (.Name "all" p) [a] [] pos) (fun ρ St q => wa ρ St fun x S1 => wB1 .allt x S1 fun d => q d S1) := by
  refine SE.blt (z := wB1 .allt) (r := rAllT B.K) (fun δ hδ => cr_allT (X := cx B δ) (cl δ hδ)) hg hm (by decide +kernel) ha st (hr := fun F St H v x q Q r i w k => ?_)
  cases i with
  | @tup a xs ds hx z il =>
    obtain ⟨bs, hb, w⟩ := w
    have e := bools_of il hb
    subst e
    exact ⟨a, bs, rfl, sqT_same r.sub hx, k _ F _ H Fr.refl r (.bl _) w⟩
  | _ => exact False.elim w
theorem SE.b1 {f : B1} {nm : Str} {p : Pos} (cl : ∀ δ, Y δ → δ.calm = true) (hf : nm = (match f with | .max => "max" | .min => "min" | .sstr => "sorted" | .sdct => "sorted" | .str => "str" | .sdi => "sorted" | .anyt => "any" | .allt => "all" : Str)) (hg : ∀ δ, Y δ → Gl (cx B δ) nm) (hm : B.mg nm = none) (ha : SE B Y W C xq a wa) (st : notStar a = true) :
    SE B Y W C xq (.Call (.Name nm p) [a] [] pos) (fun ρ St q => wa ρ St fun x S1 => wB1 f x S1 fun d => q d S1) := by
  cases f <;> subst hf
  · exact SE.maxf cl hg hm ha st
  · exact SE.minf cl hg hm ha st
  · exact SE.sstr hg hm ha st
  · exact SE.sdct cl hg hm ha st
  · exact SE.strI hg hm ha st
  · exact SE.sdi cl hg hm ha st
  · exact SE.anyT cl hg hm ha st
  · exact SE.allT cl hg hm ha st
theorem IsM.drop {K : PySem.W.Frag} {F : Hp} {q : Key} : ∀ {v : List (Key × V)} {d : List (D × D)}, IsM K F v d → IsM K F (dropK v q) (dropD d (kD q))
  | _, _, .nil => .nil
  | _, _, @IsM.cons _ _ k v vs d ds h t => by
    have ih := IsM.drop (q := q) t
    unfold dropK dropD at ih ⊢
    rw [List.filter_cons, List.filter_cons]
    show IsM K F (if decide (k ≠ q) = true then _ else _) (if (!keyb (kD k) (kD q)) = true then _ else _)
    rw [keyb_kD]
    by_cases e : k = q
    · rw [decide_eq_true e, if_neg (by simp [e]), if_neg (by simp)]
      exact ih
    · rw [decide_eq_false e, if_pos (by simp [e]), if_pos (by simp)]
      exact .cons h ih
end
end DL
/-! DLF: f-strings of texts and ints. -/
namespace DL
open PySem PySem.Spec PyProof.Rows L2
variable [TBS]
structure SJ (B : Bx) (Y : Dl → Prop) (W : WX) (C : XC) (xq : QX) (xs : List Expr) (w : Bs → Env → Sto → (Bs → Sto → Prop) → Prop) : Prop where
  ex : ∃ ts : List TE, (∀ δ, Y δ → PJ (cx B δ) xs ts) ∧ ∀ (acc : Bs) (ρ : Env) (St : Sto) (F : Hp) (σ : L2.St) (H : Hp) (q : Bs → Sto → Prop) (Q : Str → Hp → Prop), acc.length ≤ SZ → SR B.K B.w F St H → RE B.K F ρ σ → EQ B.K B.w W C xq F St H σ → w acc ρ St q →
    (∀ s S' F' H', Fr F St H F' S' H' → SR B.K B.w F' S' H' → s.length ≤ SZ → q s S' → Q (mkS s) H') → tJs ts (mkS acc) σ H Q
section
variable {B : Bx} {Y : Dl → Prop} {W : WX} {C : XC} {xq : QX} {a : Expr} {wa : Env → Sto → QD → Prop} {pos : Pos}
theorem SJ.cg {xs : List Expr} {w w' : Bs → Env → Sto → (Bs → Sto → Prop) → Prop} (h : SJ B Y W C xq xs w) (k : ∀ acc ρ St q, w' acc ρ St q → w acc ρ St q) : SJ B Y W C xq xs w' := by
  obtain ⟨ts, p, kk⟩ := h.ex
  exact ⟨⟨ts, p, fun acc ρ St F σ H q Q l r e x w => kk acc ρ St F σ H q Q l r e x (k acc ρ St q w)⟩⟩
theorem SJ.nil : SJ B Y W C xq [] (fun acc _ St q => q acc St) := ⟨⟨[], fun δ hδ => .nil, fun acc ρ St F σ H q Q l r e x w k => k acc St F H Fr.refl r l w⟩⟩
theorem SJ.cons {es : List Expr} {ws : Bs → Env → Sto → (Bs → Sto → Prop) → Prop} (ha : SE B Y W C xq a wa) (hs : SJ B Y W C xq es ws) :
    SJ B Y W C xq (a :: es) (fun acc ρ St q => wa ρ St fun x S1 => match x with
      | .str s => acc.length + s.length ≤ SZ ∧ ws (acc ++ s) ρ S1 q
      | _ => False) := by
  obtain ⟨ta, pa, ka⟩ := ha.ex
  obtain ⟨ts, ps, ks⟩ := hs.ex
  refine ⟨⟨ta :: ts, fun δ hδ => .cons (pa δ hδ) (ps δ hδ), fun acc ρ St F σ H q Q l r e x w k => ?_⟩⟩
  refine ka ρ St F σ H _ _ r e x w fun d S1 F1 v H1 f1 r1 i1 w1 => ?_
  cases i1 with
  | str s z =>
    obtain ⟨l1, w1⟩ := w1
    have l2 : (acc ++ s).length ≤ SZ := by rw [List.length_append]; exact l1
    refine ⟨mkS s, rfl, by rw [mkS_cat, mkS_len]; exact small_of l2, ?_⟩
    rw [mkS_cat]
    exact ks (acc ++ s) ρ S1 F1 σ H1 _ _ l2 r1 (e.mono f1.ext) (x.step f1) w1 fun s2 S2 F2 H2 f2 r2 l3 w2 => k s2 S2 F2 H2 (f1.trans f2) r2 l3 w2
  | _ => exact w1.elim
theorem SE.fmt (ha : SE B Y W C xq a wa) : SE B Y W C xq (.FormattedValue a (-1) none pos) (fun ρ St q => wa ρ St fun x S1 => wB1 .str x S1 fun z => q z S1) := by
  obtain ⟨ta, pa, ka⟩ := ha.ex
  refine ⟨⟨tFmt ta, fun δ hδ => pe_fmt (pa δ hδ), fun ρ St F σ H q Q r e x w k => ?_⟩⟩
  refine ka ρ St F σ H _ _ r e x w fun d S1 F1 v H1 f1 r1 i1 w1 => ?_
  cases i1 with
  | int i =>
    obtain ⟨⟨h1, h2⟩, w1⟩ := w1
    have := k _ S1 F1 (.str (mkS (decS i))) H1 f1 r1 (.str _ (Nat.le_of_lt (small1000 h2))) w1
    rw [show mkS (decS i) = Str.ofString (toString i) from mkS_tl _] at this
    exact .inr ⟨i, rfl, h1, this⟩
  | str s z => exact .inl ⟨mkS s, rfl, by rw [mkS_len]; exact z, k _ S1 F1 _ H1 f1 r1 (.str s z) w1⟩
  | _ => exact w1.elim
theorem SE.fst {xs : List Expr} {ws : Bs → Env → Sto → (Bs → Sto → Prop) → Prop} (h : SJ B Y W C xq xs ws) (h2 : 2 ≤ xs.length) :
    SE B Y W C xq (.JoinedStr xs pos) (fun ρ St q => ws [] ρ St fun s S1 => q (.str s) S1) := by
  obtain ⟨ts, ps, ks⟩ := h.ex
  match xs, h2 with
  | v1 :: v2 :: rest, _ =>
    refine ⟨⟨fun σ H Q => tJs ts Str.empty σ H fun out H1 => Q (.str out) H1, fun δ hδ => pe_joined (ps δ hδ), fun ρ St F σ H q Q r e x w k => ?_⟩⟩
    have := ks [] ρ St F σ H _ (fun out H1 => Q (.str out) H1) (Nat.zero_le _) r e x w fun s S1 F1 H1 f1 r1 l w1 => k _ S1 F1 _ H1 f1 r1 (.str s (small_of l)) w1
    exact this
end
end DL
/-! DL6: walks, targets, comprehensions, displays of dicts over data. -/
namespace DL
open PySem PySem.Spec PyProof.Rows L2
variable [TBS]
/-- what is walked gives the data ds, one after the other -/
noncomputable def WD (K : PySem.W.Frag) (ω : World) (F : Hp) (J : L2.It) (ds : List D) : Prop :=
  ∃ (G : Hp → Prop) (Yd : Nat → Hp → V → Hp → Prop), Walk J ds.length G Yd ∧ (∀ (H F1 : Hp), Same F F1 → Same F1 H → G H) ∧
    ∀ (i : Nat) (H : Hp) (v : V) (H' : Hp), i < ds.length → Yd i H v H' → ∃ d, ds[i]? = some d ∧ ∀ (F1 : Hp) (S1 : Sto), SR K ω F1 S1 H → Same F F1 → ∃ F2, Fr F1 S1 H F2 S1 H' ∧ SR K ω F2 S1 H' ∧ Is K F2 v d
structure SI (B : Bx) (Y : Dl → Prop) (W : WX) (C : XC) (xq : QX) (tg x : Expr) (w : Env → Sto → (List D → Sto → Prop) → Prop) : Prop where
  ex : ∃ t : TI, (∀ δ, Y δ → PI (cx B δ) tg x t) ∧ ∀ (ρ : Env) (St : Sto) (F : Hp) (σ : L2.St) (H : Hp) (q : List D → Sto → Prop) (R : L2.It → Hp → Prop), SR B.K B.w F St H → RE B.K F ρ σ → EQ B.K B.w W C xq F St H σ → w ρ St q →
    (∀ ds S' F' H' J, Fr F St H F' S' H' → SR B.K B.w F' S' H' → WD B.K B.w F' J ds → ds.length ≤ sizeLine → q ds S' → R J H') → t σ H R
/-- slots at vs alone may differ -/
noncomputable def Sl (vs : List Nat) (σ σ' : L2.St) : Prop := ∀ us : List Nat, (∀ i ∈ vs, i ∈ us) → wipe σ' us = wipe σ us
structure SG (B : Bx) (Y : Dl → Prop) (tg : Expr) (vs : List Nat) (b : D → Env → (Env → Prop) → Prop) : Prop where
  ex : ∃ g : TG, (∀ δ, Y δ → PG (cx B δ) tg g) ∧ ∀ (d : D) (ρ : Env) (σ : L2.St) (v : V) (F : Hp) (St : Sto) (H : Hp) (q : Env → Prop) (Q : L2.St → Hp → Prop), Is B.K F v d → SR B.K B.w F St H → RE B.K F ρ σ → b d ρ q →
    (∀ ρ' σ', RE B.K F ρ' σ' → Sl vs σ σ' → q ρ' → Q σ' H) → g v σ H Q
structure SGs (B : Bx) (Y : Dl → Prop) (tg : List Expr) (vs : List Nat) (b : List D → Env → (Env → Prop) → Prop) : Prop where
  ex : ∃ g : TGs, (∀ δ, Y δ → PGs (cx B δ) tg g) ∧ (∀ d ρ q, b d ρ q → d.length = tg.length) ∧ ∀ (d : List D) (ρ : Env) (σ : L2.St) (v : List V) (F : Hp) (St : Sto) (H : Hp) (q : Env → Prop) (Q : L2.St → Hp → Prop), IsL B.K F v d → SR B.K B.w F St H → RE B.K F ρ σ → b d ρ q →
    (∀ ρ' σ', RE B.K F ρ' σ' → Sl vs σ σ' → q ρ' → Q σ' H) → g v σ H Q
theorem wipe_set {v : Option V} : ∀ {us : List Nat} {i : Nat} {σ : L2.St}, i ∈ us → wipe (σ.set i v) us = wipe σ us
  | u :: us, i, σ, h => by
    unfold wipe
    by_cases hi : i ∈ us
    · rw [wipe_set hi]
    · have e : i = u := (List.mem_cons.mp h).resolve_right hi
      subst e
      have gen : ∀ {us : List Nat} {σ : L2.St}, i ∉ us → wipe (σ.set i v) us = (wipe σ us).set i v := by
        intro us
        induction us with
        | nil => intro σ _; rfl
        | cons w us ih =>
          intro σ hn
          unfold wipe
          rw [ih (fun z => hn (List.mem_cons_of_mem _ z)), List.set_comm _ _ (fun z => hn (by rw [z]; exact List.mem_cons_self))]
      rw [gen hi, List.set_set]
theorem Sl.set {vs : List Nat} {i : Nat} {σ : L2.St} {v : Option V} (h : i ∈ vs) : Sl vs σ (σ.set i v) := fun us hu => wipe_set (hu i h)
theorem Sl.trans {vs : List Nat} {a b c : L2.St} (h : Sl vs a b) (k : Sl vs b c) : Sl vs a c := fun us hu => (k us hu).trans (h us hu)
theorem Sl.mono {vs ws : List Nat} {a b : L2.St} (h : Sl vs a b) (k : ∀ i ∈ vs, i ∈ ws) : Sl ws a b := fun us hu => h us fun i hi => hu i (k i hi)
section
variable {B : Bx} {Y : Dl → Prop} {W : WX} {C : XC} {xq : QX} {a b c : Expr} {wa wb wc : Env → Sto → QD → Prop} {pos : Pos}
theorem SG.name {i : Nat} {x : Str} {vs : List Nat} (hN : B.N.Nodup) (hi : B.N[i]? = some x) (hx : ∀ δ, Y δ → Loc δ.env.scope x ∧ (δ.fn x = true ∨ δ.env.scope.names.lookup x = some .local)) (hv : i ∈ vs) :
    SG B Y (.Name x pos) vs (fun d ρ q => q (put ρ i d)) :=
  ⟨⟨gName i, fun δ hδ => pg_name hN hi (hx δ hδ).1 (hx δ hδ).2, fun d ρ σ v F St H q Q is r e w k => k _ _ (e.put i is) (Sl.set hv) w⟩⟩
theorem SGs.nil {vs : List Nat} : SGs B Y [] vs (fun d ρ q => d = [] ∧ q ρ) :=
  ⟨⟨gNil, fun δ hδ => pgs_nil, fun d ρ q h => by rw [h.1]; rfl, fun d ρ σ v F St H q Q is r e w k => by
    obtain ⟨rfl, w⟩ := w
    cases is
    exact ⟨rfl, k ρ σ e (fun _ _ => rfl) w⟩⟩⟩
theorem SGs.cons {t : Expr} {ts : List Expr} {vs : List Nat} {b1 : D → Env → (Env → Prop) → Prop} {b2 : List D → Env → (Env → Prop) → Prop} (h1 : SG B Y t vs b1) (h2 : SGs B Y ts vs b2) (hs : notStar t = true)
    (m1 : ∀ d ρ q, b1 d ρ q → ∃ ρ', q ρ') :
    SGs B Y (t :: ts) vs (fun d ρ q => ∃ x r, d = x :: r ∧ b1 x ρ fun ρ' => b2 r ρ' q) := by
  obtain ⟨g1, p1, k1⟩ := h1.ex
  obtain ⟨g2, p2, l2, k2⟩ := h2.ex
  refine ⟨⟨gCons g1 g2, fun δ hδ => pgs_cons (p1 δ hδ) (p2 δ hδ) (by cases t <;> first | rfl | cases hs), fun d ρ q h => ?_, fun d ρ σ v F St H q Q is r e w k => ?_⟩⟩
  · obtain ⟨x, r, rfl, w⟩ := h
    obtain ⟨ρ', w⟩ := m1 _ _ _ w
    rw [List.length_cons, List.length_cons, l2 _ _ _ w]
  · obtain ⟨x, rr, rfl, w⟩ := w
    cases is with
    | @cons u us _ _ i1 i2 =>
      refine ⟨u, us, rfl, k1 x ρ σ u F St H _ _ i1 r e w fun ρ' σ' e1 s1 w1 => ?_⟩
      exact k2 rr ρ' σ' us F St H _ _ i2 r e1 w1 fun ρ2 σ2 e2 s2 w2 => k ρ2 σ2 e2 (s1.trans s2) w2
theorem SG.tup {ts : List Expr} {vs : List Nat} {k : Nat} {b1 : List D → Env → (Env → Prop) → Prop} (cl : ∀ δ, Y δ → δ.calm = true) (h : SGs B Y ts vs b1) (hs : ts.all notStar = true) :
    SG B Y (.Tuple ts k pos) vs (fun d ρ q => match d with | .tup ds => b1 ds ρ q | _ => False) := by
  obtain ⟨g, p, l, kk⟩ := h.ex
  have ea : ∀ (es : List Expr) (env : PySem.Env), es.all notStar = true → (assignEach es env).length = es.length ∧ (assignEach es env).findIdx? (·.1) = none := by
    intro es env
    induction es with
    | nil => intro _; exact ⟨rfl, rfl⟩
    | cons x es ih =>
      intro h
      rw [List.all_cons, Bool.and_eq_true] at h
      obtain ⟨i1, i2⟩ := ih h.2
      have : assignEach (x :: es) env = (false, assign x env) :: assignEach es env := by cases x <;> first | rfl | cases h.1
      rw [this]
      exact ⟨by rw [List.length_cons, List.length_cons, i1], by rw [List.findIdx?_cons, i2]; rfl⟩
  refine ⟨⟨gTup B.K ts.length g, fun δ hδ => pg_tup (X := cx B δ) (cl δ hδ) (p δ hδ) (ea ts _ hs).1 (ea ts _ hs).2, fun d ρ σ v F St H q Q is r e w k => ?_⟩⟩
  cases is with
  | @tup a xs ds hx z il =>
    exact ⟨a, xs, rfl, sqT_same r.sub hx, by rw [il.length]; exact l _ _ _ w, kk ds ρ σ xs F St H q Q il r e w k⟩
  | _ => exact False.elim w
/-! ### walks -/
theorem wd_list {K : PySem.W.Frag} {ω : World} {F : Hp} {a : Addr} {xs : List V} {ds : List D} (h : F a = some (.lst xs)) (il : IsL K F xs ds) : WD K ω F (Itl K a) ds := by
  refine ⟨fun H => SqL K H a xs, YAt xs, by rw [← il.length]; exact walk_list, fun H F1 e1 e2 => SqL.of (e2 _ _ (e1 _ _ h)), fun i H v H' hi y => ?_⟩
  obtain ⟨rfl, y⟩ := y
  obtain ⟨d, hd, iv⟩ := il.getV y
  exact ⟨d, hd, fun F1 S1 r e => ⟨F1, Fr.refl, r, iv.mono e⟩⟩
theorem isl_ints {K : PySem.W.Frag} {F : Hp} : ∀ {ns : List Int}, IsL K F (ns.map V.int) (ns.map D.int)
  | [] => .nil
  | n :: ns => .cons (.int n) isl_ints
theorem wd_seq {K : PySem.W.Frag} {ω : World} {F : Hp} {a : Addr} {xs : List V} {ds : List D} (h : SqL K F a xs) (il : IsL K F xs ds) : WD K ω F (Itl K a) ds := by
  refine ⟨fun H => SqL K H a xs, YAt xs, by rw [← il.length]; exact walk_list, fun H F1 e1 e2 => sqL_same e2 (sqL_same e1 h), fun i H v H' hi y => ?_⟩
  obtain ⟨rfl, y⟩ := y
  obtain ⟨d, hd, iv⟩ := il.getV y
  exact ⟨d, hd, fun F1 S1 r e => ⟨F1, Fr.refl, r, iv.mono e⟩⟩
theorem wd_tup {K : PySem.W.Frag} {ω : World} {F : Hp} {a : Addr} {xs : List V} {ds : List D} (h : SqT K F a xs) (il : IsL K F xs ds) : WD K ω F (Itt K a) ds := by
  refine ⟨fun H => SqT K H a xs, YAt xs, by rw [← il.length]; exact walk_tup, fun H F1 e1 e2 => sqT_same e2 (sqT_same e1 h), fun i H v H' hi y => ?_⟩
  obtain ⟨rfl, y⟩ := y
  obtain ⟨d, hd, iv⟩ := il.getV y
  exact ⟨d, hd, fun F1 S1 r e => ⟨F1, Fr.refl, r, iv.mono e⟩⟩
theorem wd_str {K : PySem.W.Frag} {ω : World} {F : Hp} {s : Bs} : WD K ω F (Its (mkS s)) (s.map fun c => D.str [c]) := by
  refine ⟨fun _ => True, _, by
    have e : (s.map fun c => D.str [c]).length = (mkS s).cps.size := by simp [mkS]
    rw [e]; exact walk_str, fun _ _ _ _ => trivial, fun i H v H' hi y => ?_⟩
  obtain ⟨rfl, c, hc, rfl⟩ := y
  refine ⟨.str [c], ?_, fun F1 S1 r e => ⟨F1, Fr.refl, r, .str [c] (Nat.le_of_lt (small1000 (by simp)))⟩⟩
  have : s[i]? = some c := by simpa [mkS] using hc
  rw [List.getElem?_map, this]
  rfl
theorem rangeD_length : ∀ (n : Nat) (lo : Int), (rangeD lo n).length = n
  | 0, _ => rfl
  | n + 1, lo => by rw [rangeD, List.length_cons, rangeD_length n]
theorem rangeD_get : ∀ (n : Nat) (lo : Int) (i : Nat), i < n → (rangeD lo n)[i]? = some (.int (lo + i))
  | n + 1, lo, 0, _ => by simp [rangeD]
  | n + 1, lo, i + 1, h => by
    rw [rangeD, List.getElem?_cons_succ, rangeD_get n (lo + 1) i (by omega)]
    congr 2
    omega
theorem wd_range {K : PySem.W.Frag} {ω : World} {F : Hp} {lo : Int} {n : Nat} : WD K ω F (Itr lo n) (rangeD lo n) := by
  refine ⟨fun _ => True, _, by rw [rangeD_length]; exact walk_range, fun _ _ _ _ => trivial, fun i H v H' hi y => ?_⟩
  obtain ⟨rfl, rfl⟩ := y
  rw [rangeD_length] at hi
  exact ⟨_, rangeD_get n lo i hi, fun F1 S1 r e => ⟨F1, Fr.refl, r, .int _⟩⟩
theorem enumD_length : ∀ (ds : List D) (n : Nat), (enumD n ds).length = ds.length
  | [], _ => rfl
  | d :: r, n => by rw [enumD, List.length_cons, enumD_length r, List.length_cons]
theorem enumD_get : ∀ (ds : List D) (n i : Nat) (d : D), ds[i]? = some d → (enumD n ds)[i]? = some (.tup [.int ((n + i : Nat)), d])
  | d :: r, n, 0, _, h => by simp at h; subst h; simp [enumD]
  | d :: r, n, i + 1, e, h => by
    rw [enumD, List.getElem?_cons_succ, enumD_get r (n + 1) i e (by simpa using h), show n + 1 + i = n + (i + 1) by omega]
theorem wd_enum {K : PySem.W.Frag} {ω : World} {F : Hp} {a : Addr} {xs : List V} {ds : List D} (h : F a = some (.lst xs)) (il : IsL K F xs ds) : WD K ω F (Ite K a) (enumD 0 ds) := by
  refine ⟨fun H => SqL K H a xs, _, by rw [enumD_length, ← il.length]; exact walk_enum, fun H F1 e1 e2 => SqL.of (e2 _ _ (e1 _ _ h)), fun i H v H' hi y => ?_⟩
  obtain ⟨T, x, y, rfl, hT, rfl, hx, hy⟩ := y
  cases hx
  obtain ⟨d, hd, iv⟩ := il.getV hy
  have e0 := enumD_get ds 0 i d hd
  rw [Nat.zero_add] at e0
  refine ⟨_, e0, fun F1 S1 r e => ?_⟩
  obtain ⟨r2, f2⟩ := r.lay (o := .tup [.int (i : Nat), y]) hT
  exact ⟨_, f2, r2, .tup (.inl (.inl upd_same)) (Nat.le_of_lt (small1000 (by simp))) (.cons (.int _) (.cons ((iv.mono e).mono f2.ext) .nil))⟩
theorem walk_enumT {K : PySem.W.Frag} {a : Addr} {xs : List V} : Walk (IteT K a) xs.length (fun H => SqT K H a xs) (YPair (fun i => some (.int (i : Nat))) (fun i => xs[i]?)) := by
  refine ⟨fun i _ hi g => ⟨xs, xs[i], g, by simp [hi]⟩, fun _ g => ⟨xs, g, Nat.le_refl _⟩, fun i H v H' _ g y => ?_⟩
  obtain ⟨T, x, e1, e2, e3, e4⟩ := y
  exact ⟨T, .int (i : Nat), x, e1, e2, e3, rfl, e4 xs g⟩
theorem wd_enumT {K : PySem.W.Frag} {ω : World} {F : Hp} {a : Addr} {xs : List V} {ds : List D} (h : SqT K F a xs) (il : IsL K F xs ds) : WD K ω F (IteT K a) (enumD 0 ds) := by
  refine ⟨fun H => SqT K H a xs, _, by rw [enumD_length, ← il.length]; exact walk_enumT, fun H F1 e1 e2 => sqT_same e2 (sqT_same e1 h), fun i H v H' hi y => ?_⟩
  obtain ⟨T, x, y, rfl, hT, rfl, hx, hy⟩ := y
  cases hx
  obtain ⟨d, hd, iv⟩ := il.getV hy
  have e0 := enumD_get ds 0 i d hd
  rw [Nat.zero_add] at e0
  refine ⟨_, e0, fun F1 S1 r e => ?_⟩
  obtain ⟨r2, f2⟩ := r.lay (o := .tup [.int (i : Nat), y]) hT
  exact ⟨_, f2, r2, .tup (.inl (.inl upd_same)) (Nat.le_of_lt (small1000 (by simp))) (.cons (.int _) (.cons ((iv.mono e).mono f2.ext) .nil))⟩
theorem zipD_length : ∀ (a b : List D), (zipD a b).length = min a.length b.length
  | [], [] => rfl
  | [], _ :: _ => by simp [zipD]
  | _ :: _, [] => by simp [zipD]
  | x :: r, y :: s => by rw [zipD, List.length_cons, zipD_length r s, List.length_cons, List.length_cons]; omega
theorem zipD_get : ∀ (a b : List D) (i : Nat) (d e : D), a[i]? = some d → b[i]? = some e → (zipD a b)[i]? = some (.tup [d, e])
  | x :: r, y :: s, 0, d, e, h, k => by simp at h k; subst h k; simp [zipD]
  | x :: r, y :: s, i + 1, d, e, h, k => by
    rw [zipD, List.getElem?_cons_succ]
    exact zipD_get r s i d e (by simpa using h) (by simpa using k)
  | [], _, _, _, _, h, _ => by simp at h
  | _ :: _, [], _, _, _, _, k => by simp at k
theorem wd_zip {K : PySem.W.Frag} {ω : World} {F : Hp} {a b : Addr} {xs ys : List V} {ds es : List D} (h : F a = some (.lst xs)) (il : IsL K F xs ds) (h2 : F b = some (.lst ys)) (il2 : IsL K F ys es) : WD K ω F (Itz K a b) (zipD ds es) := by
  refine ⟨fun H => SqL K H a xs ∧ SqL K H b ys, _, walk_zip (n := (zipD ds es).length) (by rw [zipD_length, ← il.length, ← il2.length]), fun H F1 e1 e2 => ⟨SqL.of (e2 _ _ (e1 _ _ h)), SqL.of (e2 _ _ (e1 _ _ h2))⟩, fun i H v H' hi y => ?_⟩
  obtain ⟨T, x, y, rfl, hT, rfl, hx, hy⟩ := y
  obtain ⟨d, hd, iv⟩ := il.getV hx
  obtain ⟨d2, hd2, iv2⟩ := il2.getV hy
  refine ⟨_, zipD_get ds es i d d2 hd hd2, fun F1 S1 r e => ?_⟩
  obtain ⟨r2, f2⟩ := r.lay (o := .tup [x, y]) hT
  exact ⟨_, f2, r2, .tup (.inl (.inl upd_same)) (Nat.le_of_lt (small1000 (by simp))) (.cons ((iv.mono e).mono f2.ext) (.cons ((iv2.mono e).mono f2.ext) .nil))⟩
/-- what is walked by its value: a list, a tuple, a text -/
noncomputable def iAny (K : PySem.W.Frag) (tl : TE) : TI := fun σ H R => tl σ H fun x H1 => (∃ a, x = .ref a ∧ (∃ xs, SqL K H1 a xs) ∧ R (Itl K a) H1) ∨ (∃ a, x = .ref a ∧ (∃ xs, SqT K H1 a xs) ∧ R (Itt K a) H1) ∨ ∃ z, x = .str z ∧ R (Its z) H1
theorem pi_any {X : Cx} {tg l : Expr} {tl : TE} (hl : PE X l tl) : PI X tg l (iAny X.K tl) := by
  refine ⟨fun pins s σ H R I h => ?_⟩
  refine thn (hl.run pins s σ H _ I h) fun v s1 hv => ?_
  obtain ⟨x, H1, I1, r1, q⟩ := hv
  rcases q with ⟨a, ex, ⟨xs, hq⟩, q⟩ | ⟨a, ex, ⟨xs, hq⟩, q⟩ | ⟨z, ex, q⟩
  · subst ex
    cases r1
    obtain ⟨its, rv, p, hz⟩ := I1.list hq
    refine wpAny_pyIter_list p.isList ?_
    refine ⟨s1.heap.objs.size, [s1.heap.objs.size], _, _, H1, rfl, I1.kept (t' := s1.toks) fun b o e => Heap.get?_push_of_some _ e, turn_list a _, ⟨_, Heap.get?_push_size _ rfl, rfl, rfl⟩, fun b hb => ?_, q⟩
    have e : b = s1.heap.objs.size := by simpa using hb
    subst e
    exact I1.fpOk (Nat.le_refl _) (I1.hok.fresh (Nat.le_refl _))
  · subst ex
    cases r1
    obtain ⟨its, rv, p, hz⟩ := I1.tuple hq
    refine wpAny_pyIter_tuple (show s1.heap.IsTuple a its.toArray from p) ?_
    refine ⟨s1.heap.objs.size, [s1.heap.objs.size], _, _, H1, rfl, I1.kept (t' := s1.toks) fun b o e => Heap.get?_push_of_some _ e, turn_tuple a _, ⟨_, Heap.get?_push_size _ rfl, rfl, rfl⟩, fun b hb => ?_, q⟩
    have e : b = s1.heap.objs.size := by simpa using hb
    subst e
    exact I1.fpOk (Nat.le_refl _) (I1.hok.fresh (Nat.le_refl _))
  · subst ex
    obtain ⟨t, rfl⟩ := r1
    cases ha : z.cps.all (· < 128)
    · exact wpAny_pyIter_wide ha (pi_one (tk := s1.toks) I1 _ (turn_str _ z t "str_iterator" (.inr rfl)) ⟨_, Heap.get?_push_size _ rfl, rfl, rfl⟩ q)
    · exact wpAny_pyIter_ascii ha (pi_one (tk := s1.toks) I1 _ (turn_str _ z t "str_ascii_iterator" (.inl rfl)) ⟨_, Heap.get?_push_size _ rfl, rfl, rfl⟩ q)
theorem SI.over {tg : Expr} (ha : SE B Y W C xq a wa) : SI B Y W C xq tg a (fun ρ St q => wa ρ St fun x S1 => match x with
    | .tup ds => q ds S1
    | .lst ds => q ds S1
    | .str s => q (s.map fun c => .str [c]) S1
    | .opq ns none [] => q (ns.map .int) S1
    | _ => False) := by
  obtain ⟨ta, pa, ka⟩ := ha.ex
  refine ⟨⟨iAny B.K ta, fun δ hδ => pi_any (X := cx B δ) (pa δ hδ), fun ρ St F σ H q R r e x w k => ?_⟩⟩
  refine ka ρ St F σ H _ _ r e x w fun d S1 F1 v H1 f1 r1 i1 w1 => ?_
  cases i1 with
  | @tup p xs ds hx z il => exact .inr (.inl ⟨p, rfl, ⟨xs, sqT_same r1.sub hx⟩, k ds S1 F1 H1 _ f1 r1 (wd_tup hx il) (by rw [← il.length]; exact z) w1⟩)
  | @lst p xs ds hx z il => exact .inl ⟨p, rfl, ⟨xs, SqL.of (r1.sub _ _ hx)⟩, k ds S1 F1 H1 _ f1 r1 (wd_list hx il) (by rw [← il.length]; exact z) w1⟩
  | str s z => exact .inr (.inr ⟨mkS s, rfl, k _ S1 F1 H1 _ f1 r1 wd_str (by rw [List.length_map]; exact z) w1⟩)
  | @scr p ns hx z => exact .inl ⟨p, rfl, ⟨ns.map V.int, sqL_same r1.sub hx⟩, k _ S1 F1 H1 _ f1 r1 (wd_seq hx isl_ints) (by rw [List.length_map]; exact z) w1⟩
  | _ => exact False.elim w1
theorem SI.rng1 {tg : Expr} {p : Pos} (hg : ∀ δ, Y δ → Gl (cx B δ) "range") (hm : B.mg "range" = none) (ha : SE B Y W C xq a wa) (st : notStar a = true) :
    SI B Y W C xq tg (.Call (.Name "range" p) [a] [] pos) (fun ρ St q => wa ρ St fun x S1 => match x with | .int j => (j ≤ 16777216 ∧ -(2 ^ 62) ≤ j) ∧ q (rangeD 0 j.toNat) S1 | _ => False) := by
  obtain ⟨ta, pa, ka⟩ := ha.ex
  refine ⟨⟨iRng1 (tCons ta tNil), fun δ hδ => pi_range1 (hg δ hδ) hm (pa_cons (pa δ hδ) pa_nil (star_cons st _)) (by rw [star_cons st]; rfl), fun ρ St F σ H q R r e x w k => ?_⟩⟩
  refine ka ρ St F σ H _ _ r e x w fun d S1 F1 v H1 f1 r1 i1 w1 => ?_
  cases i1 with
  | int j =>
    obtain ⟨⟨h1, h2⟩, w1⟩ := w1
    exact ⟨j, rfl, h2, by omega, k _ S1 F1 H1 _ f1 r1 wd_range (by rw [rangeD_length, sizeLine_eq]; omega) w1⟩
  | _ => exact False.elim w1
theorem SI.rng2 {tg : Expr} {p : Pos} (hg : ∀ δ, Y δ → Gl (cx B δ) "range") (hm : B.mg "range" = none) (ha : SE B Y W C xq a wa) (hb : SE B Y W C xq b wb) (st : notStar a = true) (st2 : notStar b = true) :
    SI B Y W C xq tg (.Call (.Name "range" p) [a, b] [] pos) (fun ρ St q => wa ρ St fun x S1 => wb ρ S1 fun y S2 => match x, y with
      | .int i, .int j => (-(2 ^ 62) ≤ i ∧ i < 2 ^ 62 ∧ -(2 ^ 62) ≤ j ∧ j < 2 ^ 62 ∧ j - i ≤ 16777216) ∧ q (rangeD i (j - i).toNat) S2
      | _, _ => False) := by
  obtain ⟨ta, pa, ka⟩ := ha.ex
  obtain ⟨tb, pb, kb⟩ := hb.ex
  refine ⟨⟨iRng2 (tCons ta (tCons tb tNil)), fun δ hδ => pi_range2 (hg δ hδ) hm (pa_cons (pa δ hδ) (pa_cons (pb δ hδ) pa_nil (star_cons st2 _)) (star_cons st _)) (by rw [star_cons st, star_cons st2]; rfl) (by rw [star_cons st2]; rfl), fun ρ St F σ H q R r e x w k => ?_⟩⟩
  refine ka ρ St F σ H _ _ r e x w fun d S1 F1 v H1 f1 r1 i1 w1 => ?_
  refine kb ρ S1 F1 σ H1 _ _ r1 (e.mono f1.ext) (x.step f1) w1 fun d2 S2 F2 v2 H2 f2 r2 i2 w2 => ?_
  cases i1 with
  | int i => cases i2 with
    | int j =>
      obtain ⟨⟨h1, h2, h3, h4, h5⟩, w2⟩ := w2
      exact ⟨i, j, rfl, ⟨h1, h2, h3, h4⟩, k _ S2 F2 H2 _ (f1.trans f2) r2 wd_range (by rw [rangeD_length, sizeLine_eq]; omega) w2⟩
    | _ => exact False.elim w2
  | _ => exact False.elim (by cases d2 <;> exact w2)
theorem SI.enum {es : List Expr} {kk : Nat} {tpos p : Pos} (hg : ∀ δ, Y δ → Gl (cx B δ) "enumerate") (hm : B.mg "enumerate" = none) (ha : SE B Y W C xq a wa) (st : notStar a = true) :
    SI B Y W C xq (.Tuple es kk tpos) (.Call (.Name "enumerate" p) [a] [] pos) (fun ρ St q => wa ρ St fun x S1 => match x with | .lst ds => q (enumD 0 ds) S1 | .tup ds => q (enumD 0 ds) S1 | _ => False) := by
  obtain ⟨ta, pa, ka⟩ := ha.ex
  refine ⟨⟨iEnumA B.K (tCons ta tNil), fun δ hδ => pi_enumA (X := cx B δ) (hg δ hδ) hm (pa_cons (pa δ hδ) pa_nil (star_cons st _)) (by rw [star_cons st]; rfl), fun ρ St F σ H q R r e x w k => ?_⟩⟩
  refine ka ρ St F σ H _ _ r e x w fun d S1 F1 v H1 f1 r1 i1 w1 => ?_
  cases i1 with
  | @lst p xs ds hx z il => exact .inl ⟨p, xs, rfl, SqL.of (r1.sub _ _ hx), k _ S1 F1 H1 _ f1 r1 (wd_enum hx il) (by rw [enumD_length, ← il.length]; exact z) w1⟩
  | @tup p xs ds hx z il => exact .inr ⟨p, xs, rfl, sqT_same r1.sub hx, k _ S1 F1 H1 _ f1 r1 (wd_enumT hx il) (by rw [enumD_length, ← il.length]; exact z) w1⟩
  | _ => exact False.elim w1
theorem SI.zip {es : List Expr} {kk : Nat} {tpos p : Pos} (hg : ∀ δ, Y δ → Gl (cx B δ) "zip") (hm : B.mg "zip" = none) (ha : SE B Y W C xq a wa) (hb : SE B Y W C xq b wb) (st : notStar a = true) (st2 : notStar b = true) :
    SI B Y W C xq (.Tuple es kk tpos) (.Call (.Name "zip" p) [a, b] [] pos) (fun ρ St q => wa ρ St fun x S1 => wb ρ S1 fun y S2 => match x, y with
      | .lst ds, .lst es => q (zipD ds es) S2
      | _, _ => False) := by
  obtain ⟨ta, pa, ka⟩ := ha.ex
  obtain ⟨tb, pb, kb⟩ := hb.ex
  refine ⟨⟨iZip B.K (tCons ta (tCons tb tNil)), fun δ hδ => pi_zip (X := cx B δ) (hg δ hδ) hm (pa_cons (pa δ hδ) (pa_cons (pb δ hδ) pa_nil (star_cons st2 _)) (star_cons st _)) (by rw [star_cons st, star_cons st2] <;> rfl) (by rw [star_cons st2] <;> rfl), fun ρ St F σ H q R r e x w k => ?_⟩⟩
  refine ka ρ St F σ H _ _ r e x w fun d S1 F1 v H1 f1 r1 i1 w1 => ?_
  refine kb ρ S1 F1 σ H1 _ _ r1 (e.mono f1.ext) (x.step f1) w1 fun d2 S2 F2 v2 H2 f2 r2 i2 w2 => ?_
  have i1' := i1.mono f2.ext
  cases i1' with
  | @lst p xs ds hx z il => cases i2 with
    | @lst p2 ys es hy z2 il2 =>
      exact ⟨p, p2, xs, ys, rfl, SqL.of (r2.sub _ _ hx), SqL.of (r2.sub _ _ hy), k _ S2 F2 H2 _ (f1.trans f2) r2 (wd_zip hx il hy il2) (by rw [zipD_length, ← il.length]; omega) w2⟩
    | _ => exact False.elim w2
  | _ => exact False.elim (by cases d2 <;> exact w2)
end
end DL
/-! DL7: comprehensions, displays of dicts over data. -/
namespace DL
open PySem PySem.Spec PyProof.Rows L2
variable [TBS]
section
variable {K : PySem.W.Frag} {ω : World} {F H : Hp} {St : Sto}
/-- a cell of one's own, neither frozen nor in the store -/
theorem SR.priv (r : SR K ω F St H) {p : Addr} {o : HO} (hf : F p = none) (hs : St p = none) (ht : ∀ q ∈ TBS.T, q.1 ≠ p) : SR K ω F St (upd H p o) :=
  ⟨fun b u e => by rw [upd_ne (ne_of_none e hf)]; exact r.sub _ _ e, fun a u e => by
    have na : a ≠ p := fun z => by subst z; rw [hs] at e; cases e
    obtain ⟨x, y⟩ := r.own a u e
    exact ⟨x, y.at (upd_ne na)⟩, fun pt hpt => by
    obtain ⟨t1, t2, t3⟩ := r.tabs pt hpt
    have na : pt.1 ≠ p := ht pt hpt
    exact ⟨t1, t2, t3.mono (Same.refl _) (upd_ne na)⟩⟩
theorem SR.notab (r : SR K ω F St H) {p : Addr} (h : H p = none) : ∀ q ∈ TBS.T, q.1 ≠ p := fun q hq => by
  obtain ⟨_, _, ps, h1, _⟩ := r.tabs q hq
  exact ne_of_none h1 h
theorem SR.notabO (r : SR K ω F St H) {p : Addr} {o : HO} (h : H p = some o) (nt : notTbl o) : ∀ q ∈ TBS.T, q.1 ≠ p := fun q hq z => by
  obtain ⟨_, _, ps, h1, _⟩ := r.tabs q hq
  rw [z, h] at h1
  exact nt ps (Option.some.inj h1)
theorem nt_lst {xs : List V} : notTbl (.lst xs) := fun _ h => by cases h
theorem nt_dK {xs : List (Key × V)} : notTbl (.dK xs) := fun _ h => by cases h
theorem Fr.priv {F1 H1 : Hp} {S1 : Sto} (f : Fr F1 S1 H1 F St H) {p : Addr} {o : HO} (h : H1 p = none) : Fr F1 S1 H1 F St (upd H p o) :=
  ⟨f.ext, fun a u e n nt => by
    obtain ⟨x, y, z⟩ := f.keep a u e n nt
    exact ⟨by rw [upd_ne (ne_of_none e h)]; exact x, y, z⟩⟩
/-- .. becomes frozen at the end -/
theorem SR.seal (r : SR K ω F St H) {p : Addr} {o : HO} (hf : F p = none) (hs : St p = none) (h : H p = some o) (nt : notTbl o) : SR K ω (upd F p o) St H :=
  ⟨fun b u e => by
    by_cases hb : b = p
    · subst hb; rw [upd_same] at e; rw [h]; exact e
    · rw [upd_ne hb] at e; exact r.sub _ _ e, fun a u e => by
    have na : a ≠ p := fun z => by subst z; rw [hs] at e; cases e
    obtain ⟨x, y⟩ := r.own a u e
    exact ⟨by rw [upd_ne na]; exact x, y.mono fun b u e => by rw [upd_ne (ne_of_none e hf)]; exact e⟩, fun pt hpt => by
    obtain ⟨t1, t2, t3⟩ := r.tabs pt hpt
    obtain ⟨ps, h1, _⟩ := t3
    have na : pt.1 ≠ p := fun z => by rw [z, h] at h1; exact nt ps (Option.some.inj h1)
    exact ⟨by rw [upd_ne na]; exact t1, t2, (r.tabs pt hpt).2.2.mono (fun b u e => by rw [upd_ne (ne_of_none e hf)]; exact e) rfl⟩⟩
theorem Fr.seal {F1 H1 : Hp} {S1 : Sto} (f : Fr F1 S1 H1 F St H) {p : Addr} {o : HO} (h : H1 p = none) (hf : F p = none) : Fr F1 S1 H1 (upd F p o) St H :=
  ⟨f.ext.trans fun b u e => by rw [upd_ne (ne_of_none e hf)]; exact e, fun a u e n nt => by
    obtain ⟨x, y, z⟩ := f.keep a u e n nt
    exact ⟨x, y, fun g => by rw [upd_ne (ne_of_none e h)]; exact z g⟩⟩
end
/-- a cell of one's own joins the store -/
theorem SR.adopt {K : PySem.W.Frag} {ω : World} {F H : Hp} {St : Sto} (r : SR K ω F St H) {p : Addr} {q : DO} (hf : F p = none) (hs : St p = none) (hq : OIs K ω F H p q) {F0 H0 : Hp} {S0 : Sto} (f : Fr F0 S0 H0 F St H) (h0 : H0 p = none) (ht : ∀ q ∈ TBS.T, q.1 ≠ p) : SR K ω F (ups St p q) H ∧ Fr F0 S0 H0 F (ups St p q) H := by
  refine ⟨⟨r.sub, fun a u e => ?_, fun pt hpt => ?_⟩, f.ext, fun a u e n nt => ?_⟩
  · by_cases hb : a = p
    · subst hb
      unfold ups at e
      rw [if_pos rfl] at e
      cases e
      exact ⟨hf, hq⟩
    · unfold ups at e
      rw [if_neg hb] at e
      exact r.own a u e
  · obtain ⟨t1, t2, t3⟩ := r.tabs pt hpt
    have na : pt.1 ≠ p := ht pt hpt
    exact ⟨t1, by unfold ups; rw [if_neg na]; exact t2, t3⟩
  · obtain ⟨x, y, z⟩ := f.keep a u e n nt
    have na : a ≠ p := ne_of_none e h0
    exact ⟨x, by unfold ups; rw [if_neg na]; exact y, z⟩
/-- the blocks of a comprehension -/
noncomputable def blkY (Y : Dl → Prop) (scope : Scope) : Dl → Prop := fun δ' => ∃ δ s H C cl fp, Y δ ∧
  δ' = { δ with s_0 := s, H_0 := H, env := compEnvC scope cl C δ.env, outer := δ.stack, ex := fp, fn := fun x => scope.names.lookup x == some .cell, pn := [], xe := fun _ _ => False }
noncomputable abbrev W0 : WX := fun _ _ _ _ => False
noncomputable abbrev xq0 : QX := fun _ _ _ => False
theorem eq0 {K : PySem.W.Frag} {ω : World} {C : XC} {F H : Hp} {St : Sto} {σ : L2.St} : EQ K ω W0 C xq0 F St H σ := fun _ _ _ _ _ _ _ _ _ z => z
structure STs (B : Bx) (Y : Dl → Prop) (W : WX) (C : XC) (xq : QX) (xs : List Expr) (w : Env → Sto → (Bool → Sto → Prop) → Prop) : Prop where
  ex : ∃ t : TT, (∀ δ, Y δ → PTs (cx B δ) xs t) ∧ ∀ (ρ : Env) (St : Sto) (F : Hp) (σ : L2.St) (H : Hp) (q : Bool → Sto → Prop) (Q : Bool → Hp → Prop), SR B.K B.w F St H → RE B.K F ρ σ → EQ B.K B.w W C xq F St H σ → w ρ St q →
    (∀ b S' F' H', Fr F St H F' S' H' → SR B.K B.w F' S' H' → q b S' → Q b H') → t σ H Q
section
variable {B : Bx} {Y : Dl → Prop} {W : WX} {C : XC} {xq : QX} {a b c : Expr} {wa wb wc : Env → Sto → QD → Prop} {pos : Pos}
theorem STs.nil : STs B Y W C xq [] (fun _ St q => q true St) := ⟨⟨tYes, fun δ hδ => pts_nil, fun ρ St F σ H q Q r e x w k => k _ St F H Fr.refl r w⟩⟩
theorem STs.one {t : Env → Sto → (Bool → Sto → Prop) → Prop} (h : ST B Y W C xq a t) : STs B Y W C xq [a] t := by
  obtain ⟨tt, p, k⟩ := h.ex
  exact ⟨⟨tt, fun δ hδ => pts_one (p δ hδ), k⟩⟩
theorem wipe_wipe {σ : L2.St} {vs : List Nat} : wipe (wipe σ vs) vs = wipe σ vs := by
  have gen : ∀ us : List Nat, (∀ i ∈ us, i ∈ vs) → wipe (wipe σ us) vs = wipe σ vs := by
    intro us
    induction us with
    | nil => intro _; rfl
    | cons u us ih =>
      intro h
      rw [show wipe σ (u :: us) = (wipe σ us).set u none from rfl, wipe_set (h u List.mem_cons_self)]
      exact ih fun i hi => h i (List.mem_cons_of_mem _ hi)
  exact gen vs fun _ h => h
omit [TBS] in
theorem drop_at {α : Type} {xs : List α} {i : Nat} {x : α} (h : xs[i]? = some x) : xs.drop i = x :: xs.drop (i + 1) := by
  obtain ⟨hi, e⟩ := List.getElem?_eq_some_iff.mp h
  rw [List.drop_eq_getElem_cons hi, e]
/-- a comprehension: as a value, given to a name, what it reads -/
theorem lc_ex {elt tg iter : Expr} {ifs : List Expr} {scope : Scope} {own : List (Str × Nat)} {vs : List Nat} {wi : Env → Sto → (List D → Sto → Prop) → Prop} {bd : D → Env → (Env → Prop) → Prop} {wt : Env → Sto → (Bool → Sto → Prop) → Prop} {we : Env → Sto → QD → Prop}
    (cl : ∀ δ, Y δ → δ.calm = true) (hN : B.N.Nodup) (hi : SI B Y W C xq tg iter wi) (ok : ∀ δ, Y δ → BlkOk B.N δ.env.scope scope own) (ho : own.map (·.2) = vs)
    (hg : SG B (blkY Y scope) tg vs bd) (ht : STs B (blkY Y scope) W0 C xq0 ifs wt) (he : SE B (blkY Y scope) W0 C xq0 elt we) (hs : notSet iter = true) :
    ∃ t : TE, (∀ δ, Y δ → PE (cx B δ) (.ListComp elt [⟨tg, iter, ifs, 0⟩] scope pos) t) ∧
      (∀ δ, Y δ → ∀ (i : Nat) (y : Str) (py spos : Pos), B.N[i]? = some y → δ.env.scope.names.lookup y = some .local → δ.env.scope.kind = .function → (py.line == pos.line) = true → (scope.names.any fun (n, k) => n == y && (k == .local || k == .cell)) = false →
        PS (cx B δ) (.Assign [.Name y py] (.ListComp elt [⟨tg, iter, ifs, 0⟩] scope pos) spos) (tAsg t (gName i))) ∧
      ∀ (ρ : Env) (St : Sto) (F : Hp) (σ : L2.St) (H : Hp) (q : QD) (Q : VK), SR B.K B.w F St H → RE B.K F ρ σ → EQ B.K B.w W C xq F St H σ → (wi ρ St fun ds S1 =>
        loopL (fun d S2 k => bd d (wip ρ vs) fun ρ' => wt ρ' S2 fun b S3 => if b = true then we ρ' S3 fun y S4 => k [y] S4 else k [] S3) ds S1 fun ys S2 => q (.lst ys) S2) →
        (∀ d S' F' v H', Fr F St H F' S' H' → SR B.K B.w F' S' H' → Is B.K F' v d → q d S' → Q v H') → t σ H Q := by
  subst ho
  obtain ⟨ti, pi, ki⟩ := hi.ex
  obtain ⟨g, pg, kg⟩ := hg.ex
  obtain ⟨tt, pt, kt⟩ := ht.ex
  obtain ⟨te, pe, ke⟩ := he.ex
  refine ⟨tLc ti g tt te (own.map (·.2)), fun δ hδ => pe_lc (X := cx B δ) (cl δ hδ) hN (pi δ hδ) (ok δ hδ) (fun s H C cl fp => pg _ ⟨δ, s, H, C, cl, fp, hδ, rfl⟩) (fun s H C cl fp => pt _ ⟨δ, s, H, C, cl, fp, hδ, rfl⟩) (fun s H C cl fp => pe _ ⟨δ, s, H, C, cl, fp, hδ, rfl⟩) (folded_set hs _),
    fun δ hδ i y py spos hy hyl hk hl ha => ps_setLc (X := cx B δ) (cl δ hδ) hN hy hyl (sw_true hk hyl hl ha) (pi δ hδ) (ok δ hδ) (fun s H C cl fp => pg _ ⟨δ, s, H, C, cl, fp, hδ, rfl⟩) (fun s H C cl fp => pt _ ⟨δ, s, H, C, cl, fp, hδ, rfl⟩) (fun s H C cl fp => pe _ ⟨δ, s, H, C, cl, fp, hδ, rfl⟩) (folded_set hs _), fun ρ St F σ H q Q r e x w k => ?_⟩
  refine ki ρ St F σ H _ _ r e x w fun ds S1 F1 H1 J f1 r1 wd hz w1 => ?_
  intro L hL
  obtain ⟨G, Yd, wk, hG, hY⟩ := wd
  obtain ⟨hFL, hSL⟩ := r1.fresh hL
  refine lc_it wk (fun i H2 => ∃ (acc : List V) (ys : List D) (S2 : Sto) (F2 : Hp), H2 L = some (.lst acc) ∧ acc.length ≤ i ∧ IsL B.K F2 acc ys ∧ F2 L = none ∧ S2 L = none ∧ Fr F1 S1 H1 F2 S2 H2 ∧ SR B.K B.w F2 S2 H2 ∧
      loopL (fun d S2 k => bd d (wip ρ (own.map (·.2))) fun ρ' => wt ρ' S2 fun b S3 => if b = true then we ρ' S3 fun y S4 => k [y] S4 else k [] S3) (ds.drop i) S2 fun zs S3 => q (.lst (ys ++ zs)) S3)
    ⟨[], [], S1, F1, upd_same, Nat.le_refl _, .nil, hFL, hSL, Fr.refl.priv hL, r1.priv hFL hSL (r1.notab hL), w1⟩
    (fun i H2 _ ⟨_, _, _, _, _, _, _, _, _, f2, r2, _⟩ => hG H2 _ f2.ext r2.sub) ?_ ?_
  · rintro i v H2 H3 hi ⟨acc, ys, S2, F2, hD, hl, il, hF, hS, f2, r2, w2⟩ y
    obtain ⟨d, hd, hy⟩ := hY i H2 v H3 hi y
    obtain ⟨F3, f3, r3, iv⟩ := hy F2 S2 r2 f2.ext
    rw [drop_at hd] at w2
    obtain ⟨hD3, hS3, hF3⟩ := f3.keep L _ hD hS nt_lst
    have hF3 := hF3 hF
    have e3 : RE B.K F3 (wip ρ (own.map (·.2))) (wipe σ (own.map (·.2))) := ((e.mono f1.ext).mono ((f2.trans f3).ext)).wip _
    refine kg d _ (wipe σ (own.map (·.2))) v F3 S2 H3 _ _ iv r3 e3 w2 ?_
    intro ρ' σ' e4 sl w4
    refine ⟨?_, ?_⟩
    · exact (sl _ fun _ h => h).trans wipe_wipe
    · refine kt ρ' S2 F3 σ' H3 _ _ r3 e4 eq0 w4 fun b S5 F5 H5 f5 r5 w5 => ?_
      obtain ⟨hD5, hS5, hF5⟩ := f5.keep L _ hD3 hS3 nt_lst
      have hF5 := hF5 hF3
      have f15 := (f2.trans f3).trans f5
      cases b with
      | false =>
        exact ⟨acc, ys, S5, F5, hD5, by omega, (il.mono f3.ext).mono f5.ext, hF5, hS5, f15, r5, w5⟩
      | true =>
        refine ke ρ' S5 F5 σ' H5 _ _ r5 (e4.mono f5.ext) eq0 w5 fun d6 S6 F6 v6 H6 f6 r6 i6 w6 => ?_
        obtain ⟨hD6, hS6, hF6⟩ := f6.keep L _ hD5 hS5 nt_lst
        have hF6 := hF6 hF5
        refine ⟨acc, hD6, Nat.lt_of_le_of_lt hl (Nat.lt_of_lt_of_le hi hz), acc ++ [v6], ys ++ [d6], S6, F6, upd_same, by rw [List.length_append, List.length_singleton]; omega,
          (((il.mono f3.ext).mono f5.ext).mono f6.ext).snoc i6, hF6, hS6, (f15.trans f6).priv hL, r6.priv hF6 hS6 (r6.notabO hD6 nt_lst), ?_⟩
        have : (fun (zs : List D) (S3 : Sto) => q (.lst (ys ++ [d6] ++ zs)) S3) = fun zs S3 => q (.lst (ys ++ ([d6] ++ zs))) S3 := by
          funext zs S3
          rw [List.append_assoc]
        rw [this]
        exact w6
  · rintro H2 ⟨acc, ys, S2, F2, hD, hl, il, hF, hS, f2, r2, w2⟩
    rw [List.drop_length] at w2
    have w2 : q (.lst (ys ++ [])) S2 := w2
    rw [List.append_nil] at w2
    have f3 : Fr F1 S1 H1 (upd F2 L (.lst acc)) S2 H2 := f2.seal hL hF
    refine k _ S2 _ _ H2 (f1.trans f3) (r2.seal hF hS hD nt_lst) (.lst upd_same (Nat.le_trans hl hz) (il.mono fun b u e => by rw [upd_ne (ne_of_none e hF)]; exact e)) w2
theorem SE.lc {elt tg iter : Expr} {ifs : List Expr} {scope : Scope} {own : List (Str × Nat)} {vs : List Nat} {wi : Env → Sto → (List D → Sto → Prop) → Prop} {bd : D → Env → (Env → Prop) → Prop} {wt : Env → Sto → (Bool → Sto → Prop) → Prop} {we : Env → Sto → QD → Prop}
    (cl : ∀ δ, Y δ → δ.calm = true) (hN : B.N.Nodup) (hi : SI B Y W C xq tg iter wi) (ok : ∀ δ, Y δ → BlkOk B.N δ.env.scope scope own) (ho : own.map (·.2) = vs)
    (hg : SG B (blkY Y scope) tg vs bd) (ht : STs B (blkY Y scope) W0 C xq0 ifs wt) (he : SE B (blkY Y scope) W0 C xq0 elt we) (hs : notSet iter = true) :
    SE B Y W C xq (.ListComp elt [⟨tg, iter, ifs, 0⟩] scope pos) (fun ρ St q => wi ρ St fun ds S1 =>
      loopL (fun d S2 k => bd d (wip ρ vs) fun ρ' => wt ρ' S2 fun b S3 => if b = true then we ρ' S3 fun y S4 => k [y] S4 else k [] S3) ds S1 fun ys S2 => q (.lst ys) S2) := by
  obtain ⟨t, h1, _, h3⟩ := lc_ex (pos := pos) cl hN hi ok ho hg ht he hs
  exact ⟨⟨t, h1, h3⟩⟩
/-! ### displays of dicts -/
structure SPp (B : Bx) (Y : Dl → Prop) (W : WX) (C : XC) (xq : QX) (pos : Pos) (ks : List (Option Expr)) (es : List Expr) (w : Env → Sto → (List D → Sto → Prop) → Prop) : Prop where
  ex : ∃ t : List (TE × TE), (∀ δ, Y δ → PPs (cx B δ) pos ks es t) ∧ ks.length = es.length ∧ ks.all (·.isSome) = true ∧ ∀ (ρ : Env) (St : Sto) (F : Hp) (σ : L2.St) (H : Hp) (q : List D → Sto → Prop) (Q : List (V × V) → Hp → Prop), SR B.K B.w F St H → RE B.K F ρ σ → EQ B.K B.w W C xq F St H σ → w ρ St q →
    (∀ ds S' F' H' ps, Fr F St H F' S' H' → SR B.K B.w F' S' H' → IsL B.K F' (ps.flatMap fun p => [p.1, p.2]) ds → ps.length = es.length → q ds S' → Q ps H') → tPairs t σ H Q
theorem SPp.nil : SPp B Y W C xq pos [] [] (fun _ St q => q [] St) := ⟨⟨[], fun δ hδ => pps_nil, rfl, rfl, fun ρ St F σ H q Q r e x w k => k [] St F H [] Fr.refl r .nil rfl w⟩⟩
theorem SPp.cons {ks : List (Option Expr)} {es : List Expr} {ws : Env → Sto → (List D → Sto → Prop) → Prop} (ha : SE B Y W C xq a wa) (hb : SE B Y W C xq b wb) (hr : SPp B Y W C xq pos ks es ws) :
    SPp B Y W C xq pos (some a :: ks) (b :: es) (fun ρ St q => wa ρ St fun x S1 => wb ρ S1 fun y S2 => ws ρ S2 fun ds S3 => q (x :: y :: ds) S3) := by
  obtain ⟨ta, pa, ka⟩ := ha.ex
  obtain ⟨tb, pb, kb⟩ := hb.ex
  obtain ⟨tr, pr, lr, sr, kr⟩ := hr.ex
  refine ⟨⟨(ta, tb) :: tr, fun δ hδ => pps_cons (pa δ hδ) (pb δ hδ) (pr δ hδ), by rw [List.length_cons, List.length_cons, lr], by rw [List.all_cons, sr]; rfl, fun ρ St F σ H q Q r e x w k => ?_⟩⟩
  refine ka ρ St F σ H _ _ r e x w fun d S1 F1 v H1 f1 r1 i1 w1 => ?_
  refine kb ρ S1 F1 σ H1 _ _ r1 (e.mono f1.ext) (x.step f1) w1 fun d2 S2 F2 v2 H2 f2 r2 i2 w2 => ?_
  refine kr ρ S2 F2 σ H2 _ _ r2 ((e.mono f1.ext).mono f2.ext) ((x.step f1).step f2) w2 fun ds S3 F3 H3 ps f3 r3 i3 l3 w3 => ?_
  exact k _ S3 F3 H3 ((v, v2) :: ps) ((f1.trans f2).trans f3) r3 (.cons ((i1.mono f2.ext).mono f3.ext) (.cons (i2.mono f3.ext) i3)) (by rw [List.length_cons, List.length_cons, l3]) w3
theorem merge_new : ∀ (l acc : List (Key × V)), (l.map (·.1)).Nodup → (∀ p ∈ l, valV acc p.1 = none) → mergeK acc l = acc ++ l
  | [], acc, _, _ => by rw [List.append_nil]; rfl
  | p :: r, acc, nd, h => by
    show mergeK (putK acc p.1 p.2) r = _
    rw [putK_new p.2 (h p List.mem_cons_self), merge_new r (acc ++ [(p.1, p.2)]) (List.nodup_cons.mp nd).2 fun q hq => ?_]
    · rw [List.append_assoc]; rfl
    · rw [valV_snoc p.1 q.1 p.2 acc (h p List.mem_cons_self), if_neg fun e => (List.nodup_cons.mp nd).1 (by show p.1 ∈ _; rw [← e]; exact List.mem_map_of_mem hq)]
      exact h q (List.mem_cons_of_mem _ hq)
theorem pairs_of {K : PySem.W.Frag} {F : Hp} : ∀ {ps : List (V × V)} {ds : List D} {kds : List (D × D)}, IsL K F (ps.flatMap fun p => [p.1, p.2]) ds → pairsD ds = some kds → (kds.map (·.1)).all isKey = true →
    ∃ kvs : List (Key × V), ps = kvs.map (fun kv => (kV kv.1, kv.2)) ∧ IsM K F kvs kds ∧ kvs.length = ps.length
  | [], _, kds, h, e, _ => by
    cases h
    cases e
    exact ⟨[], rfl, .nil, rfl⟩
  | (x, y) :: ps, _, kds, h, e, a => by
    have h' : IsL K F (x :: y :: ps.flatMap fun p => [p.1, p.2]) _ := h
    cases h' with
    | @cons _ _ d1 _ i1 t => cases t with
      | @cons _ _ d2 ds i2 t =>
        simp only [pairsD, Option.map_eq_some_iff] at e
        obtain ⟨kds', e1, e2⟩ := e
        subst e2
        rw [List.map_cons, List.all_cons, Bool.and_eq_true] at a
        obtain ⟨k, rfl, rfl⟩ := isKey_of i1 a.1
        obtain ⟨kvs, e3, m, l⟩ := pairs_of t e1 a.2
        exact ⟨(k, y) :: kvs, by rw [e3]; rfl, .cons i2 m, by rw [List.length_cons, l, List.length_cons]⟩
theorem keys_nodup {K : PySem.W.Frag} {F : Hp} {kvs : List (Key × V)} {kds : List (D × D)} (m : IsM K F kvs kds) (nd : (kds.map (·.1)).Nodup) : (kvs.map (·.1)).Nodup := by
  have : ∀ {kvs : List (Key × V)} {ds : List (D × D)}, IsM K F kvs ds → ds.map (·.1) = (kvs.map (·.1)).map kD := by
    intro kvs ds h
    induction kvs generalizing ds with
    | nil => cases h; rfl
    | cons p r ih => cases h with
      | cons h t => rw [List.map_cons, List.map_cons, List.map_cons, ih t]
  rw [this m] at nd
  exact (List.pairwise_map.mp nd).imp fun h e => h (congrArg _ e)
/-- {k: v, ..}, kept as it is -/
theorem SE.dct {ks : List (Option Expr)} {es : List Expr} {ws : Env → Sto → (List D → Sto → Prop) → Prop} (h : SPp B Y W C xq pos ks es ws) (h0 : ks ≠ []) (h15 : ks.length ≤ 15) :
    SE B Y W C xq (.Dict ks es pos) (fun ρ St q => ws ρ St fun ds S1 => ∃ kvs, pairsD ds = some kvs ∧ (kvs.map (·.1)).all isKey = true ∧ (kvs.map (·.1)).Nodup ∧ q (.dct kvs) S1) := by
  obtain ⟨t, p, l, sm, kk⟩ := h.ex
  refine ⟨⟨tDisp t, fun δ hδ => pe_disp (p δ hδ) sm l h0 h15, fun ρ St F σ H q Q r e x w k L hL => ?_⟩⟩
  obtain ⟨hFL, hSL⟩ := r.fresh hL
  have r0 : SR B.K B.w F St (upd H L (.dK [])) := r.priv hFL hSL (r.notab hL)
  have f0 : Fr F St H F St (upd H L (.dK [])) := Fr.refl.priv hL
  refine kk ρ St F σ _ _ _ r0 e (x.step f0) w fun ds S1 F1 H1 ps f1 r1 il lp w1 => ?_
  obtain ⟨hD, hS, hF⟩ := f1.keep L _ upd_same hSL nt_dK
  have hF := hF hFL
  obtain ⟨kds, hp, ha, nd, w1⟩ := w1
  obtain ⟨kvs, e1, m, lk⟩ := pairs_of il hp ha
  refine ⟨hD, kvs, e1, by rw [lk, lp, ← l]; exact h15, ?_⟩
  have nk := keys_nodup m nd
  rw [merge_new kvs [] nk fun _ _ => rfl, List.nil_append]
  have r2 : SR B.K B.w F1 S1 (upd H1 L (.dK kvs)) := r1.priv hF hS (r1.notabO hD nt_dK)
  have f2 : Fr F St H F1 S1 (upd H1 L (.dK kvs)) := (f0.trans f1).priv hL
  refine k _ S1 _ _ _ (f2.seal hL hF) (r2.seal hF hS upd_same nt_dK) (.dct upd_same (by rw [lk, lp, ← l]; exact Nat.le_of_lt (small1000 (by omega))) (m.mono fun b u e => by rw [upd_ne (ne_of_none e hF)]; exact e)) w1
/-- {k: v, ..}, an object of one's own -/
theorem SE.newk {ks : List (Option Expr)} {es : List Expr} {ws : Env → Sto → (List D → Sto → Prop) → Prop} (h : SPp B Y W C xq pos ks es ws) (h0 : ks ≠ []) (h15 : ks.length ≤ 15) :
    SE B Y W C xq (.Dict ks es pos) (fun ρ St q => ws ρ St fun ds S1 => ∃ kvs, pairsD ds = some kvs ∧ (kvs.map (·.1)).all isKey = true ∧ (kvs.map (·.1)).Nodup ∧ ∀ p, S1 p = none → q (.ref p) (ups S1 p (.dct kvs))) := by
  obtain ⟨t, p, l, sm, kk⟩ := h.ex
  refine ⟨⟨tDisp t, fun δ hδ => pe_disp (p δ hδ) sm l h0 h15, fun ρ St F σ H q Q r e x w k L hL => ?_⟩⟩
  obtain ⟨hFL, hSL⟩ := r.fresh hL
  have r0 : SR B.K B.w F St (upd H L (.dK [])) := r.priv hFL hSL (r.notab hL)
  have f0 : Fr F St H F St (upd H L (.dK [])) := Fr.refl.priv hL
  refine kk ρ St F σ _ _ _ r0 e (x.step f0) w fun ds S1 F1 H1 ps f1 r1 il lp w1 => ?_
  obtain ⟨hD, hS, hF⟩ := f1.keep L _ upd_same hSL nt_dK
  have hF := hF hFL
  obtain ⟨kds, hp, ha, nd, w1⟩ := w1
  obtain ⟨kvs, e1, m, lk⟩ := pairs_of il hp ha
  refine ⟨hD, kvs, e1, by rw [lk, lp, ← l]; exact h15, ?_⟩
  have nk := keys_nodup m nd
  rw [merge_new kvs [] nk fun _ _ => rfl, List.nil_append]
  have r2 : SR B.K B.w F1 S1 (upd H1 L (.dK kvs)) := r1.priv hF hS (r1.notabO hD nt_dK)
  have f2 : Fr F St H F1 S1 (upd H1 L (.dK kvs)) := (f0.trans f1).priv hL
  obtain ⟨r3, f3⟩ := r2.adopt (q := .dct kds) hF hS ⟨kvs, upd_same, by rw [lk, lp, ← l]; exact Nat.le_of_lt (small1000 (by omega)), nk, m⟩ f2 hL (r1.notabO hD nt_dK)
  exact k _ _ _ _ _ f3 r3 (.ref L) (w1 L hS)
end
end DL
/-! DLQ: an error that leaves a comprehension. -/
namespace DLQ
open PySem PySem.Spec PyProof.Rows L2 HandSPX
/-! ### the frame notes what comes out of the block -/
section
variable {M : Model} {A : Around} {E : Value → Shared → Prop} {s : Shared} {Z : Obj → Prop} {G : Heap} {me : Env} {up : List Env} {L a : Addr}
end
/-! ### the rule: how a block's end is taken -/
section
variable {M : Model} {A : Around} {E : Value → Shared → Prop} {s : Shared} {me : Env}
end
/-! ### what the block's elements may raise -/
/-! ### the list, its elements free to raise -/
section
variable {X : Cx} {W : WX} {elt tg iter : Expr} {sc : Scope} {own : List (Str × Nat)} {pos : Pos} {wi : TI} {g : TG} {te : WX → TE}
/-- the wish of an element: the slots are those outside -/
noncomputable abbrev inner (W : WX) (σ : L2.St) : WX := fun cls d _ H => W cls d σ H
end
end DLQ
/-! DLJ: a comprehension whose elements may raise, over data. -/
namespace DL
open PySem PySem.Spec PyProof.Rows L2
variable [TBS]
section
variable {B : Bx} {Y : Dl → Prop} {W : WX} {C : XC} {xq : QX} {pos : Pos}
theorem EQ.inner {K : PySem.W.Frag} {ω : World} {W : WX} {C : XC} {xq : QX} {F : Hp} {St : Sto} {H : Hp} {σ σ' : L2.St} (x : EQ K ω W C xq F St H σ) : EQ K ω (DLQ.inner W σ) C xq F St H σ' :=
  fun c d S' F' H' dx f r p q => x c d S' F' H' dx f r p q
end
end DL
/-! DL8: statements over data. -/
namespace DL
open PySem PySem.Spec PyProof.Rows L2
variable [TBS]
/-- slots outside vs as in σ0 -/
noncomputable def Ag (vs : List Nat) (σ0 σ : L2.St) : Prop := σ.length = σ0.length ∧ ∀ i, i ∉ vs → σ[i]? = σ0[i]?
theorem Ag.refl {vs : List Nat} {σ : L2.St} : Ag vs σ σ := ⟨rfl, fun _ _ => rfl⟩
theorem Ag.trans {vs : List Nat} {a b c : L2.St} (h : Ag vs a b) (k : Ag vs b c) : Ag vs a c := ⟨k.1.trans h.1, fun i hi => (k.2 i hi).trans (h.2 i hi)⟩
theorem Ag.set {vs : List Nat} {i : Nat} {σ : L2.St} {v : Option V} (h : i ∈ vs) : Ag vs σ (σ.set i v) := ⟨List.length_set, fun j hj => List.getElem?_set_ne (fun e => hj (by rw [← e]; exact h))⟩
/-- what is wanted of an exception, at any slots that agree outside vs -/
noncomputable def ES (K : PySem.W.Frag) (ω : World) (W : WX) (C : XC) (xq : QX) (vs : List Nat) (F : Hp) (St : Sto) (H : Hp) (σ : L2.St) : Prop :=
  ∀ c d S' F' H' dx σ', Ag vs σ σ' → Fr F St H F' S' H' → SR K ω F' S' H' → PayOk C c d dx H' → xq c d S' → W (C.cls c) dx σ' H'
theorem ES.eq {K : PySem.W.Frag} {ω : World} {W : WX} {C : XC} {xq : QX} {vs : List Nat} {F H : Hp} {St : Sto} {σ : L2.St} (h : ES K ω W C xq vs F St H σ) : EQ K ω W C xq F St H σ := fun c d S' F' H' dx f r p q => h c d S' F' H' dx σ Ag.refl f r p q
theorem ES.step {K : PySem.W.Frag} {ω : World} {W : WX} {C : XC} {xq : QX} {vs : List Nat} {F F1 H H1 : Hp} {St S1 : Sto} {σ σ1 : L2.St} (h : ES K ω W C xq vs F St H σ) (a : Ag vs σ σ1) (f : Fr F St H F1 S1 H1) : ES K ω W C xq vs F1 S1 H1 σ1 :=
  fun c d S' F' H' dx σ' a2 f2 r p q => h c d S' F' H' dx σ' (a.trans a2) (f.trans f2) r p q
/-- the ends over data and those of the layer -/
structure EN (K : PySem.W.Frag) (ω : World) (vs : List Nat) (F : Hp) (St : Sto) (H : Hp) (σ : L2.St) (k : Ks) (E : Ends) : Prop where
  nx : ∀ ρ' S' F' σ' H', Ag vs σ σ' → Fr F St H F' S' H' → SR K ω F' S' H' → RE K F' ρ' σ' → k.nx ρ' S' → E.nx σ' H'
  rt : ∀ d S' F' v H', Fr F St H F' S' H' → SR K ω F' S' H' → Is K F' v d → k.rt d S' → E.rt v H'
  bk : ∀ ρ' S' F' σ' H', Ag vs σ σ' → Fr F St H F' S' H' → SR K ω F' S' H' → RE K F' ρ' σ' → k.bk ρ' S' → E.bk σ' H'
  ct : ∀ ρ' S' F' σ' H', Ag vs σ σ' → Fr F St H F' S' H' → SR K ω F' S' H' → RE K F' ρ' σ' → k.ct ρ' S' → E.ct σ' H'
theorem EN.step {K : PySem.W.Frag} {ω : World} {vs : List Nat} {F F1 H H1 : Hp} {St S1 : Sto} {σ σ1 : L2.St} {k : Ks} {E : Ends} (h : EN K ω vs F St H σ k E) (a : Ag vs σ σ1) (f : Fr F St H F1 S1 H1) : EN K ω vs F1 S1 H1 σ1 k E :=
  ⟨fun ρ' S' F' σ' H' a2 f2 => h.nx ρ' S' F' σ' H' (a.trans a2) (f.trans f2), fun d S' F' v H' f2 => h.rt d S' F' v H' (f.trans f2), fun ρ' S' F' σ' H' a2 f2 => h.bk ρ' S' F' σ' H' (a.trans a2) (f.trans f2), fun ρ' S' F' σ' H' a2 f2 => h.ct ρ' S' F' σ' H' (a.trans a2) (f.trans f2)⟩
structure SS (B : Bx) (Y : Dl → Prop) (W : WX) (C : XC) (xq : QX) (vs : List Nat) (x : Stmt) (w : Env → Sto → Ks → Prop) : Prop where
  ex : ∃ t : TS, (∀ δ, Y δ → PS (cx B δ) x t) ∧ ∀ (ρ : Env) (St : Sto) (F : Hp) (σ : L2.St) (H : Hp) (k : Ks) (E : Ends), SR B.K B.w F St H → RE B.K F ρ σ → ES B.K B.w W C xq vs F St H σ → w ρ St k → EN B.K B.w vs F St H σ k E → t E σ H
structure SSs (B : Bx) (Y : Dl → Prop) (W : WX) (C : XC) (xq : QX) (vs : List Nat) (x : List Stmt) (w : Env → Sto → Ks → Prop) : Prop where
  ex : ∃ t : TS, (∀ δ, Y δ → PSs (cx B δ) x t) ∧ ∀ (ρ : Env) (St : Sto) (F : Hp) (σ : L2.St) (H : Hp) (k : Ks) (E : Ends), SR B.K B.w F St H → RE B.K F ρ σ → ES B.K B.w W C xq vs F St H σ → w ρ St k → EN B.K B.w vs F St H σ k E → t E σ H
/-- targets: what changes lies in vs, as to what stands outside -/
structure AG (B : Bx) (Y : Dl → Prop) (tg : Expr) (vs : List Nat) (b : D → Env → (Env → Prop) → Prop) : Prop where
  ex : ∃ g : TG, (∀ δ, Y δ → PG (cx B δ) tg g) ∧ ∀ (d : D) (ρ : Env) (σ : L2.St) (v : V) (F : Hp) (St : Sto) (H : Hp) (q : Env → Prop) (Q : L2.St → Hp → Prop), Is B.K F v d → SR B.K B.w F St H → RE B.K F ρ σ → b d ρ q →
    (∀ ρ' σ', RE B.K F ρ' σ' → Ag vs σ σ' → q ρ' → Q σ' H) → g v σ H Q
theorem Ag.of {vs : List Nat} {σ σ' : L2.St} (h : Sl vs σ σ') : Ag vs σ σ' := by
  have e := h vs fun _ z => z
  have wl : ∀ (σ : L2.St) (us : List Nat), (wipe σ us).length = σ.length := fun σ us => wipe_length σ us
  have wg : ∀ (us : List Nat) (σ : L2.St) (i : Nat), i ∉ us → (wipe σ us)[i]? = σ[i]? := by
    intro us
    induction us with
    | nil => intro _ _ _; rfl
    | cons u us ih =>
      intro σ i hi
      show ((wipe σ us).set u none)[i]? = _
      rw [List.getElem?_set_ne (fun e => hi (by rw [e]; exact List.mem_cons_self)), ih σ i fun z => hi (List.mem_cons_of_mem _ z)]
  exact ⟨by rw [← wl σ' vs, e, wl], fun i hi => by rw [← wg vs σ' i hi, e, wg vs σ i hi]⟩
theorem SG.ag {B : Bx} {Y : Dl → Prop} {tg : Expr} {vs : List Nat} {b : D → Env → (Env → Prop) → Prop} (h : SG B Y tg vs b) : AG B Y tg vs b := by
  obtain ⟨g, p, k⟩ := h.ex
  exact ⟨⟨g, p, fun d ρ σ v F St H q Q is r e w kk => k d ρ σ v F St H q Q is r e w fun ρ' σ' e' s w' => kk ρ' σ' e' (Ag.of s) w'⟩⟩
section
variable {B : Bx} {Y : Dl → Prop} {W : WX} {C : XC} {xq : QX} {vs : List Nat} {a b c : Expr} {wa wb wc : Env → Sto → QD → Prop} {pos : Pos} {st : Stmt} {sts : List Stmt} {w1 w2 : Env → Sto → Ks → Prop}
theorem SSs.nil : SSs B Y W C xq vs [] (fun ρ St k => k.nx ρ St) := ⟨⟨tNext, fun δ hδ => pss_nil, fun ρ St F σ H k E r e x w en => en.nx ρ St F σ H Ag.refl Fr.refl r e w⟩⟩
theorem SSs.cons (h1 : SS B Y W C xq vs st w1) (h2 : SSs B Y W C xq vs sts w2) : SSs B Y W C xq vs (st :: sts) (fun ρ St k => w1 ρ St { k with nx := fun ρ' S' => w2 ρ' S' k }) := by
  obtain ⟨t1, p1, k1⟩ := h1.ex
  obtain ⟨t2, p2, k2⟩ := h2.ex
  refine ⟨⟨tSeq t1 t2, fun δ hδ => pss_cons (p1 δ hδ) (p2 δ hδ), fun ρ St F σ H k E r e x w en => ?_⟩⟩
  refine k1 ρ St F σ H _ _ r e x w ⟨fun ρ' S' F' σ' H' a f r' e' w' => ?_, en.rt, en.bk, en.ct⟩
  exact k2 ρ' S' F' σ' H' k E r' e' (x.step a f) w' (en.step a f)
theorem SS.pass : SS B Y W C xq vs (.Pass pos) (fun ρ St k => k.nx ρ St) := ⟨⟨tNext, fun δ hδ => ps_pass, fun ρ St F σ H k E r e x w en => en.nx ρ St F σ H Ag.refl Fr.refl r e w⟩⟩
theorem SS.brk : SS B Y W C xq vs (.Break pos) (fun ρ St k => k.bk ρ St) := ⟨⟨tBreak, fun δ hδ => ps_break, fun ρ St F σ H k E r e x w en => en.bk ρ St F σ H Ag.refl Fr.refl r e w⟩⟩
theorem SS.cont : SS B Y W C xq vs (.Continue pos) (fun ρ St k => k.ct ρ St) := ⟨⟨tCont, fun δ hδ => ps_continue, fun ρ St F σ H k E r e x w en => en.ct ρ St F σ H Ag.refl Fr.refl r e w⟩⟩
theorem SS.retN : SS B Y W C xq vs (.Return none pos) (fun _ St k => k.rt .non St) := ⟨⟨tRetN, fun δ hδ => ps_retN, fun ρ St F σ H k E r e x w en => en.rt _ St F _ H Fr.refl r .non w⟩⟩
theorem SS.ret (ha : SE B Y W C xq a wa) : SS B Y W C xq vs (.Return (some a) pos) (fun ρ St k => wa ρ St k.rt) := by
  obtain ⟨ta, pa, ka⟩ := ha.ex
  exact ⟨⟨tRet ta, fun δ hδ => ps_ret (pa δ hδ), fun ρ St F σ H k E r e x w en => ka ρ St F σ H _ _ r e x.eq w fun d S1 F1 v H1 f1 r1 i1 w1 => en.rt d S1 F1 v H1 f1 r1 i1 w1⟩⟩
theorem SS.expr (ha : SE B Y W C xq a wa) (hc : notComp a = true) : SS B Y W C xq vs (.Expr a pos) (fun ρ St k => wa ρ St fun _ S1 => k.nx ρ S1) := by
  obtain ⟨ta, pa, ka⟩ := ha.ex
  exact ⟨⟨tDrop ta, fun δ hδ => ps_expr (pa δ hδ) (no_swap hc _ _ _), fun ρ St F σ H k E r e x w en => ka ρ St F σ H _ _ r e x.eq w fun d S1 F1 v H1 f1 r1 i1 w1 => en.nx ρ S1 F1 σ H1 Ag.refl f1 r1 (e.mono f1.ext) w1⟩⟩
theorem SS.ite {tc : Env → Sto → (Bool → Sto → Prop) → Prop} {xs ys : List Stmt} (hc : ST B Y W C xq c tc) (h1 : SSs B Y W C xq vs xs w1) (h2 : SSs B Y W C xq vs ys w2) :
    SS B Y W C xq vs (.If c xs ys pos) (fun ρ St k => tc ρ St fun b S1 => if b = true then w1 ρ S1 k else w2 ρ S1 k) := by
  obtain ⟨t0, p0, k0⟩ := hc.ex
  obtain ⟨t1, p1, k1⟩ := h1.ex
  obtain ⟨t2, p2, k2⟩ := h2.ex
  refine ⟨⟨tIfS t0 t1 t2, fun δ hδ => ps_if (p0 δ hδ) (p1 δ hδ) (p2 δ hδ), fun ρ St F σ H k E r e x w en => ?_⟩⟩
  refine k0 ρ St F σ H _ _ r e x.eq w fun bb S1 F1 H1 f1 r1 w' => ?_
  cases bb with
  | true => exact k1 ρ S1 F1 σ H1 k E r1 (e.mono f1.ext) (x.step Ag.refl f1) w' (en.step Ag.refl f1)
  | false => exact k2 ρ S1 F1 σ H1 k E r1 (e.mono f1.ext) (x.step Ag.refl f1) w' (en.step Ag.refl f1)
theorem SS.set {tg : Expr} {bd : D → Env → (Env → Prop) → Prop} (ha : SE B Y W C xq a wa) (hg : AG B Y tg vs bd) (hc : ∀ δ, Y δ → swapsWith a (some tg) pos.line δ.env = pure false) (hw : ∀ δ, Y δ → swappedStores [tg] a δ.env = pure none) (hs : notStar tg = true) :
    SS B Y W C xq vs (.Assign [tg] a pos) (fun ρ St k => wa ρ St fun x S1 => bd x ρ fun ρ' => k.nx ρ' S1) := by
  obtain ⟨ta, pa, ka⟩ := ha.ex
  obtain ⟨g, pg, kg⟩ := hg.ex
  refine ⟨⟨tAsg ta g, fun δ hδ => ps_asg (pa δ hδ) (pg δ hδ) (hc δ hδ) (hw δ hδ) (by cases tg <;> first | rfl | cases hs), fun ρ St F σ H k E r e x w en => ?_⟩⟩
  refine ka ρ St F σ H _ _ r e x.eq w fun d S1 F1 v H1 f1 r1 i1 w1 => ?_
  exact kg d ρ σ v F1 S1 H1 _ _ i1 r1 (e.mono f1.ext) w1 fun ρ' σ' e' ag w' => en.nx ρ' S1 F1 σ' H1 ag f1 r1 e' w'
/-- name = [..] -/
theorem SS.setLc {i : Nat} {y : Str} {py : Pos} {elt : Expr} {gens : List Comprehension} {scope : Scope} {cpos : Pos} {w : Env → Sto → QD → Prop} {t : TE}
    (h : ∀ δ, Y δ → ∀ (i : Nat) (y : Str) (py spos : Pos), B.N[i]? = some y → δ.env.scope.names.lookup y = some .local → δ.env.scope.kind = .function → (py.line == cpos.line) = true → (scope.names.any fun (n, k) => n == y && (k == .local || k == .cell)) = false →
        PS (cx B δ) (.Assign [.Name y py] (.ListComp elt gens scope cpos) spos) (tAsg t (gName i)))
    (hr : ∀ (ρ : Env) (St : Sto) (F : Hp) (σ : L2.St) (H : Hp) (q : QD) (Q : VK), SR B.K B.w F St H → RE B.K F ρ σ → EQ B.K B.w W C xq F St H σ → w ρ St q →
        (∀ d S' F' v H', Fr F St H F' S' H' → SR B.K B.w F' S' H' → Is B.K F' v d → q d S' → Q v H') → t σ H Q)
    (hi : B.N[i]? = some y) (hl : ∀ δ, Y δ → δ.env.scope.names.lookup y = some .local ∧ δ.env.scope.kind = .function) (hln : (py.line == cpos.line) = true) (hn : (scope.names.any fun (n, k) => n == y && (k == .local || k == .cell)) = false) (hv : i ∈ vs) :
    SS B Y W C xq vs (.Assign [.Name y py] (.ListComp elt gens scope cpos) pos) (fun ρ St k => w ρ St fun x S1 => k.nx (put ρ i x) S1) := by
  refine ⟨⟨tAsg t (gName i), fun δ hδ => h δ hδ i y py pos hi (hl δ hδ).1 (hl δ hδ).2 hln hn, fun ρ St F σ H k E r e x w en => ?_⟩⟩
  refine hr ρ St F σ H _ _ r e x.eq w fun d S1 F1 v H1 f1 r1 i1 w1 => ?_
  exact en.nx _ S1 F1 _ H1 (Ag.set hv) f1 r1 ((e.mono f1.ext).put i i1) w1
theorem SS.aug {i : Nat} {x : Str} {px : Pos} {op : Operator} {ti : TIp} {z : D → D → (D → Prop) → Prop} (hN : B.N.Nodup) (hi : B.N[i]? = some x) (hx : ∀ δ, Y δ → Loc δ.env.scope x ∧ (δ.fn x = true ∨ δ.env.scope.names.lookup x = some .local)) (hv : i ∈ vs)
    (ho : ∀ δ, Y δ → PIp (cx B δ) op ti) (ha : SE B Y W C xq a wa)
    (hr : ∀ (F : Hp) (St : Sto) (H : Hp) (v u : V) (x y : D) (q : D → Prop) (Q : VK), SR B.K B.w F St H → Is B.K F v x → Is B.K F u y → z x y q → (∀ d F' v' H', Fr F St H F' St H' → SR B.K B.w F' St H' → Is B.K F' v' d → q d → Q v' H') → ti v u H Q) :
    SS B Y W C xq vs (.AugAssign (.Name x px) op a pos) (fun ρ St k => ∃ d, get ρ i = some d ∧ wa ρ St fun y S1 => z d y fun e => k.nx (put ρ i e) S1) := by
  obtain ⟨ta, pa, ka⟩ := ha.ex
  refine ⟨⟨tAug i ta ti, fun δ hδ => ps_aug (X := cx B δ) hN hi (hx δ hδ).1 (pa δ hδ) (ho δ hδ) (hx δ hδ).2, fun ρ St F σ H k E r e x w en => ?_⟩⟩
  obtain ⟨d, g, w⟩ := w
  obtain ⟨v, hv1, is⟩ := e.at_ i d g
  refine ⟨v, hv1, ?_⟩
  refine ka ρ St F σ H _ _ r e x.eq w fun d1 S1 F1 v1 H1 f1 r1 i1 w1 => ?_
  exact hr F1 S1 H1 v v1 d d1 _ _ r1 (is.mono f1.ext) i1 w1 fun d2 F2 v2 H2 f2 r2 i2 w2 => en.nx _ S1 F2 _ H2 (Ag.set hv) (f1.trans f2) r2 (((e.mono f1.ext).mono f2.ext).put i i2) w2
noncomputable def rSetA (K : PySem.W.Frag) (w : World) : TSet := fun o i v H Q => rSetL o i v H Q ∨ rSetD o i v H Q ∨ rSetDN K w o i v H Q
theorem set_any {X : Cx} (hu : X.A.units + 9 < cLine) : PSet X (rSetA X.K X.w) := by
  intro pins s σ H o i v ov iv u Q I ro ri rv h
  rcases h with h | h | h
  · exact set_list pins s σ H o i v ov iv u Q I ro ri rv h
  · exact set_dict (by omega) pins s σ H o i v ov iv u Q I ro ri rv h
  · exact set_dn hu pins s σ H o i v ov iv u Q I ro ri rv h
theorem keys_put {kvs : List (Key × V)} {k : Key} {v : V} (nd : (kvs.map (·.1)).Nodup) : ((putK kvs k v).map (·.1)).Nodup := by
  unfold putK
  rw [valV_any]
  cases e : valV kvs k with
  | some z =>
    have : (kvs.map fun kv => if kv.1 = k then (kv.1, v) else kv).map (·.1) = kvs.map (·.1) := by
      rw [List.map_map]
      refine List.map_congr_left fun kv _ => ?_
      show (if kv.1 = k then (kv.1, v) else kv).1 = kv.1
      split <;> rfl
    simp only [Option.isSome_some, if_true]
    rw [this]
    exact nd
  | none =>
    simp only [Option.isSome_none, Bool.false_eq_true, if_false]
    rw [List.map_append]
    refine List.nodup_append.mpr ⟨nd, by simp, fun x hx y hy => ?_⟩
    have ey : y = k := by simpa using hy
    subst ey
    rintro rfl
    obtain ⟨p, hp, rfl⟩ := List.mem_map.mp hx
    have : (valV kvs p.1).isSome = true := by
      rw [← valV_any]
      exact List.any_eq_true.mpr ⟨p, hp, decide_eq_true rfl⟩
    rw [e] at this; cases this
theorem assign_sub {o i : Expr} (hn : notSlice i = true) (env : PySem.Env) (v : Value) : assign (.Subscript o i pos) env v = (do
      let ov ← holding [v] (eval o env)
      let iv ← holding [v, ov] (eval i env)
      standAt pos
      holding [v, ov, iv] (setItem ov iv v)
      release [v, ov, iv] []) := by
  cases i <;> first | rfl | cases hn
theorem SS.put {p2 : Pos} {j : Nat} (hr : ∀ δ, Y δ → Room j δ.A) (hv : SE B Y W C xq c wc) (ho : SE B Y W C xq a wa) (hi : SE B Y W C xq b wb) (hc : notComp c = true) (hn : notSlice b = true) :
    SS B Y W C xq vs (.Assign [.Subscript a b p2] c pos) (fun ρ St k => wc ρ St fun v S1 => wa ρ S1 fun x S2 => wb ρ S2 fun y S3 => match x with
      | .ref a => match S3 a with
        | some (.dct kvs) => isKey y = true ∧ kvs.length < SZ ∧ k.nx ρ (ups S3 a (.dct (putD kvs y v)))
        | some (.tdc kvs) => isTK y = true ∧ kvs.length < SZ ∧ k.nx ρ (ups S3 a (.tdc (putT kvs y v)))
        | some (.lst ds) => match y with
          | .int i => ∃ j, ixN ds.length i = some j ∧ k.nx ρ (ups S3 a (.lst (ds.set j v)))
          | _ => False
        | _ => False
      | _ => False) := by
  obtain ⟨tc, pc, kc⟩ := hv.ex
  obtain ⟨ta, pa, ka⟩ := ho.ex
  obtain ⟨tb, pb, kb⟩ := hi.ex
  refine ⟨⟨tAsg tc (gSub ta tb (rSetA B.K B.w)), fun δ hδ => ps_asg (pc δ hδ) (pg_sub (pa δ hδ) (pb δ hδ) (set_any (room9 (hr δ hδ))) (assign_sub hn _)) (by unfold swapsWithSole; exact no_swap hc _ _ _) rfl rfl, fun ρ St F σ H k E r e x w en => ?_⟩⟩
  refine kc ρ St F σ H _ _ r e x.eq w fun d S1 F1 v H1 f1 r1 i1 w1 => ?_
  refine ka ρ S1 F1 σ H1 _ _ r1 (e.mono f1.ext) (x.step Ag.refl f1).eq w1 fun d2 S2 F2 v2 H2 f2 r2 i2 w2 => ?_
  refine kb ρ S2 F2 σ H2 _ _ r2 ((e.mono f1.ext).mono f2.ext) ((x.step Ag.refl f1).step Ag.refl f2).eq w2 fun d3 S3 F3 v3 H3 f3 r3 i3 w3 => ?_
  have ff := (f1.trans f2).trans f3
  have ee := ((e.mono f1.ext).mono f2.ext).mono f3.ext
  have iv := (i1.mono f2.ext).mono f3.ext
  have i2 := i2.mono f3.ext
  cases i2 with
  | ref p =>
    cases eo : S3 p with
    | none => simp only [eo] at w3
    | some o =>
      have ho := (r3.own p o eo).2
      cases o with
      | lst ds =>
        simp only [eo] at w3
        obtain ⟨xs, hx, z, il⟩ := ho
        cases i3 with
        | int i =>
          obtain ⟨j, hj, w3⟩ := w3
          obtain ⟨r4, f4⟩ := r3.write (o := .lst (xs.set j v)) (q := .lst (ds.set j d)) eo ⟨_, upd_same, by rw [List.length_set]; exact z, il.set iv j⟩
          exact .inl ⟨p, xs, i, j, rfl, rfl, hx, by rw [il.length]; exact hj, en.nx ρ _ _ σ _ Ag.refl (ff.trans f4) r4 (ee.mono f4.ext) w3⟩
        | _ => exact False.elim w3
      | dct kds =>
        simp only [eo] at w3
        obtain ⟨kvs, hx, z, nd, m⟩ := ho
        obtain ⟨kk, hl, w3⟩ := w3
        obtain ⟨q, rfl, rfl⟩ := isKey_of i3 kk
        have hl' : kvs.length < sizeLine := by rw [m.length, sizeLine_eq]; exact hl
        obtain ⟨r4, f4⟩ := r3.write (o := .dK (putK kvs q v)) (q := .dct (putD kds (kD q) d)) eo ⟨_, upd_same, Nat.le_trans (length_putK kvs q v) hl', keys_put nd, m.replace iv nd⟩
        exact .inr (.inl ⟨p, _, rfl, DPut.k hx hl', en.nx ρ _ _ σ _ Ag.refl (ff.trans f4) r4 (ee.mono f4.ext) w3⟩)
      | tdc kds =>
        simp only [eo] at w3
        obtain ⟨tk, hl, w3⟩ := w3
        obtain ⟨xs, b, kk, hx, ks, rfl, nv, dk, z, len, nd, nk, it, _⟩ := dn_get r3 eo i3 tk
        have hl' : xs.length < sizeLine := by rw [len, sizeLine_eq]; exact hl
        refine .inr (.inr ⟨p, xs, b, kk, rfl, rfl, hx, ks, nv, dk, hl', fun u ru => ?_⟩)
        obtain ⟨it2, nd2⟩ := it.put i3 tk nk ru iv nd
        obtain ⟨r4, f4⟩ := r3.write (o := DNo B.w p (storedH xs kk b u)) (q := .tdc (putT kds d3 d)) eo ⟨_, upd_same, by have := len_stored xs kk b u; omega, nd2, it2⟩
        exact en.nx ρ _ _ σ _ Ag.refl (ff.trans f4) r4 (ee.mono f4.ext) w3
      | ins => simp only [eo] at w3
  | _ => exact False.elim w3
theorem SS.app {p2 p3 : Pos} (ho : SE B Y W C xq a wa) (hb : SE B Y W C xq b wb) (hc : notCall a = true) (hst : notStar b = true) (hl : (p2.endLine == p3.line) = true) :
    SS B Y W C xq vs (.Expr (.Call (.Attribute a "append" p2) [b] [] p3) pos) (fun ρ St k => wa ρ St fun x S1 => ∃ p, x = .ref p ∧ (∃ ds, S1 p = some (.lst ds)) ∧ wb ρ S1 fun y S2 => ∃ ds, S2 p = some (.lst ds) ∧ ds.length < SZ ∧ k.nx ρ (ups S2 p (.lst (ds ++ [y])))) := by
  obtain ⟨ta, pa, ka⟩ := ho.ex
  obtain ⟨tb, pb, kb⟩ := hb.ex
  refine ⟨⟨tDrop (tBM B.K "list" rAppend ta (tCons tb tNil)), fun δ hδ => ps_expr (pe_bm (X := cx B δ) PySem.F.plainAttrs_list PySem.F.slot_list_append PySem.F.type_list_append mt_append (pa δ hδ) (pa_cons (pb δ hδ) pa_nil (star_cons hst _)) (attr_base hc _ _ _)
    (by rw [star_cons hst]; rfl) hl (star_cons hst _) rfl) rfl, fun ρ St F σ H k E r e x w en => ?_⟩⟩
  refine ka ρ St F σ H _ _ r e x.eq w fun d S1 F1 v H1 f1 r1 i1 w1 => ?_
  obtain ⟨p, rfl, ⟨ds0, hp0⟩, w1⟩ := w1
  cases i1
  obtain ⟨xs0, hx0, _, _⟩ := (r1.own p _ hp0).2
  refine ⟨.inl ⟨rfl, xs0, SqL.of hx0⟩, ?_⟩
  refine kb ρ S1 F1 σ H1 _ _ r1 (e.mono f1.ext) (x.step Ag.refl f1).eq w1 fun d2 S2 F2 v2 H2 f2 r2 i2 w2 => ?_
  obtain ⟨ds, hp, hz, w2⟩ := w2
  obtain ⟨xs, hx, z, il⟩ := (r2.own p _ hp).2
  have hz' : xs.length < sizeLine := by rw [il.length, sizeLine_eq]; exact hz
  refine ⟨p, xs, v2, rfl, rfl, hx, hz', ?_⟩
  obtain ⟨r4, f4⟩ := r2.write (o := .lst (xs ++ [v2])) (q := .lst (ds ++ [d2])) hp ⟨_, upd_same, by rw [List.length_append, List.length_singleton]; exact hz', il.snoc i2⟩
  exact en.nx ρ _ _ σ _ Ag.refl ((f1.trans f2).trans f4) r4 (((e.mono f1.ext).mono f2.ext).mono f4.ext) w2
/-! ### loops -/
theorem SS.loop {tc : Env → Sto → (Bool → Sto → Prop) → Prop} {xs : List Stmt} (po : ∀ δ, Y δ → PassesOwn (model B.prog B.w) δ.A δ.env δ.xe) (hc : ST B Y W C xq c tc) (h1 : SSs B Y W C xq vs xs w1) :
    SS B Y W C xq vs (.While c xs [] pos) (fun ρ St k => ∃ n, whileN tc (fun ρ S1 q => w1 ρ S1 { nx := q, rt := k.rt, bk := k.nx, ct := q }) n ρ St k.nx) := by
  obtain ⟨t0, p0, k0⟩ := hc.ex
  obtain ⟨t1, p1, k1⟩ := h1.ex
  refine ⟨⟨tWhile t0 t1, fun δ hδ => ps_while (X := cx B δ) (po δ hδ) (p0 δ hδ) (p1 δ hδ), fun ρ St F σ H k E r e x w en => ?_⟩⟩
  obtain ⟨n, w⟩ := w
  refine ⟨fun m σ2 H2 => ∃ ρ2 S2 F2, Ag vs σ σ2 ∧ Fr F St H F2 S2 H2 ∧ SR B.K B.w F2 S2 H2 ∧ RE B.K F2 ρ2 σ2 ∧ whileN tc (fun ρ S1 q => w1 ρ S1 { nx := q, rt := k.rt, bk := k.nx, ct := q }) m ρ2 S2 k.nx,
    ⟨n, ρ, St, F, Ag.refl, Fr.refl, r, e, w⟩, ?_⟩
  rintro m σ2 H2 ⟨ρ2, S2, F2, a2, f2, r2, e2, w2⟩
  cases m with
  | zero => exact False.elim w2
  | succ m =>
    refine k0 ρ2 S2 F2 σ2 H2 _ _ r2 e2 (x.step a2 f2).eq w2 fun bb S3 F3 H3 f3 r3 w3 => ?_
    cases bb with
    | false => exact en.nx ρ2 S3 F3 σ2 H3 a2 (f2.trans f3) r3 (e2.mono f3.ext) w3
    | true =>
      refine ⟨fun σ4 H4 => ∃ ρ4 S4 F4, Ag vs σ σ4 ∧ Fr F St H F4 S4 H4 ∧ SR B.K B.w F4 S4 H4 ∧ RE B.K F4 ρ4 σ4 ∧ whileN tc (fun ρ S1 q => w1 ρ S1 { nx := q, rt := k.rt, bk := k.nx, ct := q }) m ρ4 S4 k.nx, fun σ4 H4 h => ⟨m, Nat.lt_succ_self m, h⟩, ?_⟩
      refine k1 ρ2 S3 F3 σ2 H3 _ _ r3 (e2.mono f3.ext) (x.step a2 (f2.trans f3)) w3 ⟨fun ρ' S' F' σ' H' a f r' e' w' => ⟨ρ', S', F', a2.trans a, (f2.trans f3).trans f, r', e', w'⟩, fun d S' F' v H' f r' i' w' => en.rt d S' F' v H' ((f2.trans f3).trans f) r' i' w', fun ρ' S' F' σ' H' a f r' e' w' => en.nx ρ' S' F' σ' H' (a2.trans a) ((f2.trans f3).trans f) r' e' w', fun ρ' S' F' σ' H' a f r' e' w' => ⟨ρ', S', F', a2.trans a, (f2.trans f3).trans f, r', e', w'⟩⟩
theorem SS.each {tg it : Expr} {xs : List Stmt} {wi : Env → Sto → (List D → Sto → Prop) → Prop} {bd : D → Env → (Env → Prop) → Prop} (po : ∀ δ, Y δ → PassesOwn (model B.prog B.w) δ.A δ.env δ.xe) (cl : ∀ δ, Y δ → δ.calm = true) (hi : SI B Y W C xq tg it wi) (hg : AG B Y tg vs bd)
    (h1 : SSs B Y W C xq vs xs w1) (hs : notSet it = true) :
    SS B Y W C xq vs (.For tg it xs [] pos) (fun ρ St k => wi ρ St fun ds S1 => forL (fun d ρ S2 q => bd d ρ fun ρ' => w1 ρ' S2 { nx := q, rt := k.rt, bk := k.nx, ct := q }) ds ρ S1 k.nx) := by
  obtain ⟨ti, pi, ki⟩ := hi.ex
  obtain ⟨g, pg, kg⟩ := hg.ex
  obtain ⟨t1, p1, k1⟩ := h1.ex
  refine ⟨⟨tFor ti g t1, fun δ hδ => ps_for (X := cx B δ) (po δ hδ) (cl δ hδ) (pi δ hδ) (pg δ hδ) (p1 δ hδ) (folded_set hs _), fun ρ St F σ H k E r e x w en => ?_⟩⟩
  refine ki ρ St F σ H _ _ r e x.eq w fun ds S1 F1 H1 J f1 r1 wd hz w0 => ?_
  obtain ⟨G, Yd, wk, hG, hY⟩ := wd
  refine for_it wk (fun i σ2 H2 => ∃ ρ2 S2 F2, Ag vs σ σ2 ∧ Fr F1 S1 H1 F2 S2 H2 ∧ SR B.K B.w F2 S2 H2 ∧ RE B.K F2 ρ2 σ2 ∧ forL (fun d ρ S2 q => bd d ρ fun ρ' => w1 ρ' S2 { nx := q, rt := k.rt, bk := k.nx, ct := q }) (ds.drop i) ρ2 S2 k.nx)
    ⟨ρ, S1, F1, Ag.refl, Fr.refl, r1, e.mono f1.ext, w0⟩ (fun i σ2 H2 _ ⟨_, _, _, _, f2, r2, _⟩ => hG H2 _ f2.ext r2.sub) ?_ ?_
  · rintro i v σ2 H2 H3 hi ⟨ρ2, S2, F2, a2, f2, r2, e2, w2⟩ y
    obtain ⟨d, hd, hy⟩ := hY i H2 v H3 hi y
    obtain ⟨F3, f3, r3, iv⟩ := hy F2 S2 r2 f2.ext
    rw [drop_at hd] at w2
    have f13 := f1.trans (f2.trans f3)
    refine kg d ρ2 σ2 v F3 S2 H3 _ _ iv r3 (e2.mono f3.ext) w2 ?_
    intro ρ' σ' e4 ag w4
    refine k1 ρ' S2 F3 σ' H3 _ _ r3 e4 (x.step (a2.trans ag) f13) w4 ⟨fun ρ' S' F' σ' H' a f r' e' w' => ⟨ρ', S', F', (a2.trans ag).trans a, (f2.trans f3).trans f, r', e', w'⟩, fun d S' F' v H' f r' i' w' => en.rt d S' F' v H' (f13.trans f) r' i' w', fun ρ' S' F' σ' H' a f r' e' w' => en.nx ρ' S' F' σ' H' ((a2.trans ag).trans a) (f13.trans f) r' e' w', fun ρ' S' F' σ' H' a f r' e' w' => ⟨ρ', S', F', (a2.trans ag).trans a, (f2.trans f3).trans f, r', e', w'⟩⟩
  · rintro σ2 H2 ⟨ρ2, S2, F2, a2, f2, r2, e2, w2⟩
    rw [List.drop_length] at w2
    exact en.nx ρ2 S2 F2 σ2 H2 a2 (f1.trans f2) r2 e2 w2
/-! ### what stands in no row of the text: an object is looked at as data from here on -/
theorem RE.same {K : PySem.W.Frag} {F : Hp} {ρ : Env} {σ : L2.St} {i : Nat} {v : V} {d : D} (e : RE K F ρ σ) (h : σ[i]? = some (some v)) (is : Is K F v d) : RE K F (DL.put ρ i d) σ := by
  have := e.put i is
  rw [show σ.set i (some v) = σ from by
    refine List.ext_getElem? fun j => ?_
    by_cases hj : i = j
    · subst hj
      rw [h, List.getElem?_set_self (List.getElem?_eq_some_iff.mp h).1]
    · rw [List.getElem?_set_ne hj]] at this
  exact this
theorem SSs.fz {i : Nat} (h : SSs B Y W C xq vs sts w1) : SSs B Y W C xq vs sts (fun ρ St k => ∃ a, get ρ i = some (.ref a) ∧ match St a with
    | some (.lst ds) => w1 (put ρ i (.lst ds)) (del St a) k
    | some (.dct kvs) => w1 (put ρ i (.dct kvs)) (del St a) k
    | _ => False) := by
  obtain ⟨t, p, kk⟩ := h.ex
  refine ⟨⟨t, p, fun ρ St F σ H k E r e x w en => ?_⟩⟩
  obtain ⟨a, g, w⟩ := w
  obtain ⟨v, hv, is⟩ := e.at_ i _ g
  cases is
  cases eo : St a with
  | none => simp only [eo] at w
  | some o =>
    have ho := (r.own a o eo).2
    cases o with
    | lst ds =>
      simp only [eo] at w
      obtain ⟨xs, hx, z, il⟩ := ho
      obtain ⟨r2, f2⟩ := r.freeze eo hx
      exact kk _ _ _ σ H k E r2 ((e.mono f2.ext).same hv (.lst upd_same z (il.mono f2.ext))) (x.step Ag.refl f2) w (en.step Ag.refl f2)
    | dct ds =>
      simp only [eo] at w
      obtain ⟨xs, hx, z, nd, il⟩ := ho
      obtain ⟨r2, f2⟩ := r.freeze eo hx
      exact kk _ _ _ σ H k E r2 ((e.mono f2.ext).same hv (.dct upd_same z (il.mono f2.ext))) (x.step Ag.refl f2) w (en.step Ag.refl f2)
    | ins => simp only [eo] at w
    | tdc => simp only [eo] at w
/-- x, y = a, b -/
theorem SS.par {i j : Nat} {x y : Str} {px py p1 p2 : Pos} {k1 k2 : Nat} (cl : ∀ δ, Y δ → δ.calm = true) (hN : B.N.Nodup) (hi : B.N[i]? = some x) (hj : B.N[j]? = some y) (hij : i ≠ j) (hx : ∀ δ, Y δ → δ.env.scope.names.lookup x = some .local ∧ δ.env.scope.names.lookup y = some .local)
    (hw : ∀ δ, Y δ → swappedStores [.Tuple [.Name x px, .Name y py] k1 p1] (.Tuple [a, b] k2 p2) δ.env = pure (some [x, y])) (ha : SE B Y W C xq a wa) (hb : SE B Y W C xq b wb) (sa : notStar a = true) (sb : notStar b = true) (vi : i ∈ vs) (vj : j ∈ vs) :
    SS B Y W C xq vs (.Assign [.Tuple [.Name x px, .Name y py] k1 p1] (.Tuple [a, b] k2 p2) pos) (fun ρ St k => wa ρ St fun d S1 => wb ρ S1 fun e S2 => k.nx (DL.put (DL.put ρ i d) j e) S2) := by
  obtain ⟨ta, pa, ka⟩ := ha.ex
  obtain ⟨tb, pb, kb⟩ := hb.ex
  refine ⟨⟨tPar i j (tCons ta (tCons tb tNil)), fun δ hδ => ps_par (X := cx B δ) (cl δ hδ) hN hi hj hij (hx δ hδ).1 (hx δ hδ).2 (pa_cons (pa δ hδ) (pa_cons (pb δ hδ) pa_nil (star_cons sb _)) (star_cons sa _)) (hw δ hδ) (by unfold swapsWithSole; exact no_swap rfl _ _ _), fun ρ St F σ H k E r e x w en => ?_⟩⟩
  refine ka ρ St F σ H _ _ r e x.eq w fun d S1 F1 v H1 f1 r1 i1 w1 => ?_
  refine kb ρ S1 F1 σ H1 _ _ r1 (e.mono f1.ext) (x.step Ag.refl f1).eq w1 fun d2 S2 F2 v2 H2 f2 r2 i2 w2 => ?_
  exact ⟨v, v2, rfl, en.nx _ S2 F2 _ H2 ((Ag.set vi).trans (Ag.set vj)) (f1.trans f2) r2 ((((e.mono f1.ext).mono f2.ext).put i (i1.mono f2.ext)).put j i2) w2⟩
end
end DL
/-! DLH: defs called within an except suite that raise nothing. -/
namespace DL
open PySem PySem.Spec PyProof.Rows L2 L2H
/-- no exception leaves -/
noncomputable def cx0 : CXT := fun _ _ _ _ _ _ => False
/-- what such a def promises there: p, what the suite handles, stays -/
structure FnQ (P : Program) (w : World) (K : PySem.W.Frag) (mg : Str → Option Value) (base : Heap) (k : Nat) (f : Addr) (fd : FuncData) (ps : List Str) (sp : Sp) : Prop where
  len : ∀ vs H Q E, sp vs H Q E → vs.length = ps.length
  run : ∀ (A : Around) (outer : List PySem.Env) (s : Shared) (H : Hp) (args : Args) (us : List Value) (vs : List V) (Q : VK) (E : XK) (p : Addr × Obj), RoomH k A → PinOk outer H s p → Env0 P w K mg base A outer s H → BindsTo s fd args (ps.zip us) → Vals vs us → sp vs H Q E →
    codeAny (model P w) A (.call (.ref f) args) (CR cx0 outer P w H s Q E) s
theorem fnq_of {P : Program} {w : World} {K : PySem.W.Frag} {mg : Str → Option Value} {base : Heap} {x qual : Str} {params : Arguments} {body : List Stmt} {scope : Scope} {dvs : List V} {kws : List (Str × V)} {f : Addr} {fd : FuncData} {N ps : List Str} {k : Nat} {sp : Sp}
    (F : FunD K x qual params body scope dvs kws f fd) (S : FnScope N ps scope) (len : ∀ vs H Q E, sp vs H Q E → vs.length = ps.length)
    (hb : ∀ (cdv : Value) (A : Around) (outer : List PySem.Env) (s : Shared) (H : Hp) (vs : List V) (Q : VK) (E : XK) (p : Addr × Obj), RoomH k (A.deeper (envOfC qual scope s.heap.objs.size f cdv)) → sp vs H Q E →
      ∃ t, PSs (cxH cx0 P w K mg base N qual scope f cdv A outer s H E p) body t ∧ t { nx := fun _ H' => Q .non H', rt := Q } (L2.start N vs) H) : FnQ P w K mg base (k + 1) f fd ps sp := by
  obtain ⟨oc, od, dV, kV, doc, pm, an, cdv, ct, osl, rfl, lk, hcd, _, _⟩ := F.ex
  refine ⟨len, fun A outer s H args us vs Q E p hr hpin e0 hbd r hsp => ?_⟩
  have hl := len _ _ _ _ hsp
  have KX : K.In s.heap := e0.mod.kin.keeps fun b o e => (e0.bs b o e).1
  have lim : s.heap.NoLimit := e0.mod.nolimit.keeps fun b o e => (e0.bs b o e).1
  have kinds : ∀ y ∈ ps.zip us, scope.names.lookup y.1 = some .local ∨ (scope.names.lookup y.1 = some .cell ∧ ((cellsFrom (s.heap.objs.size + 1) scope.names []).lookup y.1).isSome = true) := fun ⟨n, v⟩ hy => by
    rcases S.par n (List.of_mem_zip hy).1 with q | q
    · exact .inl q
    · exact .inr ⟨q, PySem.W.cellsFrom_some _ _ _ (.inl q)⟩
  refine codeAny_call_function hr.depth (KX _ _ lk) rfl S.co S.gen rfl (PySem.W.codeRec_of KX hcd) (hbd _ _ _ _ ?_)
  refine wpAny_newFunctionEnv_cells S.kind kinds fun env he s1 x => ?_
  subst he
  refine ⟨lim.keeps x.toInCall.keep, codeAny_func ?_⟩
  obtain ⟨t, ht, hq⟩ := hb cdv A outer s H vs Q E p (hr.deeper _) hsp
  have I : Inv (cxH cx0 P w K mg base N qual scope f cdv A outer s H E p) [] (L2.start N vs) H s1 := inv_startH S hpin e0 hl r x
  refine wpAny_mono (ht.run [] s1 (L2.start N vs) H _ I hq) (fun fl s' hs => ?_) fun e s' hs => hs
  cases fl with
  | ret u =>
    obtain ⟨v, σ', H', J, rv, q⟩ := hs
    exact ⟨v, H', J.os, J.bare, J.base, J.hok, rv, q⟩
  | next =>
    obtain ⟨σ', H', J, q⟩ := hs
    exact ⟨V.non, H', J.os, J.bare, J.base, J.hok, (rfl : RelV V.non Value.none), q⟩
  | brk =>
    obtain ⟨_, _, _, q⟩ := hs
    exact False.elim q
  | cont =>
    obtain ⟨_, _, _, q⟩ := hs
    exact False.elim q
noncomputable def tQ (sp : Sp) (t : TA) : TE := fun σ H Q => t σ H fun vs H1 => sp vs H1 Q fun _ _ _ => False
theorem pe_callQ {X : Cx} {k : Nat} {f : Addr} {fd : FuncData} {ps : List Str} {sp : Sp} {x : Str} {q pos : Pos} {e : Expr} {es : List Expr} {t : TA} (F : FnQ X.prog X.w X.K X.mg X.base k f fd ps sp) (hr : RoomH k X.A) (hp : ∃ p, p ∈ X.pn) (hg : Gl X x) (hm : X.mg x = some (.ref f))
    (hk : PySem.W.keepIn X.K (.ref f) = true) (hb : Binds X.K fd ps []) (ha : PA X (e :: es) t) (hdb : (x == ("__debug__" : Str)) = false) (he : starEach (e :: es) X.env = (false, eval e X.env) :: starEach es X.env := by rfl) (hpl : (backTo pos (starEach es X.env)).any (·.1) = false := by rfl) :
    PE X (.Call (.Name x q) (e :: es) [] pos) (tQ sp t) := by
  obtain ⟨p, hp⟩ := hp
  refine ⟨fun pins s σ H Q I h => ?_⟩
  refine wpAny_Call_Name_kw (ld_glob I hg hm ?_ hdb)
  refine PySem.W.callWith_K (h₀ := X.base) I.ok.mod.kin hk (thn (ha.run pos pins s σ H _ I h) fun us s1 ⟨vs, H1, I1, r, h1⟩ => ⟨I1.kIn, ?_⟩) he hpl
  have hl : us.length = ps.length := by rw [← r.length]; exact F.len _ _ _ _ h1
  have b := hb s1 us I1.kIn (by rw [List.append_nil]; exact hl)
  rw [List.append_nil] at b
  have P1 := I1.pin p (List.mem_append_left _ hp)
  have hpin : PinOk X.stack H1 s1 p := ⟨P1.1, P1.2.1, fun hm => (List.mem_cons.mp (I1.stkSub p.1 hm)).elim P1.2.2.1 P1.2.2.2.1, P1.2.2.2.2⟩
  refine wpAny_call (codeAny_mono (F.run X.A X.stack s1 H1 ⟨us, []⟩ us vs Q _ p hr hpin I1.env0 b r h1) fun r2 s' hq => ?_)
  cases r2 with
  | error e => exact False.elim hq
  | ok fl =>
    cases fl with
    | ret u => exact I1.after hq
    | next => exact False.elim hq
    | brk => exact False.elim hq
    | cont => exact False.elim hq
end DL
namespace PySem.W
open PySem PySem.Spec PySem.Calls PyProof.Rows
section
variable {prog : Program} {w : World} {A : Around} {E : Value → Shared → Prop} {s : Shared} {K : Frag} {x D : Addr} {ox od : Obj}
/-- an error that has a dict of its own: its __class__ -/
theorem kin_classS {Q : Option Value → Shared → Prop} (C : L2.ExcC K D) (X : K.In s.heap) (I : InstAt s.heap x ox D (some od)) (h : Q (some (.ref D)) { s with toks := s.toks + 1 }) : wpAny (model prog w) A (getAttr? (.ref x) "__class__") Q E s := by
  have hf : findObj K D (some od) "__class__" = some (.bind (.builtin "getset_descriptor.__get__") (.builtin "object.__class__")) := findObj_data (by obtain ⟨cd, hc, _⟩ := any_some C.hd; rw [hc]; rfl) C.ha C.hn C.ht
  obtain ⟨hp, g, d, t, os⟩ := s
  have L0 := I.type (M := model prog w)
  have L1 := looks_findIn (M := model prog w) X C.hg
  have L2 := looks_findIn (M := model prog w) X C.hk
  have L3 := looks_find (M := model prog w) X I hf
  have sub : Looks (model prog w) hp (isInstance (.ref x) (.type "BaseException")) true := L0.andThen (looks_subIn X C.hs)
  have hx0 : (false && onTheHeap (Value.builtin "BaseException.__getattribute__")) = false := rfl
  have hx1 : (onTheHeap (Value.ref D) && Value.builtin "BaseException.__getattribute__" == Value.builtin "object.__getattribute__") = false := by
    rw [show (Value.builtin "BaseException.__getattribute__" == Value.builtin "object.__getattribute__") = false by decide +kernel]; rfl
  unfold getAttr? getAttrBy? getAttrBy
  refine wpAny_bind (wpAny_mkText (wpAny_bind (wpAny_attempt (wpAny_holding (wpAny_bind (L0.at (wpAny_bind (L1.at ?_))))))))
  show wpAny _ _ (if (onTheHeap (Value.ref D) && Value.builtin "BaseException.__getattribute__" == Value.builtin "object.__getattribute__") = true then _ else _) _ _ _
  rw [hx1, if_neg Bool.false_ne_true]
  unfold getAttrByItsOwn hookBefore
  refine wpAny_bind ?_
  rw [if_pos (show onTheHeap (Value.ref D) = true from rfl)]
  refine L2.at ?_
  refine wpAny_bind (wpAny_attempt (wpAny_holding ?_))
  unfold callGetattribute
  rw [hx0, if_neg Bool.false_ne_true]
  unfold boundAndCalled
  rw [PySem.F.excAttr_ValueError.ga.bind (.ref x)]
  refine wpAny_bind (wpAny_pure ?_)
  show wpAny _ _ (call (.builtin "BaseException.__getattribute__") [.ref x, .str "__class__" t]) _ _ _
  refine wpAny_call (codeAny_call_builtin PySem.F.excAttr_ValueError.ga.plain PySem.F.entry_bexc_ga ?_)
  refine @check_slot (model prog w) _ _ ⟨hp, g, d, t + 1, os⟩ "BaseException.__getattribute__" "BaseException" "__getattribute__" (.ref x) [.str "__class__" t] [] _ (by decide +kernel) (by decide +kernel) sub (PySem.F.args_bexc_ga (.ref x) (.str "__class__" t)) ?_
  unfold Builtin.«object.__getattribute__»
  refine wpAny_bind (wpAny_of_eq (a := ((Value.ref x : Value), [Value.str "__class__" t])) (by first | rfl | (simp only [slotArgs]; rfl)) ?_)
  refine wpAny_bind (wpAny_pure (wpAny_bind (L0.at (wpAny_bind (L3.at ?_)))))
  show wpAny _ _ (holding [Value.builtin "object.__class__"] (call (.builtin "getset_descriptor.__get__") [.builtin "object.__class__", .ref x, .ref D]) >>= ret) _ _ _
  refine wpAny_bind (wpAny_holding (wpAny_call (class_get (s := ⟨hp, g, d, t + 1, os⟩) (ox := ox) (od := some od) X I C.hm ?_)))
  refine wpAny_pure ?_
  show wpAny _ _ (handedOut (.ref D)) _ _ _
  rw [handedOut_of (v := .ref D) rfl]
  first
    | exact wpAny_pure (wpAny_pure h)
    | exact wpAny_pure h
    | exact wpAny_pure (wpAny_bind (wpAny_pure (wpAny_pure h)))
theorem kitx_excS (C : L2.ExcC K D) : KitX K (.ref x) (.ref D) (fun h => ∃ od, InstAt h x ox D (some od)) where
  ty := fun _ _ _ ⟨_, I⟩ => I.type
  it := fun _ _ X _ => by
    obtain ⟨cdD, hcD, _⟩ := any_some C.hd
    unfold clsIn at hcD
    split at hcD
    · rename_i c' d' cd' sl' ho
      intro A' Q' E' s' k q
      unfold isType loadHead
      exact wpAny_bind (wpAny_loadPart (k _ _ (X _ _ ho)) (wpAny_pure q))
    · cases hcD
  ne := fun h tp dd its n sl X htp => by
    obtain ⟨cdD, hcD, _⟩ := any_some C.hd
    refine Bool.eq_false_iff.mpr fun q => ?_
    have e : D = tp := Value.ref.inj (beq_iff_eq.mp q)
    subst e
    unfold clsIn at hcD
    split at hcD
    · rename_i c' d' cd' sl' ho
      have z := (X _ _ ho).symm.trans htp
      cases z
    · cases hcD
  ca := fun X I k => by
    obtain ⟨od, I⟩ := I
    exact kin_classS C X I k
end
end PySem.W
namespace DL
open PySem PySem.Spec PyProof.Rows L2 L2H
/-- isinstance(e, c), e the error that the suite holds, with a dict at dd -/
noncomputable def rIsEd (K : PySem.W.Frag) (D a dd : Addr) : List V → Hp → VK → Prop := fun xs H Q => ∃ (c : V) (cv : Value) (b : Bool) (fs : List (Str × V)), xs = [.ref a, c] ∧ (∀ u, RelV c u → u = cv) ∧ PySem.W.kitOne K (.ref D) cv = some b ∧ H dd = some (.xd fs) ∧ Q (.bl b) H
theorem call_isEd {X : Cx} {a D dd : Addr} {oe : Obj} {pn : List (Addr × Obj)} (C : ExcC X.K D) (hz : Zc (.ref D) (some dd) oe) (hf : ∃ vs, oe.data = .fields vs) : CallR (X.suite a ((a, oe) :: pn)) (.builtin "isinstance") (rIsEd X.K D a dd) := by
  intro pins s σ H xs us Q I r h
  obtain ⟨c, cv, b, fs, rfl, hcv, e, ea, q⟩ := h
  cases r with
  | cons rx rr =>
    cases rr with
    | cons rt rr =>
      cases rr
      cases rx
      have ec := hcv _ rt
      subst ec
      obtain ⟨hget, _⟩ := I.pin (a, oe) (List.mem_append.mpr (.inl List.mem_cons_self))
      obtain ⟨vs, hd⟩ := hf
      have hx : ObjOk X.prog X.w H s.heap dd (.xd fs) := I.hok dd _ ea
      obtain ⟨mA, hns, hr⟩ := hx
      obtain ⟨od, ho, hl⟩ := lookIn_ns hns
      have J : ∃ od, PySem.W.InstAt s.heap a oe D (some od) := ⟨od, hget, hz.1, by unfold PySem.W.notCls; rw [hd] <;> rfl, by rw [hz.2]; exact ho⟩
      exact PySem.W.kia_one (PySem.W.kitx_excS C) I.kIn J e (fun z => nomatch z) fun tk => ⟨.bl b, H, I.kept (t' := tk) fun _ _ z => z, rfl, q⟩
/-! ### _law_is_integer, _law_same, at ints -/
noncomputable def spI1 : Sp := fun vs H Q _ => ∃ n, vs = [.int n] ∧ Q (.bl true) H
noncomputable def spSm : Sp := fun vs H Q _ => ∃ i j, vs = [.int i, .int j] ∧ Q (.bl (decide (i = j))) H
variable [TBS]
section
variable {X : Cx} {N : List Str}
theorem dead (x : List Stmt) : PSs X x (fun _ _ _ => False) := ⟨fun pins s σ H D I h => h.elim⟩
/-- isinstance(x, T) -/
theorem pe_isT {i : Nat} {x : Str} {t : Ty} {p p1 p2 p3 : Pos} (hx : X.N[i]? = some x) (v : Vis X.env.scope x) (d : (x == ("__debug__" : Str)) = false ∧ (x == ("__classdict__" : Str)) = false) (g1 : Gl X "isinstance") (m1 : X.mg "isinstance" = none) (g2 : Gl X (Str.ofString (tyNm t))) (m2 : X.mg (Str.ofString (tyNm t)) = none) :
    PE X (.Call (.Name "isinstance" p) [.Name x p1, .Name (Str.ofString (tyNm t)) p2] [] p3) (tCB (rIsi X.K) (tCons (tVar i) (tCons (tC (.ty (tyNm t))) tNil))) :=
  pe_callB call_isi g1 m1 boot_isinstance (pa_cons (pe_var hx v d.1 d.2) (pa_cons (pe_bltn g2 m2 (boot_ty t) rfl (ty_plain t).1 (ty_plain t).2) pa_nil) (star_cons rfl _)) (by decide) (by decide) (star_cons rfl _) rfl
theorem isT_int {K : PySem.W.Frag} {σ : L2.St} {H : Hp} {i : Nat} {n : Int} {t : Ty} {Q : VK} (hs : σ[i]? = some (some (.int n))) (q : Q (.bl (isK t .int)) H) : tCB (rIsi K) (tCons (tVar i) (tCons (tC (.ty (tyNm t))) tNil)) σ H Q :=
  ⟨_, hs, ⟨_, .ty (tyNm t), _, _, _, rfl, .ty _, .base (.int n), kit_ty (kit_tk t .int), q⟩⟩
end
/-- _law_same may be called there -/
structure HSm (B : Bx) : Prop where
  fn : ∃ (f : Addr) (fd : FuncData) (ps : List Str), B.mg "_law_same" = some (.ref f) ∧ PySem.W.keepIn B.K (.ref f) = true ∧ Binds B.K fd ps [] ∧ FnQ B.prog B.w B.K B.mg B.base 2 f fd ps spSm
  li : B.mg "isinstance" = none
  ln : B.mg "len" = none
end DL
/-! DLW: raise, try over data. -/
namespace DL
open PySem PySem.Spec PyProof.Rows L2
variable [TBS]
theorem get_wip : ∀ (ρ : Env) (vs : List Nat) (i : Nat) (d : D), get (wip ρ vs) i = some d → get ρ i = some d ∧ i ∉ vs
  | ρ, [], i, d, h => ⟨h, by simp⟩
  | ρ, v :: vs, i, d, h => by
    obtain ⟨a, b⟩ := get_set_none _ _ _ _ (show get ((wip ρ vs).set v none) i = some d from h)
    obtain ⟨c, e⟩ := get_wip ρ vs i d a
    exact ⟨c, fun z => by
      rcases List.mem_cons.mp z with z | z
      · exact b z
      · exact e z⟩
theorem wip_len (ρ : Env) : ∀ (vs : List Nat), (wip ρ vs).length = ρ.length
  | [] => rfl
  | v :: vs => by show ((wip ρ vs).set v none).length = _; rw [List.length_set, wip_len ρ vs]
/-- slots that may have changed are forgotten -/
theorem RE.ag {K : PySem.W.Frag} {F : Hp} {ρ : Env} {σ σ' : L2.St} {vs : List Nat} (r : RE K F ρ σ) (a : Ag vs σ σ') : RE K F (DL.wip ρ vs) σ' := by
  refine ⟨by rw [wip_len, r.len, a.1], fun i d h => ?_⟩
  obtain ⟨g, n⟩ := get_wip ρ vs i d h
  obtain ⟨v, e, is⟩ := r.at_ i d g
  exact ⟨v, by rw [a.2 i n]; exact e, is⟩
/-- a class of errors of the text: no __init__ of its own -/
structure XF (B : Bx) (C : XC) (c : Nat) (x : Str) : Prop where
  mg : ∃ Ca, B.mg x = some (.ref Ca) ∧ C.cls c = .ref Ca ∧ PySem.W.keepIn B.K (.ref Ca) = true ∧
    PySem.W.subIn B.K (.ref Ca) (.type "BaseException") = some true ∧ PySem.W.typeIn B.K (.ref Ca) = some (.type "type")
  lt : c < NX
  exm : ∀ c', c' < NX → PySem.W.exmOne B.K (C.cls c') (C.cls c) = some (decide (c' = c))
/-- .. made as ValueError is -/
structure XP (B : Bx) (C : XC) (c : Nat) : Prop where
  mg : ∃ Ca, C.cls c = .ref Ca ∧ PySem.W.excIn B.K Ca [.type "ValueError", .type "Exception", .type "BaseException", .type "object"] "ValueError.__new__" = true
/-- .. with a field -/
structure XG (B : Bx) (C : XC) (c : Nat) : Prop where
  mg : ∃ Ca, C.cls c = .ref Ca ∧ XfC B.K Ca ∧ PySem.W.findIn B.K (.ref Ca) "start" = some none
  fld : C.fld c = "start"
section
variable {B : Bx} {Y : Dl → Prop} {W : WX} {C : XC} {xq : QX} {vs : List Nat} {pos : Pos}
theorem SS.rais {c : Nat} {x m : Str} {j : Nat} {p p2 pos' : Pos} (cl : ∀ δ, Y δ → δ.calm = true) (tk : ∀ δ, Y δ → Takes (cx B δ) W) (T : XF B C c x) (T2 : XP B C c) (hg : ∀ δ, Y δ → Gl (cx B δ) x) (hd : (x == ("__debug__" : Str)) = false) :
    SS B Y W C xq vs (.Raise (some (.Call (.Name x p) [.Constant (.str m) j p2] [] pos')) none pos) (fun _ St _ => xq c .non St) := by
  obtain ⟨Ca, hm, hc, h2, h3, h4⟩ := T.mg
  obtain ⟨Ca', hc', h1⟩ := T2.mg
  obtain rfl : Ca' = Ca := by rw [hc] at hc'; cases hc'; rfl
  refine ⟨⟨_, fun δ hδ => ps_raise (cl δ hδ) (tk δ hδ) (pmk_own (X := cx B δ) PySem.F.excBase_ValueError h1 hm h2 (raises_own h3 h4) (hg δ hδ) hd), fun ρ St F σ H k E r e x w en => ?_⟩⟩
  have := x c .non St F H none σ Ag.refl Fr.refl r (.inl ⟨rfl, rfl⟩) w
  rwa [hc] at this
/-- the contexts of a try's body -/
noncomputable def trY (B : Bx) (Y : Dl → Prop) (W' : WX) : Dl → Prop := fun δ' => ∃ δ pn xe, Y δ ∧ Takes ((cx B δ).tr pn xe) W' ∧ PassesOwn (model B.prog B.w) δ.A δ.env xe ∧ δ' = { δ with pn := pn, xe := xe }
/-- an except suite's text -/
noncomputable def tSu (B : Bx) (C : XC) : Su → Addr → Value → Option Addr → TS
  | .con .non, _, _, _ => tRet (tC .non)
  | .con (.bl b), _, _, _ => tRet (tC (.bl b))
  | .con (.int i), _, _, _ => tRet (tC (.int i))
  | .con (.str s), _, _, _ => tRet (tC (.str (mkS s)))
  | .con _, _, _, _ => fun _ _ _ => False
  | .isx (.str s) (.str t), a, cls, d => fun D σ H => (∃ c, cls = C.cls c ∧ c < NX) ∧ d = none ∧ D.rt (.str (mkS s)) H
  | .isx _ _, _, _, _ => fun _ _ _ => False
  | .gt i n, _, _, _ => fun D σ H => ∃ j, σ[i]? = some (some (.int j)) ∧ D.rt (.bl (decide (n < j))) H
  | .fld, a, cls, d => fun D σ H => ∃ (Ca dd : Addr) (n : Int), cls = .ref Ca ∧ XfC B.K Ca ∧ PySem.W.findIn B.K (.ref Ca) "start" = some none ∧ d = some dd ∧ H dd = some (.xd [("start", .int n)]) ∧ D.rt (.int n) H
  | .sme k y, a, cls, d => fun D' σ H => ∃ (Ca dd : Addr) (n : Int) (F : Hp) (S : Sto) (ρ : Env) (p : Addr) (kvs : List (D × D)) (s : Bs), cls = .ref Ca ∧ (∃ c, cls = C.cls c ∧ c < NX) ∧ XfC B.K Ca ∧ PySem.W.findIn B.K (.ref Ca) "start" = some none ∧ d = some dd ∧ H dd = some (.xd [("start", .int n)]) ∧
      SR B.K B.w F S H ∧ RE B.K F ρ σ ∧ get ρ k = some (.ref p) ∧ S p = some (.dct kvs) ∧ lookD kvs (.str y) = some (.str s) ∧ ∀ F' H', Fr F S H F' S H' → SR B.K B.w F' S H' → D'.rt (.bl (decide (n = ((s.length : Nat) : Int) + 1))) H'
noncomputable def constB : Const → D → Bool
  | .none, .non => true
  | .bool a, .bl b => a == b
  | .int i, .int j => decide (i = j)
  | .str z, .str s => decide (z = mkS s) && decide (s.length ≤ 1000)
  | _, _ => false
/-- what the classes must say for isinstance(e, x) -/
structure XI (B : Bx) (C : XC) (x : Str) : Prop where
  mg : ∃ Cs, B.mg x = some (.ref Cs)
  blt : B.mg "isinstance" = none
  all : ∀ c, c < NX → ∃ D Cs, C.cls c = .ref D ∧ B.mg x = some (.ref Cs) ∧ ExcC B.K D ∧ PySem.W.kitOne B.K (.ref D) (.ref Cs) = some true
noncomputable def kRetS (x : List Stmt) (f : Expr → Bool) : Bool := match x with
  | [.Return (some e) _] => f e
  | _ => false
theorem kRetS_inv {x : List Stmt} {f : Expr → Bool} (h : kRetS x f = true) : ∃ e p, x = [.Return (some e) p] ∧ f e = true := by
  unfold kRetS at h; split at h
  · exact ⟨_, _, rfl, h⟩
  · cases h
noncomputable def kIsx (e : Expr) (f : Str → Str → Str → Const → Const → Bool) : Bool := match e with
  | .IfExp (.Call (.Name i _) [.Name x _, .Name y _] [] _) (.Constant c _ _) (.Constant d _ _) _ => f i x y c d
  | _ => false
theorem kIsx_inv {e : Expr} {f : Str → Str → Str → Const → Const → Bool} (h : kIsx e f = true) : ∃ i x y c d p1 p2 p3 p4 j1 p5 j2 p6 p7, e = .IfExp (.Call (.Name i p1) [.Name x p2, .Name y p3] [] p4) (.Constant c j1 p5) (.Constant d j2 p6) p7 ∧ f i x y c d = true := by
  unfold kIsx at h; split at h
  · exact ⟨_, _, _, _, _, _, _, _, _, _, _, _, _, _, rfl, h⟩
  · cases h
noncomputable def kGt (e : Expr) (f : Str → Const → Bool) : Bool := match e with
  | .Compare (.Name x _) [.Gt] [.Constant c _ _] _ => f x c
  | _ => false
theorem kGt_inv {e : Expr} {f : Str → Const → Bool} (h : kGt e f = true) : ∃ x p c j q r, e = .Compare (.Name x p) [.Gt] [.Constant c j q] r ∧ f x c = true := by
  unfold kGt at h; split at h
  · exact ⟨_, _, _, _, _, _, rfl, h⟩
  · cases h
noncomputable def kFldE (e : Expr) (f : Str → Str → Bool) : Bool := match e with
  | .Attribute (.Name x _) m _ => f x m
  | _ => false
theorem kFldE_inv {e : Expr} {f : Str → Str → Bool} (h : kFldE e f = true) : ∃ x p m q, e = .Attribute (.Name x p) m q ∧ f x m = true := by
  unfold kFldE at h; split at h
  · exact ⟨_, _, _, _, rfl, h⟩
  · cases h
noncomputable def kSme (e : Expr) (f : Str → Str → Str → Str → Str → Str → Str → Str → Const → Const → Bool) : Bool := match e with
  | .BoolOp .And [.Call (.Name i _) [.Name v _, .Name y _] [] _, .Call (.Name g _) [.Attribute (.Name u _) m _, .BinOp (.Call (.Name l _) [.Subscript (.Name o _) (.Constant c _ _) _] [] _) .Add (.Constant b _ _) _] [] _] _ => f i v y g u m l o c b
  | _ => false
theorem kSme_inv {e : Expr} {f : Str → Str → Str → Str → Str → Str → Str → Str → Const → Const → Bool} (h : kSme e f = true) : ∃ i v y g u m l o c b p1 p2 p3 p4 p5 p6 p7 p8 p9 j1 p10 p11 p12 j2 p13 p14 p15 p16, e = .BoolOp .And [.Call (.Name i p1) [.Name v p2, .Name y p3] [] p4, .Call (.Name g p5) [.Attribute (.Name u p6) m p7, .BinOp (.Call (.Name l p8) [.Subscript (.Name o p9) (.Constant c j1 p10) p11] [] p12) .Add (.Constant b j2 p13) p14] [] p15] p16 ∧ f i v y g u m l o c b = true := by
  unfold kSme at h; split at h
  · exact ⟨_, _, _, _, _, _, _, _, _, _, _, _, _, _, _, _, _, _, _, _, _, _, _, _, _, _, _, _, rfl, h⟩
  · cases h
noncomputable def kConstE (e : Expr) (f : Const → Bool) : Bool := match e with
  | .Constant c _ _ => f c
  | _ => false
theorem kConstE_inv {e : Expr} {f : Const → Bool} (h : kConstE e f = true) : ∃ c j p, e = .Constant c j p ∧ f c = true := by
  unfold kConstE at h; split at h
  · exact ⟨_, _, _, rfl, h⟩
  · cases h
end
noncomputable def visS (sc : Scope) (x : Str) : Bool := (match sc.names.lookup x with | some .local => true | some .cell => true | some .free => true | _ => false) && !(x == ("__debug__" : Str)) && !(x == ("__classdict__" : Str))
noncomputable def glS (sc : Scope) (x : Str) : Bool := (match sc.names.lookup x with | some .globalImplicit => true | _ => false) && !(x == ("__debug__" : Str))
/-- an except suite against its text; en: the error's slot, bs: the base class -/
noncomputable def okSu (N : List Str) (sc : Scope) (en : Option Nat) (bs : Str) : Su → List Stmt → Bool
  | .con d, x => kRetS x fun e => kConstE e fun c => constB c d
  | .isx d f, x => kRetS x fun e => kIsx e fun i v y c g => (i == "isinstance") && glS sc i && (y == bs) && glS sc y && visS sc v && (match en with | some k => decide (N[k]? = some v) | none => false) && (match d, f with | .str s, .str t => constB c (.str s) && constB g (.str t) | _, _ => false)
  | .gt k n, x => kRetS x fun e => kGt e fun v c => decide (N[k]? = some v) && visS sc v && constB c (.int n)
  | .fld, x => kRetS x fun e => kFldE e fun v m => (m == ("start" : Str)) && visS sc v && (match en with | some k => decide (N[k]? = some v) | none => false)
  | .sme k z, x => kRetS x fun e => kSme e fun i v y g u m l o c b => (i == "isinstance") && glS sc i && (y == bs) && glS sc y && visS sc v && (u == v) && (m == ("start" : Str)) && (g == ("_law_same" : Str)) && glS sc g && (l == ("len" : Str)) && glS sc l && decide (N[k]? = some o) && visS sc o && constB c (.str z) && constB b (.int 1) && (match en with | some k => decide (N[k]? = some v) | none => false)
theorem visS_inv {sc : Scope} {x : Str} (h : visS sc x = true) : Vis sc x ∧ (x == ("__debug__" : Str)) = false ∧ (x == ("__classdict__" : Str)) = false := by
  unfold visS at h
  simp only [Bool.and_eq_true, Bool.not_eq_true'] at h
  refine ⟨?_, h.1.2, h.2⟩
  have h := h.1.1
  split at h
  · exact .inl (by assumption)
  · exact .inr (.inl (by assumption))
  · exact .inr (.inr (by assumption))
  · cases h
theorem glS_inv {sc : Scope} {x : Str} (h : glS sc x = true) : sc.names.lookup x = some .globalImplicit ∧ (x == ("__debug__" : Str)) = false := by
  unfold glS at h
  simp only [Bool.and_eq_true, Bool.not_eq_true'] at h
  refine ⟨?_, h.2⟩
  have h := h.1
  split at h
  · assumption
  · cases h
/-- .. en's slot holds the error -/
noncomputable def tSuE (B : Bx) (C : XC) (en : Option Nat) (h : Su) (a : Addr) (cls : Value) (d : Option Addr) : TS := match h with
  | .isx _ _ => fun D σ H => (∃ k, en = some k ∧ (k < σ.length → σ[k]? = some (some (.ref a)))) ∧ tSu B C h a cls d D σ H
  | .fld => fun D σ H => (∃ k, en = some k ∧ (k < σ.length → σ[k]? = some (some (.ref a)))) ∧ tSu B C h a cls d D σ H
  | .sme _ _ => fun D σ H => (∃ k, en = some k ∧ (k < σ.length → σ[k]? = some (some (.ref a)))) ∧ tSu B C h a cls d D σ H
  | _ => tSu B C h a cls d
section
variable {B : Bx} {C : XC}
noncomputable def isSmeS : Su → Bool
  | .sme _ _ => true
  | _ => false
theorem su_ok {δ : Dl} {sc : Scope} {en : Option Nat} {bs : Str} (hsc : δ.env.scope = sc) (hI : ∀ (d f : D), XI B C bs) : ∀ (h : Su) (hS : ∀ j, en = some j → isSmeS h = true → HSm B ∧ Room 2 δ.A) (x : List Stmt), okSu B.N sc en bs h x = true →
    ∀ (a : Addr) (oe : Obj) (cls : Value) (d : Option Addr) (pn : List (Addr × Obj)), Zc cls d oe → (∃ vs, oe.data = .fields vs) → PSs ((cx B δ).suite a ((a, oe) :: pn)) x (tSuE B C en h a cls d)
  | .con v, _, x, h, a, oe, cls, d, pn, hz, hf => by
    obtain ⟨e, p, rfl, h1⟩ := kRetS_inv h
    obtain ⟨c, j, q, rfl, h2⟩ := kConstE_inv h1
    cases c <;> cases v <;> first | (cases h2; done) | skip
    · exact pss_one (ps_ret pe_non)
    · have e := eq_of_beq h2
      subst e
      exact pss_one (ps_ret pe_bl)
    · have e := of_decide_eq_true h2
      subst e
      exact pss_one (ps_ret pe_int)
    · have h2 := (Bool.and_eq_true_iff.mp h2).1
      have e := of_decide_eq_true h2
      subst e
      exact pss_one (ps_ret pe_str)
  | .isx v w, _, x, h, a, oe, cls, d, pn, hz, hf => by
    obtain ⟨e, p, rfl, h1⟩ := kRetS_inv h
    obtain ⟨i, n, y, c, g, p1, p2, p3, p4, j1, p5, j2, p6, p7, rfl, h2⟩ := kIsx_inv h1
    simp only [Bool.and_eq_true] at h2
    obtain ⟨⟨⟨⟨⟨⟨e1, g1⟩, e2⟩, g2⟩, v1⟩, k1⟩, c1⟩ := h2
    have e1 := eq_of_beq e1
    have e2 := eq_of_beq e2
    subst e1; subst e2
    cases en with
    | none => cases k1
    | some k =>
      have hk := of_decide_eq_true k1
      cases v with
      | str s => cases w with
        | str t =>
          have c1 : (constB c (.str s) && constB g (.str t)) = true := c1
          rw [Bool.and_eq_true] at c1
          cases c <;> first | (cases c1.1; done) | skip
          cases g <;> first | (cases c1.2; done) | skip
          have z1 := of_decide_eq_true (Bool.and_eq_true_iff.mp c1.1).1
          have z2 := of_decide_eq_true (Bool.and_eq_true_iff.mp c1.2).1
          subst z1; subst z2
          refine ⟨fun pins s0 σ H D I q => ?_⟩
          obtain ⟨⟨k', ek, hs⟩, ⟨cc, rfl, hlt⟩, rfl, hq⟩ := q
          cases ek
          have hs := hs (by rw [I.len]; exact (List.getElem?_eq_some_iff.mp hk).1)
          have T := hI .non .non
          obtain ⟨Da, Cs, hc, hm, hx, hkit⟩ := T.all cc hlt
          have hz' : Zc (.ref Da) none oe := by rw [← hc]; exact hz
          obtain ⟨w1, w2, w3⟩ := visS_inv v1
          have hv := pe_var (X := (cx B δ).suite a ((a, oe) :: pn)) (pos := p2) hk (by show Vis δ.env.scope n; rw [hsc]; exact w1) w2 w3
          have hy := pe_glob (X := (cx B δ).suite a ((a, oe) :: pn)) (v := .ref Cs) (pos := p3) (by show δ.env.scope.names.lookup y = _; rw [hsc]; exact (glS_inv g2).1) hm rfl (glS_inv g2).2
          have hcall := pe_callB (pos := p4) (p := p1) (call_isE hx hz' hf) (by show δ.env.scope.names.lookup ("isinstance" : Str) = _; rw [hsc]; exact (glS_inv g1).1) T.blt (by decide +kernel) (pa_cons hv (pa_cons hy pa_nil))
          have htest := pt_truth hcall (plain_test rfl _)
          refine (pss_one (ps_ret (pos := p) (pe_ifExp (pos := p7) htest (pe_str (x := mkS s) (pos := p5)) (pe_str (x := mkS t) (pos := p6))))).run pins _ σ H D I ?_
          refine ⟨_, hs, ⟨_, _, true, rfl, fun u hu => hu, hkit, true, rfl, hq⟩⟩
        | _ => cases c1
      | _ => cases c1
  | .gt k n, _, x, h, a, oe, cls, d, pn, hz, hf => by
    obtain ⟨e, p, rfl, h1⟩ := kRetS_inv h
    obtain ⟨v, p1, c, j, q, r, rfl, h2⟩ := kGt_inv h1
    simp only [Bool.and_eq_true] at h2
    obtain ⟨⟨k1, v1⟩, c1⟩ := h2
    cases c <;> first | (cases c1; done) | skip
    have z := of_decide_eq_true c1
    subst z
    obtain ⟨w1, w2, w3⟩ := visS_inv v1
    refine ⟨fun pins s σ H D I q => ?_⟩
    obtain ⟨j, hs, hq⟩ := q
    refine (pss_one (ps_ret (pe_cmpR (X := (cx B δ).suite a ((a, oe) :: pn)) op_gt (pe_var (of_decide_eq_true k1) (by show Vis δ.env.scope v; rw [hsc]; exact w1) w2 w3) pe_int rfl))).run pins _ σ H D I ?_
    exact ⟨_, hs, _, _, rfl, rfl, hq⟩
  | .fld, _, x, h, a, oe, cls, d, pn, hz, hf => by
    obtain ⟨e, p, rfl, h1⟩ := kRetS_inv h
    obtain ⟨v, p1, m, p2, rfl, h2⟩ := kFldE_inv h1
    simp only [Bool.and_eq_true] at h2
    obtain ⟨⟨e1, v1⟩, k1⟩ := h2
    have e1 := eq_of_beq e1
    subst e1
    cases en with
    | none => cases k1
    | some k =>
      have hk := of_decide_eq_true k1
      refine ⟨fun pins s0 σ H D I q => ?_⟩
      obtain ⟨⟨k', ek, hs⟩, Ca, dd, n, rfl, T, hno, rfl, hH, hq⟩ := q
      cases ek
      have hs := hs (by rw [I.len]; exact (List.getElem?_eq_some_iff.mp hk).1)
      obtain ⟨w1, w2, w3⟩ := visS_inv v1
      have hv := pe_var (X := (cx B δ).suite a ((a, oe) :: pn)) (pos := p1) hk (by show Vis δ.env.scope v; rw [hsc]; exact w1) w2 w3
      refine (pss_one (ps_ret (pos := p) (pe_xf (X := cx B δ) (pos := p2) T hno hz hf hv))).run pins _ σ H D I ?_
      exact ⟨_, hs, rfl, rfl, dd, _, .int n, rfl, hH, rfl, hq⟩
  | .sme k z, hS, x, h, a, oe, cls, d, pn, hz, hf => by
    obtain ⟨e, p, rfl, h1⟩ := kRetS_inv h
    obtain ⟨i, v, y, g, u, m, l, o, c, b, p1, p2, p3, p4, p5, p6, p7, p8, p9, j1, p10, p11, p12, j2, p13, p14, p15, p16, rfl, h2⟩ := kSme_inv h1
    simp only [Bool.and_eq_true] at h2
    obtain ⟨⟨⟨⟨⟨⟨⟨⟨⟨⟨⟨⟨⟨⟨⟨e1, g1⟩, e2⟩, g2⟩, v1⟩, e3⟩, e4⟩, e5⟩, g3⟩, e6⟩, g4⟩, k2⟩, v2⟩, c1⟩, c2⟩, k1⟩ := h2
    have e1 := eq_of_beq e1
    have e2 := eq_of_beq e2
    have e3 := eq_of_beq e3
    have e4 := eq_of_beq e4
    have e5 := eq_of_beq e5
    have e6 := eq_of_beq e6
    subst e1; subst e2; subst e3; subst e4; subst e5; subst e6
    cases en with
    | none => cases k1
    | some ke =>
      have hk := of_decide_eq_true k1
      have ho := of_decide_eq_true k2
      cases c <;> first | (cases c1; done) | skip
      cases b <;> first | (cases c2; done) | skip
      have z1 := of_decide_eq_true (Bool.and_eq_true_iff.mp c1).1
      have z1l := of_decide_eq_true (Bool.and_eq_true_iff.mp c1).2
      have z2 := of_decide_eq_true c2
      subst z1; subst z2
      obtain ⟨HS, hr⟩ := hS ke rfl rfl
      obtain ⟨f, fd, ps, hm, hkp, hbd, FQ⟩ := HS.fn
      refine ⟨fun pins s0 σ H D' I q => ?_⟩
      obtain ⟨⟨k', ek, hs⟩, Ca, dd, n, F, S, ρ, pa, kvs, s, rfl, ⟨cc, hcc, hlt⟩, T, hno, rfl, hH, hSR, hRE, hg, hp, hl, hq⟩ := q
      cases ek
      have hs := hs (by rw [I.len]; exact (List.getElem?_eq_some_iff.mp hk).1)
      have T2 := hI .non .non
      obtain ⟨Da, Cs, hc, hm2, hx, hkit⟩ := T2.all cc hlt
      obtain rfl : Da = Ca := by rw [← hcc] at hc; cases hc; rfl
      obtain ⟨w1, w2, w3⟩ := visS_inv v1
      obtain ⟨u1, u2, u3⟩ := visS_inv v2
      have hv := fun ps => pe_var (X := (cx B δ).suite a ((a, oe) :: pn)) (pos := ps) hk (by show Vis δ.env.scope u; rw [hsc]; exact w1) w2 w3
      have hy := pe_glob (X := (cx B δ).suite a ((a, oe) :: pn)) (v := .ref Cs) (pos := p3) (by show δ.env.scope.names.lookup y = _; rw [hsc]; exact (glS_inv g2).1) hm2 rfl (glS_inv g2).2
      have hcall := pe_callB (pos := p4) (p := p1) (call_isEd hx hz hf) (by show δ.env.scope.names.lookup ("isinstance" : Str) = _; rw [hsc]; exact (glS_inv g1).1) T2.blt (by decide +kernel) (pa_cons (hv p2) (pa_cons hy pa_nil))
      have hst := pe_xf (X := cx B δ) (pos := p7) T hno hz hf (hv p6)
      have hln := SE.add (pos := p14) (SE.len (Y := fun δ' => δ' = { δ with A := δ.A.mark (some (.ref a)), calm := false, pn := (a, oe) :: pn, xe := fun _ _ => False }) (W := W0) (C := C) (xq := fun _ _ _ => False) (B := B) (p := p8) (pos := p12) (fun δ' e => by subst e; show δ.env.scope.names.lookup ("len" : Str) = _; rw [hsc]; exact (glS_inv g4).1) HS.ln
        (SE.idxU (pos := p11) (fun δ' e => by subst e; show δ.A.units + 9 < cLine; have := hr.un; omega) (SE.var (i := k) (x := o) (pos := p9) ho (fun δ' e => by subst e; show Vis δ.env.scope o; rw [hsc]; exact u1) u2 u3) (SE.str (j := j1) (pos := p10) (z := mkS z) (s := z) rfl (Nat.le_of_lt (small1000 z1l))) (fun _ _ => rfl)) rfl) (SE.int (j := j2) (pos := p13) (i := 1))
      obtain ⟨t2, pt2, kt2⟩ := hln.ex
      have hqc := pe_callQ (X := (cx B δ).suite a ((a, oe) :: pn)) (q := p5) (pos := p15) FQ ⟨hr.dp, hr.un⟩ ⟨_, List.mem_cons_self⟩ (by show δ.env.scope.names.lookup ("_law_same" : Str) = _; rw [hsc]; exact (glS_inv g3).1) hm hkp hbd (pa_cons hst (pa_cons (pt2 _ rfl) pa_nil)) (by decide +kernel)
      refine (pss_one (ps_ret (pos := p) (pe_and (pos := p16) hcall (pe_one hqc)))).run pins _ σ H D' I ?_
      refine ⟨_, hs, ⟨_, _, true, _, rfl, fun u hu => hu, hkit, hH, true, rfl, ?_⟩⟩
      refine ⟨_, hs, rfl, rfl, dd, _, .int n, rfl, hH, rfl, ?_⟩
      refine kt2 ρ S F σ H (fun d S' => S' = S ∧ d = .int (((s.length : Nat) : Int) + 1)) _ hSR hRE (fun c d S' F' H' dx _ _ _ h => h.elim) ?_ fun d S' F' v' H' fr' sr' is' hd => ?_
      · exact ⟨_, hg, by unfold wIdx; simp only [hp]; exact ⟨rfl, _, hl, _, rfl, trivial, rfl⟩⟩
      · obtain ⟨rfl, rfl⟩ := hd
        cases is'
        exact ⟨n, _, rfl, hq F' H' fr' sr'⟩
theorem Ag.mono {vs vs' : List Nat} {σ σ' : L2.St} (h : Ag vs σ σ') (m : ∀ i ∈ vs, i ∈ vs') : Ag vs' σ σ' := ⟨h.1, fun i hi => h.2 i fun z => hi (m i z)⟩
theorem EN.mono {K : PySem.W.Frag} {ω : World} {vs vs' : List Nat} {F : Hp} {St : Sto} {H : Hp} {σ : L2.St} {k : Ks} {E : Ends} (h : EN K ω vs' F St H σ k E) (m : ∀ i ∈ vs, i ∈ vs') : EN K ω vs F St H σ k E :=
  ⟨fun ρ' S' F' σ' H' a => h.nx ρ' S' F' σ' H' (a.mono m), h.rt, fun ρ' S' F' σ' H' a => h.bk ρ' S' F' σ' H' (a.mono m), fun ρ' S' F' σ' H' a => h.ct ρ' S' F' σ' H' (a.mono m)⟩
theorem PS.ex {X : Cx} {x : Stmt} {ι : Type} {t : ι → TS} (h : ∀ i, PS X x (t i)) : PS X x (fun D σ H => ∃ i, t i D σ H) := ⟨fun pins s σ H D I ⟨i, q⟩ => (h i).run pins s σ H D I q⟩
noncomputable def isFldS : Su → Bool
  | .fld => true
  | .sme _ _ => true
  | _ => false
/-- the suite's text holds where its wish does -/
theorem su_holds {N : List Str} {sc : Scope} {bs : Str} {en : Option Nat} {h : Su} {x : List Stmt} (hok : okSu N sc en bs h x = true) {F' H' : Hp} {S' : Sto} {ρ' : Env} {σ' : L2.St} {d : D} {q : QD} {D' : Ends} {c' : Nat} {dx : Option Addr} {a : Addr}
    (r : SR B.K B.w F' S' H') (e : RE B.K F' ρ' σ') (k : ∀ d v, Is B.K F' v d → q d S' → D'.rt v H') (k2 : ∀ F2 H2, Fr F' S' H' F2 S' H2 → SR B.K B.w F2 S' H2 → ∀ d v, Is B.K F2 v d → q d S' → D'.rt v H2) (p : PayOk C c' d dx H') (lt : c' < NX) (he : ∀ j, en = some j → j < σ'.length → σ'[j]? = some (some (.ref a))) (hX : ∀ j, en = some j → isFldS h = true → XG B C c') (w : wSu h ρ' d S' q) :
    tSuE B C en h a (C.cls c') dx D' σ' H' := by
  cases h with
  | con v =>
    obtain ⟨z, _, rfl, h1⟩ := kRetS_inv hok
    obtain ⟨c, _, _, rfl, h2⟩ := kConstE_inv h1
    cases c <;> cases v <;> first | (cases h2; done) | skip
    · exact k _ _ .non w
    · exact k _ _ (.bl _) w
    · exact k _ _ (.int _) w
    · exact k _ _ (.str _ (Nat.le_of_lt (small1000 (of_decide_eq_true (Bool.and_eq_true_iff.mp h2).2)))) w
  | isx v u =>
    obtain ⟨z, _, rfl, h1⟩ := kRetS_inv hok
    obtain ⟨_, _, _, c, _, _, _, _, _, _, _, _, _, _, rfl, h2⟩ := kIsx_inv h1
    simp only [Bool.and_eq_true] at h2
    obtain ⟨⟨_, k1⟩, c1⟩ := h2
    obtain ⟨rfl, w⟩ := w
    cases en with
    | none => cases k1
    | some j =>
      cases v with
      | str s => cases u with
        | str t =>
          have c1 : (constB c (.str s) && _) = true := c1
          rw [Bool.and_eq_true] at c1
          cases c <;> first | (cases c1.1; done) | skip
          have dn : dx = none := by
            rcases p with ⟨_, h⟩ | ⟨_, _, h, _⟩
            · exact h
            · cases h
          exact ⟨⟨j, rfl, he j rfl⟩, ⟨c', rfl, lt⟩, dn, k _ _ (.str _ (Nat.le_of_lt (small1000 (of_decide_eq_true (Bool.and_eq_true_iff.mp c1.1).2)))) w⟩
        | _ => cases c1
      | _ => cases c1
  | gt i n =>
    obtain ⟨j, g, w⟩ := w
    obtain ⟨v, hv, is⟩ := e.at_ i _ g
    cases is
    exact ⟨j, hv, k _ _ (.bl _) w⟩
  | fld =>
    obtain ⟨z, _, rfl, h1⟩ := kRetS_inv hok
    obtain ⟨v, p1, m, p2, rfl, h2⟩ := kFldE_inv h1
    simp only [Bool.and_eq_true] at h2
    obtain ⟨_, k1⟩ := h2
    cases en with
    | none => cases k1
    | some j =>
      obtain ⟨n, rfl, w⟩ := w
      have T := hX j rfl rfl
      obtain ⟨Ca, hc, hx, hno⟩ := T.mg
      rcases p with ⟨h, _⟩ | ⟨dd, n', h, rfl, hH⟩
      · cases h
      · cases h
        rw [T.fld] at hH
        exact ⟨⟨j, rfl, he j rfl⟩, Ca, dd, n, hc, hx, hno, rfl, hH, k _ _ (.int n) w⟩
  | sme ks z =>
    obtain ⟨zz, _, rfl, h1⟩ := kRetS_inv hok
    obtain ⟨_, _, _, _, _, _, _, _, _, _, _, _, _, _, _, _, _, _, _, _, _, _, _, _, _, _, _, _, rfl, h2⟩ := kSme_inv h1
    simp only [Bool.and_eq_true] at h2
    obtain ⟨_, k1⟩ := h2
    cases en with
    | none => cases k1
    | some j =>
      obtain ⟨n, pa, kvs, s, rfl, g, hp, hl, w⟩ := w
      have T := hX j rfl rfl
      obtain ⟨Ca, hc, hx, hno⟩ := T.mg
      rcases p with ⟨h, _⟩ | ⟨dd, n', h, rfl, hH⟩
      · cases h
      · cases h
        rw [T.fld] at hH
        exact ⟨⟨j, rfl, he j rfl⟩, Ca, dd, n, F', S', ρ', pa, kvs, s, hc, ⟨c', rfl, lt⟩, hx, hno, rfl, hH, r, e, g, hp, hl, fun F2 H2 f2 r2 => k2 F2 H2 f2 r2 _ _ (.bl _) w⟩
end
section
variable {B : Bx} {Y : Dl → Prop} {W : WX} {C : XC} {xq : QX} {vs vb : List Nat} {pos : Pos} {body suite : List Stmt} {b₀ : Stmt} {sc : Scope} {bs : Str}
noncomputable def xq1 (xq : QX) (c : Nat) (h : Su) (vb : List Nat) (ρ : Env) (k : Ks) : QX := fun c' d S' => c' < NX ∧ if c' = c then wSu h (wip ρ vb) d S' k.rt else xq c' d S'
theorem XF.names {c : Nat} {x : Str} (T : XF B C c x) {δ : Dl} (hg : Gl (cx B δ) x) (hd : (x == ("__debug__" : Str)) = false) : Names (cx B δ) x (C.cls c) := by
  obtain ⟨Ca, hm, hc, _⟩ := T.mg
  exact ⟨hg, hd, .inl (by rw [hc]; exact hm)⟩
theorem SS.tri {c : Nat} {x : Str} {np pos' : Pos} {h : Su} {wb : Env → Ks → Env → Sto → Ks → Prop} (fr : ∀ δ, Y δ → δ.stack = δ.env :: δ.outer ∧ δ.env.frame = some δ.env.locals) (hsc : ∀ δ, Y δ → δ.env.scope = sc) (tk : ∀ δ, Y δ → Takes (cx B δ) W) (T : XF B C c x)
    (hg : ∀ δ, Y δ → Gl (cx B δ) x) (hd : (x == ("__debug__" : Str)) = false) (hI : ∀ (_ _ : D), XI B C bs) (hok : okSu B.N sc none bs h (b₀ :: suite) = true) (hvb : ∀ i ∈ vb, i ∈ vs)
    (hb : ∀ (ρ : Env) (k : Ks) (W' : WX), SSs B (trY B Y W') W' C (xq1 xq c h vb ρ k) vb body (wb ρ k)) :
    SS B Y W C xq vs (.Try body [.ExceptHandler (some (.Name x np)) none (b₀ :: suite) pos'] [] [] pos) (fun ρ St k => wb ρ k ρ St k) := by
  refine ⟨⟨fun D σ H => ∃ i : Env × Ks, Classical.choose (hb i.1 i.2 (wOnly B.K (C.cls c) (tSuE B C none h) W D)).ex D σ H, fun δ hδ => PS.ex fun i => ?_, fun ρ St F σ H k E r e x w en => ⟨(ρ, k), ?_⟩⟩⟩
  · exact ps_try_only (X := cx B δ) (tb := fun W' => Classical.choose (hb i.1 i.2 W').ex) (fr δ hδ).1 (fr δ hδ).2 (T.names (hg δ hδ) hd) (tk δ hδ) (fun W' pn xe tk' po' => (Classical.choose_spec (hb i.1 i.2 W').ex).1 { δ with pn := pn, xe := xe } ⟨δ, pn, xe, hδ, tk', po', rfl⟩)
      (fun a oe cls d pn hz hf => su_ok (hsc δ hδ) hI h (fun j z => by cases z) _ hok a oe cls d pn hz hf)
  · refine (Classical.choose_spec (hb ρ k (wOnly B.K (C.cls c) (tSuE B C none h) W E)).ex).2 ρ St F σ H k E r e (fun c' d S' F' H' dx σ' ag f r' p hq => ?_) w (en.mono hvb)
    obtain ⟨lt, hq⟩ := hq
    refine ⟨_, T.exm c' lt, fun hb a _ => ?_, fun hb => ?_⟩
    · rw [if_pos (of_decide_eq_true hb)] at hq
      exact su_holds hok r' ((e.mono f.ext).ag ag) (fun d v is hk => en.rt d S' F' v H' f r' is hk) (fun F2 H2 f2 r2 d v is hk => en.rt d S' F2 v H2 (f.trans f2) r2 is hk) p lt (fun j z => by cases z) (fun j z => by cases z) hq
    · rw [if_neg (of_decide_eq_false hb)] at hq
      exact x c' d S' F' H' dx σ' (ag.mono hvb) f r' p hq
theorem RE.setN {K : PySem.W.Frag} {F : Hp} {ρ : Env} {σ : L2.St} {i : Nat} {v : Option V} (r : RE K F ρ σ) (h : ∀ d, get ρ i ≠ some d) : RE K F ρ (σ.set i v) := by
  refine ⟨by rw [List.length_set]; exact r.len, fun j d g => ?_⟩
  obtain ⟨u, e, is⟩ := r.at_ j d g
  have : j ≠ i := fun z => h d (by rw [← z]; exact g)
  exact ⟨u, by rw [List.getElem?_set_ne (Ne.symm this)]; exact e, is⟩
theorem SS.triA {c i : Nat} {x n : Str} {np pos' : Pos} {h : Su} {wb : Env → Ks → Env → Sto → Ks → Prop} (fr : ∀ δ, Y δ → δ.stack = δ.env :: δ.outer ∧ δ.env.frame = some δ.env.locals) (hsc : ∀ δ, Y δ → δ.env.scope = sc) (tk : ∀ δ, Y δ → Takes (cx B δ) W) (T : XF B C c x)
    (hN : B.N.Nodup) (hi : B.N[i]? = some n) (hln : sc.names.lookup n = some .local)
    (hg : ∀ δ, Y δ → Gl (cx B δ) x) (hd : (x == ("__debug__" : Str)) = false) (hI : ∀ (_ _ : D), XI B C bs) (hok : okSu B.N sc (some i) bs h (b₀ :: suite) = true) (hF : isFldS h = true → XG B C c) (hF2 : isSmeS h = true → HSm B ∧ ∀ δ, Y δ → Room 2 δ.A) (hvb : ∀ j ∈ vb, j ∈ vs)
    (hb : ∀ (ρ : Env) (k : Ks) (W' : WX), SSs B (trY B Y W') W' C (xq1 xq c h (i :: vb) ρ k) vb body (wb ρ k)) :
    SS B Y W C xq vs (.Try body [.ExceptHandler (some (.Name x np)) (some n) (b₀ :: suite) pos'] [] [] pos) (fun ρ St k => wb ρ k ρ St k) := by
  refine ⟨⟨fun D σ H => ∃ u : Env × Ks, Classical.choose (hb u.1 u.2 (wAs B.K (C.cls c) i (tSuE B C (some i) h) W D)).ex D σ H, fun δ hδ => PS.ex fun u => ?_, fun ρ St F σ H k E r e x w en => ⟨(ρ, k), ?_⟩⟩⟩
  · exact ps_try_as (X := cx B δ) (tb := fun W' => Classical.choose (hb u.1 u.2 W').ex) (fr δ hδ).1 (fr δ hδ).2 hN hi (by show δ.env.scope.names.lookup n = _; rw [hsc δ hδ]; exact hln) (T.names (hg δ hδ) hd) (tk δ hδ)
      (fun W' pn xe tk' po' => (Classical.choose_spec (hb u.1 u.2 W').ex).1 { δ with pn := pn, xe := xe } ⟨δ, pn, xe, hδ, tk', po', rfl⟩) (fun a oe cls d pn hz hf => su_ok (hsc δ hδ) hI h (fun _ _ z => ⟨(hF2 z).1, (hF2 z).2 δ hδ⟩) _ hok a oe cls d pn hz hf)
  · refine (Classical.choose_spec (hb ρ k (wAs B.K (C.cls c) i (tSuE B C (some i) h) W E)).ex).2 ρ St F σ H k E r e (fun c' d S' F' H' dx σ' ag f r' p hq => ?_) w (en.mono hvb)
    obtain ⟨lt, hq⟩ := hq
    refine ⟨_, T.exm c' lt, fun hb a _ => ?_, fun hb => ?_⟩
    · rw [if_pos (of_decide_eq_true hb)] at hq
      have e1 : RE B.K F' (wip ρ (i :: vb)) σ' := (e.mono f.ext).ag (ag.mono fun j hj => List.mem_cons_of_mem _ hj)
      refine su_holds hok r' (e1.setN (i := i) fun d g => (get_wip ρ (i :: vb) i d g).2 List.mem_cons_self) (fun d v is hk => en.rt d S' F' v H' f r' is hk) (fun F2 H2 f2 r2 d v is hk => en.rt d S' F2 v H2 (f.trans f2) r2 is hk) p lt (fun j z hj => ?_) (fun j _ z => by rw [of_decide_eq_true hb]; exact hF z) hq
      cases z
      rw [List.length_set] at hj
      exact List.getElem?_set_self hj
    · rw [if_neg (of_decide_eq_false hb)] at hq
      exact x c' d S' F' H' dx σ' (ag.mono hvb) f r' p hq
end
end DL
/-! DLZ: errors whose class has an __init__ of its own that stores an int. -/
namespace DL
open PySem PySem.Spec PyProof.Rows L2
variable [TBS]
omit [TBS] in
/-- the class at C, looked at -/
noncomputable def oexB (K : PySem.W.Frag) (C : Addr) : Bool := (match K.lookup C with
  | some ⟨.type "type", _, .cls cd, sl⟩ => (match cd.mro, sl.toList with
    | .ref C' :: bm, [_, _, _, _, some (.builtin n), _] => C' == C && n == "ValueError.__new__" && !cd.hasDel && cd.hasDict && PySem.HandSPX.refsVE bm
    | _, _ => false)
  | _ => false) && decide (PySem.W.findIn K (.ref C) "__setattr__" = some (some (.builtin "object.__setattr__"))) && decide (PySem.W.subIn K (.ref C) (.type "BaseException") = some true) && decide (PySem.W.typeIn K (.ref C) = some (.type "type")) && PySem.W.keepIn K (.ref C)
omit [TBS] in
theorem oexB_ok {K : PySem.W.Frag} {C : Addr} (h : oexB K C = true) : OexC K C := by
  unfold oexB at h
  simp only [Bool.and_eq_true] at h
  obtain ⟨⟨⟨⟨q, h1⟩, h2⟩, h3⟩, h4⟩ := h
  refine ⟨?_, of_decide_eq_true h1, of_decide_eq_true h2, of_decide_eq_true h3, h4⟩
  split at q
  · rename_i dd cd sl ho
    split at q
    · rename_i C' bm k0 k1 k2 k3 n k5 hm hs
      simp only [Bool.and_eq_true, beq_iff_eq, Bool.not_eq_true'] at q
      obtain ⟨⟨⟨⟨e1, e2⟩, hdel⟩, hdict⟩, ht⟩ := q
      subst e1; subst e2
      obtain ⟨nm, bs, mro, ns, qn, hd, sn, sub, ab, col, del⟩ := cd
      dsimp only at hm hdel hdict
      subst hm; subst hdel; subst hdict
      have hsl : sl = #[k0, k1, k2, k3, some (.builtin "ValueError.__new__"), k5] := by
        obtain ⟨l⟩ := sl
        simp only at hs
        rw [hs]
      subst hsl
      exact ⟨nm, qn, ns, bs, bm, sn, sub, ab, col, dd, k0, k1, k2, k3, k5, ho, ht⟩
    · cases q
  · cases q
/-- what such an __init__ does -/
noncomputable def spI (K : PySem.W.Frag) (f : Str) : Sp := fun vs H Q _ => ∃ (a C : Addr) (y : V), vs = [.ref a, y] ∧ OexC K C ∧ PySem.W.findIn K (.ref C) f = some none ∧ H a = some (exo a C none) ∧ ∀ dx, H dx = none → dx ≠ a → Q .non (upd (upd H dx (exd dx [(f, y)])) a (exo a C (some dx)))
omit [TBS] in
theorem init_fn {P : Program} {w : World} {K : PySem.W.Frag} {mg : Str → Option Value} {base : Heap} {x qual : Str} {params : Arguments} {scope : Scope} {dvs : List V} {kws : List (Str × V)} {fI : Addr} {fd : FuncData} {sl st m : Str} {p1 p2 p3 pos : Pos}
    (F : FunD K x qual params [.Assign [.Attribute (.Name sl p1) m p2] (.Name st p3) pos] scope dvs kws fI fd) (Sc : FnScope [sl, st] [sl, st] scope) (v1 : Vis scope sl) (v2 : Vis scope st) (n1 : (sl == ("__debug__" : Str)) = false ∧ (sl == ("__classdict__" : Str)) = false) (n2 : (st == ("__debug__" : Str)) = false ∧ (st == ("__classdict__" : Str)) = false) :
    FnOk P w K mg base (L2.CX P w) 1 fI fd [sl, st] (spI K m) := by
  obtain ⟨oc, od, dV, kV, doc, pm, an, cdv, ct, osl, rfl, lk, hcd, _, _⟩ := F.ex
  refine fn_of lk hcd Sc (fun vs H Q E h => ?_) (fun A outer s H vs Q E hr hsp => ?_)
  · obtain ⟨a, C, y, rfl, _⟩ := h
    rfl
  · obtain ⟨a, C, y, rfl, T, hno, ha, hq⟩ := hsp
    refine ⟨_, pss_one (ps_ost (pe_var (i := 0) rfl v1 n1.1 n1.2) (pe_var (i := 1) rfl v2 n2.1 n2.2)), ?_⟩
    refine ⟨y, rfl, .ref a, rfl, a, C, rfl, T, hno, .inl ⟨ha, fun dx hdx hne => ?_⟩⟩
    exact hq dx hdx hne
/-- a class of errors of the text, with such an __init__ -/
structure XN (B : Bx) (C : XC) (c : Nat) (x : Str) : Prop where
  mg : ∃ (Ca fI : Addr) (fd : FuncData) (sl st : Str), B.mg x = some (.ref Ca) ∧ C.cls c = .ref Ca ∧ OexC B.K Ca ∧ XfC B.K Ca ∧ PySem.W.findIn B.K (.ref Ca) (C.fld c) = some none ∧ PySem.W.findIn B.K (.ref Ca) "__init__" = some (some (.ref fI)) ∧ PySem.W.typeIn B.K (.ref fI) = some (.type "function") ∧
    Binds B.K fd [sl, st] [] ∧ FnOk B.prog B.w B.K B.mg B.base (L2.CX B.prog B.w) 1 fI fd [sl, st] (spI B.K (C.fld c))
  fld : C.fld c = "start"
theorem XN.g {B : Bx} {C : XC} {c : Nat} {x : Str} (h : XN B C c x) : XG B C c := by
  obtain ⟨Ca, fI, fd, sl, st, _, hc, _, hx, hno, _⟩ := h.mg
  rw [h.fld] at hno
  exact ⟨⟨Ca, hc, hx, hno⟩, h.fld⟩
section
variable {B : Bx} {Y : Dl → Prop} {W : WX} {C : XC} {xq : QX} {vs : List Nat} {pos : Pos}
theorem SS.raisn {c : Nat} {x : Str} {p pos' : Pos} {e : Expr} {we : Env → Sto → QD → Prop} (cl : ∀ δ, Y δ → δ.calm = true) (tk : ∀ δ, Y δ → Takes (cx B δ) W) (T : XN B C c x) (hr : ∀ δ, Y δ → Room 2 δ.A) (hg : ∀ δ, Y δ → Gl (cx B δ) x) (hd : (x == ("__debug__" : Str)) = false) (he : SE B Y W C xq e we) (st : notStar e = true) :
    SS B Y W C xq vs (.Raise (some (.Call (.Name x p) [e] [] pos')) none pos) (fun ρ St _ => we ρ St fun d S1 => ∃ n, d = .int n ∧ xq c (.int n) S1) := by
  obtain ⟨Ca, fI, fd, s1, s2, hm, hc, T1, _, hno, hi, ht, hb, F1⟩ := T.mg
  obtain ⟨te, pe, ke⟩ := he.ex
  refine ⟨⟨_, fun δ hδ => ps_raise (cl δ hδ) (tk δ hδ) (pmk_oex (X := cx B δ) (dvs := []) T1 hi ht F1 (hr δ hδ) hb .nil (fun _ _ _ _ _ _ _ h => by
    obtain ⟨_, _, _, _, _, _, _, _, _, _, _, _, z⟩ := h
    exact z.elim) (hg δ hδ) hm (pa_cons (pe δ hδ) pa_nil (star_cons st _)) hd (star_cons st _) rfl), fun ρ St F σ H k E r e x w en => ?_⟩⟩
  refine ke ρ St F σ H _ _ r e x.eq w fun d S1 F1 v H1 f1 r1 i1 w1 => ?_
  · obtain ⟨n, rfl, w1⟩ := w1
    cases i1
    refine ⟨by show 1 ≤ 1000; decide, fun a ha => ⟨a, Ca, .int n, rfl, T1, hno, upd_same, fun dx hdx hne => ?_⟩⟩
    have hdx1 : H1 dx = none := by rw [upd_ne hne] at hdx; exact hdx
    refine ⟨rfl, dx, [(C.fld c, .int n)], upd_same, by rw [upd_ne hne, upd_same], hdx1, ?_⟩
    have eH : upd (L2.del (upd (upd (upd H1 a (exo a Ca none)) dx (exd dx [(C.fld c, .int n)])) a (exo a Ca (some dx))) a) dx (.xd [(C.fld c, .int n)]) = upd H1 dx (.xd [(C.fld c, .int n)]) := by
      funext b
      by_cases hb : b = dx
      · subst hb; rw [upd_same, upd_same]
      · rw [upd_ne hb, upd_ne hb]
        by_cases hba : b = a
        · subst hba; rw [L2.del_same, ha]
        · rw [L2.del_ne hba, upd_ne hba, upd_ne hb, upd_ne hba]
    rw [eH]
    obtain ⟨r2, f2⟩ := r1.lay (o := .xd [(C.fld c, .int n)]) hdx1
    have := x c (.int n) S1 _ _ (some dx) σ Ag.refl (f1.trans f2) r2 (.inr ⟨dx, n, rfl, rfl, upd_same⟩) w1
    rwa [hc] at this
end
end DL
/-! DLO: instances: made, asked, told; dict comprehensions, two-fold comprehensions, extend. -/
namespace DL
open PySem PySem.Spec PyProof.Rows L2
variable [TBS]
section
variable {X : Cx} {CX : CXT} {k : Nat} {f C : Addr} {fd : FuncData} {ps : List Str} {sp : Sp} {E : L2.St → XK} {x m : Str} {p pos apos : Pos} {e o : Expr} {es : List Expr} {ta : TE} {t : TA}
/-- o.m(..): the exception wish may look at the slots -/
noncomputable def tMethE (C : Addr) (m : Str) (sp : Sp) (E : L2.St → XK) (ta : TE) (t : TA) : TE := fun σ H Q => ta σ H fun x G => ∃ a dx fs, x = .ref a ∧ G a = some (.ins C dx fs) ∧ fs.lookup m = none ∧ t σ G fun vs H2 => sp (x :: vs) H2 Q (E σ)
theorem pe_methE {pl : Sem Bool} (recv : PE X o ta) (cls : Cls X.K C) (meth : Meth X.K C m f) (fn : FnOk X.prog X.w X.K X.mg X.base CX k f fd ps sp) (room : Room k X.A) (bind : Binds X.K fd ps []) (pass : ∀ σ, PassesAt CX X σ (E σ)) (args : PA X (e :: es) t)
    (st : starEach (e :: es) X.env = (false, eval e X.env) :: starEach es X.env) (plain : (backTo pos (starEach es X.env)).any (·.1) = false)
    (tree : eval (.Call (.Attribute o m apos) (e :: es) [] pos) X.env = (do
      let ov ← eval o X.env
      standAt apos.atName
      let (f, first) ← holding [ov] (getMethod ov m pl)
      callWith pos f first (backTo pos (starEach (e :: es) X.env)) (backToKw pos (keywordEach [] X.env)))) :
    PE X (.Call (.Attribute o m apos) (e :: es) [] pos) (tMethE C m sp E ta t) := by
  constructor
  intro pins s σ H Q inv want
  refine PySem.W.methodCall_KW (pl := pl) (thn (recv.run pins s σ H _ inv want) fun u s1 ⟨x, G, inv1, rx, a, dx, fs, ex, there, none_, q⟩ => ?_) tree
  subst ex
  obtain rfl : u = Value.ref a := rx
  refine getmeth_ok inv1 there cls meth none_ (PySem.W.callWith_K (first := [.ref a]) (h₀ := X.base) inv1.ok.mod.kin meth.kp (thn (args.run pos pins s1 σ G _ inv1 q) fun us s2 ⟨vs, G2, inv2, rv, q2⟩ => ⟨inv2.kIn, ?_⟩) st plain)
  exact run_fnS (us := .ref a :: us) (vs := .ref a :: vs) fn room bind (pass σ) inv2 (.cons rfl rv) q2
theorem pe_methE0 {pl : Sem Bool} (recv : PE X o ta) (cls : Cls X.K C) (meth : Meth X.K C m f) (fn : FnOk X.prog X.w X.K X.mg X.base CX k f fd ps sp) (room : Room k X.A) (bind : Binds X.K fd ps []) (pass : ∀ σ, PassesAt CX X σ (E σ))
    (tree : eval (.Call (.Attribute o m apos) [] [] pos) X.env = (do
      let ov ← eval o X.env
      standAt apos.atName
      let (f, first) ← holding [ov] (getMethod ov m pl)
      callWith pos f first (backTo pos (starEach [] X.env)) (backToKw pos (keywordEach [] X.env)))) :
    PE X (.Call (.Attribute o m apos) [] [] pos) (tMethE C m sp E ta tNil) := by
  constructor
  intro pins s σ H Q inv want
  refine PySem.W.methodCall_KW (pl := pl) (thn (recv.run pins s σ H _ inv want) fun u s1 ⟨x, G, inv1, rx, a, dx, fs, ex, there, none_, q⟩ => ?_) tree
  subst ex
  obtain rfl : u = Value.ref a := rx
  refine getmeth_ok inv1 there cls meth none_ ?_
  exact PySem.W.callWith_K0 (first := [.ref a]) inv1.kIn meth.kp (run_fnS (us := [.ref a]) (vs := [.ref a]) fn room bind (pass σ) inv1 (.cons rfl .nil) q)
/-- C(..) -/
noncomputable def tMakeE (C : Addr) (sp : Sp) (E : L2.St → XK) (t : TA) : TE := fun σ H Q => t σ H fun vs G => ∀ x dx, G x = none → G dx = none → dx ≠ x →
  sp (.ref x :: vs) (upd (upd G dx (.own x)) x (.ins C dx [])) (fun v H2 => v = .non ∧ Q (.ref x) H2) (E σ)
theorem pe_makeE (mk : Mk X.K C f) (fn : FnOk X.prog X.w X.K X.mg X.base CX k f fd ps sp) (room : Room (k + 1) X.A) (gl : Gl X x) (at_ : X.mg x = some (.ref C)) (bind : Binds X.K fd ps []) (pass : ∀ σ, PassesAt CX X σ (E σ)) (args : PA X (e :: es) t)
    (db : (x == ("__debug__" : Str)) = false) (st : starEach (e :: es) X.env = (false, eval e X.env) :: starEach es X.env) (plain : (backTo pos (starEach es X.env)).any (·.1) = false) : PE X (.Call (.Name x p) (e :: es) [] pos) (tMakeE C sp E t) := by
  constructor
  intro pins s σ H Q inv want
  refine wpAny_Call_Name_kw (ld_glob inv gl at_ (PySem.W.callWith_K (h₀ := X.base) inv.ok.mod.kin mk.kp (thn (args.run pos pins s σ H _ inv want) fun us s1 ⟨vs, G, inv1, rv, q⟩ => ⟨inv1.kIn, ?_⟩) st plain) db)
  have q1 := q (s1.heap.objs.size + 1) s1.heap.objs.size (inv1.hok.fresh (Nat.le_succ _)) (inv1.hok.fresh (Nat.le_refl _)) (Nat.ne_of_lt (Nat.lt_succ_self _))
  have inv2 := Inv.made (C := C) inv1
  have rv2 : Vals (V.ref (s1.heap.objs.size + 1) :: vs) (Value.ref (s1.heap.objs.size + 1) :: us) := .cons rfl rv
  have len : (Value.ref (s1.heap.objs.size + 1) :: us).length = ps.length := rv2.length.symm.trans (fn.len _ _ _ _ q1)
  have bd := bind _ (Value.ref (s1.heap.objs.size + 1) :: us) inv2.kIn (by rw [List.append_nil]; exact len)
  rw [List.append_nil] at bd
  refine wpAny_call (make_map (f := f) inv1.kIn mk.makes mk.init (beq_iff_eq.mp mk.fn) (codeAny_mono (fn.run _ X.stack _ _ ⟨Value.ref (s1.heap.objs.size + 1) :: us, []⟩ _ _ _ (E σ) (room.make C us []) (inv2.env0.make C us []) bd rv2 q1) fun r s' hq => ?_))
  cases r with
  | error ev => exact pass σ pins _ _ ev s' inv2 hq
  | ok fl =>
    cases fl with
    | ret u =>
      obtain ⟨v, H', inv3, ru, ev, q3⟩ := inv2.after hq
      subst ev
      exact ⟨ru, V.ref (s1.heap.objs.size + 1), H', inv3, rfl, q3⟩
    | _ => exact hq.elim
end
end DL
/-! DLX: instances, dict comprehensions, two-fold comprehensions, extend, over data. -/
namespace DL
open PySem PySem.Spec PyProof.Rows L2
variable [TBS]
/-- the tree of a method's call -/
theorem meth_tree {o : Expr} {m : Str} {apos pos : Pos} {es : List Expr} {env : PySem.Env} (hc : notCall o = true) (hl : (apos.endLine == pos.line) = true) (st : es.all notStar = true) (few : es.length < 20) :
    eval (.Call (.Attribute o m apos) es [] pos) env = (do
      let ov ← eval o env
      standAt apos.atName
      let (f, first) ← holding [ov] (getMethod ov m (do return (← importBound o env).getD true))
      callWith pos f first (backTo pos (starEach es env)) (backToKw pos (keywordEach [] env))) := by
  refine mcall_of (attr_base hc m env _) fun ov => ?_
  have form : methodCallForm (es.length + ([] : List Keyword).length) (backTo pos (starEach es env)) (backToKw pos (keywordEach [] env)) = true := by
    have a := (star_all st env pos).2.1
    unfold methodCallForm
    rw [a]
    show (true && true && decide (es.length + 0 + 0 < 30)) = true
    rw [decide_eq_true (by omega)]; rfl
  have place : methodCallPos true o env apos pos = pure pos := by unfold methodCallPos; simp [hl]
  unfold methodCall
  rw [form]
  show (do
    let (f, first) ← holding [ov] (getMethod ov m (do return (← importBound o env).getD true))
    let callPos ← methodCallPos true o env apos pos
    callWith callPos f first (backTo pos (starEach es env)) (backToKw pos (keywordEach [] env))) = _
  rw [place]
  rfl
section
variable {B : Bx} {Y : Dl → Prop} {W : WX} {C : XC} {xq : QX} {a b c : Expr} {wa wb wc : Env → Sto → QD → Prop} {pos : Pos} {vs : List Nat}
/-! ### fields -/
theorem SE.fld {cn f : Bs} (cls : Cls B.K (He.ga B.K (mkS cn))) (no : NoAttr B.K (He.ga B.K (mkS cn)) (mkS f)) (ha : SE B Y W C xq a wa) (nc : notCall a = true) :
    SE B Y W C xq (.Attribute a (mkS f) pos) (fun ρ St q => wa ρ St fun x S1 => match x with
      | .ref p => match S1 p with
        | some (.ins c' fs) => c' = cn ∧ ∃ d, lookF fs f = some d ∧ q d S1
        | _ => False
      | _ => False) := by
  obtain ⟨ta, pa, ka⟩ := ha.ex
  refine ⟨⟨tFld B.K ta (mkS f), fun δ hδ => pe_fld (pa δ hδ) (attr_base nc _ _ _), fun ρ St F σ H q Q r e x w k => ?_⟩⟩
  refine ka ρ St F σ H _ _ r e x w fun d S1 F1 v H1 f1 r1 i1 w1 => ?_
  cases i1 with
  | ref p =>
    cases eo : S1 p with
    | none => simp only [eo] at w1
    | some o => cases o with
      | ins c' fs =>
        simp only [eo] at w1
        obtain ⟨rfl, d, hd, w1⟩ := w1
        obtain ⟨dx, vs, hx, it⟩ := (r1.own p _ eo).2
        rcases it.look (f := f) with ⟨_, z⟩ | ⟨v, d', hv, hd', iv⟩
        · rw [hd] at z; cases z
        · rw [hd] at hd'; cases hd'
          exact ⟨p, _, dx, vs, v, rfl, hx, cls, no, hv, k _ S1 F1 v H1 f1 r1 iv w1⟩
      | _ => simp only [eo] at w1
  | _ => exact False.elim w1
omit [TBS] in
theorem no_swapA {e o : Expr} {m : Str} {p : Pos} {l : Nat} {env : PySem.Env} : swapsWith e (some (.Attribute o m p)) l env = pure false := by cases e <;> rfl
theorem SS.putf {cn f : Bs} {p2 : Pos} (cls : Cls B.K (He.ga B.K (mkS cn))) (no : NoAttr B.K (He.ga B.K (mkS cn)) (mkS f)) (hv : SE B Y W C xq c wc) (ho : SE B Y W C xq a wa) :
    SS B Y W C xq vs (.Assign [.Attribute a (mkS f) p2] c pos) (fun ρ St k => wc ρ St fun v S1 => wa ρ S1 fun x S2 => match x with
      | .ref p => match S2 p with
        | some (.ins c' fs) => (c' = cn ∧ fs.length < 1000) ∧ k.nx ρ (ups S2 p (.ins cn (putFd fs f v)))
        | _ => False
      | _ => False) := by
  obtain ⟨tc, pc, kc⟩ := hv.ex
  obtain ⟨ta, pa, ka⟩ := ho.ex
  refine ⟨⟨sFld B.K ta tc (mkS f), fun δ hδ => ps_fld (pa δ hδ) (pc δ hδ) no_swapA, fun ρ St F σ H k E r e x w en => ?_⟩⟩
  refine kc ρ St F σ H _ _ r e x.eq w fun d S1 F1 v H1 f1 r1 i1 w1 => ?_
  refine ka ρ S1 F1 σ H1 _ _ r1 (e.mono f1.ext) (x.step Ag.refl f1).eq w1 fun d2 S2 F2 v2 H2 f2 r2 i2 w2 => ?_
  cases i2 with
  | ref p =>
    cases eo : S2 p with
    | none => simp only [eo] at w2
    | some o => cases o with
      | ins c' fs =>
        simp only [eo] at w2
        obtain ⟨⟨rfl, hl⟩, w2⟩ := w2
        obtain ⟨dx, ws, hx, it⟩ := (r2.own p _ eo).2
        obtain ⟨r3, f3⟩ := r2.write (o := .ins (He.ga B.K (mkS c')) dx (putF (mkS f) v ws)) (q := .ins c' (putFd fs f d)) eo ⟨dx, _, upd_same, it.put (i1.mono f2.ext)⟩
        exact ⟨p, _, dx, ws, rfl, hx, cls, no, by rw [it.length]; exact hl, en.nx ρ _ _ σ _ Ag.refl ((f1.trans f2).trans f3) r3 (((e.mono f1.ext).mono f2.ext).mono f3.ext) w2⟩
      | _ => simp only [eo] at w2
  | _ => exact False.elim w2
/-! ### o.f, o.g = .. -/
end
section
variable {B : Bx} {Y : Dl → Prop} {W : WX} {C : XC} {xq : QX} {a b c : Expr} {wa wb wc : Env → Sto → QD → Prop} {pos : Pos} {vs : List Nat}
/-! ### methods, instances -/
theorem meth_in {B : Bx} {W : WX} {C : XC} {xq : QX} {cn m : Bs} {sp : DSp} {ta : TE} {ts : TA} {wa : Env → Sto → QD → Prop} {ws : Env → Sto → (List D → Sto → Prop) → Prop} {n : Nat}
    (ka : ∀ (ρ : Env) (St : Sto) (F : Hp) (σ : L2.St) (H : Hp) (q : QD) (Q : VK), SR B.K B.w F St H → RE B.K F ρ σ → EQ B.K B.w W C xq F St H σ → wa ρ St q → (∀ d S' F' v H', Fr F St H F' S' H' → SR B.K B.w F' S' H' → Is B.K F' v d → q d S' → Q v H') → ta σ H Q)
    (ks : ∀ (ρ : Env) (St : Sto) (F : Hp) (σ : L2.St) (H : Hp) (q : List D → Sto → Prop) (Q : List V → Hp → Prop), SR B.K B.w F St H → RE B.K F ρ σ → EQ B.K B.w W C xq F St H σ → ws ρ St q →
      (∀ ds S' F' vs H', Fr F St H F' S' H' → SR B.K B.w F' S' H' → IsL B.K F' vs ds → ds.length = n → q ds S' → Q vs H') → ts σ H Q)
    (ρ : Env) (St : Sto) (F : Hp) (σ : L2.St) (H : Hp) (q : QD) (Q : VK) (r : SR B.K B.w F St H) (e : RE B.K F ρ σ) (x : EQ B.K B.w W C xq F St H σ) (w : wa ρ St fun x S1 => ∃ p fs, x = .ref p ∧ S1 p = some (.ins cn fs) ∧ lookF fs m = none ∧ ws ρ S1 fun ds S2 => sp (x :: ds) S2 q xq)
    (k : ∀ d S' F' v H', Fr F St H F' S' H' → SR B.K B.w F' S' H' → Is B.K F' v d → q d S' → Q v H') : tMethE (He.ga B.K (mkS cn)) (mkS m) (lift B.K B.w C sp) (WE W) ta ts σ H Q := by
  refine ka ρ St F σ H _ _ r e x w fun d S1 F1 v H1 f1 r1 i1 w1 => ?_
  obtain ⟨p, fs, rfl, hp, hn, w1⟩ := w1
  cases i1
  obtain ⟨dx, us, hx, it⟩ := (r1.own p _ hp).2
  refine ⟨p, dx, us, rfl, hx, ?_, ?_⟩
  · rcases it.look (f := m) with ⟨z, _⟩ | ⟨_, _, _, z, _⟩
    · exact z
    · rw [hn] at z; cases z
  · refine ks ρ S1 F1 σ H1 _ _ r1 (e.mono f1.ext) (x.step f1) w1 fun ds S2 F2 us2 H2 f2 r2 i2 _ w2 => ?_
    exact ⟨.ref p :: ds, S2, F2, q, xq, r2, .cons (.ref p) i2, w2, fun d S' v F' H' hq f3 r3 i3 => k d S' F' v H' ((f1.trans f2).trans f3) r3 i3 hq, fun c d S' F' H' dx hq f3 r3 p3 => ((x.step f1).step f2) c d S' F' H' dx f3 r3 p3 hq⟩
theorem SE.meth {j : Nat} {cn m : Bs} {f : Addr} {fd : FuncData} {ps : List Str} {sp : DSp} {p : Pos} {es : List Expr} {ws : Env → Sto → (List D → Sto → Prop) → Prop} (tk : ∀ δ, Y δ → Takes (cx B δ) W)
    (fn : FnOk B.prog B.w B.K B.mg B.base (L2.CX B.prog B.w) j f fd ps (lift B.K B.w C sp)) (room : ∀ δ, Y δ → Room j δ.A) (cls : Cls B.K (He.ga B.K (mkS cn))) (mt : Meth B.K (He.ga B.K (mkS cn)) (mkS m) f) (bind : Binds B.K fd ps [])
    (ha : SE B Y W C xq a wa) (hs : SA B Y W C xq (b :: es) ws) (st : (b :: es).all notStar = true) (few : (b :: es).length < 20) (nc : notCall a = true) (hl : (p.endLine == pos.line) = true) :
    SE B Y W C xq (.Call (.Attribute a (mkS m) p) (b :: es) [] pos) (fun ρ St q => wa ρ St fun x S1 => ∃ p fs, x = .ref p ∧ S1 p = some (.ins cn fs) ∧ lookF fs m = none ∧ ws ρ S1 fun ds S2 => sp (x :: ds) S2 q xq) := by
  obtain ⟨ta, pa, ka⟩ := ha.ex
  obtain ⟨ts, pt, ks⟩ := hs.ex
  have st2 := st
  rw [List.all_cons, Bool.and_eq_true] at st2
  exact ⟨⟨_, fun δ hδ => pe_methE (X := cx B δ) (pa δ hδ) cls mt fn (room δ hδ) bind (fun σ => passAt (tk δ hδ) σ) (pt δ hδ) (star_cons st2.1 _) (star_all st2.2 _ _).1 (meth_tree nc hl st few), meth_in ka ks⟩⟩
theorem SE.meth0 {j : Nat} {cn m : Bs} {f : Addr} {fd : FuncData} {ps : List Str} {sp : DSp} {p : Pos} (tk : ∀ δ, Y δ → Takes (cx B δ) W)
    (fn : FnOk B.prog B.w B.K B.mg B.base (L2.CX B.prog B.w) j f fd ps (lift B.K B.w C sp)) (room : ∀ δ, Y δ → Room j δ.A) (cls : Cls B.K (He.ga B.K (mkS cn))) (mt : Meth B.K (He.ga B.K (mkS cn)) (mkS m) f) (bind : Binds B.K fd ps [])
    (ha : SE B Y W C xq a wa) (nc : notCall a = true) (hl : (p.endLine == pos.line) = true) :
    SE B Y W C xq (.Call (.Attribute a (mkS m) p) [] [] pos) (fun ρ St q => wa ρ St fun x S1 => ∃ p fs, x = .ref p ∧ S1 p = some (.ins cn fs) ∧ lookF fs m = none ∧ sp [x] S1 q xq) := by
  obtain ⟨ta, pa, ka⟩ := ha.ex
  exact ⟨⟨_, fun δ hδ => pe_methE0 (X := cx B δ) (pa δ hδ) cls mt fn (room δ hδ) bind (fun σ => passAt (tk δ hδ) σ) (meth_tree nc hl rfl (by decide)), meth_in (ws := fun ρ St q => q [] St) (n := 0) ka fun ρ St F σ H q Q r e x w k => k [] St F [] H Fr.refl r .nil rfl w⟩⟩
theorem SE.made {j : Nat} {cn : Bs} {f : Addr} {fd : FuncData} {ps : List Str} {sp : DSp} {x : Str} {p : Pos} {es : List Expr} {ws : Env → Sto → (List D → Sto → Prop) → Prop} (tk : ∀ δ, Y δ → Takes (cx B δ) W)
    (fn : FnOk B.prog B.w B.K B.mg B.base (L2.CX B.prog B.w) j f fd ps (lift B.K B.w C sp)) (room : ∀ δ, Y δ → Room (j + 1) δ.A) (mk : Mk B.K (He.ga B.K (mkS cn)) f) (gl : ∀ δ, Y δ → Gl (cx B δ) x) (at_ : B.mg x = some (.ref (He.ga B.K (mkS cn)))) (bind : Binds B.K fd ps [])
    (db : (x == ("__debug__" : Str)) = false) (hs : SA B Y W C xq (a :: es) ws) (st : (a :: es).all notStar = true) :
    SE B Y W C xq (.Call (.Name x p) (a :: es) [] pos) (fun ρ St q => ws ρ St fun ds S1 => ∀ p, S1 p = none → sp (.ref p :: ds) (ups S1 p (.ins cn [])) (fun d S2 => d = .non ∧ q (.ref p) S2) xq) := by
  obtain ⟨ts, pt, ks⟩ := hs.ex
  have st2 := st
  rw [List.all_cons, Bool.and_eq_true] at st2
  refine ⟨⟨_, fun δ hδ => pe_makeE (X := cx B δ) (E := WE W) mk fn (room δ hδ) (gl δ hδ) at_ bind (fun σ => passAt (tk δ hδ) σ) (pt δ hδ) db (star_cons st2.1 _) (star_all st2.2 _ _).1, fun ρ St F σ H q Q r e x w k => ?_⟩⟩
  refine ks ρ St F σ H _ _ r e x w fun ds S1 F1 us H1 f1 r1 i1 _ w1 => ?_
  intro y dx hy hdx ne
  obtain ⟨fF, fS⟩ := r1.fresh hdx
  have r2 : SR B.K B.w F1 S1 (upd H1 dx (.own y)) := r1.priv fF fS (r1.notab hdx)
  have f2 : Fr F1 S1 H1 F1 S1 (upd H1 dx (.own y)) := Fr.refl.priv hdx
  have hy2 : upd H1 dx (.own y) y = none := by rw [upd_ne (Ne.symm ne)]; exact hy
  obtain ⟨r3, f3⟩ := r2.make (o := .ins (He.ga B.K (mkS cn)) dx []) (q := .ins cn []) hy2 ⟨dx, [], upd_same, .nil⟩
  have ff := (f1.trans f2).trans f3
  refine ⟨.ref y :: ds, _, F1, _, xq, r3, .cons (.ref y) i1, w1 y (r1.fresh hy).2, fun d S' v F' H' hq f4 r4 i4 => ?_, fun c d S' F' H' dx hq f4 r4 p4 => ((x.step f1).step (f2.trans f3)) c d S' F' H' dx f4 r4 p4 hq⟩
  obtain ⟨rfl, hq⟩ := hq
  cases i4
  exact ⟨rfl, k _ S' F' _ H' (ff.trans f4) r4 (.ref y) hq⟩
/-! ### tuples turned round -/
/-! ### {} for nested keys; l.extend(m) -/
end
end DL
/-! DLY: dict comprehensions, two-fold comprehensions, extend, fields told anew, over data. -/
namespace DL
open PySem PySem.Spec PyProof.Rows L2
variable [TBS]
section
variable {B : Bx} {Y : Dl → Prop} {W : WX} {C : XC} {xq : QX} {a b c : Expr} {wa wb wc : Env → Sto → QD → Prop} {pos : Pos} {vs : List Nat} {j : Nat}
/-- l.extend(m) -/
theorem SS.ext {p2 p3 : Pos} (ho : SE B Y W C xq a wa) (hb : SE B Y W C xq b wb) (hc : notCall a = true) (hst : notStar b = true) (hl : (p2.endLine == p3.line) = true) :
    SS B Y W C xq vs (.Expr (.Call (.Attribute a "extend" p2) [b] [] p3) pos) (fun ρ St k => wa ρ St fun x S1 => ∃ p, x = .ref p ∧ (∃ ds, S1 p = some (.lst ds)) ∧ wb ρ S1 fun y S2 => match y with
      | .lst es => ∃ ds, S2 p = some (.lst ds) ∧ ds.length + es.length ≤ SZ ∧ k.nx ρ (ups S2 p (.lst (ds ++ es)))
      | .ref b => ∃ ds es, S2 p = some (.lst ds) ∧ S2 b = some (.lst es) ∧ ds.length + es.length ≤ SZ ∧ k.nx ρ (ups S2 p (.lst (ds ++ es)))
      | _ => False) := by
  obtain ⟨ta, pa, ka⟩ := ho.ex
  obtain ⟨tb, pb, kb⟩ := hb.ex
  refine ⟨⟨tDrop (tBM B.K "list" rExtend ta (tCons tb tNil)), fun δ hδ => ps_expr (pe_bm (X := cx B δ) PySem.F.plainAttrs_list PySem.F.slot_list_extend PySem.F.type_list_extend mt_extend (pa δ hδ) (pa_cons (pb δ hδ) pa_nil (star_cons hst _)) (attr_base hc _ _ _)
    (by rw [star_cons hst]; rfl) hl (star_cons hst _) rfl) rfl, fun ρ St F σ H k E r e x w en => ?_⟩⟩
  refine ka ρ St F σ H _ _ r e x.eq w fun d S1 F1 v H1 f1 r1 i1 w1 => ?_
  obtain ⟨p, rfl, ⟨ds0, hp0⟩, w1⟩ := w1
  cases i1
  obtain ⟨xs0, hx0, _, _⟩ := (r1.own p _ hp0).2
  refine ⟨.inl ⟨rfl, xs0, SqL.of hx0⟩, ?_⟩
  refine kb ρ S1 F1 σ H1 _ _ r1 (e.mono f1.ext) (x.step Ag.refl f1).eq w1 fun d2 S2 F2 v2 H2 f2 r2 i2 w2 => ?_
  cases i2 with
  | @lst c ys es hy zy il =>
    obtain ⟨ds, hp, hz, w2⟩ := w2
    obtain ⟨xs, hx, z, il0⟩ := (r2.own p _ hp).2
    have hz' : xs.length + ys.length ≤ sizeLine := by rw [il0.length, il.length]; exact sum_len hz
    obtain ⟨r3, f3⟩ := r2.write (o := .lst (xs ++ ys)) (q := .lst (ds ++ es)) hp ⟨_, upd_same, by rw [List.length_append]; exact hz', il0.append il⟩
    exact ⟨p, c, xs, ys, rfl, rfl, hx, r2.sub _ _ hy, hz', en.nx ρ _ _ σ _ Ag.refl ((f1.trans f2).trans f3) r3 (((e.mono f1.ext).mono f2.ext).mono f3.ext) w2⟩
  | ref c =>
    obtain ⟨ds, es, hp, hb, hz, w2⟩ := w2
    obtain ⟨xs, hx, z, il0⟩ := (r2.own p _ hp).2
    obtain ⟨ys, hy, zy, il⟩ := (r2.own c _ hb).2
    have hz' : xs.length + ys.length ≤ sizeLine := by rw [il0.length, il.length]; exact sum_len hz
    obtain ⟨r3, f3⟩ := r2.write (o := .lst (xs ++ ys)) (q := .lst (ds ++ es)) hp ⟨_, upd_same, by rw [List.length_append]; exact hz', il0.append il⟩
    exact ⟨p, c, xs, ys, rfl, rfl, hx, hy, hz', en.nx ρ _ _ σ _ Ag.refl ((f1.trans f2).trans f3) r3 (((e.mono f1.ext).mono f2.ext).mono f3.ext) w2⟩
  | _ => exact False.elim w2
/-- o.f += e -/
noncomputable def augOp : Op2 → V → V → Hp → VK → Prop
  | .add => rAdd
  | .sub => rSub
  | _ => fun _ _ _ _ => False
theorem aug_in {X : Cx} (op : Op2) (h : op = .add ∨ op = .sub) : InOp X (match op with | .add => .Add | _ => .Sub) (augOp op) := by
  rcases h with rfl | rfl
  · exact in_add
  · exact in_sub
theorem SS.augf {cn f : Bs} {p2 : Pos} {op : Op2} (hop : op = .add ∨ op = .sub) (cls : Cls B.K (He.ga B.K (mkS cn))) (no : NoAttr B.K (He.ga B.K (mkS cn)) (mkS f)) (ho : SE B Y W C xq a wa) (hv : SE B Y W C xq c wc) :
    SS B Y W C xq vs (.AugAssign (.Attribute a (mkS f) p2) (match op with | .add => .Add | _ => .Sub) c pos) (fun ρ St k => wa ρ St fun x S1 => match x with
      | .ref p => match S1 p with
        | some (.ins c' fs) => c' = cn ∧ ∃ d, lookF fs f = some d ∧ wc ρ S1 fun y S2 => wAug op d y fun z => match S2 p with
          | some (.ins c2 fs2) => (c2 = cn ∧ fs2.length < 1000) ∧ k.nx ρ (ups S2 p (.ins cn (putFd fs2 f z)))
          | _ => False
        | _ => False
      | _ => False) := by
  obtain ⟨ta, pa, ka⟩ := ho.ex
  obtain ⟨tc, pc, kc⟩ := hv.ex
  refine ⟨⟨sFldAug B.K ta tc (augOp op) (mkS f), fun δ hδ => ps_fldaug (pa δ hδ) (pc δ hδ) (aug_in op hop), fun ρ St F σ H k E r e x w en => ?_⟩⟩
  refine ka ρ St F σ H _ _ r e x.eq w fun d S1 F1 v H1 f1 r1 i1 w1 => ?_
  cases i1 with
  | ref p =>
    cases eo : S1 p with
    | none => simp only [eo] at w1
    | some o => cases o with
      | ins c' fs =>
        simp only [eo] at w1
        obtain ⟨rfl, d, hd, w1⟩ := w1
        obtain ⟨dx, us, hx, it⟩ := (r1.own p _ eo).2
        rcases it.look (f := f) with ⟨_, z⟩ | ⟨v, d', hv', hd', iv⟩
        · rw [hd] at z; cases z
        · rw [hd] at hd'; cases hd'
          refine ⟨p, _, dx, us, v, rfl, hx, cls, no, hv', ?_⟩
          refine kc ρ S1 F1 σ H1 _ _ r1 (e.mono f1.ext) (x.step Ag.refl f1).eq w1 fun d2 S2 F2 v2 H2 f2 r2 i2 w2 => ?_
          have iv2 := iv.mono f2.ext
          -- the store told anew
          have tell : ∀ z : Int, (match S2 p with
              | some (.ins c2 fs2) => (c2 = c' ∧ fs2.length < 1000) ∧ k.nx ρ (ups S2 p (.ins c' (putFd fs2 f (.int z))))
              | _ => False) → ∃ dx' fs', H2 p = some (.ins (He.ga B.K (mkS c')) dx' fs') ∧ fs'.length < 1000 ∧ E.nx σ (upd H2 p (.ins (He.ga B.K (mkS c')) dx' (putF (mkS f) (.int z) fs'))) := by
            intro z wz
            cases e2 : S2 p with
            | none => simp only [e2] at wz
            | some o => cases o with
              | ins c2 fs2 =>
                simp only [e2] at wz
                obtain ⟨⟨rfl, hl⟩, wz⟩ := wz
                obtain ⟨dx2, us2, hx2, it2⟩ := (r2.own p _ e2).2
                obtain ⟨r3, f3⟩ := r2.write (o := .ins (He.ga B.K (mkS c2)) dx2 (putF (mkS f) (.int z) us2)) (q := .ins c2 (putFd fs2 f (.int z))) e2 ⟨dx2, _, upd_same, it2.put (.int z)⟩
                exact ⟨dx2, us2, hx2, by rw [it2.length]; exact hl, en.nx ρ _ _ σ _ Ag.refl ((f1.trans f2).trans f3) r3 (((e.mono f1.ext).mono f2.ext).mono f3.ext) wz⟩
              | _ => simp only [e2] at wz
          rcases hop with rfl | rfl
          · cases iv2 with
            | int i => cases i2 with
              | int j => exact ⟨i, j, rfl, rfl, tell _ w2⟩
              | _ => exact False.elim w2
            | _ => exact False.elim (by cases i2 <;> exact w2)
          · cases iv2 with
            | int i => cases i2 with
              | int j => exact ⟨i, j, rfl, rfl, tell _ w2⟩
              | _ => exact False.elim w2
            | _ => exact False.elim (by cases i2 <;> exact w2)
      | _ => simp only [eo] at w1
  | _ => exact False.elim w1
end
end DL
/-! DDC: name = {k: v for ..} on one line, the name a local (after DLC's pe_dcS, DLY's SE.dc and DL8's SS.setLc). -/
namespace DL
open PySem PySem.Spec PyProof.Rows L2
section
variable {X : Cx}
end
variable [TBS]
section
variable {B : Bx} {Y : Dl → Prop} {W : WX} {C : XC} {xq : QX} {a b c : Expr} {wa wb wc : Env → Sto → QD → Prop} {pos : Pos} {vs : List Nat} {j : Nat}
end
end DL
/-! DLK: function values: bases that bear cells, calls of function values. -/
namespace DL
open PySem PySem.Spec PyProof.Rows L2
variable [TBS]
/-! ### a base that bears some of the heap's objects more -/
open Classical in
noncomputable def moreB (base h : Heap) (cs : Addr → Prop) : Heap :=
  { objs := Array.ofFn (n := h.objs.size) fun i => if (base.get? i.1).isSome ∨ cs i.1 then h.objs[i.1] else { cls := .none, data := .freed } }
open Classical in
theorem moreB_get {base h : Heap} {cs : Addr → Prop} {b : Addr} {o : Obj} : (moreB base h cs).get? b = some o ↔ h.get? b = some o ∧ ((base.get? b).isSome ∨ cs b) := by
  have key : (moreB base h cs).objs[b]? = if _ : b < h.objs.size then (if (base.get? b).isSome ∨ cs b then h.objs[b]? else some { cls := .none, data := .freed }) else none := by
    unfold moreB
    rw [Array.getElem?_ofFn]
    by_cases hb : b < h.objs.size
    · rw [dif_pos hb, dif_pos hb]
      by_cases hc : (base.get? b).isSome ∨ cs b
      · rw [if_pos hc, if_pos hc, Array.getElem?_eq_getElem hb]
      · rw [if_neg hc, if_neg hc]
    · rw [dif_neg hb, dif_neg hb]
  have e1 : (moreB base h cs).get? b = match (moreB base h cs).objs[b]? with
    | some ⟨_, _, .freed, _⟩ => none
    | o => o := rfl
  have e2 : h.get? b = match h.objs[b]? with
    | some ⟨_, _, .freed, _⟩ => none
    | o => o := rfl
  rw [e1, key]
  by_cases hb : b < h.objs.size
  · rw [dif_pos hb]
    by_cases hc : (base.get? b).isSome ∨ cs b
    · rw [if_pos hc, ← e2]
      exact ⟨fun z => ⟨z, hc⟩, fun z => z.1⟩
    · rw [if_neg hc]
      exact ⟨fun z => (by cases z), fun z => absurd z.2 hc⟩
  · rw [dif_neg hb]
    constructor
    · intro z
      have z : (none : Option Obj) = some o := z
      cases z
    · intro z
      exact absurd (Heap.lt_size z.1) hb
theorem moreB_size {base h : Heap} {cs : Addr → Prop} : (moreB base h cs).objs.size = h.objs.size := by
  unfold moreB
  rw [Array.size_ofFn]
theorem mod_more {K : PySem.W.Frag} {mg : Str → Option Value} {base base' : Heap} (m : Mod K mg base) (k : ∀ b o, base.get? b = some o → base'.get? b = some o) : Mod K mg base' :=
  ⟨m.kin.keeps k, m.glob.keeps k, let ⟨mb, h1, h2⟩ := m.blt; ⟨mb, h1.keeps k, h2⟩, m.nolimit.keeps k⟩
theorem ff_more {h base base' : Heap} : ∀ {l : List PySem.Env}, h.FunFrames base l → (∀ L ∈ frs l, base'.get? L = none) → h.FunFrames base' l
  | [], _, _ => trivial
  | env :: rest, ⟨hk, ⟨L, o, hf, hn, ho, hd⟩, hr⟩, hL => by
    have hm : frs (env :: rest) = L :: frs rest := by
      show List.filterMap (·.frame) (env :: rest) = _
      rw [List.filterMap_cons, hf]
      rfl
    exact ⟨hk, ⟨L, o, hf, hL L (by rw [hm]; exact List.mem_cons_self), ho, hd⟩, ff_more hr fun L' h' => hL L' (by rw [hm]; exact List.mem_cons_of_mem _ h')⟩
section
variable {X : Cx} {pins : List (Addr × Obj)} {σ : L2.St} {H : Hp} {s : Shared}
/-- the cells of the running frame -/
noncomputable def isC (X : Cx) (c : Addr) : Prop := ∃ y, X.env.cells.lookup y = some c
theorem base_more (I : Inv X pins σ H s) {cs : Addr → Prop} : ∀ b o, X.base.get? b = some o → (moreB X.base s.heap cs).get? b = some o := fun b o e => moreB_get.mpr ⟨(I.bs b o e).1, .inl (by rw [e]; rfl)⟩
theorem cell_nofr (I : Inv X pins σ H s) {y : Str} {c : Addr} (hc : X.env.cells.lookup y = some c) (hf : X.fn y = true) : c ∉ frs X.stack := fun hm => by
  rcases List.mem_cons.mp (I.stkSub c hm) with e | e
  · obtain ⟨m, ⟨o, es, ep, ho, hd, _⟩, _⟩ := I.loc
    obtain ⟨v, o', ho', hd'⟩ := I.cell y c hc
    rw [e, ho] at ho'
    cases ho'
    rw [hd] at hd'
    cases hd'
  · obtain ⟨_, o, ho, _⟩ := I.ok.funs.mem e
    exact absurd (Heap.lt_size ho) (Nat.not_lt.mpr (I.ok.cab y c hf hc))
theorem env0_more (I : Inv X pins σ H s) (hf : ∀ y c, X.env.cells.lookup y = some c → X.fn y = true) : Env0 X.prog X.w X.K X.mg (moreB X.base s.heap (isC X)) X.A X.stack s H := by
  have e := I.env0
  refine ⟨e.frames, mod_more e.mod (base_more I), fun b o h => ?_, by rw [moreB_size]; exact Nat.le_refl _, ff_more e.funs fun L hL => ?_, e.frf, e.hok, e.bare⟩
  · obtain ⟨h1, h2⟩ := moreB_get.mp h
    refine ⟨h1, ?_⟩
    rcases h2 with h2 | ⟨y, hy⟩
    · obtain ⟨u, hu⟩ := Option.isSome_iff_exists.mp h2
      exact (I.bs b u hu).2
    · exact I.freeC y b hy
  · cases q : (moreB X.base s.heap (isC X)).get? L with
    | none => rfl
    | some o =>
      obtain ⟨h1, h2⟩ := moreB_get.mp q
      rcases h2 with h2 | ⟨y, hy⟩
      · have := (e.funs.mem hL).1
        rw [this] at h2; cases h2
      · exact absurd hL (cell_nofr I hy (hf y L hy))
/-- what a function captured here holds, at the base that bears the cells -/
theorem cells_more {cl : List (Str × Addr)} {fr : List Str} {ws : List (Option V)} (I : Inv X pins σ H s) (C : NdefX.CellsAt cl fr ws s.heap H) (sub : ∀ y c, cl.lookup y = some c → X.env.cells.lookup y = some c) : NdefX.CellsAt cl fr ws (moreB X.base s.heap (isC X)) fun _ => none := by
  have up : ∀ y c, cl.lookup y = some c → ∀ v, s.heap.IsCell c v → (moreB X.base s.heap (isC X)).IsCell c v := fun y c e v ⟨o, ho, hd⟩ => ⟨o, moreB_get.mpr ⟨ho, .inr ⟨y, sub y c e⟩⟩, hd⟩
  refine ⟨C.len, fun y c e => ⟨rfl, ?_⟩, C.inj, fun i y e => ?_⟩
  · obtain ⟨_, v, h⟩ := C.all y c e
    exact ⟨v, up y c e v h⟩
  · obtain ⟨c, hc, hv⟩ := C.has i y e
    refine ⟨c, hc, fun v ev => ?_⟩
    obtain ⟨u, ru, hu⟩ := hv v ev
    exact ⟨u, ru, up y c hc _ hu⟩
end
/-! ### a def called over such a base -/
section
variable {X : Cx} {CX : CXT} {k : Nat} {f C : Addr} {fd : FuncData} {ps fr : List Str} {sp : Sp} {E : L2.St → XK} {x m : Str} {p pos apos : Pos} {e o : Expr} {es : List Expr} {ta : TE} {t : TA}
theorem run_fnB {pins : List (Addr × Obj)} {σ : L2.St} {H : Hp} {s : Shared} {Q : VK} {us : List Value} {vs : List V} {base' : Heap} (fn : FnOk X.prog X.w X.K X.mg base' CX k f fd ps sp) (room : Room k X.A) (bind : Binds X.K fd ps []) (pass : PassesAt CX X σ (E σ))
    (I : Inv X pins σ H s) (e0 : Env0 X.prog X.w X.K X.mg base' X.A X.stack s H) (r : Vals vs us) (want : sp vs H Q (E σ)) : wpAny (model X.prog X.w) X.A (call (.ref f) us) (EP X pins σ Q) X.xe s := by
  have hl : us.length = ps.length := by rw [← r.length]; exact fn.len _ _ _ _ want
  have b := bind s us I.kIn (by rw [List.append_nil]; exact hl)
  rw [List.append_nil] at b
  refine wpAny_call (codeAny_mono (fn.run X.A X.stack s H ⟨us, []⟩ us vs Q (E σ) room e0 b r want) fun res s' hq => ?_)
  match res, hq with
  | .error e, hq => exact pass pins H s e s' I hq
  | .ok (.ret u), hq => exact I.after hq
/-- o.m(f), f a function made here -/
noncomputable def tMethB (C : Addr) (m : Str) (FN : Addr → NdefX.NF) (i : Nat) (js : List Nat) (sp : Addr → Addr → List (Option V) → Sp) (E : L2.St → XK) (ta : TE) (t : TA) : TE := fun σ H Q => ta σ H fun x G => ∃ a dx fs, x = .ref a ∧ G a = some (.ins C dx fs) ∧ fs.lookup m = none ∧
  t σ G fun vs H2 => ∃ q c, sp q c (js.map (NdefX.slotAt σ)) (x :: vs) H2 Q (E σ)
theorem pe_methB {pl : Sem Bool} {FN : Addr → NdefX.NF} {i : Nat} {js : List Nat} {spb : Addr → Addr → List (Option V) → Sp} (recv : PE X o ta) (cls : Cls X.K C) (meth : Meth X.K C m f) (bind : Binds X.K fd ps [])
    (fnC : ∀ y c, X.env.cells.lookup y = some c → X.fn y = true) (cap : X.Ok → NdefX.Caps X (FN 0).cl fr js) (hcl : ∀ c, (FN c).cl = (FN 0).cl)
    (fn : ∀ (base' : Heap) (q c : Addr) (ws : List (Option V)), (∀ b u, X.base.get? b = some u → base'.get? b = some u) → NdefX.CellsAt (FN c).cl fr ws base' (fun _ => none) → FnOk X.prog X.w X.K X.mg base' CX k f fd ps (spb q c ws))
    (room : Room k X.A) (pass : ∀ σ, PassesAt CX X σ (E σ)) (args : PA X (e :: es) t)
    (st : starEach (e :: es) X.env = (false, eval e X.env) :: starEach es X.env) (plain : (backTo pos (starEach es X.env)).any (·.1) = false)
    (tree : eval (.Call (.Attribute o m apos) (e :: es) [] pos) X.env = (do
      let ov ← eval o X.env
      standAt apos.atName
      let (f, first) ← holding [ov] (getMethod ov m pl)
      callWith pos f first (backTo pos (starEach (e :: es) X.env)) (backToKw pos (keywordEach [] X.env)))) :
    PE X (.Call (.Attribute o m apos) (e :: es) [] pos) (tMethB C m FN i js spb E ta t) := by
  constructor
  intro pins s σ H Q inv want
  refine PySem.W.methodCall_KW (pl := pl) (thn (recv.run pins s σ H _ inv want) fun u s1 ⟨x, G, inv1, rx, a, dx, fs, ex, there, none_, q⟩ => ?_) tree
  subst ex
  obtain rfl : u = Value.ref a := rx
  refine getmeth_ok inv1 there cls meth none_ (PySem.W.callWith_K (first := [.ref a]) (h₀ := X.base) inv1.ok.mod.kin meth.kp (thn (args.run pos pins s1 σ G _ inv1 q) fun us s2 ⟨vs, G2, inv2, rv, q, c, w⟩ => ⟨inv2.kIn, ?_⟩) st plain)
  have C0 := NdefX.cells_of inv2 (cap inv2.ok)
  rw [← hcl c] at C0
  have C1 := cells_more inv2 C0 (by rw [hcl c]; exact (cap inv2.ok).sub)
  exact run_fnB (us := .ref a :: us) (vs := .ref a :: vs) (fn _ q c _ (base_more inv2) C1) room bind (pass σ) inv2 (env0_more inv2 fnC) (.cons rfl rv) w
end
end DL
/-! DLM: the def within a def: what it makes, told exactly. -/
namespace DL
open PySem PySem.Spec PyProof.Rows L2 LamX NdefX
variable [TBS]
/-- the function that the def at st makes here, its code object at c -/
noncomputable def nfOf (env0 : PySem.Env) (name : Str) (params : Arguments) (body : List Stmt) (scope : Scope) (c : Addr) : NF := ⟨name, env0.qual ++ name, params, body, scope, cloFrom env0.cells scope.names [], c⟩
/-- what the making leaves: a new code object in the table, or one found there; the function object -/
noncomputable def Made (H : Hp) (P : Addr) (ps : Array Value) (pos : Pos) (mk : Addr → NF) (f c' : Addr) (H1 : Hp) : Prop :=
  (H c' = none ∧ H1 = upd (upd (upd H P (.tbl (ps ++ #[rawInt pos.line, rawInt pos.col, .ref c']))) c' (CodeO c' (mk c').qual)) f (FnO f (mk c')) ∧ f ≠ c') ∨
  (codeAmong pos ps.toList = some (.ref c') ∧ H1 = upd H f (FnO f (mk c')))
section
variable {X : Cx} {pins : List (Addr × Obj)} {σ : L2.St} {H : Hp} {s : Shared}
theorem nd_make {c P : Addr} {name : Str} {params : Arguments} {body : List Stmt} {scope : Scope} {pos : Pos} {ps : Array Value} {E : Value → Shared → Prop} {Q : Value → Shared → Prop} (I : Inv X pins σ H s) (tb : TabB X.base X.mg c P) (code : X.env.code = .ref c)
    (there : H P = some (.tbl ps)) (trip : TriplesOk ps.toList) (told : ∀ cv, codeAmong pos ps.toList = some cv → ∃ c, cv = .ref c) (free : ∀ y ∈ scope.names, y.2 = .free → ∃ c, X.env.cells.lookup y.1 = some c)
    (want : ∀ (f c' : Addr) (H1 : Hp) (s' : Shared), Inv X pins σ H1 s' → H f = none → Made H P ps pos (nfOf X.env name params body scope) f c' H1 → Q (.ref f) s') :
    wpAny (model X.prog X.w) X.A (makeFunction name (X.env.qual ++ name) params (.stmts body) scope X.env [] [] [] pos pos.line) Q E s := by
  have bP : s.heap.BuiltinsAt X.mg P := tb.bm.keeps I.bk
  have atP : s.heap.get? P = some { cls := .none, data := .fields ps } := I.hok P _ there
  cases found : codeAmong pos ps.toList with
  | some cv =>
    obtain ⟨c', rfl⟩ := told cv found
    refine PySem.W.makeFunction_hit (mg := X.mg) (c := c) (P := P) (ps := ps) (closure_ok free) I.ok.glob (I.mod.glob.keeps I.bk) code (tb.code.keeps I.bk) atP trip found bP fun ctv doc h' tk hx hsz => ?_
    have I1 : Inv X pins σ H { s with heap := h', toks := tk } := I.kept hx
    exact want _ c' _ _ (inv_fn (F := nfOf X.env name params body scope c') (t' := tk) (doc := doc) (pm := (X.mg "__name__").getD .none) (ctv := ctv) I1 rfl) (I1.hok.fresh (Nat.le_refl _)) (.inr ⟨found, rfl⟩)
  | none =>
    refine PySem.W.makeFunction_K (mg := X.mg) (c := c) (P := P) (ps := ps) (closure_ok free) I.ok.glob (I.mod.glob.keeps I.bk) code (tb.code.keeps I.bk) atP trip found tb.gP bP fun c' ctv doc h' tk hx hge hlt hrec htb => ?_
    obtain ⟨c2, oc, vs, t, e2, hoc, hd, hv⟩ := hrec
    cases e2
    have I1 := inv_table (t' := tk) (more := #[rawInt pos.line, rawInt pos.col, .ref c']) (h' := h') I there (fun b o hb e => hx b o hb e) htb hge ⟨oc, vs, t, hoc, hd, hv⟩
    exact want _ c' _ _ (inv_fn (F := nfOf X.env name params body scope c') (t' := tk) (doc := doc) (pm := (X.mg "__name__").getD .none) (ctv := ctv) I1 rfl) (I.hok.fresh (Nat.le_trans hge (Nat.le_of_lt hlt))) (.inl ⟨I.hok.fresh hge, rfl, Ne.symm (Nat.ne_of_lt hlt)⟩)
/-- the reading of the statement -/
noncomputable def tNd (P : Addr) (i : Nat) (pos : Pos) (mk : Addr → NF) : TS := fun D σ H => ∃ ps, H P = some (.tbl ps) ∧ TriplesOk ps.toList ∧ (∀ cv, codeAmong pos ps.toList = some cv → ∃ c, cv = .ref c) ∧
  ∀ f c' H1, H f = none → Made H P ps pos mk f c' H1 → D.nx (σ.set i (some (.ref f))) H1
theorem ps_nd {c P : Addr} {name : Str} {params : Arguments} {body : List Stmt} {scope : Scope} {pos : Pos} {i : Nat} (tb : TabB X.base X.mg c P) (code : X.env.code = .ref c)
    (free : ∀ y ∈ scope.names, y.2 = .free → X.env.scope.names.lookup y.1 = some .cell ∨ X.env.scope.names.lookup y.1 = some .free) (hd0 : params.defaults = []) (hk0 : params.kw_defaults = []) (ha : annTrees params none X.env = [])
    (hN : X.N.Nodup) (hi : X.N[i]? = some name) (hl : X.env.scope.names.lookup name = some .local) :
    PS X (.FunctionDef name params body [] none [] scope none name pos) (tNd P i pos (nfOf X.env name params body scope)) := by
  constructor
  intro pins s σ H D I want
  obtain ⟨ps, there, trip, told, want⟩ := want
  have k : X.env.kindOf name = some .local := hl
  have hq : qualnameIn X.env name name = X.env.qual ++ name := by
    unfold qualnameIn
    rw [k]
    rfl
  refine PySem.W.nestDef_K hd0 hk0 ha ?_
  rw [hq]
  refine nd_make I tb code there trip told (fun y hy e => (free y hy e).elim (fun z => I.ok.has _ (.inl z)) fun z => I.ok.has _ (.inr z)) fun f c' H1 s' I1 f0 md => ?_
  exact store_ok I1 hN hi (.inl hl) (v := .ref f) rfl (fun s'' J => ⟨_, H1, J, want f c' H1 f0 md⟩) (.inr hl)
end
/-- over data: the made function's objects are frozen -/
theorem SR.made {K : PySem.W.Frag} {ω : World} {F H H1 : Hp} {St : Sto} (r : SR K ω F St H) {P f c' : Addr} {nm : Nat → Nat → Str} {ps : Array Value} {pos : Pos} {mk : Addr → NF} (hT : (P, nm) ∈ TBS.T) (hn : ∀ l c, nm l c = (mk c').qual) (hu : ∀ p ∈ TBS.T, p.1 = P → p.2 = nm)
    (there : H P = some (.tbl ps)) (f0 : H f = none) (md : Made H P ps pos mk f c' H1) :
    ∃ F1, SR K ω F1 St H1 ∧ Fr F St H F1 St H1 ∧ F1 f = some (FnO f (mk c')) ∧ F1 c' = some (CodeO c' (mk c').qual) := by
  obtain ⟨tP1, tP2, ps0, h1, trip, told⟩ := r.tabs _ hT
  have e0 : ps0 = ps := by
    have := h1.symm.trans there
    cases this; rfl
  subst e0
  obtain ⟨ff, fS⟩ := r.fresh f0
  have nP : f ≠ P := fun z => by rw [z, there] at f0; cases f0
  rcases md with ⟨c0, rfl, fc⟩ | ⟨found, rfl⟩
  · obtain ⟨cf, cS⟩ := r.fresh c0
    have ncP : c' ≠ P := fun z => by rw [z, there] at c0; cases c0
    have sF : Same F (upd (upd F c' (CodeO c' (mk c').qual)) f (FnO f (mk c'))) := fun b o e => by
      rw [upd_ne (ne_of_none e ff), upd_ne (ne_of_none e cf)]; exact e
    have at_ : ∀ b, b ≠ f → b ≠ c' → b ≠ P → upd (upd (upd H P (.tbl (ps0 ++ #[rawInt pos.line, rawInt pos.col, .ref c']))) c' (CodeO c' (mk c').qual)) f (FnO f (mk c')) b = H b := fun b h1 h2 h3 => by
      rw [upd_ne h1, upd_ne h2, upd_ne h3]
    refine ⟨upd (upd F c' (CodeO c' (mk c').qual)) f (FnO f (mk c')), ⟨fun b o e => ?_, fun a o e => ?_, fun p hp => ?_⟩, ⟨sF, fun a o e n nt => ?_⟩, upd_same, ?_⟩
    · by_cases b1 : b = f
      · subst b1; rw [upd_same] at e ⊢; exact e
      · rw [upd_ne b1] at e ⊢
        by_cases b2 : b = c'
        · subst b2; rw [upd_same] at e ⊢; exact e
        · rw [upd_ne b2] at e ⊢
          rw [upd_ne (fun z => by rw [z, tP1] at e; cases e)]
          exact r.sub _ _ e
    · obtain ⟨x, y⟩ := r.own a o e
      have n1 : a ≠ f := fun z => by rw [z, fS] at e; cases e
      have n2 : a ≠ c' := fun z => by rw [z, cS] at e; cases e
      have n3 : a ≠ P := fun z => by rw [z, tP2] at e; cases e
      exact ⟨by rw [upd_ne n1, upd_ne n2]; exact x, (y.mono sF).at (at_ a n1 n2 n3)⟩
    · obtain ⟨t1, t2, ps', a1, a2, a3⟩ := r.tabs p hp
      have n1 : p.1 ≠ f := fun z => by rw [z, f0] at a1; cases a1
      have n2 : p.1 ≠ c' := fun z => by rw [z, c0] at a1; cases a1
      refine ⟨by rw [upd_ne n1, upd_ne n2]; exact t1, t2, ?_⟩
      by_cases hb : p.1 = P
      · have eL : (ps0 ++ #[rawInt pos.line, rawInt pos.col, .ref c']).toList = ps0.toList ++ [rawInt pos.line, rawInt pos.col, .ref c'] := by simp
        refine ⟨ps0 ++ #[rawInt pos.line, rawInt pos.col, .ref c'], by rw [upd_ne n1, upd_ne n2, hb, upd_same], by rw [eL]; exact PySem.TriplesOk_snoc _ _ _ _ trip, fun p' cv hcv => ?_⟩
        rw [eL] at hcv
        rcases among_app2 _ trip hcv with z | ⟨z, _, _⟩
        · obtain ⟨c1, e1, e2⟩ := told p' cv z
          refine ⟨c1, e1, ?_⟩
          rw [hu p hp hb]
          exact sF _ _ e2
        · refine ⟨c', z, ?_⟩
          rw [hu p hp hb, hn, upd_ne (Ne.symm fc)]
          exact upd_same
      · refine ⟨ps', by rw [at_ _ n1 n2 hb]; exact a1, a2, fun p' cv hcv => ?_⟩
        obtain ⟨c1, e1, e2⟩ := a3 p' cv hcv
        exact ⟨c1, e1, sF _ _ e2⟩
    · have n1 : a ≠ f := ne_of_none e f0
      have n2 : a ≠ c' := ne_of_none e c0
      have n3 : a ≠ P := fun z => by rw [z, there] at e; exact nt _ (Option.some.inj e).symm
      exact ⟨by rw [at_ a n1 n2 n3]; exact e, n, fun z => by rw [upd_ne n1, upd_ne n2]; exact z⟩
    · rw [upd_ne (Ne.symm fc)]; exact upd_same
  · obtain ⟨c1, e1, e2⟩ := told pos _ found
    cases e1
    have e2 : F c' = some (CodeO c' (mk c').qual) := by rw [← hn pos.line pos.col]; exact e2
    obtain ⟨r1, f1⟩ := r.lay (o := FnO f (mk c')) f0
    exact ⟨_, r1, f1, upd_same, f1.ext _ _ e2⟩
/-! ### what a function value says -/
/-- a def within a def, ws what its captured names hold -/
noncomputable def spN (K : PySem.W.Frag) (ω : World) (C : XC) (n : Nat) (S : DSp) : List (Option V) → Sp := fun wo vs H Q E => vs.length = n ∧ ∃ ws : List V, wo = ws.map some ∧ lift K ω C S (vs ++ ws) H Q E
/-- a function made by a def within a def -/
noncomputable def KeyF (prog : Program) (w : World) (K : PySem.W.Frag) (mg : Str → Option Value) (base : Heap) (C : XC) (j : Nat) (d : D) (sp : DSp) : Prop :=
  ∃ (q : Addr) (FN : NF) (ws : List V) (caps : List D) (ps fr : List Str) (S : DSp), d = .fnv q (FnO q FN) (.ref FN.c :: ws) (.fnv FN.c (CodeO FN.c FN.qual) [] [] :: caps) ∧ (sp = fun as => S (as ++ caps)) ∧ ws.length = fr.length ∧
    (∀ ds St q qx, S ds St q qx → ds.length = ps.length + fr.length) ∧ CellsAt FN.cl fr (ws.map some) base (fun _ => none) ∧ NOk prog w K mg base (L2.CX prog w) j q FN ps fr (spN K w C ps.length S)
/-- a bound method, g of b -/
noncomputable def KeyB (prog : Program) (w : World) (K : PySem.W.Frag) (mg : Str → Option Value) (base : Heap) (C : XC) (j : Nat) (d : D) (sp : DSp) : Prop :=
  ∃ (q g b : Addr) (fd : FuncData) (ps : List Str) (S : DSp), d = .fnv q (.met g b) [.ref b] [.ref b] ∧ (sp = fun as => S (.ref b :: as)) ∧ PySem.W.fnIn K g = true ∧ Binds K fd ps [] ∧ FnOk prog w K mg base (L2.CX prog w) j g fd ps (lift K w C S)
/-- the function value d says sp -/
noncomputable def KeyOk (prog : Program) (w : World) (K : PySem.W.Frag) (mg : Str → Option Value) (base : Heap) (C : XC) (j : Nat) (d : D) (sp : DSp) : Prop := KeyF prog w K mg base C j d sp ∨ KeyB prog w K mg base C j d sp
section
variable {X : Cx} {CX : CXT} {k : Nat} {f C : Addr} {fd : FuncData} {ps : List Str} {sp : Sp} {E : L2.St → XK} {x m : Str} {p pos apos : Pos} {e o : Expr} {es : List Expr} {ta : TE} {t : TA}
theorem bmeth_of {K : PySem.W.Frag} {C g : Addr} {m : Str} (mt : Meth K C m g) (fi : PySem.W.fnIn K g = true) (cp : PySem.W.copiedNames.contains m = false) : BMeth K C m g := by
  have ty : PySem.W.typeIn K (.ref g) = some (.type "function") := beq_iff_eq.mp mt.fn
  refine ⟨mt, ?_, ?_, cp, fi⟩
  · unfold PySem.W.specialIn
    rw [ty]
    rfl
  · unfold PySem.W.takesIn PySem.W.specialIn
    rw [ty]
    rfl
/-- o.m as a value -/
noncomputable def tBnd (C : Addr) (m : Str) (g : Addr) (ta : TE) : TE := fun σ H Q => ta σ H fun x H1 => ∃ a dx fs, x = .ref a ∧ H1 a = some (.ins C dx fs) ∧ fs.lookup m = none ∧ ∀ q, H1 q = none → Q (.ref q) (upd H1 q (.met g a))
theorem pe_bnd {g : Addr} (he : PE X o ta) (cls : Cls X.K C) (bm : BMeth X.K C m g) (hb : attributeBase o m X.env (eval o X.env) = eval o X.env) : PE X (.Attribute o m pos) (tBnd C m g ta) := by
  constructor
  intro pins s σ H Q I want
  refine attr_of hb (thn (he.run pins s σ H _ I want) fun u s1 ⟨x, H1, I1, rx, a, dx, fs, ex, ea, l, q⟩ => ?_)
  subst ex
  obtain rfl : u = Value.ref a := rx
  exact getbound_ok I1 ea cls bm l fun q1 s2 hq1 I2 => ⟨.ref q1, _, I2, rfl, q q1 hq1⟩
/-- o.m(..): which promise of the method it is, the values handed over tell -/
noncomputable def tMethI (C : Addr) (m : Str) {ι : Type} (sp : ι → Sp) (E : L2.St → XK) (ta : TE) (t : TA) : TE := fun σ H Q => ta σ H fun x G => ∃ a dx fs, x = .ref a ∧ G a = some (.ins C dx fs) ∧ fs.lookup m = none ∧
  t σ G fun vs H2 => ∃ i, sp i (x :: vs) H2 Q (E σ)
theorem pe_methI {ι : Type} {spi : ι → Sp} {pl : Sem Bool} (recv : PE X o ta) (cls : Cls X.K C) (meth : Meth X.K C m f) (fn : ∀ i, FnOk X.prog X.w X.K X.mg X.base CX k f fd ps (spi i)) (room : Room k X.A) (bind : Binds X.K fd ps []) (pass : ∀ σ, PassesAt CX X σ (E σ)) (args : PA X (e :: es) t)
    (st : starEach (e :: es) X.env = (false, eval e X.env) :: starEach es X.env) (plain : (backTo pos (starEach es X.env)).any (·.1) = false)
    (tree : eval (.Call (.Attribute o m apos) (e :: es) [] pos) X.env = (do
      let ov ← eval o X.env
      standAt apos.atName
      let (f, first) ← holding [ov] (getMethod ov m pl)
      callWith pos f first (backTo pos (starEach (e :: es) X.env)) (backToKw pos (keywordEach [] X.env)))) :
    PE X (.Call (.Attribute o m apos) (e :: es) [] pos) (tMethI C m spi E ta t) := by
  constructor
  intro pins s σ H Q inv want
  refine PySem.W.methodCall_KW (pl := pl) (thn (recv.run pins s σ H _ inv want) fun u s1 ⟨x, G, inv1, rx, a, dx, fs, ex, there, none_, q⟩ => ?_) tree
  subst ex
  obtain rfl : u = Value.ref a := rx
  refine getmeth_ok inv1 there cls meth none_ (PySem.W.callWith_K (first := [.ref a]) (h₀ := X.base) inv1.ok.mod.kin meth.kp (thn (args.run pos pins s1 σ G _ inv1 q) fun us s2 ⟨vs, G2, inv2, rv, i, w⟩ => ⟨inv2.kIn, ?_⟩) st plain)
  exact run_fnS (us := .ref a :: us) (vs := .ref a :: vs) (fn i) room bind (pass σ) inv2 (.cons rfl rv) w
end
section
variable {B : Bx} {Y : Dl → Prop} {W : WX} {C : XC} {xq : QX} {a b c : Expr} {wa wb wc : Env → Sto → QD → Prop} {pos : Pos} {vs : List Nat}
theorem getL_at {K : PySem.W.Frag} {F : Hp} {ρ : Env} {σ : L2.St} (r : RE K F ρ σ) : ∀ {js : List Nat} {caps : List D}, getL ρ js = some caps → ∃ ws : List V, js.map (slotAt σ) = ws.map some ∧ IsL K F ws caps
  | [], caps, h => by
    cases h
    exact ⟨[], rfl, .nil⟩
  | j :: js, caps, h => by
    have h' : (match get ρ j, getL ρ js with | some d, some ds => some (d :: ds) | _, _ => none) = some caps := h
    cases e1 : get ρ j with
    | none => rw [e1] at h'; cases h'
    | some d =>
      cases e2 : getL ρ js with
      | none => rw [e1, e2] at h'; cases h'
      | some ds =>
        rw [e1, e2] at h'
        cases h'
        obtain ⟨v, hv, iv⟩ := r.at_ j d e1
        obtain ⟨ws, hw, iw⟩ := getL_at r e2
        exact ⟨v :: ws, by rw [List.map_cons, List.map_cons, hw, slotAt_of hv], .cons iv iw⟩
/-- def f(..): ..; b = e; b.m(f) -/
theorem SSs.bld {i ib xi n : Nat} {js : List Nat} {env0 : PySem.Env} {cc P : Addr} {nm : Nat → Nat → Str} {name : Str} {params : Arguments} {body : List Stmt} {scope : Scope} {p1 p4 p5 p6 p7 : Pos} {fr ps1 : List Str} {x2 : Stmt} {xs : List Stmt} {we : Env → Sto → QD → Prop} {w4 : Env → Sto → Ks → Prop}
    {cn m : Bs} {f : Addr} {fd : FuncData} {ps : List Str} {j j' : Nat} {o y : Expr} {hsp : D → DSp → DSp} {S : DSp}
    (tk : ∀ δ, Y δ → Takes (cx B δ) W) (room : ∀ δ, Y δ → Room j δ.A) (env : ∀ δ, Y δ → δ.env = env0) (fnC : ∀ δ, Y δ → ∀ x, δ.fn x = true)
    (tb : TabB B.base B.mg cc P) (code : env0.code = .ref cc) (hT : (P, nm) ∈ TBS.T) (hn : ∀ l c, nm l c = env0.qual ++ name) (hu : ∀ p ∈ TBS.T, p.1 = P → p.2 = nm)
    (free : ∀ y ∈ scope.names, y.2 = .free → env0.scope.names.lookup y.1 = some .cell ∨ env0.scope.names.lookup y.1 = some .free) (hfr : ∀ y ∈ fr, (y, NameKind.free) ∈ scope.names) (hjs : js.map (fun j => B.N[j]?) = fr.map some)
    (hd0 : params.defaults = []) (hk0 : params.kw_defaults = []) (ha : ∀ env, annTrees params none env = []) (hN : B.N.Nodup) (hi : B.N[i]? = some name) (hl : env0.scope.names.lookup name = some .local) (iv : i ∈ vs) (ij : i ∉ js) (bj : ib ∉ js)
    (len : ∀ ds St q qx, S ds St q qx → ds.length = ps1.length + fr.length)
    (nok : ∀ (base' : Heap) (q c : Addr), (∀ b u, B.base.get? b = some u → base'.get? b = some u) → NOk B.prog B.w B.K B.mg base' (L2.CX B.prog B.w) j' q (nfOf env0 name params body scope c) ps1 fr (spN B.K B.w C ps1.length S))
    (h2 : SS B Y W C xq vs x2 (fun ρ St k => we ρ St fun x S1 => k.nx (put ρ ib x) S1))
    (cls : Cls B.K (He.ga B.K (mkS cn))) (mt : Meth B.K (He.ga B.K (mkS cn)) (mkS m) f) (bind : Binds B.K fd ps [])
    (fn : ∀ (base' : Heap) (d : D) (sp : DSp), (∀ b u, B.base.get? b = some u → base'.get? b = some u) → KeyOk B.prog B.w B.K B.mg base' C j' d sp → FnOk B.prog B.w B.K B.mg base' (L2.CX B.prog B.w) j f fd ps (lift B.K B.w C (hsp d sp)))
    (ho : SE B Y W C xq o (fun ρ St q => ∃ d, get ρ ib = some d ∧ q d St)) (hy : SA B Y W C xq [y] (fun ρ St q => ∃ d, get ρ i = some d ∧ q [d] St)) (sy : notStar y = true) (nc : notCall o = true) (hl3 : (p5.endLine == p6.line) = true)
    (h4 : SSs B Y W C xq vs xs w4) :
    SSs B Y W C xq vs (.FunctionDef name params body [] none [] scope none name p1 :: x2 :: .Expr (.Call (.Attribute o (mkS m) p5) [y] [] p6) p7 :: xs) (fun ρ St k => ∀ q : Addr, St q = none → we (put ρ i (.ref q)) St fun x S1 => wBld hsp S xq i js ib cn m q (put (put ρ i (.ref q)) ib x) S1 fun ρ' S' => w4 ρ' S' k) := by
  obtain ⟨t2, ps2, k2⟩ := h2.ex
  obtain ⟨to, po, ko⟩ := ho.ex
  obtain ⟨ty, py, ky⟩ := hy.ex
  obtain ⟨t4, ps4, k4⟩ := h4.ex
  let mk := nfOf env0 name params body scope
  -- the promise of the method that is handed the function at q, code at c, captured values wo
  let spb : Addr → Addr → List (Option V) → Sp := fun q c wo vs H Q E => ∃ (ws : List V) (caps : List D), wo = ws.map some ∧ ws.length = fr.length ∧ lift B.K B.w C (hsp (.fnv q (FnO q (mk c)) (.ref c :: ws) (.fnv c (CodeO c (mk c).qual) [] [] :: caps)) (fun as => S (as ++ caps))) vs H Q E
  have pe3 : ∀ δ, Y δ → PE (cx B δ) (.Call (.Attribute o (mkS m) p5) [y] [] p6) (tMethB (He.ga B.K (mkS cn)) (mkS m) mk i js spb (WE W) to ty) := fun δ hδ => by
    have ee := env δ hδ
    refine pe_methB (X := cx B δ) (fr := fr) (FN := mk) (po δ hδ) cls mt bind (fun y c _ => fnC δ hδ y) (fun ok => ?_) (fun c => rfl) (fun base' q c wo ext cells => ?_) (room δ hδ) (fun σ => passAt (tk δ hδ) σ) (py δ hδ) (star_cons sy _) (by rfl) (meth_tree nc hl3 (by rw [List.all_cons, sy]; rfl) (by show 1 < 20; omega))
    · have := Caps.made (X := cx B δ) (fr := fr) (js := js) (scope := scope) ok (by show ∀ y ∈ scope.names, _; rw [show (cx B δ).env = env0 from ee]; exact free) hfr hjs
      rw [show (cx B δ).env = env0 from ee] at this
      exact this
    · refine ⟨fun vs H Q E sp => ?_, fun A outer s H args us vs Q E hr e0 hb hv sp => ?_⟩
      · obtain ⟨ws, caps, e1, e2, l⟩ := sp
        subst e1
        exact (fn base' _ _ ext (.inl ⟨q, mk c, ws, caps, ps1, fr, S, rfl, rfl, e2, len, cells, nok base' q c ext⟩)).len _ _ _ _ l
      · obtain ⟨ws, caps, e1, e2, l⟩ := sp
        subst e1
        exact (fn base' _ _ ext (.inl ⟨q, mk c, ws, caps, ps1, fr, S, rfl, rfl, e2, len, cells, nok base' q c ext⟩)).run A outer s H args us vs Q E hr e0 hb hv l
  refine ⟨⟨tSeq (tNd P i p1 mk) (tSeq t2 (tSeq (tDrop (tMethB (He.ga B.K (mkS cn)) (mkS m) mk i js spb (WE W) to ty)) t4)), fun δ hδ => pss_cons ?_ (pss_cons (ps2 δ hδ) (pss_cons (ps_expr (pe3 δ hδ) (no_swap rfl _ _ _)) (ps4 δ hδ))), fun ρ St F σ H k E r e x w en => ?_⟩⟩
  · have ee := env δ hδ
    have := ps_nd (X := cx B δ) (c := cc) (P := P) (name := name) (params := params) (body := body) (scope := scope) (pos := p1) (i := i) tb (by rw [show (cx B δ).env = env0 from ee]; exact code) (by rw [show (cx B δ).env = env0 from ee]; exact free) hd0 hk0 (ha _) hN hi (by rw [show (cx B δ).env = env0 from ee]; exact hl)
    rw [show (cx B δ).env = env0 from ee] at this
    exact this
  · obtain ⟨tP1, tP2, pv, there, trip, told⟩ := r.tabs _ hT
    refine ⟨pv, there, trip, fun cv h => ?_, fun q c' H1 f0 md => ?_⟩
    · obtain ⟨c, e1, _⟩ := told p1 cv h
      exact ⟨c, e1⟩
    obtain ⟨F1, r1, f1, fq, fc⟩ := r.made (mk := mk) hT (fun l c => hn l c) hu there f0 md
    have e1 : RE B.K F1 (put ρ i (.ref q)) (σ.set i (some (.ref q))) := (e.mono f1.ext).put i (.ref q)
    have a1 : Ag vs σ (σ.set i (some (.ref q))) := Ag.set iv
    refine k2 _ St F1 _ H1 { k with nx := fun ρ' S' => wBld hsp S xq i js ib cn m q ρ' S' fun ρ' S' => w4 ρ' S' k } _ r1 e1 (x.step a1 f1) (w q (r.fresh f0).2) ⟨fun ρ' S' F' σ' H' ag f2 r2 e2 w2 => ?_, ?_, ?_, ?_⟩
    · obtain ⟨p, fs, caps, gi, gb, gc, si, nm0, w3⟩ := w2
      obtain ⟨ws, hw, iw⟩ := getL_at e2 gc
      have x2 := x.step (a1.trans ag) (f1.trans f2)
      refine ko ρ' S' F' σ' H' (fun d S'' => d = .ref p ∧ S'' = S') _ r2 e2 x2.eq ⟨_, gb, rfl, rfl⟩ fun d S1' F3 v H3 f3 r3 i3 z => ?_
      obtain ⟨rfl, rfl⟩ := z
      cases i3
      obtain ⟨dx, fvs, hx, it⟩ := (r3.own p _ si).2
      refine ⟨p, dx, fvs, rfl, hx, ?_, ?_⟩
      · rcases it.look (f := m) with ⟨z, _⟩ | ⟨_, _, _, z, _⟩
        · exact z
        · rw [nm0] at z; cases z
      · refine ky ρ' S1' F3 σ' H3 (fun ds S'' => ds = [.ref q] ∧ S'' = S1') _ r3 (e2.mono f3.ext) (x2.step Ag.refl f3).eq ⟨_, gi, rfl, rfl⟩ fun ds S4 F4 us H4 f4 r4 i4 _ z => ?_
        obtain ⟨rfl, rfl⟩ := z
        cases i4 with
        | cons i5 i6 =>
          cases i5
          cases i6
          have fr4 := (f2.trans f3).trans f4
          have iw4 := (iw.mono f3.ext).mono f4.ext
          have lw : ws.length = fr.length := by
            have q1 := congrArg List.length hw
            have q2 := congrArg List.length hjs
            simp only [List.length_map] at q1 q2
            omega
          refine ⟨q, c', ws, caps, hw, lw, _, S4, F4, _, xq, r4, .cons (.ref p) (.cons (.fnv (fr4.ext _ _ fq) (.cons (.fnv (fr4.ext _ _ fc) .nil) iw4)) .nil), w3 _ _ _, fun d S' v F' H' hq f5 r5 i5 => ?_, fun c d S' F' H' dx hq f5 r5 p5 => ?_⟩
          · have ff := (f3.trans f4).trans f5
            exact k4 ρ' S' F' σ' H' k E r5 (e2.mono ff.ext) ((x2.step Ag.refl ff)) hq ((en.step (a1.trans ag) (f1.trans f2)).step Ag.refl ff)
          · exact x2.eq c d S' F' H' dx ((f3.trans f4).trans f5) r5 p5 hq
    · exact fun d S' F' v H' f2 r2 i2 z => en.rt d S' F' v H' (f1.trans f2) r2 i2 z
    · exact fun ρ' S' F' σ' H' ag f2 r2 e2 z => en.bk ρ' S' F' σ' H' (a1.trans ag) (f1.trans f2) r2 e2 z
    · exact fun ρ' S' F' σ' H' ag f2 r2 e2 z => en.ct ρ' S' F' σ' H' (a1.trans ag) (f1.trans f2) r2 e2 z
/-- b.m(a.m2), as a statement -/
theorem SS.bxp {ib ia : Nat} {cn m c2 m2 : Bs} {f g : Addr} {fd fd2 : FuncData} {ps ps2 : List Str} {j j' : Nat} {o y : Expr} {p5 p6 p7 p8 : Pos} {hsp : D → DSp → DSp} {S : DSp}
    (tk : ∀ δ, Y δ → Takes (cx B δ) W) (room : ∀ δ, Y δ → Room j δ.A) (cls : Cls B.K (He.ga B.K (mkS cn))) (mt : Meth B.K (He.ga B.K (mkS cn)) (mkS m) f) (bind : Binds B.K fd ps [])
    (fn : ∀ (d : D) (sp : DSp), KeyOk B.prog B.w B.K B.mg B.base C j' d sp → FnOk B.prog B.w B.K B.mg B.base (L2.CX B.prog B.w) j f fd ps (lift B.K B.w C (hsp d sp)))
    (cls2 : Cls B.K (He.ga B.K (mkS c2))) (bm : BMeth B.K (He.ga B.K (mkS c2)) (mkS m2) g) (bind2 : Binds B.K fd2 ps2 []) (fn2 : FnOk B.prog B.w B.K B.mg B.base (L2.CX B.prog B.w) j' g fd2 ps2 (lift B.K B.w C S))
    (ho : SE B Y W C xq o (fun ρ St q => ∃ d, get ρ ib = some d ∧ q d St)) (hy : SE B Y W C xq y (fun ρ St q => ∃ d, get ρ ia = some d ∧ q d St)) (nc : notCall o = true) (ny : notCall y = true) (hl3 : (p5.endLine == p6.line) = true) (hc : notComp (.Call (.Attribute o (mkS m) p5) [.Attribute y (mkS m2) p8] [] p6) = true) :
    SS B Y W C xq vs (.Expr (.Call (.Attribute o (mkS m) p5) [.Attribute y (mkS m2) p8] [] p6) p7) (fun ρ St k => ∃ p fs pa fa, get ρ ib = some (.ref p) ∧ get ρ ia = some (.ref pa) ∧ St p = some (.ins cn fs) ∧ lookF fs m = none ∧ St pa = some (.ins c2 fa) ∧ lookF fa m2 = none ∧
      ∀ (q : Addr) (o : HO) (ws : List V), hsp (.fnv q o ws [.ref pa]) (fun as => S (.ref pa :: as)) [.ref p, .fnv q o ws [.ref pa]] St (fun _ S2 => k.nx ρ S2) xq) := by
  obtain ⟨to, po, ko⟩ := ho.ex
  obtain ⟨ty, py, ky⟩ := hy.ex
  have star : ∀ env, starEach [Expr.Attribute y (mkS m2) p8] env = (false, eval (Expr.Attribute y (mkS m2) p8) env) :: starEach [] env := fun env => rfl
  let spi : Addr × Addr → Sp := fun qb => lift B.K B.w C (hsp (.fnv qb.1 (.met g qb.2) [.ref qb.2] [.ref qb.2]) (fun as => S (.ref qb.2 :: as)))
  have pe : ∀ δ, Y δ → PE (cx B δ) (.Call (.Attribute o (mkS m) p5) [.Attribute y (mkS m2) p8] [] p6) (tMethI (He.ga B.K (mkS cn)) (mkS m) spi (WE W) to (tCons (tBnd (He.ga B.K (mkS c2)) (mkS m2) g ty) tNil)) := fun δ hδ =>
    pe_methI (X := cx B δ) (po δ hδ) cls mt (fun qb => fn _ _ (.inr ⟨qb.1, g, qb.2, fd2, ps2, S, rfl, rfl, bm.fi, bind2, fn2⟩)) (room δ hδ) bind (fun σ => passAt (tk δ hδ) σ) (pa_cons (pe_bnd (X := cx B δ) (py δ hδ) cls2 bm (attr_base ny _ _ _)) pa_nil (star _)) (star _) (by rfl) (meth_tree nc hl3 rfl (by show 1 < 20; omega))
  refine ⟨⟨tDrop (tMethI (He.ga B.K (mkS cn)) (mkS m) spi (WE W) to (tCons (tBnd (He.ga B.K (mkS c2)) (mkS m2) g ty) tNil)), fun δ hδ => ps_expr (pe δ hδ) (no_swap hc _ _ _), fun ρ St F σ H k E r e x w en => ?_⟩⟩
  obtain ⟨p, fs, pa, fa, gb, ga, sp0, nm0, spa, nm2, w3⟩ := w
  refine ko ρ St F σ H (fun d S' => d = .ref p ∧ S' = St) _ r e x.eq ⟨_, gb, rfl, rfl⟩ fun d S1 F1 v H1 f1 r1 i1 z => ?_
  obtain ⟨rfl, rfl⟩ := z
  cases i1
  obtain ⟨dx, fvs, hx, it⟩ := (r1.own p _ sp0).2
  refine ⟨p, dx, fvs, rfl, hx, ?_, ?_⟩
  · rcases it.look (f := m) with ⟨z, _⟩ | ⟨_, _, _, z, _⟩
    · exact z
    · rw [nm0] at z; cases z
  refine ky ρ S1 F1 σ H1 (fun d S' => d = .ref pa ∧ S' = S1) _ r1 (e.mono f1.ext) (x.eq.step f1) ⟨_, ga, rfl, rfl⟩ fun d S2 F2 v H2 f2 r2 i2 z => ?_
  obtain ⟨rfl, rfl⟩ := z
  cases i2
  obtain ⟨dy, gvs, hy2, it2⟩ := (r2.own pa _ spa).2
  refine ⟨pa, dy, gvs, rfl, hy2, ?_, fun q hq => ?_⟩
  · rcases it2.look (f := m2) with ⟨z, _⟩ | ⟨_, _, _, z, _⟩
    · exact z
    · rw [nm2] at z; cases z
  obtain ⟨r3, f3⟩ := r2.lay (o := .met g pa) hq
  have fr3 := (f1.trans f2).trans f3
  refine ⟨(q, pa), _, S2, _, _, xq, r3, .cons (.ref p) (.cons (.fnv upd_same (.cons (.ref pa) .nil)) .nil), w3 _ _ _, fun d S' v F' H' hq' f5 r5 i5 => ?_, fun c d S' F' H' dx hq' f5 r5 p5 => ?_⟩
  · exact en.nx ρ S' F' σ H' Ag.refl (fr3.trans f5) r5 (e.mono (fr3.trans f5).ext) hq'
  · exact x.eq c d S' F' H' dx (fr3.trans f5) r5 p5 hq'
end
end DL
/-! DLP: setdefault, len of a dict, len(set(ints)), list displays made again and again as objects. -/
namespace DL
open PySem PySem.Spec PyProof.Rows L2
variable [TBS]
/-! ### d.setdefault(k, v), both sorts of keys -/
section
variable {X : Cx} {pins : List (Addr × Obj)} {σ : L2.St} {H : Hp} {s : Shared}
/-- a is a dict -/
noncomputable def IsDN (K : PySem.W.Frag) (w : World) (H : Hp) (a : Addr) : Prop := (∃ kvs, H a = some (.dK kvs)) ∨ ∃ xs, H a = some (DNo w a xs) ∧ KeysOk K H xs
theorem isDN_at (I : Inv X pins σ H s) {a : Addr} (d : IsDN X.K X.w H a) : s.TypeIs (.ref a) "dict" ∧ (∀ b, Value.ref a = .ref b → ∃ ob, s.heap.get? b = some ob ∧ ob.dict = none) ∧ (a == sysModules) = false := by
  rcases d with ⟨kvs, e⟩ | ⟨xs, e, ks⟩
  · exact isD_at I (.inl ⟨kvs, .inl e⟩)
  · obtain ⟨_, hd, dd⟩ := dn_of I e ks
    refine ⟨dd.typeIs, fun b q => ?_, hd⟩
    cases q
    obtain ⟨ob, _, _, h1, h2, _⟩ := dd
    exact ⟨ob, h1, h2.2.1⟩
/-! ### len of a dict -/
/-! ### len(set(ints)) -/
end
/-! ### over data -/
section
variable {B : Bx} {Y : Dl → Prop} {W : WX} {C : XC} {xq : QX} {a b c : Expr} {wa wb wc : Env → Sto → QD → Prop} {pos : Pos}
/-- l * n -/
theorem SE.repN (ha : SE B Y W C xq a wa) (hb : SE B Y W C xq b wb) :
    SE B Y W C xq (.BinOp a .Mult b pos) (fun ρ St q => wa ρ St fun x S1 => wb ρ S1 fun y S2 => ∃ (ds : List D) (n : Int), lvw S2 x = some ds ∧ y = .int n ∧ (0 ≤ n ∧ n ≤ 16777216 ∧ ds.length * n.toNat ≤ SZ) ∧ ∀ p, S2 p = none → q (.ref p) (ups S2 p (.lst (List.replicate n.toNat ds).flatten))) := by
  obtain ⟨ta, pa, ka⟩ := ha.ex
  obtain ⟨tb, pb, kb⟩ := hb.ex
  refine ⟨⟨_, fun δ hδ => pe_op op_rep (pa δ hδ) (pb δ hδ), fun ρ St F σ H q Q r e x w k => ?_⟩⟩
  refine ka ρ St F σ H _ _ r e x w fun d S1 F1 v H1 f1 r1 i1 w1 => ?_
  refine kb ρ S1 F1 σ H1 _ _ r1 (e.mono f1.ext) (x.step f1) w1 fun d2 S2 F2 v2 H2 f2 r2 i2 w2 => ?_
  obtain ⟨ds, n, hv, rfl, ⟨h0, h1, h2⟩, w2⟩ := w2
  cases i2
  have i1 := i1.mono f2.ext
  have rep : ∀ {xs : List V} (m : Nat), IsL B.K F2 xs ds → IsL B.K F2 (List.replicate m xs).flatten (List.replicate m ds).flatten := fun {xs} m h => by
    induction m with
    | zero => exact .nil
    | succ m ih =>
      rw [List.replicate_succ, List.replicate_succ, List.flatten_cons, List.flatten_cons]
      exact h.append ih
  have len : ∀ {xs : List V} (m : Nat), ((List.replicate m xs).flatten).length = xs.length * m := fun {xs} m => by
    induction m with
    | zero => rfl
    | succ m ih => rw [List.replicate_succ, List.flatten_cons, List.length_append, ih, Nat.mul_succ, Nat.add_comm]
  have main : ∀ {p : Addr} {xs : List V}, v = .ref p → H2 p = some (.lst xs) → IsL B.K F2 xs ds → tOp rRep (fun _ _ Q => Q v H2) (fun _ _ Q => Q (.int n) H2) σ H2 Q := fun {p xs} ev hx il => by
    have hz : xs.length * n.toNat ≤ sizeLine := by rw [il.length, sizeLine_eq]; exact h2
    refine ⟨p, n, xs, ev, rfl, hx, by omega, by omega, hz, fun p2 hp => ?_⟩
    obtain ⟨r4, f4⟩ := r2.make (o := .lst (List.replicate n.toNat xs).flatten) (q := .lst (List.replicate n.toNat ds).flatten) hp ⟨_, upd_same, by rw [len]; exact hz, rep _ il⟩
    exact k _ _ _ _ _ ((f1.trans f2).trans f4) r4 (.ref p2) (w2 p2 (r2.fresh hp).2)
  cases i1 with
  | @lst p xs ds' hx z il =>
    have hv : ds' = ds := Option.some.inj hv
    subst hv
    exact main rfl (r2.sub _ _ hx) il
  | ref p =>
    cases eo : S2 p with
    | none => simp [lvw, eo] at hv
    | some o =>
      have ho := (r2.own p o eo).2
      cases o with
      | lst ds' =>
        simp only [lvw, eo, Option.some.injEq] at hv
        subst hv
        obtain ⟨xs, hx, z, il⟩ := ho
        exact main rfl hx il
      | _ => simp [lvw, eo] at hv
  | _ => simp [lvw] at hv
end
/-! ### {k: v}, whatever sort of key -/
section
variable {B : Bx} {Y : Dl → Prop} {W : WX} {C : XC} {xq : QX} {a b c : Expr} {wa wb wc : Env → Sto → QD → Prop} {pos : Pos} {vs : List Nat}
/-- the value of a field is told anew -/
theorem IsF.re {K : PySem.W.Frag} {F : Hp} {f : Bs} {v : V} {d : D} (i : Is K F v d) {vs : List (Str × V)} {ds : List (Bs × D)} (h : IsF K F vs ds) (e : vs.lookup (mkS f) = some v) : IsF K F vs (putFd ds f d) := by
  induction h with
  | nil => cases e
  | @cons g v' d' vs ds i' tl ih =>
    unfold putFd
    by_cases hg : g = f
    · subst hg
      rw [List.lookup_cons_self] at e
      cases e
      rw [if_pos (beq_self_eq_true _)]
      exact .cons i tl
    · have e3 : (mkS f == mkS g) = false := beq_eq_false_iff_ne.mpr fun z => hg (mkS_inj z).symm
      rw [List.lookup_cons, e3] at e
      rw [if_neg (by rw [beq_eq_false_iff_ne.mpr hg]; exact Bool.false_ne_true)]
      exact .cons i' (ih e)
/-- the list that a field holds changes no more -/
theorem SSs.frf {i : Nat} {cn f : Bs} {sts : List Stmt} {w1 : Env → Sto → Ks → Prop} (h : SSs B Y W C xq vs sts w1) : SSs B Y W C xq vs sts (fun ρ St k => ∃ p fs a ds, get ρ i = some (.ref p) ∧ St p = some (.ins cn fs) ∧ lookF fs f = some (.ref a) ∧ St a = some (.lst ds) ∧ w1 ρ (ups (del St a) p (.ins cn (putFd fs f (.lst ds)))) k) := by
  obtain ⟨t, p, kk⟩ := h.ex
  refine ⟨⟨t, p, fun ρ St F σ H k E r e x w en => ?_⟩⟩
  obtain ⟨p, fs, a, ds, gi, ep, lf, ea, w⟩ := w
  have ne : a ≠ p := fun z => by rw [z, ep] at ea; cases ea
  obtain ⟨xs, hx, z, il⟩ := (r.own a _ ea).2
  obtain ⟨dx, us, hp, it⟩ := (r.own p _ ep).2
  obtain ⟨r2, f2⟩ := r.freeze ea hx
  have vl : us.lookup (mkS f) = some (.ref a) := by
    rcases it.look (f := f) with ⟨_, q⟩ | ⟨v, d, h1, h2, h3⟩
    · rw [lf] at q; cases q
    · rw [lf] at h2
      cases h2
      cases h3
      exact h1
  have it2 : IsF B.K (upd F a (.lst xs)) us (putFd fs f (.lst ds)) := (it.mono f2.ext).re (.lst upd_same z (il.mono f2.ext)) vl
  have ep2 : del St a p = some (.ins cn fs) := by unfold del; rw [if_neg (Ne.symm ne)]; exact ep
  have same : upd H p (.ins (He.ga B.K (mkS cn)) dx us) = H := by
    funext b
    by_cases hb : b = p
    · subst hb; rw [upd_same]; exact hp.symm
    · rw [upd_ne hb]
  obtain ⟨r3, f3⟩ := r2.write (o := .ins (He.ga B.K (mkS cn)) dx us) (q := .ins cn (putFd fs f (.lst ds))) ep2 ⟨dx, us, upd_same, it2⟩
  rw [same] at r3 f3
  have ff := f2.trans f3
  exact kk _ _ _ σ H k E r3 (e.mono ff.ext) (x.step Ag.refl ff) w (en.step Ag.refl ff)
end
end DL
/-! DSK: sorted(xs, key=f), f any function whose calls keep the frame's invariant. -/
namespace DL
variable [TBS]
open PySem PySem.Spec PySem.Calls PyProof.Rows L2 PySem.W
section
variable {X : Cx} {pins : List (Addr × Obj)} {σ : L2.St} {H : Hp} {s : Shared} {h' : Heap}
variable {prog : Program} {w : World}
end
end DL
/-! DSL: a lambda as the key of sorted. -/
namespace DL
open PySem PySem.Spec PySem.Calls PyProof.Rows L2 LamX NdefX
/-! ### the lambda's function object -/
noncomputable def LmO (f : Addr) (F : NF) (body : Expr) : HO := .ext fun h => ∃ (od : Option Addr) (sl : Array (Option Value)) (pm ctv : Value), h.get? f = some (⟨.type "function", od, .func (PySem.W.kla_fn F.name F.qual F.params body F.scope F.cl pm (.ref F.c) ctv), sl⟩ : Obj)
theorem lmO_at {P : Program} {w : World} {H : Hp} {h : Heap} {f : Addr} {F : NF} {body : Expr} (hok : HOk P w H h) (e : H f = some (LmO f F body)) : ∃ (od : Option Addr) (sl : Array (Option Value)) (pm ctv : Value), h.get? f = some (⟨.type "function", od, .func (PySem.W.kla_fn F.name F.qual F.params body F.scope F.cl pm (.ref F.c) ctv), sl⟩ : Obj) := by
  obtain ⟨z, _, _⟩ := hok f _ e
  exact z
/-- the lambda at env -/
noncomputable def lfOf (q0 : Str) (cl : List (Str × Addr)) (params : Arguments) (scope : Scope) (c : Addr) : NF := ⟨"<lambda>", q0 ++ "<lambda>", params, [], scope, cl, c⟩
section
variable {X : Cx} {pins : List (Addr × Obj)} {σ : L2.St} {H : Hp} {s : Shared}
/-- what a lambda promises -/
structure LOk (P : Program) (w : World) (K : PySem.W.Frag) (mg : Str → Option Value) (base : Heap) (CX : CXT) (k : Nat) (f : Addr) (F : NF) (body : Expr) (ps fr : List Str) (sp : List (Option V) → Sp) : Prop where
  len : ∀ ws vs H Q E, sp ws vs H Q E → vs.length = ps.length
  run : ∀ (A : Around) (outer : List PySem.Env) (s : Shared) (H : Hp) (us : List Value) (vs : List V) (ws : List (Option V)) (Q : VK) (E : XK), Room k A → Env0 P w K mg base A outer s H → H f = some (LmO f F body) → H F.c = some (CodeO F.c F.qual) →
    CellsAt F.cl fr ws s.heap H → Vals vs us → sp ws vs H Q E → codeAny (model P w) A (.call (.ref f) ⟨us, []⟩) (CR CX outer P w H s Q E) s
theorem LOk.imp {CX : CXT} {P : Program} {w : World} {K : PySem.W.Frag} {mg : Str → Option Value} {base : Heap} {ps fr : List Str} {F : NF} {f : Addr} {k : Nat} {body : Expr} {sp sp' : List (Option V) → Sp} (o : LOk P w K mg base CX k f F body ps fr sp) (h : ∀ ws vs H Q E, sp' ws vs H Q E → sp ws vs H Q E) : LOk P w K mg base CX k f F body ps fr sp' :=
  ⟨fun ws vs H Q E q => o.len ws vs H Q E (h _ _ _ _ _ q), fun A outer s H us vs ws Q E hr e0 hf hc C r q => o.run A outer s H us vs ws Q E hr e0 hf hc C r (h _ _ _ _ _ q)⟩
theorem lok_of {CX : CXT} {P : Program} {w : World} {K : PySem.W.Frag} {mg : Str → Option Value} {base : Heap} {N ps fr : List Str} {F : NF} {f : Addr} {k : Nat} {body : Expr} {sp : List (Option V) → Sp} (S : NScope N ps fr F.scope)
    (hb : ∀ (pm ctv : Value) (us : List Value), us.length = ps.length → bindArgs (PySem.W.kla_fn F.name F.qual F.params body F.scope F.cl pm (.ref F.c) ctv) ⟨us, []⟩ = pure (ps.zip us)) (len : ∀ ws vs H Q E, sp ws vs H Q E → vs.length = ps.length)
    (hbody : ∀ (A : Around) (outer : List PySem.Env) (s : Shared) (H : Hp) (vs : List V) (ws : List (Option V)) (Q : VK) (E : XK), Room k (A.deeper (envF F f s.heap.objs.size)) → ws.length = fr.length → sp ws vs H Q E →
      ∃ t, PE (ncx CX P w K mg base N F f A outer s H E) body t ∧ t (startF N vs ws) H Q) :
    LOk P w K mg base CX (k + 1) f F body ps fr sp := by
  refine ⟨len, fun A outer s H us vs ws Q E hr e0 hf hc C r hsp => ?_⟩
  have hl := len _ _ _ _ _ hsp
  have lim : s.heap.NoLimit := e0.mod.nolimit.keeps fun b o e => (e0.bs b o e).1
  obtain ⟨od, sl, pm, ctv, ho⟩ := lmO_at e0.hok hf
  refine PySem.W.kla_callFunE hr.depth ho rfl S.co S.gen rfl (codeO_at e0.hok hc) ?_
  rw [hb pm ctv us (by rw [← r.length]; exact hl)]
  refine wpAny_pure (wpAny_newFunctionEnv S.nocell (fun ⟨n, _⟩ hy => S.par n (List.of_mem_zip hy).1) (fun h₁ hns hsb => ⟨lim.fresh _ hsb, ?_⟩) S.kind)
  show codeAny _ _ (.expr body (envF F f s.heap.objs.size)) _ _
  have kp : ∀ b o, s.heap.get? b = some o → h₁.get? b = some o := fun b o e => hsb.extBut b o (Nat.ne_of_lt (Heap.lt_size e)) (Heap.get?_push_of_some _ e)
  obtain ⟨t, ht, hq⟩ := hbody A outer s H vs ws Q E (hr.deeper _) C.len hsp
  have I : Inv (ncx CX P w K mg base N F f A outer s H E) [] (startF N vs ws) H { s with heap := h₁, toks := s.toks + (ps.zip us).length } := inv_startN S hr.hd e0 hl r C hns kp
  refine PySem.W.kla_codeExpr (wpAny_mono (ht.run [] _ (startF N vs ws) H Q I hq) (fun v s' hq => ?_) fun e s' hq => hq)
  obtain ⟨w', H', J', rv, q⟩ := hq
  exact ⟨w', H', J'.os, J'.bare, J'.base, J'.hok, rv, q⟩
end
variable [TBS]
/-! ### keys -/
section
open PySem.W
/-! ### the call -/
variable {X : Cx} {pins : List (Addr × Obj)} {σ : L2.St} {H : Hp} {s : Shared}
theorem vals_back {xs : List V} {us : List Value} {i : Nat} {u : Value} (r : Vals xs us) (h : us[i]? = some u) : ∃ v, xs[i]? = some v ∧ RelV v u := by
  have hi : i < xs.length := by rw [r.length]; exact (List.getElem?_eq_some_iff.mp h).1
  obtain ⟨u', e, rv⟩ := r.get (List.getElem?_eq_getElem hi)
  rw [h] at e
  cases e
  exact ⟨_, List.getElem?_eq_getElem hi, rv⟩
end
end DL
/-! DSM: over data: get with a default, list(range(..)), sorted by a lambda. -/
namespace DL
open PySem PySem.Spec PySem.Calls PyProof.Rows L2 LamX NdefX
variable [TBS]
/-! ### d.get(k, v) -/
section
variable {X : Cx}
noncomputable def tDgt (K : PySem.W.Frag) (w : World) (td ty tx : TE) : TE := fun σ H Q => td σ H fun x H1 => ∃ a, x = .ref a ∧ IsDN K w H1 a ∧ ty σ H1 fun y H2 => tx σ H2 fun z H3 =>
  (∃ (kvs : List (Key × V)) (k : Key), H3 a = some (.dK kvs) ∧ y = kV k ∧ Q ((valV kvs k).getD z) H3) ∨
  (∃ (xs : List Ent) (b : Addr) (k : NestedKey), H3 a = some (DNo w a xs) ∧ KeysOk K H3 xs ∧ y = .ref b ∧ NkV K H3 (.ref b) k ∧ k.depth ≤ 8 ∧ ((atKey xs k = none ∧ Q z H3) ∨ ∃ c u v, atKey xs k = some (c, u) ∧ RelV v u ∧ Q v H3))
theorem pe_dgt {o e f : Expr} {td ty tx : TE} {apos cpos : Pos} (hu : X.A.units + 9 < cLine) (ho : PE X o td) (he : PE X e ty) (hf : PE X f tx) (m : M2 X o "get" apos e f cpos) : PE X (.Call (.Attribute o "get" apos) [e, f] [] cpos) (tDgt X.K X.w td ty tx) := by
  constructor
  intro pins s σ H Q I h
  refine wpAny_Call_method m.base m.few m.line PySem.F.plainAttrs_dict PySem.F.slot_dict_get PySem.F.type_dict_get (thn (ho.run pins s σ H _ I h) fun u s1 ⟨x, H1, I1, rx, a, ex, d, q1⟩ => ?_)
  subst ex
  obtain rfl : u = Value.ref a := rx
  obtain ⟨t1, t2, _⟩ := isDN_at I1 d
  refine ⟨t1, t2, ?_⟩
  rw [m.trees]
  refine Calls.callWith_builtin rfl (Calls.evalArgs_plain (Calls.spliced_cons (thn (he.run pins s1 σ H1 _ I1 q1) fun iv s2 ⟨y, H2, I2, ry, q2⟩ =>
    Calls.spliced_cons (thn (hf.run pins s2 σ H2 _ I2 q2) fun fv s3 ⟨z, H3, I3, rz, w⟩ => Calls.spliced_nil ?_))))
  rcases w with ⟨kvs, k, ea, ey, q3⟩ | ⟨xs, b, k, ea, ks, ey, nk, kd, w⟩
  · subst ey
    exact d_get2 (by omega) I3 (o := valV kvs k) (.inl ⟨kvs, k, .inl ea, rfl, rfl⟩) ry rz fun w' s4 I4 rw' => ⟨_, H3, I4, rw', q3⟩
  · subst ey
    obtain rfl : iv = Value.ref b := ry
    obtain ⟨zz, hd, dd⟩ := dn_of I3 ea ks
    refine call_meetsIn PySem.F.slot_dict_get dd.typeIs PySem.F.entry_dict_get (PySem.F.args_dict_get_3 _ _ _) (meetsH_dict_get_default (nestedKind X.prog X.w) a b hd fv) ⟨room_n hu, k, xs, ⟨nk_is I3 nk rfl, kd⟩, dd, ?_⟩
    rcases w with ⟨hn, q⟩ | ⟨c, u, v, hat, rv, q⟩
    · rw [hn]; exact ⟨z, H3, I3.tok _, rz, q⟩
    · rw [hat]; exact ⟨v, H3, I3.tok _, rv, q⟩
end
/-- the def's table, where a lambda is made -/
noncomputable def LamAt (B : Bx) (Y : Dl → Prop) : Prop := ∃ (cc P : Addr) (nm : Nat → Nat → Str) (q0 : Str), LamX.TabB B.base B.mg cc P ∧ (P, nm) ∈ TBS.T ∧ (∀ l c, nm l c = q0 ++ "<lambda>") ∧ (∀ p ∈ TBS.T, p.1 = P → p.2 = nm) ∧ ∀ δ, Y δ → δ.env.code = .ref cc ∧ δ.env.qual = q0
theorem LamAt.imp {B : Bx} {Y Y' : Dl → Prop} (l : LamAt B Y) (h : ∀ δ', Y' δ' → ∃ δ, Y δ ∧ δ'.env.code = δ.env.code ∧ δ'.env.qual = δ.env.qual) : LamAt B Y' := by
  obtain ⟨cc, P, nm, q0, a, b, c, d, e⟩ := l
  refine ⟨cc, P, nm, q0, a, b, c, d, fun δ' h' => ?_⟩
  obtain ⟨δ, hδ, e1, e2⟩ := h δ' h'
  rw [e1, e2]
  exact e δ hδ
section
variable {B : Bx} {Y : Dl → Prop} {W : WX} {C : XC} {xq : QX} {a b c : Expr} {wa wb wc : Env → Sto → QD → Prop} {pos : Pos}
theorem SE.dgt {p2 : Pos} {j : Nat} (hr : ∀ δ, Y δ → Room j δ.A) (ho : SE B Y W C xq a wa) (hk : SE B Y W C xq b wb) (hd : SE B Y W C xq c wc) (hc : notCall a = true) (s1 : notStar b = true) (s2 : notStar c = true) (hl : (p2.endLine == pos.line) = true) :
    SE B Y W C xq (.Call (.Attribute a "get" p2) [b, c] [] pos) (fun ρ St q => wa ρ St fun x S1 => ∃ p, x = .ref p ∧ isDct S1 p ∧ wb ρ S1 fun y S2 => wc ρ S2 fun z S3 => wDgt S3 p y z fun d => q d S3) := by
  obtain ⟨ta, pa, ka⟩ := ho.ex
  obtain ⟨tb, pb, kb⟩ := hk.ex
  obtain ⟨tc, pc, kc⟩ := hd.ex
  refine ⟨⟨tDgt B.K B.w ta tb tc, fun δ hδ => pe_dgt (X := cx B δ) (room9 (hr δ hδ)) (pa δ hδ) (pb δ hδ) (pc δ hδ) ⟨attr_base hc _ _ _, ?_, hl, ?_⟩, fun ρ St F σ H q Q r e x w k => ?_⟩⟩
  · rw [star_cons s1, star_cons s2]; rfl
  · rw [star_cons s1, star_cons s2]; rfl
  refine ka ρ St F σ H _ _ r e x w fun d S1 F1 v H1 f1 r1 i1 w1 => ?_
  obtain ⟨p, rfl, e1, w1⟩ := w1
  cases i1
  refine ⟨p, rfl, ?_, ?_⟩
  · rcases e1 with ⟨kvs, e1⟩ | ⟨kvs, e1⟩
    · obtain ⟨_, g1, _⟩ := (r1.own p _ e1).2
      exact .inl ⟨_, g1⟩
    · obtain ⟨xs, g1, z, nd, it⟩ := (r1.own p _ e1).2
      exact .inr ⟨_, g1, it.keys r1.sub⟩
  refine kb ρ S1 F1 σ H1 _ _ r1 (e.mono f1.ext) (x.step f1) w1 fun d2 S2 F2 v2 H2 f2 r2 i2 w2 => ?_
  refine kc ρ S2 F2 σ H2 _ _ r2 ((e.mono f1.ext).mono f2.ext) ((x.step f1).step f2) w2 fun d3 S3 F3 v3 H3 f3 r3 i3 w3 => ?_
  have f13 := (f1.trans f2).trans f3
  have i2 := i2.mono f3.ext
  unfold wDgt at w3
  cases eo : S3 p with
  | none => simp only [eo] at w3
  | some o => cases o with
    | dct kds =>
      simp only [eo] at w3
      obtain ⟨hkey, w4⟩ := w3
      obtain ⟨hF, kvs, hH, _, nd, m⟩ := r3.own p _ eo
      obtain ⟨y, ev, ed⟩ := isKey_of i2 hkey
      subst ed
      refine .inl ⟨kvs, y, hH, ev, ?_⟩
      rcases m.look (q := y) with ⟨a1, a0⟩ | ⟨u', d', a1, a2, a3⟩
      · rw [a0] at w4
        rw [a1]
        exact k _ S3 F3 _ H3 f13 r3 i3 w4
      · rw [a2] at w4
        rw [a1]
        exact k _ S3 F3 _ H3 f13 r3 a3 w4
    | tdc kds =>
      simp only [eo] at w3
      obtain ⟨tk, w4⟩ := w3
      obtain ⟨xs, b0, kk, hx, ks, rfl, nv, dk, z, len, nd, nk, it, hlk⟩ := dn_get r3 eo i2 tk
      refine .inr ⟨xs, b0, kk, hx, ks, rfl, nv, dk, ?_⟩
      rcases hlk with ⟨a1, a0⟩ | ⟨c1, u1, v1, d1, a1, a2, a3, a4⟩
      · rw [a0] at w4
        exact .inl ⟨a1, k _ S3 F3 _ H3 f13 r3 i3 w4⟩
      · rw [a2] at w4
        exact .inr ⟨c1, u1, v1, a1, a3, k _ S3 F3 _ H3 f13 r3 a4 w4⟩
    | _ => simp only [eo] at w3
/-! ### sorted by a lambda -/
end
end DL
/-! DL9: the check of an own term against the Python tree; its soundness. -/
namespace DL
open PySem PySem.Spec PyProof.Rows L2
noncomputable def opOf : Op2 → Operator
  | .add => .Add
  | .sub => .Sub
  | .mul => .Mult
  | .fdiv => .FloorDiv
  | .mod => .Mod
noncomputable def cmOf : Cm → CmpOp
  | .eq => .Eq
  | .ne => .NotEq
  | .lt => .Lt
  | .le => .LtE
  | .gt => .Gt
  | .ge => .GtE
  | .is => .Is
  | .isnt => .IsNot
  | .isin => .In
  | .notin => .NotIn
noncomputable def bfNm : Bf → Option Str
  | .len => some "len"
  | .abs => some "abs"
  | .int => some "int"
  | .list => some "list"
  | .tuple => some "tuple"
  | .any => some "any"
  | .all => some "all"
  | .sum => some "sum"
  | .sorted => some "sorted"
  | .dict => none
noncomputable def b1Nm : B1 → Str
  | .max => "max"
  | .min => "min"
  | .sstr => "sorted"
  | .sdct => "sorted"
  | .str => "str"
  | .sdi => "sorted"
  | .anyt => "any"
  | .allt => "all"
/-- the names of callees, of kept globals, of written dicts -/
structure Tb where
  N : List Str
  fs : Nat → Option Str
  gl : List (Str × D)
  wd : List (Str × List (D × D))
  xc : Nat → Option Str
  bs : Str
  cl : Bs → Option (List Bs)
  ms : Nat → Option (Bs × Bs)
  fc : Option Scope
  nd : Nat → List Str → Stmt → Bool
  lm : Nat → List Str → Arguments → Expr → Scope → Bool
  xn : Nat → Bool
  hs : Bool
/-- a class's field -/
noncomputable def fldB (T : Tb) (c f : Bs) : Bool := match T.cl c with
  | some fs => fs.contains f
  | none => false
noncomputable def initS : Bs := [95, 95, 105, 110, 105, 116, 95, 95]
mutual
/-- the very same -/
noncomputable def dB : D → D → Bool
  | .non, .non => true
  | .bl a, .bl b => a == b
  | .int i, .int j => i == j
  | .str s, .str t => s == t
  | .tup xs, .tup ys => dBL xs ys
  | _, _ => false
noncomputable def dBL : List D → List D → Bool
  | [], [] => true
  | x :: xs, y :: ys => dB x y && dBL xs ys
  | _, _ => false
end
mutual
theorem dB_eq : ∀ (x y : D), dB x y = true → x = y
  | .non, y, h => by cases y <;> first | rfl | (simp [dB] at h)
  | .bl a, y, h => by cases y <;> first | (simp [dB] at h; done) | (simp [dB] at h; rw [h])
  | .int a, y, h => by cases y <;> first | (simp [dB] at h; done) | (simp [dB] at h; rw [h])
  | .str a, y, h => by cases y <;> first | (simp [dB] at h; done) | (simp [dB] at h; rw [h])
  | .tup xs, y, h => by
    cases y with
    | tup ys => rw [dBL_eq xs ys h]
    | _ => simp [dB] at h
  | .lst _, y, h => by cases y <;> simp [dB] at h
  | .dct _, y, h => by cases y <;> simp [dB] at h
  | .ref _, y, h => by cases y <;> simp [dB] at h
  | .opq _ _ _, y, h => by cases y <;> simp [dB] at h
theorem dBL_eq : ∀ (x y : List D), dBL x y = true → x = y
  | [], [], _ => rfl
  | [], _ :: _, h => by simp [dBL] at h
  | _ :: _, [], h => by simp [dBL] at h
  | x :: xs, y :: ys, h => by
    rw [dBL, Bool.and_eq_true] at h
    rw [dB_eq x y h.1, dBL_eq xs ys h.2]
end
noncomputable def inGl (l : List (Str × D)) (x : Str) (d : D) : Bool := l.any fun q => decide (q.1 = x) && dB q.2 d
theorem inGl_mem {l : List (Str × D)} {x : Str} {d : D} (h : inGl l x d = true) : (x, d) ∈ l := by
  obtain ⟨⟨y, e⟩, hm, h⟩ := List.any_eq_true.mp h
  rw [Bool.and_eq_true] at h
  have h1 : y = x := of_decide_eq_true h.1
  have h2 : e = d := dB_eq _ _ h.2
  subst h1; subst h2; exact hm
noncomputable def blts : List Str := ["len", "abs", "int", "list", "tuple", "any", "all", "sum", "isinstance", "dict", "range", "enumerate", "zip", "bool", "str", "sorted", "set", "max", "min"]
noncomputable def okNm (x : Str) : Bool := !(x == ("__debug__" : Str)) && !(x == ("__classdict__" : Str))
noncomputable def visB (sc : Scope) (x : Str) : Bool := match sc.names.lookup x with
  | some .local => true
  | some .cell => true
  | some .free => true
  | _ => false
noncomputable def glB (sc : Scope) (x : Str) : Bool := match sc.names.lookup x with
  | some .globalImplicit => true
  | _ => false
/-- may be stored to: fc: the block's own cells -/
noncomputable def fcB (fc : Option Scope) (x : Str) : Bool := match fc with
  | none => true
  | some s => s.names.lookup x == some .cell
noncomputable def stoB (sc : Scope) (fc : Option Scope) (x : Str) : Bool := match sc.names.lookup x with
  | some .local => true
  | some .cell => fcB fc x
  | _ => false
noncomputable def ownB (own : Option (List Nat)) (i : Nat) : Bool := match own with
  | none => true
  | some vs => vs.contains i
/-! ### what an expression is -/
noncomputable def kName (x : Expr) (f : Str → Bool) : Bool := match x with
  | .Name y _ => f y
  | _ => false
theorem kName_inv {x : Expr} {f : Str → Bool} (h : kName x f = true) : ∃ y p, x = .Name y p ∧ f y = true := by
  unfold kName at h; split at h
  · exact ⟨_, _, rfl, h⟩
  · cases h
noncomputable def kConst (x : Expr) (f : Const → Bool) : Bool := match x with
  | .Constant c _ _ => f c
  | _ => false
theorem kConst_inv {x : Expr} {f : Const → Bool} (h : kConst x f = true) : ∃ c j p, x = .Constant c j p ∧ f c = true := by
  unfold kConst at h; split at h
  · exact ⟨_, _, _, rfl, h⟩
  · cases h
noncomputable def kTuple (x : Expr) (f : List Expr → Bool) : Bool := match x with
  | .Tuple es _ _ => f es
  | _ => false
theorem kTuple_inv {x : Expr} {f : List Expr → Bool} (h : kTuple x f = true) : ∃ es j p, x = .Tuple es j p ∧ f es = true := by
  unfold kTuple at h; split at h
  · exact ⟨_, _, _, rfl, h⟩
  · cases h
noncomputable def kList (x : Expr) (f : List Expr → Bool) : Bool := match x with
  | .List es _ => f es
  | _ => false
theorem kList_inv {x : Expr} {f : List Expr → Bool} (h : kList x f = true) : ∃ es p, x = .List es p ∧ f es = true := by
  unfold kList at h; split at h
  · exact ⟨_, _, rfl, h⟩
  · cases h
noncomputable def kDict (x : Expr) (f : List (Option Expr) → List Expr → Bool) : Bool := match x with
  | .Dict ks es _ => f ks es
  | _ => false
theorem kDict_inv {x : Expr} {f : List (Option Expr) → List Expr → Bool} (h : kDict x f = true) : ∃ ks es p, x = .Dict ks es p ∧ f ks es = true := by
  unfold kDict at h; split at h
  · exact ⟨_, _, _, rfl, h⟩
  · cases h
noncomputable def kBin (x : Expr) (f : Expr → Operator → Expr → Bool) : Bool := match x with
  | .BinOp a o b _ => f a o b
  | _ => false
theorem kBin_inv {x : Expr} {f : Expr → Operator → Expr → Bool} (h : kBin x f = true) : ∃ a o b p, x = .BinOp a o b p ∧ f a o b = true := by
  unfold kBin at h; split at h
  · exact ⟨_, _, _, _, rfl, h⟩
  · cases h
noncomputable def kNeg (x : Expr) (f : Expr → Bool) : Bool := match x with
  | .UnaryOp .USub a _ => f a
  | _ => false
theorem kNeg_inv {x : Expr} {f : Expr → Bool} (h : kNeg x f = true) : ∃ a p, x = .UnaryOp .USub a p ∧ f a = true := by
  unfold kNeg at h; split at h
  · exact ⟨_, _, rfl, h⟩
  · cases h
noncomputable def kNot (x : Expr) (f : Expr → Bool) : Bool := match x with
  | .UnaryOp .Not a _ => f a
  | _ => false
theorem kNot_inv {x : Expr} {f : Expr → Bool} (h : kNot x f = true) : ∃ a p, x = .UnaryOp .Not a p ∧ f a = true := by
  unfold kNot at h; split at h
  · exact ⟨_, _, rfl, h⟩
  · cases h
noncomputable def kBool (x : Expr) (f : Bool → List Expr → Bool) : Bool := match x with
  | .BoolOp op es _ => f (match op with | .And => true | .Or => false) es
  | _ => false
theorem kBool_inv {x : Expr} {f : Bool → List Expr → Bool} (h : kBool x f = true) : ∃ op es p, x = .BoolOp op es p ∧ f (match op with | .And => true | .Or => false) es = true := by
  unfold kBool at h; split at h
  · exact ⟨_, _, _, rfl, h⟩
  · cases h
noncomputable def kCmp (x : Expr) (f : Expr → CmpOp → Expr → Bool) : Bool := match x with
  | .Compare a [o] [b] _ => f a o b
  | _ => false
theorem kCmp_inv {x : Expr} {f : Expr → CmpOp → Expr → Bool} (h : kCmp x f = true) : ∃ a o b p, x = .Compare a [o] [b] p ∧ f a o b = true := by
  unfold kCmp at h; split at h
  · exact ⟨_, _, _, _, rfl, h⟩
  · cases h
noncomputable def kChn (x : Expr) (f : Expr → CmpOp → Expr → CmpOp → Expr → Bool) : Bool := match x with
  | .Compare a [o, q] [b, c] _ => f a o b q c
  | _ => false
theorem kChn_inv {x : Expr} {f : Expr → CmpOp → Expr → CmpOp → Expr → Bool} (h : kChn x f = true) : ∃ a o b q c p, x = .Compare a [o, q] [b, c] p ∧ f a o b q c = true := by
  unfold kChn at h; split at h
  · exact ⟨_, _, _, _, _, _, rfl, h⟩
  · cases h
noncomputable def kIf (x : Expr) (f : Expr → Expr → Expr → Bool) : Bool := match x with
  | .IfExp c a b _ => f c a b
  | _ => false
theorem kIf_inv {x : Expr} {f : Expr → Expr → Expr → Bool} (h : kIf x f = true) : ∃ c a b p, x = .IfExp c a b p ∧ f c a b = true := by
  unfold kIf at h; split at h
  · exact ⟨_, _, _, _, rfl, h⟩
  · cases h
noncomputable def kSub (x : Expr) (f : Expr → Expr → Bool) : Bool := match x with
  | .Subscript a b _ => f a b
  | _ => false
theorem kSub_inv {x : Expr} {f : Expr → Expr → Bool} (h : kSub x f = true) : ∃ a b p, x = .Subscript a b p ∧ f a b = true := by
  unfold kSub at h; split at h
  · exact ⟨_, _, _, rfl, h⟩
  · cases h
noncomputable def kSl (x : Expr) (f : Option Expr → Option Expr → Bool) : Bool := match x with
  | .Slice a b none _ => f a b
  | _ => false
theorem kSl_inv {x : Expr} {f : Option Expr → Option Expr → Bool} (h : kSl x f = true) : ∃ a b p, x = .Slice a b none p ∧ f a b = true := by
  unfold kSl at h; split at h
  · exact ⟨_, _, _, rfl, h⟩
  · cases h
noncomputable def kCall (x : Expr) (f : Str → List Expr → Bool) : Bool := match x with
  | .Call (.Name y _) es [] _ => f y es
  | _ => false
theorem kCall_inv {x : Expr} {f : Str → List Expr → Bool} (h : kCall x f = true) : ∃ y p es q, x = .Call (.Name y p) es [] q ∧ f y es = true := by
  unfold kCall at h; split at h
  · exact ⟨_, _, _, _, rfl, h⟩
  · cases h
noncomputable def kMeth (x : Expr) (f : Expr → Str → List Expr → Bool) : Bool := match x with
  | .Call (.Attribute a m p) es [] q => (p.endLine == q.line) && notCall a && f a m es
  | _ => false
theorem kMeth_inv {x : Expr} {f : Expr → Str → List Expr → Bool} (h : kMeth x f = true) : ∃ a m p es q, x = .Call (.Attribute a m p) es [] q ∧ (p.endLine == q.line) = true ∧ notCall a = true ∧ f a m es = true := by
  unfold kMeth at h; split at h
  · simp only [Bool.and_eq_true] at h
    exact ⟨_, _, _, _, _, rfl, h.1.1, h.1.2, h.2⟩
  · cases h
noncomputable def kLc (x : Expr) (f : Expr → Expr → Expr → List Expr → Scope → Bool) : Bool := match x with
  | .ListComp a [⟨g, i, cs, .ofNat 0⟩] s _ => f a g i cs s
  | _ => false
theorem kLc_inv {x : Expr} {f : Expr → Expr → Expr → List Expr → Scope → Bool} (h : kLc x f = true) : ∃ a g i cs s p, x = .ListComp a [⟨g, i, cs, 0⟩] s p ∧ f a g i cs s = true := by
  unfold kLc at h; split at h
  · exact ⟨_, _, _, _, _, _, rfl, h⟩
  · cases h
noncomputable def kFmt (x : Expr) (f : Expr → Bool) : Bool := match x with
  | .FormattedValue e (-1) none _ => f e
  | _ => false
theorem kFmt_inv {x : Expr} {f : Expr → Bool} (h : kFmt x f = true) : ∃ e p, x = .FormattedValue e (-1) none p ∧ f e = true := by
  unfold kFmt at h; split at h
  · exact ⟨_, _, rfl, h⟩
  · cases h
noncomputable def kJs (x : Expr) (f : List Expr → Bool) : Bool := match x with
  | .JoinedStr xs _ => f xs
  | _ => false
theorem kJs_inv {x : Expr} {f : List Expr → Bool} (h : kJs x f = true) : ∃ xs p, x = .JoinedStr xs p ∧ f xs = true := by
  unfold kJs at h; split at h
  · exact ⟨_, _, rfl, h⟩
  · cases h
noncomputable def kAttr (x : Expr) (f : Expr → Str → Bool) : Bool := match x with
  | .Attribute a m _ => f a m
  | _ => false
theorem kAttr_inv {x : Expr} {f : Expr → Str → Bool} (h : kAttr x f = true) : ∃ a m p, x = .Attribute a m p ∧ f a m = true := by
  unfold kAttr at h; split at h
  · exact ⟨_, _, _, rfl, h⟩
  · cases h
noncomputable def one (es : List Expr) (f : Expr → Bool) : Bool := match es with
  | [x] => f x
  | _ => false
theorem one_inv {es : List Expr} {f : Expr → Bool} (h : one es f = true) : ∃ x, es = [x] ∧ f x = true := by
  unfold one at h; split at h
  · exact ⟨_, rfl, h⟩
  · cases h
noncomputable def two (es : List Expr) (f : Expr → Expr → Bool) : Bool := match es with
  | [x, y] => f x y
  | _ => false
theorem two_inv {es : List Expr} {f : Expr → Expr → Bool} (h : two es f = true) : ∃ x y, es = [x, y] ∧ f x y = true := by
  unfold two at h; split at h
  · exact ⟨_, _, rfl, h⟩
  · cases h
mutual
noncomputable def okTg (N : List Str) (sc : Scope) (fc : Option Scope) (own : Option (List Nat)) : Tg → Expr → Bool
  | .nm i, e => kName e fun x => decide (N[i]? = some x) && stoB sc fc x && ownB own i
  | .tup ts, e => kTuple e fun es => es.all notStar && okTgs N sc fc own ts es
noncomputable def okTgs (N : List Str) (sc : Scope) (fc : Option Scope) (own : Option (List Nat)) : Tgs → List Expr → Bool
  | .nil, [] => true
  | .cons t ts, e :: es => okTg N sc fc own t e && okTgs N sc fc own ts es
  | _, _ => false
end
noncomputable def ownOf (N : List Str) : List Nat → List (Str × Nat)
  | [] => []
  | v :: vs => ((N[v]?).getD "", v) :: ownOf N vs
mutual
/-- t: as a test -/
noncomputable def okE (T : Tb) (t : Bool) (sc : Scope) : E → Expr → Bool
  | .var i, e => kName e fun x => decide (T.N[i]? = some x) && visB sc x && okNm x
  | .non, e => kConst e fun c => match c with | .none => true | _ => false
  | .bl b, e => kConst e fun c => match c with | .bool c => b == c | _ => false
  | .int i, e => kConst e fun c => match c with | .int j => decide (i = j) | _ => false
  | .str s, e => kConst e fun c => match c with | .str z => decide (z = mkS s) && decide (s.length ≤ 1000) | _ => false
  | .glb _ d, e => kName e fun x => glB sc x && okNm x && inGl T.gl x d
  | .tup es, e => kTuple e fun xs => decide (xs.length ≤ 1000) && xs.all notStar && okEs T sc es xs
  | .lst es, e => kList e fun xs => decide (xs.length ≤ 1000) && xs.all notStar && okEs T sc es xs
  | .newl es, e => kList e fun xs => decide (xs.length ≤ 1000) && xs.all notStar && okEs T sc es xs
  | .dct es, e => kDict e fun ks xs => !ks.isEmpty && decide (ks.length ≤ 15) && okPs T sc es ks xs
  | .newk es, e => kDict e fun ks xs => !ks.isEmpty && decide (ks.length ≤ 15) && okPs T sc es ks xs
  | .newd, e => kDict e fun ks xs => ks.isEmpty && xs.isEmpty
  | .bin o a b, e => kBin e fun x p y => decide (opOf o = p) && okE T false sc a x && okE T false sc b y
  | .neg a, e => kNeg e fun x => okE T false sc a x
  | .not a, e => kNot e fun x => okE T t sc a x
  | .boo an es, e => kBool e fun op xs => (op == an) && !xs.isEmpty && okBs T t sc es xs
  | .cmp o a b, e => kCmp e fun x p y => decide (cmOf o = p) && notSet y && okE T false sc a x && okE T false sc b y
  | .chn o q a b c, e => kChn e fun x p y r z => decide (cmOf o = p) && decide (cmOf q = r) && notSet y && notSet z && okE T false sc a x && okE T false sc b y && okE T false sc c z
  | .ite c a b, e => kIf e fun z x y => !t && okE T true sc c z && okE T false sc a x && okE T false sc b y
  | .idx a i, e => kSub e fun x y => notSlice y && okE T false sc a x && okE T false sc i y
  | .sl a lo hi, e => kSub e fun x z => okE T false sc a x && kSl z fun l h => okO T sc lo l && okO T sc hi h
  | .call f es, e => kCall e fun x xs => decide (T.fs f = some x) && glB sc x && okNm x && !xs.isEmpty && xs.all notStar && okEs T sc es xs
  | .bif f a, e => kCall e fun x xs => one xs fun y => decide (bfNm f = some x) && glB sc x && notStar y && okE T false sc a y
  | .isi u a, e => kCall e fun x xs => two xs fun y z => kName z fun z => decide (x = "isinstance") && decide (z = Str.ofString (tyNm u)) && glB sc x && glB sc z && notStar y && okE T false sc a y
  | .lc elt tg it tt own, e => kLc e fun x g i cs scope => notSet i && blkC T.N sc scope (ownOf T.N own) && okWk T sc it g i && okTg T.N (relS scope sc) (some scope) (some own) tg g &&
      okTt T (relS scope sc) tt cs && okE T false (relS scope sc) elt x
  | .frz a, e => okE T false sc a e && (!t || plainTest e)
  | .fmt a, e => !t && kFmt e fun x => okE T false sc a x
  | .fst es, e => !t && kJs e fun xs => decide (2 ≤ xs.length) && okEs T sc es xs
  | .b1 f a, e => kCall e fun x xs => one xs fun y => decide (x = b1Nm f) && glB sc x && notStar y && okE T false sc a y
  | .fld c a f, e => kAttr e fun x m => decide (m = mkS f) && notCall x && fldB T c f && okE T false sc a x
  | .mk c i es, e => kCall e fun x xs => decide (x = mkS c) && decide (T.ms i = some (c, initS)) && glB sc x && okNm x && !xs.isEmpty && xs.all notStar && okEs T sc es xs
  | .dgt a k d, e => kMeth e fun x m xs => two xs fun y z => decide (m = "get") && notStar y && notStar z && okE T false sc a x && okE T false sc k y && okE T false sc d z
  | .repN a b, e => kBin e fun x p y => decide (p = .Mult) && okE T false sc a x && okE T false sc b y
  | .meth c m i a es, e => kMeth e fun x n xs => decide (n = mkS m) && decide (T.ms i = some (c, m)) && xs.all notStar && decide (xs.length < 20) && okE T false sc a x && okEs T sc es xs
noncomputable def okEs (T : Tb) (sc : Scope) : Es → List Expr → Bool
  | .nil, [] => true
  | .cons a es, x :: xs => okE T false sc a x && okEs T sc es xs
  | _, _ => false
noncomputable def okPs (T : Tb) (sc : Scope) : Es → List (Option Expr) → List Expr → Bool
  | .nil, [], [] => true
  | .cons a (.cons b es), some x :: ks, y :: ys => okE T false sc a x && okE T false sc b y && okPs T sc es ks ys
  | _, _, _ => false
noncomputable def okBs (T : Tb) (t : Bool) (sc : Scope) : Es → List Expr → Bool
  | .nil, [] => true
  | .cons a es, x :: xs => okE T t sc a x && okBs T t sc es xs
  | _, _ => false
noncomputable def okTt (T : Tb) (sc : Scope) : Es → List Expr → Bool
  | .nil, [] => true
  | .cons a .nil, [x] => okE T true sc a x
  | _, _ => false
noncomputable def okO (T : Tb) (sc : Scope) : Eo → Option Expr → Bool
  | .none, none => true
  | .some a, some x => okE T false sc a x
  | _, _ => false
noncomputable def okWk (T : Tb) (sc : Scope) : Wk → Expr → Expr → Bool
  | .over a, _, e => okE T false sc a e
  | .rng1 a, _, e => kCall e fun f xs => one xs fun x => decide (f = "range") && glB sc f && notStar x && okE T false sc a x
  | .rng2 a b, _, e => kCall e fun f xs => two xs fun x y => decide (f = "range") && glB sc f && notStar x && notStar y && okE T false sc a x && okE T false sc b y
  | .enum a, g, e => kTuple g fun _ => kCall e fun f xs => one xs fun x => decide (f = "enumerate") && glB sc f && notStar x && okE T false sc a x
end
/-! ### statements -/
noncomputable def kAsg (x : Stmt) (f : Expr → Expr → Bool) : Bool := match x with
  | .Assign [g] e _ => f g e
  | _ => false
theorem kAsg_inv {x : Stmt} {f : Expr → Expr → Bool} (h : kAsg x f = true) : ∃ g e p, x = .Assign [g] e p ∧ f g e = true := by
  unfold kAsg at h; split at h
  · exact ⟨_, _, _, rfl, h⟩
  · cases h
noncomputable def kAug (x : Stmt) (f : Str → Operator → Expr → Bool) : Bool := match x with
  | .AugAssign (.Name g _) o e _ => f g o e
  | _ => false
theorem kAug_inv {x : Stmt} {f : Str → Operator → Expr → Bool} (h : kAug x f = true) : ∃ g q o e p, x = .AugAssign (.Name g q) o e p ∧ f g o e = true := by
  unfold kAug at h; split at h
  · exact ⟨_, _, _, _, _, rfl, h⟩
  · cases h
noncomputable def kExp (x : Stmt) (f : Expr → Bool) : Bool := match x with
  | .Expr e _ => f e
  | _ => false
theorem kExp_inv {x : Stmt} {f : Expr → Bool} (h : kExp x f = true) : ∃ e p, x = .Expr e p ∧ f e = true := by
  unfold kExp at h; split at h
  · exact ⟨_, _, rfl, h⟩
  · cases h
noncomputable def kRet (x : Stmt) (f : Option Expr → Bool) : Bool := match x with
  | .Return e _ => f e
  | _ => false
theorem kRet_inv {x : Stmt} {f : Option Expr → Bool} (h : kRet x f = true) : ∃ e p, x = .Return e p ∧ f e = true := by
  unfold kRet at h; split at h
  · exact ⟨_, _, rfl, h⟩
  · cases h
noncomputable def kIfS (x : Stmt) (f : Expr → List Stmt → List Stmt → Bool) : Bool := match x with
  | .If c a b _ => f c a b
  | _ => false
theorem kIfS_inv {x : Stmt} {f : Expr → List Stmt → List Stmt → Bool} (h : kIfS x f = true) : ∃ c a b p, x = .If c a b p ∧ f c a b = true := by
  unfold kIfS at h; split at h
  · exact ⟨_, _, _, _, rfl, h⟩
  · cases h
noncomputable def kWhile (x : Stmt) (f : Expr → List Stmt → Bool) : Bool := match x with
  | .While c a [] _ => f c a
  | _ => false
theorem kWhile_inv {x : Stmt} {f : Expr → List Stmt → Bool} (h : kWhile x f = true) : ∃ c a p, x = .While c a [] p ∧ f c a = true := by
  unfold kWhile at h; split at h
  · exact ⟨_, _, _, rfl, h⟩
  · cases h
noncomputable def kFor (x : Stmt) (f : Expr → Expr → List Stmt → Bool) : Bool := match x with
  | .For g i a [] _ => f g i a
  | _ => false
theorem kFor_inv {x : Stmt} {f : Expr → Expr → List Stmt → Bool} (h : kFor x f = true) : ∃ g i a p, x = .For g i a [] p ∧ f g i a = true := by
  unfold kFor at h; split at h
  · exact ⟨_, _, _, _, rfl, h⟩
  · cases h
noncomputable def kPass : Stmt → Bool
  | .Pass _ => true
  | _ => false
noncomputable def kBrk : Stmt → Bool
  | .Break _ => true
  | _ => false
noncomputable def kCont : Stmt → Bool
  | .Continue _ => true
  | _ => false
/-- name = [.. for ..]: the name is plainly local, not one of the comprehension's own -/
noncomputable def lcSet (sc : Scope) (g x : Expr) : Bool := match x, g with
  | .ListComp _ _ scope cpos, .Name y py => (match sc.names.lookup y with | some .local => true | _ => false) && (py.line == cpos.line) && !(scope.names.any fun (n, k) => n == y && (k == .local || k == .cell))
  | _, _ => false
theorem lcSet_inv {sc : Scope} {g x : Expr} (h : lcSet sc g x = true) : ∃ a b scope cpos y py, x = .ListComp a b scope cpos ∧ g = .Name y py ∧ sc.names.lookup y = some .local ∧ (py.line == cpos.line) = true ∧ (scope.names.any fun (n, k) => n == y && (k == .local || k == .cell)) = false := by
  unfold lcSet at h; split at h
  · simp only [Bool.and_eq_true, Bool.not_eq_true'] at h
    obtain ⟨⟨h1, h2⟩, h3⟩ := h
    refine ⟨_, _, _, _, _, _, rfl, rfl, ?_, h2, h3⟩
    split at h1
    · assumption
    · cases h1
  · cases h
noncomputable def isLc : E → Bool
  | .lc _ _ _ _ _ => true
  | _ => false
noncomputable def dcSet (sc : Scope) (g x : Expr) : Bool := match x, g with
  | .DictComp _ _ _ scope cpos, .Name y py => (match sc.names.lookup y with | some .local => true | _ => false) && (py.line == cpos.line) && !(scope.names.any fun (n, k) => n == y && (k == .local || k == .cell))
  | _, _ => false
theorem dcSet_inv {sc : Scope} {g x : Expr} (h : dcSet sc g x = true) : ∃ a a2 b scope cpos y py, x = .DictComp a a2 b scope cpos ∧ g = .Name y py ∧ sc.names.lookup y = some .local ∧ (py.line == cpos.line) = true ∧ (scope.names.any fun (n, k) => n == y && (k == .local || k == .cell)) = false := by
  unfold dcSet at h; split at h
  · simp only [Bool.and_eq_true, Bool.not_eq_true'] at h
    obtain ⟨⟨h1, h2⟩, h3⟩ := h
    refine ⟨_, _, _, _, _, _, _, rfl, rfl, ?_, h2, h3⟩
    split at h1
    · assumption
    · cases h1
  · cases h
noncomputable def isDc : E → Bool
  | _ => false
noncomputable def isPM : Op2 → Bool
  | .add => true
  | .sub => true
  | _ => false
noncomputable def notPair (g x : Expr) : Bool := match g with
  | .Name _ _ => true
  | .Tuple _ _ _ => (match x with
    | .Tuple _ _ _ => false
    | _ => true)
  | _ => false
theorem no_pair {g x : Expr} (h : notPair g x = true) (env : PySem.Env) : swappedStores [g] x env = pure none := by
  cases g with
  | Name => rfl
  | Tuple => cases x <;> first | (cases h; done) | rfl
  | _ => cases h
/-- a name that is not plainly local -/
noncomputable def cellT (sc : Scope) (g : Expr) : Bool := match g with
  | .Name y _ => !(sc.names.lookup y == some .local)
  | _ => false
theorem cell_swap {sc : Scope} {g x : Expr} (h : cellT sc g = true) (l : Nat) (env : PySem.Env) (he : env.scope = sc) : swapsWith x (some g) l env = pure false := by
  unfold cellT at h
  split at h
  · next y p =>
    have hk : (env.kindOf y == some .local) = false := by
      show (env.scope.names.lookup y == some .local) = false
      rw [he]
      simpa using h
    cases x <;> first | rfl | (unfold swapsWith; simp [hk])
  · cases h
/-- a tuple to a tuple whose names are not all plainly local -/
noncomputable def cellPair (sc : Scope) (g x : Expr) : Bool := match g, x with
  | .Tuple ts _ _, .Tuple vs _ _ => !(ts.length == 2 || ts.length == 3) || vs.length != ts.length || ts.any fun t => match t with
    | .Name id _ => !(sc.names.lookup id == some .local)
    | _ => true
  | _, _ => false
theorem filterMap_short {α β : Type} (f : α → Option β) : ∀ (l : List α), (∃ t ∈ l, f t = none) → (l.filterMap f).length < l.length
  | [], h => by obtain ⟨_, h, _⟩ := h; cases h
  | a :: l, h => by
    have hl : (l.filterMap f).length ≤ l.length := List.length_filterMap_le f l
    rw [List.filterMap_cons]
    cases e : f a with
    | none => show (l.filterMap f).length < l.length + 1; omega
    | some b =>
      obtain ⟨t, ht, hf⟩ := h
      rcases List.mem_cons.mp ht with rfl | ht
      · rw [e] at hf; cases hf
      · have := filterMap_short f l ⟨t, ht, hf⟩
        show (l.filterMap f).length + 1 < l.length + 1; omega
theorem no_cell {sc : Scope} {g x : Expr} (h : cellPair sc g x = true) (env : PySem.Env) (he : env.scope = sc) : swappedStores [g] x env = pure none := by
  unfold cellPair at h
  split at h
  · next ts k1 p1 vs k2 p2 =>
    show (if (!(ts.length == 2 || ts.length == 3) || vs.length != ts.length || env.blockKind != .function) = true then pure none else _) = _
    split
    · rfl
    · next h1 =>
      simp only [Bool.or_eq_true, not_or] at h1 h
      obtain ⟨⟨h2, h3⟩, h4⟩ := h1
      have h5 : (ts.any fun t => match t with
        | .Name id _ => !(sc.names.lookup id == some .local)
        | _ => true) = true := by
        rcases h with (h | h) | h
        · exact absurd h h2
        · exact absurd h h3
        · exact h
      split
      · rfl
      · obtain ⟨t, ht, hf⟩ := List.any_eq_true.mp h5
        have := filterMap_short (fun (e : Expr) => match e with
          | .Name id pos => if env.kindOf id == some .local && pos.line == (ts.head?.map (·.pos.line)).getD 0 then some id else none
          | _ => none) ts ⟨t, ht, by
            cases t with
            | Name id pos =>
              have hf : (!(sc.names.lookup id == some .local)) = true := hf
              have : (env.kindOf id == some .local) = false := by
                show (env.scope.names.lookup id == some .local) = false
                rw [he]
                simpa using hf
              show (if env.kindOf id == some .local && pos.line == _ then some id else none) = none
              rw [this]
              rfl
            | _ => rfl⟩
        have e : (((ts.filterMap (fun (e : Expr) => match e with
          | .Name id pos => if env.kindOf id == some .local && pos.line == (ts.head?.map (·.pos.line)).getD 0 then some id else none
          | _ => none)).length != ts.length) = true) := by
          rw [bne_iff_ne]; omega
        show (if ((ts.filterMap _).length != ts.length || _) = true then pure none else _) = _
        rw [if_pos (by rw [Bool.or_eq_true]; exact .inl e)]
  · cases h
/-- x, y = a, b -/
noncomputable def kPar (s : Stmt) (f : Str → Str → Expr → Expr → Bool) : Bool := match s with
  | .Assign [.Tuple [.Name x px, .Name y py] _ _] (.Tuple [a, b] _ _) _ => px.line == px.line && py.line == px.line && !(x == y) && notStar a && notStar b && !([a, b].all (foldedForSure 8)) && !([a, b].all (constantsAlone 8)) && f x y a b
  | _ => false
theorem kPar_inv {s : Stmt} {f : Str → Str → Expr → Expr → Bool} (h : kPar s f = true) : ∃ x y px py k1 p1 a b k2 p2 p3, s = .Assign [.Tuple [.Name x px, .Name y py] k1 p1] (.Tuple [a, b] k2 p2) p3 ∧
    (py.line == px.line) = true ∧ (x == y) = false ∧ notStar a = true ∧ notStar b = true ∧ [a, b].all (foldedForSure 8) = false ∧ [a, b].all (constantsAlone 8) = false ∧ f x y a b = true := by
  unfold kPar at h; split at h
  · simp only [Bool.and_eq_true, Bool.not_eq_true'] at h
    obtain ⟨⟨⟨⟨⟨⟨⟨_, h1⟩, h2⟩, h3⟩, h4⟩, h5⟩, h6⟩, h7⟩ := h
    exact ⟨_, _, _, _, _, _, _, _, _, _, _, rfl, h1, h2, h3, h4, h5, h6, h7⟩
  · cases h
noncomputable def kRaise (s : Stmt) (f : Str → Bool) : Bool := match s with
  | .Raise (some (.Call (.Name x _) [.Constant (.str _) _ _] [] _)) none _ => f x
  | _ => false
theorem kRaise_inv {s : Stmt} {f : Str → Bool} (h : kRaise s f = true) : ∃ x p m j p2 p3 p4, s = .Raise (some (.Call (.Name x p) [.Constant (.str m) j p2] [] p3)) none p4 ∧ f x = true := by
  unfold kRaise at h; split at h
  · exact ⟨_, _, _, _, _, _, _, rfl, h⟩
  · cases h
noncomputable def kRaiseN (s : Stmt) (f : Str → Expr → Bool) : Bool := match s with
  | .Raise (some (.Call (.Name x _) [e] [] _)) none _ => f x e
  | _ => false
theorem kRaiseN_inv {s : Stmt} {f : Str → Expr → Bool} (h : kRaiseN s f = true) : ∃ x p e p2 p3, s = .Raise (some (.Call (.Name x p) [e] [] p2)) none p3 ∧ f x e = true := by
  unfold kRaiseN at h; split at h
  · exact ⟨_, _, _, _, _, rfl, h⟩
  · cases h
noncomputable def kXini (s : Stmt) (f : Str → Str → Str → Bool) : Bool := match s with
  | .Assign [.Attribute (.Name a _) m _] (.Name b _) _ => f a m b
  | _ => false
theorem kXini_inv {s : Stmt} {f : Str → Str → Str → Bool} (h : kXini s f = true) : ∃ a p m p2 b p3 p4, s = .Assign [.Attribute (.Name a p) m p2] (.Name b p3) p4 ∧ f a m b = true := by
  unfold kXini at h; split at h
  · exact ⟨_, _, _, _, _, _, _, rfl, h⟩
  · cases h
noncomputable def kTry (s : Stmt) (f : List Stmt → Str → Option Str → List Stmt → Bool) : Bool := match s with
  | .Try body [.ExceptHandler (some (.Name x _)) n (b₀ :: suite) _] [] [] _ => f body x n (b₀ :: suite)
  | _ => false
theorem kTry_inv {s : Stmt} {f : List Stmt → Str → Option Str → List Stmt → Bool} (h : kTry s f = true) : ∃ body x p n b₀ suite p2 p3, s = .Try body [.ExceptHandler (some (.Name x p)) n (b₀ :: suite) p2] [] [] p3 ∧ f body x n (b₀ :: suite) = true := by
  unfold kTry at h; split at h
  · exact ⟨_, _, _, _, _, _, _, _, rfl, h⟩
  · cases h
noncomputable def kAugF (x : Stmt) (f : Expr → Str → Operator → Expr → Bool) : Bool := match x with
  | .AugAssign (.Attribute a m _) o e _ => f a m o e
  | _ => false
theorem kAugF_inv {x : Stmt} {f : Expr → Str → Operator → Expr → Bool} (h : kAugF x f = true) : ∃ a m q o e p, x = .AugAssign (.Attribute a m q) o e p ∧ f a m o e = true := by
  unfold kAugF at h; split at h
  · exact ⟨_, _, _, _, _, _, rfl, h⟩
  · cases h
noncomputable def isNone {α : Type} : Option α → Bool
  | none => true
  | some _ => false
noncomputable def locB (sc : Scope) (x : Str) : Bool := match sc.names.lookup x with
  | some .local => true
  | _ => false
noncomputable def stepS : Str := "step"
noncomputable def kNd (x : Stmt) (f : Str → Arguments → List Stmt → Scope → Bool) : Bool := match x with
  | .FunctionDef name params body [] none [] scope none name2 _ => decide (name2 = name) && f name params body scope
  | _ => false
theorem kNd_inv {x : Stmt} {f : Str → Arguments → List Stmt → Scope → Bool} (h : kNd x f = true) : ∃ name params body scope pos, x = .FunctionDef name params body [] none [] scope none name pos ∧ f name params body scope = true := by
  unfold kNd at h; split at h
  · rw [Bool.and_eq_true] at h
    have e := of_decide_eq_true h.1
    subst e
    exact ⟨_, _, _, _, _, rfl, h.2⟩
  · cases h
noncomputable def okNd (T : Tb) (sc : Scope) (i n : Nat) (js : List Nat) (b : Nat) (x : Stmt) : Bool := kNd x fun name params body scope => isNone T.fc && decide (name = stepS) && decide (T.N[i]? = some name) && (match sc.names.lookup name with | some .local => true | _ => false) && decide (i ≠ b) && !js.contains i && !js.contains b &&
  decide (js.map (fun j => T.N[j]?) = (js.filterMap fun j => T.N[j]?).map some) && ((js.filterMap fun j => T.N[j]?).all fun y => decide (sc.names.lookup y = some .cell)) && NdefX.ndefB sc scope (js.filterMap fun j => T.N[j]?) && params.defaults.isEmpty && params.kw_defaults.isEmpty && T.nd n (js.filterMap fun j => T.N[j]?) x
/-- b = e -/
noncomputable def okBs2 (T : Tb) (sc : Scope) (b : Nat) (e : E) (s : Stmt) : Bool := kAsg s fun g x => notStar g && okE T false sc e x && okTg T.N sc T.fc none (.nm b) g && notPair g x && notComp x
/-- b.m(i) -/
noncomputable def okBs3 (T : Tb) (sc : Scope) (i b : Nat) (c m : Bs) (xi : Nat) (s : Stmt) : Bool := kExp s fun z => kMeth z fun y n xs => notComp z && decide (n = mkS m) && decide (T.ms xi = some (c, m)) && xs.all notStar && decide (xs.length < 20) && okE T false sc (.var b) y && okEs T sc (.cons (.var i) .nil) xs
mutual
noncomputable def okS (T : Tb) (sc : Scope) : S → Stmt → Bool
  | .set t e, s => kAsg s fun g x => notStar g && okE T false sc e x && okTg T.N sc T.fc none t g && (notPair g x || cellPair sc g x) && (notComp x || (lcSet sc g x && isLc e) || cellT sc g || (dcSet sc g x && isDc e))
  | .aug i o e, s => kAug s fun x p y => isPM o && decide (opOf o = p) && decide (T.N[i]? = some x) && stoB sc T.fc x && okE T false sc e y
  | .put o i e, s => kAsg s fun g z => kSub g fun x y => notComp z && notSlice y && okE T false sc e z && okE T false sc o x && okE T false sc i y
  | .expr e, s => kExp s fun x => notComp x && okE T false sc e x
  | .app o e, s => kExp s fun z => kMeth z fun x m xs => one xs fun y => decide (m = "append") && notStar y && okE T false sc o x && okE T false sc e y
  | .ret e, s => kRet s fun z => match z with | some x => okE T false sc e x | none => false
  | .retN, s => kRet s fun z => match z with | some _ => false | none => true
  | .ite c a b, s => kIfS s fun x xs ys => okE T true sc c x && okSs T sc a xs && okSs T sc b ys
  | .loop c b, s => kWhile s fun x xs => okE T true sc c x && okSs T sc b xs
  | .each t it b, s => kFor s fun g x xs => notSet x && okWk T sc it g x && okTg T.N sc T.fc none t g && okSs T sc b xs
  | .brk, s => kBrk s
  | .cont, s => kCont s
  | .pass, s => kPass s
  | .fz _, _ => false
  | .bld _ _ _ _ _ _ _ _, _ => false
  | .frf _ _ _, _ => false
  | .rais c, s => kRaise s fun x => decide (T.xc c = some x) && glB sc x && okNm x && !(T.xn c)
  | .raisn c e, s => kRaiseN s fun x y => decide (T.xc c = some x) && glB sc x && okNm x && T.xn c && notStar y && okE T false sc e y
  | .xini f, s => kXini s fun a m b => decide (T.N[0]? = some a) && decide (T.N[1]? = some b) && visB sc a && visB sc b && okNm a && okNm b && decide (m = mkS f)
  | .tri b c none h, s => kTry s fun body x n suite => decide (T.xc c = some x) && glB sc x && okNm x && isNone n && okSu T.N sc none T.bs h suite && okSs T sc b body
  | .tri b c (some i) h, s => kTry s fun body x n suite => decide (T.xc c = some x) && glB sc x && okNm x && (match n with | some n => decide (T.N[i]? = some n) && (match sc.names.lookup n with | some .local => true | _ => false) | none => false) && okSu T.N sc (some i) T.bs h suite && ((!isFldS h || T.xn c) && (!isSmeS h || T.hs)) && okSs T sc b body
  | .putf c o f e, s => kAsg s fun g z => kAttr g fun x m => decide (m = mkS f) && fldB T c f && okE T false sc e z && okE T false sc o x
  | .augf c o f op e, s => kAugF s fun x m p y => isPM op && decide (opOf op = p) && decide (m = mkS f) && fldB T c f && okE T false sc o x && okE T false sc e y
  | .bxp b a c m xi c2 m2 n2, s => kExp s fun z => kMeth z fun y n xs => one xs fun w => kAttr w fun y2 n3 => notComp z && decide (n = mkS m) && decide (T.ms xi = some (c, m)) && okE T false sc (.var b) y && decide (n3 = mkS m2) && decide (T.ms n2 = some (c2, m2)) && !(PySem.W.copiedNames.contains (mkS m2)) && notCall y2 && okE T false sc (.var a) y2
  | .par i j a b, s => kPar s fun x y e1 e2 => decide (T.N[i]? = some x) && decide (T.N[j]? = some y) && decide (i ≠ j) && locB sc x && locB sc y && okE T false sc a e1 && okE T false sc b e2
noncomputable def okSs (T : Tb) (sc : Scope) : List S → List Stmt → Bool
  | [], [] => true
  | .fz _ :: r, xs => okSs T sc r xs
  | .frf _ _ _ :: r, xs => okSs T sc r xs
  | .bld i n js b e c m xi :: r, x1 :: x2 :: x3 :: xs => okNd T sc i n js b x1 && okBs2 T sc b e x2 && okBs3 T sc i b c m xi x3 && okSs T sc r xs
  | s :: r, x :: xs => okS T sc s x && okSs T sc r xs
  | _, _ => false
end
end DL
/-! DSN: range downwards, sorted pairs, o[i] += e on lists. -/
namespace DL
open PySem PySem.Spec PySem.Calls PyProof.Rows L2 LamX NdefX
variable [TBS]
section
variable {B : Bx} {Y : Dl → Prop} {W : WX} {C : XC} {xq : QX} {a b c : Expr} {wa wb wc : Env → Sto → QD → Prop} {pos : Pos} {vs : List Nat}
end
/-! ### sorted pairs -/
section
open PySem.W
variable {X : Cx} {pins : List (Addr × Obj)} {σ : L2.St} {H : Hp} {s : Shared}
end
section
variable {B : Bx} {Y : Dl → Prop} {W : WX} {C : XC} {xq : QX} {a b c : Expr} {wa wb wc : Env → Sto → QD → Prop} {pos : Pos} {vs : List Nat}
/-! ### o[i] op= e on a list -/
end
section
variable {B : Bx} {Y : Dl → Prop} {W : WX} {C : XC} {xq : QX} {a b c : Expr} {wa wb wc : Env → Sto → QD → Prop} {pos : Pos} {vs : List Nat}
/-! ### tuple * int -/
section
open PyProof
variable {X : Cx}
end
end
end DL
set_option maxHeartbeats 4000000
/-! DZM: zip over two iterators of any sorts; a list with a tuple (the kit has list with list, tuple with tuple). -/
namespace ZM
open PySem PySem.Spec PyProof.Rows L2 RZ
section
variable {prog : Program} {w : World} {A : Around} {E : Value → Shared → Prop} {s : Shared} {I1 I2 : Heap → Nat → Prop} {z TI TO i1 i2 l1 l2 : Addr} {xs ys : Array Value} {k1 k2 : Nat} {a b : Value}
end
/-! ### a list with a tuple -/
noncomputable abbrev m1 (h : Heap) (l1 : Addr) : Heap := h.push { cls := .type "list_iterator", data := .fields #[.ref l1, .int 0 0] }
noncomputable abbrev m2 (h : Heap) (l1 l2 : Addr) : Heap := (m1 h l1).push { cls := .type "tuple_iterator", data := .fields #[.ref l2, .int 0 0] }
noncomputable abbrev m3 (h : Heap) (l1 l2 : Addr) : Heap := (m2 h l1 l2).push { cls := .type "tuple", data := .seq #[.ref h.objs.size, .ref (m1 h l1).objs.size] }
noncomputable abbrev m4 (h : Heap) (l1 l2 : Addr) : Heap := (m3 h l1 l2).push { cls := .type "tuple", data := .seq #[.none, .none] }
section
variable {prog : Program} {w : World} {A : Around} {E : Value → Shared → Prop} {s : Shared}
end
end ZM
namespace DL
open PySem PySem.Spec PySem.Calls PyProof.Rows L2 LamX NdefX
variable [TBS]
section
variable {B : Bx} {Y : Dl → Prop} {W : WX} {C : XC} {xq : QX} {a b : Expr} {wa wb : Env → Sto → QD → Prop} {pos : Pos}
end
end DL
set_option maxHeartbeats 4000000
/-! DIT: walking over the keys of a dict of the store; the dict is locked and forgotten. -/
namespace DL
open PySem PySem.Spec PyProof.Rows L2
section
variable {X : Cx} {pins : List (Addr × Obj)} {σ : L2.St} {H : Hp} {s : Shared} {d : Addr} {od : Obj}
theorem frzN {xs : List Ent} (I : Inv X pins σ H s) (h : H d = some (.frz od (DNo X.w d xs))) : (d == sysModules) = false ∧ s.heap.get? d = some od ∧ od.ExactDict ∧ ∃ (es : Array DictEntry) (ep : Nat), od.data = .dict es ep ∧ es.size = xs.length ∧
    ∀ (i : Nat) (x : Ent), xs[i]? = some x → ∃ en : DictEntry, es[i]? = some en ∧ en.key = .ref x.2.1 := by
  obtain ⟨hd, ⟨z, y, o, es, ep, h1, h2, h3, h4, h5⟩, _⟩ := I.hok d _ h
  rw [hd] at h1
  cases h1
  refine ⟨y, hd, h2, es, ep, h3, ?_, fun i x hx => ?_⟩
  · rw [← Array.length_toList, h4, List.length_map]
  · refine ⟨⟨x.1.hash X.w, .ref x.2.1, x.2.2⟩, ?_, rfl⟩
    rw [← Array.getElem?_toList, h4, List.getElem?_map, hx]; rfl
end
noncomputable def ItN (w : World) (d : Addr) (od : Obj) (xs : List Ent) : It :=
  ⟨fun i H => H d = some (.frz od (DNo w d xs)) ∧ i < xs.length, fun i H v H' => H' = H ∧ ∃ x, xs[i]? = some x ∧ v = .ref x.2.1, fun i H => H d = some (.frz od (DNo w d xs)) ∧ xs.length ≤ i⟩
theorem turnN {P : Program} {w : World} {K : PySem.W.Frag} {tg : Expr} {d : Addr} {o : Obj} {es : Array DictEntry} {ep : Nat} {xs : List Ent} (it : Addr) (hod : o.data = .dict es ep) : Turn P w K tg (ItN w d o xs) [it] it (fun i h => h.IsKeyIter it d i xs.length ep) where
  mem := by simp
  obj := fun i h st b hb => by
    have e : b = it := by simpa using hb
    subst e
    obtain ⟨oi, e, c, dd⟩ := st
    exact ⟨oi, e, fun v z => by rw [dd] at z; cases z⟩
  keep := fun i h h' st k => st.at fun oi e => k it (by simp) oi e
  item := by
    intro X hP hw hK hc i pins s σ H E I hf st hg
    subst hP hw hK
    obtain ⟨hd, hi⟩ := hg
    obtain ⟨f0, f1, f2, f3, f4, f5⟩ := hf it (by simp)
    obtain ⟨hs, hgd, hx, es', ep', hdt, hsz, ent⟩ := frzN I hd
    obtain ⟨rfl, rfl⟩ := dict_ep hod hdt
    have hkv : xs[i]? = some xs[i] := List.getElem?_eq_getElem hi
    obtain ⟨en, hen, hkey⟩ := ent i _ hkv
    refine next_key_item st hgd hdt hsz hen fun h' st' sb => ?_
    have J : Inv X pins σ H { s with heap := h' } := I.turned (t' := s.toks) (fun b ob hb e => (sb.2 b hb).trans e) f0 f1 f3 f4 f5
    obtain ⟨oi, e, c, dd⟩ := id st'
    exact ⟨en.key, rfl, go_of (s := { s with heap := h' }) e c dd (by decide) ⟨.ref xs[i].2.1, H, J, hkey, ⟨rfl, _, hkv, rfl⟩, st', fun b hb => (hf b hb).1⟩⟩
  done := by
    intro X hP hw hK hc i pins s σ H E I hf st hg
    subst hP hw hK
    obtain ⟨hd, hi⟩ := hg
    obtain ⟨f0, f1, f2, f3, f4, f5⟩ := hf it (by simp)
    obtain ⟨hs, hgd, hx, es', ep', hdt, hsz, ent⟩ := frzN I hd
    obtain ⟨rfl, rfl⟩ := dict_ep hod hdt
    exact next_key_end (I.ok.hd hc) st hgd hdt hsz hi fun h' eb => ⟨rfl, I.turned (t' := s.toks) (fun b ob hb e => eb b ob hb e) f0 f1 f3 f4 f5⟩
  self := fun A i s Q E st h => by
    refine wpAny_pyIter_slot st.typeIs F.slot_dict_keyiterator_iter (wpAny_call_entry F.slot_dict_keyiterator_iter st.typeIs F.entry_dict_keyiterator_iter ?_ (F.args_dict_keyiterator_iter_1 _))
    show wpAny _ _ (ret (.ref it)) _ _ s
    exact wpAny_pure ⟨_, rfl, "dict_keyiterator", _, st.typeIs, F.slot_dict_keyiterator_next.lookup, h⟩
/-- the dict is locked at the walk's start, and stays so -/
noncomputable def iKeysL (w : World) (te : TE) : TI := fun σ H R => te σ H fun x H1 => ∃ d, x = .ref d ∧
  ((∃ kvs, H1 d = some (.dK kvs) ∧ ∀ od, R (Itk d od kvs) (upd H1 d (.frz od (.dK kvs)))) ∨ ∃ xs, H1 d = some (DNo w d xs) ∧ ∀ od, R (ItN w d od xs) (upd H1 d (.frz od (DNo w d xs))))
theorem pi_keysL {X : Cx} {tg e : Expr} {te : TE} (he : PE X e te) : PI X tg e (iKeysL X.w te) := by
  refine ⟨fun pins s σ H R I h => ?_⟩
  refine thn (he.run pins s σ H _ I h) fun u s1 ⟨x, H1, I0, rx, d, ex, q⟩ => ?_
  subst ex
  obtain rfl : u = Value.ref d := rx
  rcases q with ⟨kvs, hd, q⟩ | ⟨xs, hd, q⟩
  · obtain ⟨od, I1⟩ := I0.lock hd trivial
    have hf : (upd H1 d (.frz od (.dK kvs))) d = some (.frz od (.dK kvs)) := upd_same
    obtain ⟨hs, hgd, hx, es, ep, vs, hdt, hsz, kv, hm⟩ := I1.frzK hf
    refine iter_keys hs hgd hx hdt (pi_one (tk := s1.toks) I1 _ (turn_keys _ hdt) ⟨_, Heap.get?_push_size _ rfl, rfl, ?_⟩ (q od))
    rw [hsz] <;> rfl
  · obtain ⟨od, I1⟩ := I0.lock hd trivial
    have hf : (upd H1 d (.frz od (DNo X.w d xs))) d = some (.frz od (DNo X.w d xs)) := upd_same
    obtain ⟨hs, hgd, hx, es, ep, hdt, hsz, ent⟩ := frzN I1 hf
    refine iter_keys hs hgd hx hdt (pi_one (tk := s1.toks) I1 _ (turnN _ hdt) ⟨_, Heap.get?_push_size _ rfl, rfl, ?_⟩ (q od))
    rw [hsz] <;> rfl
variable [TBS]
/-- an object of the store is forgotten; what stands there now is frozen -/
theorem SR.lockd {K : PySem.W.Frag} {ω : World} {F H : Hp} {St : Sto} (r : SR K ω F St H) {p : Addr} {o : HO} {q0 : DO} (h : St p = some q0) : SR K ω (upd F p o) (del St p) (upd H p o) ∧ Fr F St H (upd F p o) (del St p) (upd H p o) := by
  obtain ⟨fp, _⟩ := r.own p q0 h
  have sF : Same F (upd F p o) := fun b u e => by rw [upd_ne (ne_of_none e fp)]; exact e
  refine ⟨⟨fun b u e => ?_, fun a u e => ?_, fun pt hpt => ?_⟩, sF, fun a u e n _ => ?_⟩
  · by_cases hb : b = p
    · subst hb; rw [upd_same] at e ⊢; exact e
    · rw [upd_ne hb] at e ⊢; exact r.sub _ _ e
  · by_cases hb : a = p
    · subst hb; unfold del at e; rw [if_pos rfl] at e; cases e
    · unfold del at e
      rw [if_neg hb] at e
      obtain ⟨x, y⟩ := r.own a u e
      exact ⟨by rw [upd_ne hb]; exact x, (y.mono sF).at (upd_ne hb)⟩
  · obtain ⟨t1, t2, t3⟩ := r.tabs pt hpt
    have na : pt.1 ≠ p := fun z => by rw [z, h] at t2; cases t2
    exact ⟨by rw [upd_ne na]; exact t1, by unfold del; rw [if_neg na]; exact t2, t3.mono sF (upd_ne na)⟩
  · have na : a ≠ p := fun z => by subst z; rw [h] at n; cases n
    exact ⟨by rw [upd_ne na]; exact e, by unfold del; rw [if_neg na]; exact n, fun z => by rw [upd_ne na]; exact z⟩
theorem isT_get {K : PySem.W.Frag} {F : Hp} {xs : List Ent} {ds : List (D × D)} (h : IsT K F xs ds) : ∀ {i : Nat} {x : Ent}, xs[i]? = some x → ∃ d, (ds.map (·.1))[i]? = some d ∧ Is K F (.ref x.2.1) d := by
  induction h with
  | nil => intro i x e; simp at e
  | cons i1 _ _ _ _ _ ih =>
    intro i x e
    cases i with
    | zero => simp at e; subst e; exact ⟨_, rfl, i1⟩
    | succ i => simp only [List.getElem?_cons_succ, List.map_cons] at e ⊢; exact ih e
theorem wd_keysN {K : PySem.W.Frag} {ω : World} {F : Hp} {d : Addr} {od : Obj} {xs : List Ent} {ds : List (D × D)} (h : F d = some (.frz od (DNo ω d xs))) (il : IsT K F xs ds) : WD K ω F (ItN ω d od xs) (ds.map (·.1)) := by
  have hl : (ds.map (·.1)).length = xs.length := by rw [List.length_map, il.length]
  refine ⟨fun H => H d = some (.frz od (DNo ω d xs)), fun i H v H' => H' = H ∧ ∃ x, xs[i]? = some x ∧ v = .ref x.2.1, ⟨fun i H hi g => ⟨g, by rw [hl] at hi; exact hi⟩, fun H g => ⟨g, by rw [hl]; exact Nat.le_refl _⟩, fun i H v H' _ g y => y⟩, fun H F1 e1 e2 => e2 _ _ (e1 _ _ h), fun i H v H' hi y => ?_⟩
  obtain ⟨rfl, x, hx, rfl⟩ := y
  obtain ⟨kd, hk, i1⟩ := isT_get il hx
  exact ⟨kd, hk, fun F1 S1 r e => ⟨F1, Fr.refl, r, i1.mono e⟩⟩
section
variable {B : Bx} {Y : Dl → Prop} {W : WX} {C : XC} {xq : QX} {a : Expr} {wa : Env → Sto → QD → Prop}
/-- the keys of a dict with tuple keys; the dict is used no more -/
theorem SI.keys {tg : Expr} (ha : SE B Y W C xq a wa) : SI B Y W C xq tg a (fun ρ St q => wa ρ St fun x S1 => ∃ p ds, x = .ref p ∧ S1 p = some (.tdc ds) ∧ q (ds.map (·.1)) (del S1 p)) := by
  obtain ⟨ta, pa, ka⟩ := ha.ex
  refine ⟨⟨iKeysL B.w ta, fun δ hδ => pi_keysL (X := cx B δ) (pa δ hδ), fun ρ St F σ H q R r e x w k => ?_⟩⟩
  refine ka ρ St F σ H _ _ r e x w fun d S1 F1 v H1 f1 r1 i1 w1 => ?_
  obtain ⟨p, ds, rfl, hp, w1⟩ := w1
  cases i1
  obtain ⟨xs, hx, z, nd, il⟩ := (r1.own p _ hp).2
  refine ⟨p, rfl, .inr ⟨xs, hx, fun od => ?_⟩⟩
  obtain ⟨r2, f2⟩ := r1.lockd (o := .frz od (DNo B.w p xs)) hp
  exact k _ _ _ _ _ (f1.trans f2) r2 (wd_keysN upd_same (il.mono f2.ext)) (by rw [List.length_map, ← il.length]; exact z) w1
end
end DL
/-! DL10: what the check says of expressions. -/
namespace DL
open PySem PySem.Spec PyProof.Rows L2
variable [TBS]
/-! ### another wording -/
section
variable {B : Bx} {Y : Dl → Prop} {W : WX} {C : XC} {xq : QX} {x tg : Expr} {xs : List Expr}
theorem SE.cg {w w' : Env → Sto → QD → Prop} (h : SE B Y W C xq x w) (k : ∀ ρ St q, w' ρ St q → w ρ St q) : SE B Y W C xq x w' := by
  obtain ⟨t, p, kk⟩ := h.ex
  exact ⟨⟨t, p, fun ρ St F σ H q Q r e x w => kk ρ St F σ H q Q r e x (k _ _ _ w)⟩⟩
theorem ST.cg {w w' : Env → Sto → (Bool → Sto → Prop) → Prop} (h : ST B Y W C xq x w) (k : ∀ ρ St q, w' ρ St q → w ρ St q) : ST B Y W C xq x w' := by
  obtain ⟨t, p, kk⟩ := h.ex
  exact ⟨⟨t, p, fun ρ St F σ H q Q r e x w => kk ρ St F σ H q Q r e x (k _ _ _ w)⟩⟩
theorem SW.cg {w w' : Env → Sto → (Bool → Sto → Prop) → Prop} (h : SW B Y W C xq x w) (k : ∀ ρ St q, w' ρ St q → w ρ St q) : SW B Y W C xq x w' := by
  obtain ⟨t, p, kk⟩ := h.ex
  exact ⟨⟨t, p, fun ρ St F σ H q Q r e x w => kk ρ St F σ H q Q r e x (k _ _ _ w)⟩⟩
theorem STs.cg {w w' : Env → Sto → (Bool → Sto → Prop) → Prop} (h : STs B Y W C xq xs w) (k : ∀ ρ St q, w' ρ St q → w ρ St q) : STs B Y W C xq xs w' := by
  obtain ⟨t, p, kk⟩ := h.ex
  exact ⟨⟨t, p, fun ρ St F σ H q Q r e x w => kk ρ St F σ H q Q r e x (k _ _ _ w)⟩⟩
theorem SA.cg {w w' : Env → Sto → (List D → Sto → Prop) → Prop} (h : SA B Y W C xq xs w) (k : ∀ ρ St q, w' ρ St q → w ρ St q) : SA B Y W C xq xs w' := by
  obtain ⟨t, p, kk⟩ := h.ex
  exact ⟨⟨t, p, fun ρ St F σ H q Q r e x w => kk ρ St F σ H q Q r e x (k _ _ _ w)⟩⟩
theorem SI.cg {w w' : Env → Sto → (List D → Sto → Prop) → Prop} (h : SI B Y W C xq tg x w) (k : ∀ ρ St q, w' ρ St q → w ρ St q) : SI B Y W C xq tg x w' := by
  obtain ⟨t, p, kk⟩ := h.ex
  exact ⟨⟨t, p, fun ρ St F σ H q Q r e x w => kk ρ St F σ H q Q r e x (k _ _ _ w)⟩⟩
theorem SO.cg {x : Option Expr} {w w' : Env → Sto → (Option Int → Sto → Prop) → Prop} (h : SO B Y W C xq x w) (k : ∀ ρ St q, w' ρ St q → w ρ St q) : SO B Y W C xq x w' := by
  obtain ⟨t, p, kk⟩ := h.ex
  exact ⟨⟨t, p, fun ρ St F σ H q Q r e x w => kk ρ St F σ H q Q r e x (k _ _ _ w)⟩⟩
theorem SPp.cg {pos : Pos} {ks : List (Option Expr)} {w w' : Env → Sto → (List D → Sto → Prop) → Prop} (h : SPp B Y W C xq pos ks xs w) (k : ∀ ρ St q, w' ρ St q → w ρ St q) : SPp B Y W C xq pos ks xs w' := by
  obtain ⟨t, p, l, s, kk⟩ := h.ex
  exact ⟨⟨t, p, l, s, fun ρ St F σ H q Q r e x w => kk ρ St F σ H q Q r e x (k _ _ _ w)⟩⟩
theorem SG.cg {vs : List Nat} {b b' : D → Env → (Env → Prop) → Prop} (h : SG B Y tg vs b) (k : ∀ d ρ q, b' d ρ q → b d ρ q) : SG B Y tg vs b' := by
  obtain ⟨t, p, kk⟩ := h.ex
  exact ⟨⟨t, p, fun d ρ σ v F St H q Q i r e w => kk d ρ σ v F St H q Q i r e (k _ _ _ w)⟩⟩
theorem SGs.cg {vs : List Nat} {b b' : List D → Env → (Env → Prop) → Prop} (h : SGs B Y xs vs b) (k : ∀ d ρ q, b' d ρ q → b d ρ q) : SGs B Y xs vs b' := by
  obtain ⟨t, p, l, kk⟩ := h.ex
  exact ⟨⟨t, p, fun d ρ q w => l d ρ q (k _ _ _ w), fun d ρ σ v F St H q Q i r e w => kk d ρ σ v F St H q Q i r e (k _ _ _ w)⟩⟩
end
/-- the program: callees, kept globals, written dicts -/
structure Gd (B : Bx) (C : XC) (T : Tb) (G : Gx) (j : Nat) : Prop where
  N : B.N = T.N
  nd : T.N.Nodup
  blt : ∀ x, x ∈ blts → B.mg x = none
  fs : ∀ i nm, T.fs i = some nm → ∃ f fd ps, B.mg nm = some (.ref f) ∧ PySem.W.keepIn B.K (.ref f) = true ∧ Binds B.K fd ps [] ∧ FnOk B.prog B.w B.K B.mg B.base (L2.CX B.prog B.w) j f fd ps (lift B.K B.w C (G.spec i))
  gl : ∀ nm d, (nm, d) ∈ T.gl → ∃ u v, B.mg nm = some u ∧ RelV v u ∧ Is B.K (fun _ => none) v d
  wd : ∀ nm kvs, (nm, kvs) ∈ T.wd → ∃ p0, B.mg nm = some (.ref p0) ∧ (∀ s d, lookD kvs (.str s) = some d → ∃ v, KDct B.K B.w p0 (mkS s) v ∧ Is B.K (fun _ => none) v d) ∧ (∀ y, isKey y = true → (∀ s, y ≠ .str s) → lookD kvs y = none)
  xf : ∀ c x, T.xc c = some x → XF B C c x
  xi : ∀ c x, T.xc c = some x → XI B C T.bs
  xp : ∀ c x, T.xc c = some x → T.xn c = false → XP B C c
  xn : ∀ c x, T.xc c = some x → T.xn c = true → XN B C c x
  dp : G.dp + 1 ≤ j
  cl : ∀ c fs, T.cl c = some fs → Cls B.K (He.ga B.K (mkS c)) ∧ ∀ f ∈ fs, NoAttr B.K (He.ga B.K (mkS c)) (mkS f)
  ms : ∀ i c m, T.ms i = some (c, m) → Cls B.K (He.ga B.K (mkS c)) ∧ ∃ f fd ps, Meth B.K (He.ga B.K (mkS c)) (mkS m) f ∧ Binds B.K fd ps [] ∧ FnOk B.prog B.w B.K B.mg B.base (L2.CX B.prog B.w) j f fd ps (lift B.K B.w C (G.spec i))
  mkr : ∀ i c, T.ms i = some (c, initS) → ∃ f fd ps j', j = j' + 1 ∧ Mk B.K (He.ga B.K (mkS c)) f ∧ B.mg (mkS c) = some (.ref (He.ga B.K (mkS c))) ∧ Binds B.K fd ps [] ∧ FnOk B.prog B.w B.K B.mg B.base (L2.CX B.prog B.w) j' f fd ps (lift B.K B.w C (G.spc i))
  fk : ∀ d sp, G.fk = some (d, sp) → KeyOk B.prog B.w B.K B.mg B.base C j d sp
  hs : ∀ i c m, T.ms i = some (c, m) → ∃ f fd ps j', j = j' + 1 ∧ Meth B.K (He.ga B.K (mkS c)) (mkS m) f ∧ Binds B.K fd ps [] ∧ ∀ (base' : Heap) (d : D) (sp : DSp), (∀ b u, B.base.get? b = some u → base'.get? b = some u) → KeyOk B.prog B.w B.K B.mg base' C j' d sp → FnOk B.prog B.w B.K B.mg base' (L2.CX B.prog B.w) j f fd ps (lift B.K B.w C (G.hsp i d sp))
  bs : ∀ i c m, T.ms i = some (c, m) → ∃ f fd ps j', j = j' + 1 ∧ Meth B.K (He.ga B.K (mkS c)) (mkS m) f ∧ PySem.W.fnIn B.K f = true ∧ Binds B.K fd ps [] ∧ FnOk B.prog B.w B.K B.mg B.base (L2.CX B.prog B.w) j' f fd ps (lift B.K B.w C (G.spc i))
  ns : ∀ n fr st, T.nd n fr st = true → ∃ ps j', j = j' + 1 ∧ (∀ ds St q qx, G.spc n ds St q qx → ds.length = ps.length + fr.length) ∧ ∀ name params body scope pos, st = .FunctionDef name params body [] none [] scope none name pos → (∀ env, annTrees params none env = []) ∧
    ∀ (base' : Heap) (q : Addr) (env0 : PySem.Env) (c : Addr), (∀ b u, B.base.get? b = some u → base'.get? b = some u) → NdefX.NOk B.prog B.w B.K B.mg base' (L2.CX B.prog B.w) j' q (nfOf env0 name params body scope c) ps fr (spN B.K B.w C ps.length (G.spc n))
  lmB : (∃ n fr params body scope, T.lm n fr params body scope = true) → B.lm
  ls : ∀ n fr params body scope, T.lm n fr params body scope = true → ∃ ps j', j = j' + 1 ∧ ps.length = 1 ∧ (∀ ds St q qx, G.spc n ds St q qx → ds.length = 1 + fr.length) ∧ (∀ env, defaultsOf params env = ([], [])) ∧
    ∀ (q c : Addr) (q0 : Str) (cl : List (Str × Addr)), LOk B.prog B.w B.K B.mg B.base (L2.CX B.prog B.w) j' q (lfOf q0 cl params scope c) body ps fr (spN B.K B.w C 1 (G.spc n))
  hsm : T.hs = true → HSm B
theorem Gd.nox {B : Bx} {C : XC} {T : Tb} {G : Gx} {j : Nat} (D : Gd B C T G j) : Gd B C T G.nox j := ⟨D.N, D.nd, D.blt, D.fs, D.gl, D.wd, D.xf, D.xi, D.xp, D.xn, D.dp, D.cl, D.ms, D.mkr, fun _ _ h => (by cases h), D.hs, D.bs, D.ns, D.lmB, D.ls, D.hsm⟩
/-- the place: a def's body or a comprehension's block -/
structure Gy (B : Bx) (Y : Dl → Prop) (sc : Scope) (fc : Option Scope) (W : WX) (j : Nat) : Prop where
  calm : ∀ δ, Y δ → δ.calm = true
  room : ∀ δ, Y δ → Room j δ.A
  sc : ∀ δ, Y δ → δ.env.scope = sc
  fn : ∀ δ, Y δ → ∀ x, fcB fc x = true → δ.fn x = true
  tk : ∀ δ, Y δ → Takes (cx B δ) W
  lam : B.lm → LamAt B Y
theorem Gy.blk {B : Bx} {Y : Dl → Prop} {sc : Scope} {fc : Option Scope} {W : WX} {j : Nat} (g : Gy B Y sc fc W j) (scope : Scope) : Gy B (blkY Y scope) (relS scope sc) (some scope) W0 j := by
  refine ⟨?_, ?_, ?_, ?_, fun δ _ => takes0, fun h => (g.lam h).imp ?_⟩
  · rintro _ ⟨δ, s, H, C, cl, fp, hδ, rfl⟩; exact g.calm δ hδ
  · rintro _ ⟨δ, s, H, C, cl, fp, hδ, rfl⟩; exact g.room δ hδ
  · rintro _ ⟨δ, s, H, C, cl, fp, hδ, rfl⟩; rw [← g.sc δ hδ]; rfl
  · rintro _ ⟨δ, s, H, C, cl, fp, hδ, rfl⟩ x h; exact h
  · rintro _ ⟨δ, s, H, C, cl, fp, hδ, rfl⟩; exact ⟨δ, hδ, rfl, rfl⟩
theorem glB_inv {sc : Scope} {x : Str} (h : glB sc x = true) : sc.names.lookup x = some .globalImplicit := by
  unfold glB at h; split at h
  · assumption
  · cases h
theorem visB_inv {sc : Scope} {x : Str} (h : visB sc x = true) : Vis sc x := by
  unfold visB at h; split at h
  · exact .inl (by assumption)
  · exact .inr (.inl (by assumption))
  · exact .inr (.inr (by assumption))
  · cases h
theorem okNm_inv {x : Str} (h : okNm x = true) : (x == ("__debug__" : Str)) = false ∧ (x == ("__classdict__" : Str)) = false := by
  simpa [okNm] using h
theorem map_ownOf (N : List Str) : ∀ vs : List Nat, (ownOf N vs).map (·.2) = vs
  | [] => rfl
  | v :: vs => by rw [ownOf, List.map_cons, map_ownOf N vs]
mutual
theorem bindT_ex : ∀ (t : Tg) (d : D) (ρ : Env) (q : Env → Prop), bindT t d ρ q → ∃ ρ', q ρ'
  | .nm i, d, ρ, q, h => ⟨_, h⟩
  | .tup ts, d, ρ, q, h => by
    cases d with
    | tup ds => exact bindTs_ex ts ds ρ q h
    | _ => exact h.elim
theorem bindTs_ex : ∀ (t : Tgs) (d : List D) (ρ : Env) (q : Env → Prop), bindTs t d ρ q → ∃ ρ', q ρ'
  | .nil, [], ρ, q, h => ⟨_, h⟩
  | .nil, _ :: _, ρ, q, h => h.elim
  | .cons t ts, [], ρ, q, h => h.elim
  | .cons t ts, d :: ds, ρ, q, h => by
    obtain ⟨ρ', h⟩ := bindT_ex t d ρ _ h
    exact bindTs_ex ts ds ρ' q h
end
section
variable {B : Bx} {Y : Dl → Prop} {sc : Scope} {fc : Option Scope} {W : WX} {j : Nat}
theorem sto_ok (g : Gy B Y sc fc W j) {x : Str} (h : stoB sc fc x = true) : ∀ δ, Y δ → Loc δ.env.scope x ∧ (δ.fn x = true ∨ δ.env.scope.names.lookup x = some .local) := by
  intro δ hδ
  rw [g.sc δ hδ]
  unfold stoB at h; split at h
  · next e => exact ⟨.inl e, .inr e⟩
  · next e => exact ⟨.inr e, .inl (g.fn δ hδ x h)⟩
  · cases h
mutual
theorem sG (g : Gy B Y sc fc W j) {N : List Str} (hN : B.N = N) (nd : N.Nodup) {own : Option (List Nat)} {vs : List Nat} (hv : ∀ i x, N[i]? = some x → ownB own i = true → i ∈ vs) :
    ∀ (t : Tg) (e : Expr), okTg N sc fc own t e = true → SG B Y e vs (bindT t)
  | .nm i, e, h => by
    obtain ⟨x, p, rfl, h1⟩ := kName_inv h
    simp only [Bool.and_eq_true] at h1
    have hi := of_decide_eq_true h1.1.1
    refine SG.cg (SG.name (by rw [hN]; exact nd) (by rw [hN]; exact hi) (sto_ok g h1.1.2) (hv i x hi h1.2)) fun d ρ q w => ?_
    exact w
  | .tup ts, e, h => by
    obtain ⟨es, k, p, rfl, h1⟩ := kTuple_inv h
    rw [Bool.and_eq_true] at h1
    refine SG.cg (SG.tup g.calm (sGs g hN nd hv ts es h1.2) h1.1) fun d ρ q w => ?_
    cases d <;> exact w
theorem sGs (g : Gy B Y sc fc W j) {N : List Str} (hN : B.N = N) (nd : N.Nodup) {own : Option (List Nat)} {vs : List Nat} (hv : ∀ i x, N[i]? = some x → ownB own i = true → i ∈ vs) :
    ∀ (t : Tgs) (e : List Expr), okTgs N sc fc own t e = true → SGs B Y e vs (bindTs t)
  | .nil, [], h => SGs.cg SGs.nil fun d ρ q w => by
    cases d with
    | nil => exact ⟨rfl, w⟩
    | cons => exact w.elim
  | .nil, _ :: _, h => by cases h
  | .cons t ts, [], h => by cases h
  | .cons t ts, e :: es, h => by
    have h' : (okTg N sc fc own t e && okTgs N sc fc own ts es) = true := h
    rw [Bool.and_eq_true] at h'
    have hs : notStar e = true := by
      cases t with
      | nm => obtain ⟨x, p, rfl, _⟩ := kName_inv h'.1; rfl
      | tup => obtain ⟨x, k, p, rfl, _⟩ := kTuple_inv h'.1; rfl
    refine SGs.cg (SGs.cons (sG g hN nd hv t e h'.1) (sGs g hN nd hv ts es h'.2) hs fun d ρ q w => bindT_ex t d ρ q w) fun d ρ q w => ?_
    cases d with
    | nil => exact w.elim
    | cons d ds => exact ⟨d, ds, rfl, w⟩
end
end
noncomputable def isGen : E → Bool
  | .not _ => false
  | .boo _ _ => false
  | .cmp _ _ _ => false
  | .chn _ _ _ _ _ => false
  | .ite _ _ _ => false
  | _ => true
theorem gen_plain {T : Tb} {sc : Scope} {e : E} {x : Expr} (g : isGen e = true) (h : okE T true sc e x = true) : plainTest x = true ∧ okE T false sc e x = true := by
  cases e with
  | var => obtain ⟨_, _, rfl, _⟩ := kName_inv h; exact ⟨rfl, h⟩
  | non => obtain ⟨_, _, _, rfl, _⟩ := kConst_inv h; exact ⟨rfl, h⟩
  | bl => obtain ⟨_, _, _, rfl, _⟩ := kConst_inv h; exact ⟨rfl, h⟩
  | int => obtain ⟨_, _, _, rfl, _⟩ := kConst_inv h; exact ⟨rfl, h⟩
  | str => obtain ⟨_, _, _, rfl, _⟩ := kConst_inv h; exact ⟨rfl, h⟩
  | glb => obtain ⟨_, _, rfl, _⟩ := kName_inv h; exact ⟨rfl, h⟩
  | tup => obtain ⟨_, _, _, rfl, _⟩ := kTuple_inv h; exact ⟨rfl, h⟩
  | lst => obtain ⟨_, _, rfl, _⟩ := kList_inv h; exact ⟨rfl, h⟩
  | newl => obtain ⟨_, _, rfl, _⟩ := kList_inv h; exact ⟨rfl, h⟩
  | dct => obtain ⟨_, _, _, rfl, _⟩ := kDict_inv h; exact ⟨rfl, h⟩
  | newk => obtain ⟨_, _, _, rfl, _⟩ := kDict_inv h; exact ⟨rfl, h⟩
  | newd => obtain ⟨_, _, _, rfl, _⟩ := kDict_inv h; exact ⟨rfl, h⟩
  | fmt => have h : (!true && _) = true := h; cases h
  | fst => have h : (!true && _) = true := h; cases h
  | bin => obtain ⟨_, _, _, _, rfl, _⟩ := kBin_inv h; exact ⟨rfl, h⟩
  | neg => obtain ⟨_, _, rfl, _⟩ := kNeg_inv h; exact ⟨rfl, h⟩
  | idx => obtain ⟨_, _, _, rfl, _⟩ := kSub_inv h; exact ⟨rfl, h⟩
  | sl => obtain ⟨_, _, _, rfl, _⟩ := kSub_inv h; exact ⟨rfl, h⟩
  | call => obtain ⟨_, _, _, _, rfl, _⟩ := kCall_inv h; exact ⟨rfl, h⟩
  | «bif» => obtain ⟨_, _, _, _, rfl, _⟩ := kCall_inv h; exact ⟨rfl, h⟩
  | isi => obtain ⟨_, _, _, _, rfl, _⟩ := kCall_inv h; exact ⟨rfl, h⟩
  | lc => obtain ⟨_, _, _, _, _, _, rfl, _⟩ := kLc_inv h; exact ⟨rfl, h⟩
  | frz a =>
    have h' : (okE T false sc a x && (!true || plainTest x)) = true := h
    rw [Bool.and_eq_true] at h'
    exact ⟨h'.2, by show (okE T false sc a x && (!false || plainTest x)) = true; rw [h'.1]; rfl⟩
  | b1 => obtain ⟨_, _, _, _, rfl, _⟩ := kCall_inv h; exact ⟨rfl, h⟩
  | fld => obtain ⟨_, _, _, rfl, _⟩ := kAttr_inv h; exact ⟨rfl, h⟩
  | mk => obtain ⟨_, _, _, _, rfl, _⟩ := kCall_inv h; exact ⟨rfl, h⟩
  | meth => obtain ⟨_, _, _, _, _, rfl, _⟩ := kMeth_inv h; exact ⟨rfl, h⟩
  | dgt => obtain ⟨_, _, _, _, _, rfl, _⟩ := kMeth_inv h; exact ⟨rfl, h⟩
  | repN => obtain ⟨_, _, _, _, rfl, _⟩ := kBin_inv h; exact ⟨rfl, h⟩
  | _ => cases g
end DL
/-! DLI: _law_is_integer, _law_same within an except suite. -/
namespace DL
open PySem PySem.Spec PyProof.Rows L2 L2H
variable [TBS]
structure HX (X : Cx) (T : Tb) (sc : Scope) : Prop where
  N : X.N = T.N
  sc : X.env.scope = sc
  blt : ∀ y ∈ blts, X.mg y = none
section
variable {X : Cx} {T : Tb} {sc : Scope}
theorem HX.gl (h : HX X T sc) {x : Str} (k : glB sc x = true) : Gl X x := by
  show X.env.scope.names.lookup x = _
  rw [h.sc]
  exact glB_inv k
theorem HX.var (h : HX X T sc) {i : Nat} {x : Expr} (k : okE T false sc (.var i) x = true) : ∃ a p, x = .Name a p ∧ X.N[i]? = some a ∧ Vis X.env.scope a ∧ ((a == ("__debug__" : Str)) = false ∧ (a == ("__classdict__" : Str)) = false) := by
  obtain ⟨y, p, rfl, h1⟩ := kName_inv k
  simp only [Bool.and_eq_true] at h1
  exact ⟨y, p, rfl, by rw [h.N]; exact of_decide_eq_true h1.1.1, by rw [h.sc]; exact visB_inv h1.1.2, okNm_inv h1.2⟩
theorem HX.pvar (h : HX X T sc) {i : Nat} {x : Expr} (k : okE T false sc (.var i) x = true) : PE X x (tVar i) := by
  obtain ⟨a, p, rfl, h1, h2, h3⟩ := h.var k
  exact pe_var h1 h2 h3.1 h3.2
noncomputable def tIs (K : PySem.W.Frag) (u : Ty) (i : Nat) : TE := tCB (rIsi K) (tCons (tVar i) (tCons (tC (.ty (tyNm u))) tNil))
theorem HX.isi (h : HX X T sc) {u : Ty} {i : Nat} {x : Expr} (k : okE T false sc (.isi u (.var i)) x = true) : PE X x (tIs X.K u i) := by
  obtain ⟨nm, p, xs, q, rfl, h1⟩ := kCall_inv k
  obtain ⟨y, z, rfl, g1⟩ := two_inv h1
  obtain ⟨nm2, p2, rfl, g2⟩ := kName_inv g1
  simp only [Bool.and_eq_true] at g2
  obtain ⟨⟨⟨⟨⟨h2, h3⟩, h4⟩, h5⟩, h6⟩, h7⟩ := g2
  have e1 := of_decide_eq_true h2
  have e2 := of_decide_eq_true h3
  subst e1; subst e2
  obtain ⟨a, pa, rfl, v1, v2, v3⟩ := h.var h7
  exact pe_isT v1 v2 v3 (h.gl h4) (h.blt _ (by decide +kernel)) (h.gl h5) (h.blt _ (by cases u <;> decide +kernel))
theorem HX.eq (h : HX X T sc) {i j : Nat} {x : Expr} (k : okE T false sc (.cmp .eq (.var i) (.var j)) x = true) : PE X x (tOp rEq (tVar i) (tVar j)) := by
  obtain ⟨y, op, z, p, rfl, h1⟩ := kCmp_inv k
  simp only [Bool.and_eq_true] at h1
  have e := of_decide_eq_true h1.1.1.1
  subst e
  exact pe_cmpR op_eq (h.pvar h1.1.2) (h.pvar h1.2) (marks_set h1.1.1.2 _)
theorem HX.not {e : E} {te : TE} (he : ∀ y, okE T false sc e y = true → PE X y te) {x : Expr} (k : okE T false sc (.not e) x = true) : PE X x (tNotV te) := by
  obtain ⟨y, p, rfl, h1⟩ := kNot_inv k
  exact pe_not (he y h1)
theorem HX.and {a b : E} {ta tb : TE} (ha : ∀ y, okE T false sc a y = true → PE X y ta) (hb : ∀ y, okE T false sc b y = true → PE X y tb) {x : Expr} (k : okE T false sc (.boo true (.cons a (.cons b .nil))) x = true) : PE X x (tAndV ta tb) := by
  obtain ⟨op, xs, p, rfl, h1⟩ := kBool_inv k
  simp only [Bool.and_eq_true] at h1
  obtain ⟨⟨h2, _⟩, h3⟩ := h1
  match xs, h3 with
  | [y, z], h3 =>
    have h3 : (okE T false sc a y && (okE T false sc b z && true)) = true := h3
    simp only [Bool.and_eq_true] at h3
    cases op with
    | And => exact pe_and (ha y h3.1) (pe_one (hb z h3.2.1))
    | Or => cases h2
  | [], h3 => cases h3
  | [y], h3 =>
    have h3 : (okE T false sc a y && false) = true := h3
    rw [Bool.and_false] at h3
    cases h3
  | y :: z :: w :: r, h3 =>
    have h3 : (okE T false sc a y && (okE T false sc b z && false)) = true := h3
    rw [Bool.and_false, Bool.and_false] at h3
    cases h3
theorem HX.ret {e : E} {te : TE} (he : ∀ y, okE T false sc e y = true → PE X y te) {s : Stmt} (k : okS T sc (.ret e) s = true) : PS X s (tRet te) := by
  obtain ⟨z, p, rfl, h1⟩ := kRet_inv (show kRet s _ = true by rw [okS] at k; exact k)
  cases z with
  | none => cases h1
  | some x => exact ps_ret (he x h1)
/-- what a def that is called within a suite must be known for -/
noncomputable def HFn (X : Cx) (nm : Str) : Prop := ∃ (f : Addr) (fd : FuncData) (ps : List Str), X.mg nm = some (.ref f) ∧ PySem.W.keepIn X.K (.ref f) = true ∧ Binds X.K fd ps [] ∧ FnQ X.prog X.w X.K X.mg X.base 1 f fd ps spI1
theorem HX.call (h : HX X T sc) (F : ∀ nm, T.fs 9 = some nm → HFn X nm) (hr : RoomH 1 X.A) (hp : ∃ p, p ∈ X.pn) {x : Expr} (k : okE T false sc (.call 9 (.cons (.var 0) .nil)) x = true) : PE X x (tQ spI1 (tCons (tVar 0) tNil)) := by
  obtain ⟨nm, p, xs, q, rfl, h1⟩ := kCall_inv k
  simp only [Bool.and_eq_true] at h1
  obtain ⟨⟨⟨⟨⟨h2, h3⟩, h4⟩, h5⟩, h6⟩, h7⟩ := h1
  obtain ⟨f, fd, ps, hm, hk, hb, FQ⟩ := F nm (of_decide_eq_true h2)
  match xs, h7, h6 with
  | [y], h7, h6 =>
    have h7 : (okE T false sc (.var 0) y && true) = true := h7
    rw [Bool.and_true] at h7
    rw [List.all_cons, Bool.and_eq_true] at h6
    exact pe_callQ FQ hr hp (h.gl h3) hm hk hb (pa_cons (h.pvar h7) pa_nil (star_cons h6.1 _)) (okNm_inv h4).1 (star_cons h6.1 _) rfl
  | [], h7, _ => cases h7
  | y :: z :: r, h7, _ =>
    have h7 : (okE T false sc (.var 0) y && false) = true := h7
    rw [Bool.and_false] at h7
    cases h7
theorem ok_nil {ys : List Stmt} (k : okSs T sc [] ys = true) : ys = [] := by
  cases ys with
  | nil => rfl
  | cons => cases k
theorem ok_ite {c : E} {a b : List S} {r : List S} {xs : List Stmt} (k : okSs T sc (.ite c a b :: r) xs = true) : ∃ x ys, xs = x :: ys ∧ okS T sc (.ite c a b) x = true ∧ okSs T sc r ys = true := by
  cases xs with
  | nil => simp [okSs] at k
  | cons x ys =>
    have k : (okS T sc (.ite c a b) x && okSs T sc r ys) = true := by rw [okSs] at k <;> first | exact k | (intros; contradiction)
    rw [Bool.and_eq_true] at k
    exact ⟨x, ys, rfl, k.1, k.2⟩
theorem ok_ret1 {e : E} {xs : List Stmt} (k : okSs T sc [.ret e] xs = true) : ∃ x, xs = [x] ∧ okS T sc (.ret e) x = true := by
  cases xs with
  | nil => simp [okSs] at k
  | cons x ys =>
    have k : (okS T sc (.ret e) x && okSs T sc [] ys) = true := by rw [okSs] at k <;> first | exact k | (intros; contradiction)
    rw [Bool.and_eq_true] at k
    obtain rfl := ok_nil k.2
    exact ⟨x, rfl, k.1⟩
/-- the text of _law_is_integer -/
noncomputable abbrev iiB : List S := [.ret (.boo true (.cons (.isi .int (.var 0)) (.cons (.not (.isi .bool (.var 0))) .nil)))]
noncomputable def tII (K : PySem.W.Frag) : TS := tRet (tAndV (tIs K .int 0) (tNotV (tIs K .bool 0)))
theorem HX.ii (h : HX X T sc) {body : List Stmt} (k : okSs T sc iiB body = true) : PSs X body (tII X.K) := by
  obtain ⟨x, rfl, k2⟩ := ok_ret1 k
  exact pss_one (HX.ret (fun y hy => HX.and (fun y hy => h.isi hy) (fun y hy => HX.not (fun y hy => h.isi hy) hy) hy) k2)
/-- .. of _law_same -/
noncomputable abbrev smE : E := .boo true (.cons (.call 9 (.cons (.var 0) .nil)) (.cons (.cmp .eq (.var 0) (.var 1)) .nil))
noncomputable def tTru (K : PySem.W.Frag) (t : TE) : TT := fun σ H Q => t σ H fun x H' => ∃ k, TruV K x H' k ∧ Q k H'
noncomputable def tNo : TS := fun _ _ _ => False
noncomputable def tSm (K : PySem.W.Frag) : TS := tSeq (tIfS (tTest (tOp (fun x y H Q => y = .non ∧ Q (.bl (decide (x = .non))) H) (tVar 1) (tC .non))) tNo tNext) (tSeq (tIfS (tTru K (tIs K .bool 1)) tNo tNext) (tSeq (tIfS (tTru K (tIs K .int 1)) (tRet (tAndV (tQ spI1 (tCons (tVar 0) tNil)) (tOp rEq (tVar 0) (tVar 1)))) tNo) tNo))
theorem HX.ite (h : HX X T sc) {c : E} {a b : List S} {tc : TT} {ta tb : TS} (hc : ∀ y, okE T true sc c y = true → PT X y tc) (ha : ∀ y, okSs T sc a y = true → PSs X y ta) (hb : ∀ y, okSs T sc b y = true → PSs X y tb) {s : Stmt} (k : okS T sc (.ite c a b) s = true) : PS X s (tIfS tc ta tb) := by
  obtain ⟨x, xs, ys, p, rfl, h1⟩ := kIfS_inv (show kIfS s _ = true by rw [okS] at k; exact k)
  simp only [Bool.and_eq_true] at h1
  exact ps_if (hc x h1.1.1) (ha xs h1.1.2) (hb ys h1.2)
theorem HX.tis (h : HX X T sc) {u : Ty} {i : Nat} {x : Expr} (k : okE T true sc (.isi u (.var i)) x = true) : PT X x (tTru X.K (tIs X.K u i)) := by
  obtain ⟨k1, k2⟩ := gen_plain rfl k
  exact pt_truth (h.isi k2) (fun whole => plain_test k1 _ whole)
theorem HX.tnon (h : HX X T sc) {i : Nat} {x : Expr} (k : okE T true sc (.cmp .is (.var i) .non) x = true) : PT X x (tTest (tOp (fun x y H Q => y = .non ∧ Q (.bl (decide (x = .non))) H) (tVar i) (tC .non))) := by
  obtain ⟨y, op, z, p, rfl, h1⟩ := kCmp_inv k
  simp only [Bool.and_eq_true] at h1
  have e := of_decide_eq_true h1.1.1.1
  subst e
  obtain ⟨c, j, q, rfl, h2⟩ := kConst_inv h1.2
  cases c <;> first | (cases h2; done) | skip
  exact pt_cmpR op_isN (h.pvar h1.1.2) pe_non (marks_set h1.1.1.2 _)
theorem HX.sm (h : HX X T sc) (F : ∀ nm, T.fs 9 = some nm → HFn X nm) (hr : RoomH 1 X.A) (hp : ∃ p, p ∈ X.pn) {a b c r : List S} {body : List Stmt} (k : okSs T sc (.ite (.cmp .is (.var 1) .non) a [] :: .ite (.isi .bool (.var 1)) b [] :: .ite (.isi .int (.var 1)) [.ret smE] c :: r) body = true) : PSs X body (tSm X.K) := by
  obtain ⟨x1, ys1, rfl, k1, m1⟩ := ok_ite k
  obtain ⟨x2, ys2, rfl, k2, m2⟩ := ok_ite m1
  obtain ⟨x3, ys, rfl, k3, m3⟩ := ok_ite m2
  have nil : ∀ y, okSs T sc [] y = true → PSs X y tNext := fun y hy => by
    obtain rfl := ok_nil hy
    exact pss_nil
  refine pss_cons (h.ite (fun y hy => h.tnon hy) (fun y _ => dead y) nil k1) (pss_cons (h.ite (fun y hy => h.tis hy) (fun y _ => dead y) nil k2) (pss_cons (h.ite (fun y hy => h.tis hy) (fun y hy => ?_) (fun y _ => dead y) k3) (dead ys)))
  obtain ⟨x, rfl, k4⟩ := ok_ret1 hy
  exact pss_one (HX.ret (fun y hy => HX.and (fun y hy => h.call F hr hp hy) (fun y hy => h.eq hy) hy) k4)
theorem tII_ok {K : PySem.W.Frag} {N : List Str} {H : Hp} {D : Ends} {n : Int} (h : D.rt (.bl true) H) : tII K D (L2.start N [.int n]) H := by
  refine isT_int (i := 0) (n := n) rfl ⟨true, rfl, ?_⟩
  exact isT_int (i := 0) (n := n) (t := .bool) rfl ⟨false, rfl, h⟩
theorem tSm_ok {K : PySem.W.Frag} {N : List Str} {H : Hp} {D : Ends} {i j : Int} (h : D.rt (.bl (decide (i = j))) H) : tSm K D (L2.start N [.int i, .int j]) H := by
  refine ⟨_, rfl, rfl, _, rfl, ?_⟩
  rw [show decide ((V.int j) = V.non) = false from decide_eq_false fun z => by cases z]
  refine isT_int (i := 1) (n := j) (t := .bool) rfl ⟨false, rfl, ?_⟩
  refine isT_int (i := 1) (n := j) (t := .int) rfl ⟨true, rfl, ?_⟩
  refine ⟨_, rfl, ⟨i, rfl, true, rfl, ?_⟩⟩
  refine ⟨_, rfl, _, rfl, rfl, ?_⟩
  have e : decide (V.int i = V.int j) = decide (i = j) := decide_eq_decide.mpr ⟨fun z => by cases z; rfl, fun z => by rw [z]⟩
  rw [e]
  exact h
end
section
variable {P : Program} {w : World} {K : PySem.W.Frag} {mg : Str → Option Value} {base : Heap}
theorem ii_fn {x qual : Str} {params : Arguments} {body : List Stmt} {scope : Scope} {dvs : List V} {kws : List (Str × V)} {f : Addr} {fd : FuncData} {T : Tb} (F : FunD K x qual params body scope dvs kws f fd) {ps : List Str} (S : FnScope T.N ps scope) (hl : ps.length = 1) (blt : ∀ y ∈ blts, mg y = none) (k : okSs T scope iiB body = true) : FnQ P w K mg base 1 f fd ps spI1 := by
  refine fnq_of F S (fun vs H Q E h => ?_) fun cdv A outer s H vs Q E p hr hsp => ?_
  · obtain ⟨n, rfl, _⟩ := h
    exact hl.symm
  · obtain ⟨n, rfl, q⟩ := hsp
    have h : HX (cxH cx0 P w K mg base T.N qual scope f cdv A outer s H E p) T scope := ⟨rfl, rfl, blt⟩
    exact ⟨_, h.ii k, tII_ok q⟩
theorem sm_fn {x qual : Str} {params : Arguments} {body : List Stmt} {scope : Scope} {dvs : List V} {kws : List (Str × V)} {f : Addr} {fd : FuncData} {T : Tb} (F : FunD K x qual params body scope dvs kws f fd) {ps : List Str} (S : FnScope T.N ps scope) (hl : ps.length = 2) (blt : ∀ y ∈ blts, mg y = none) {a b c r : List DL.S}
    (hf : ∀ nm, T.fs 9 = some nm → ∃ (f : Addr) (fd : FuncData) (ps : List Str), mg nm = some (.ref f) ∧ PySem.W.keepIn K (.ref f) = true ∧ Binds K fd ps [] ∧ FnQ P w K mg base 1 f fd ps spI1)
    (k : okSs T scope (.ite (.cmp .is (.var 1) .non) a [] :: .ite (.isi .bool (.var 1)) b [] :: .ite (.isi .int (.var 1)) [.ret smE] c :: r) body = true) : FnQ P w K mg base 2 f fd ps spSm := by
  refine fnq_of F S (fun vs H Q E h => ?_) fun cdv A outer s H vs Q E p hr hsp => ?_
  · obtain ⟨i, j, rfl, _⟩ := h
    exact hl.symm
  · obtain ⟨i, j, rfl, q⟩ := hsp
    have h : HX (cxH cx0 P w K mg base T.N qual scope f cdv A outer s H E p) T scope := ⟨rfl, rfl, blt⟩
    exact ⟨_, h.sm hf hr ⟨p, List.mem_cons_self⟩ k, tSm_ok q⟩
end
end DL
/-! DL11: soundness of the check of expressions. -/
namespace DL
open PySem PySem.Spec PyProof.Rows L2
variable [TBS]
section
variable {B : Bx} {Y : Dl → Prop} {sc : Scope} {fc : Option Scope} {W : WX} {j : Nat} {C : XC} {T : Tb} {G : Gx}
theorem cm_of (g : Gy B Y sc fc W j) (o : Cm) : CmR B Y (cmOf o) o := by
  cases o with
  | eq => exact cm_eq g.room
  | ne => exact cm_ne g.room
  | lt => exact cm_lt
  | le => exact cm_le
  | gt => exact cm_gt
  | ge => exact cm_ge
  | is => exact cm_is
  | isnt => exact cm_isnt
  | isin => exact cm_in g.room
  | notin => exact cm_notin g.room
theorem gl_of (g : Gy B Y sc fc W j) {x : Str} (h : glB sc x = true) : ∀ δ, Y δ → Gl (cx B δ) x := fun δ hδ => by
  show δ.env.scope.names.lookup x = _
  rw [g.sc δ hδ]
  exact glB_inv h
theorem bin_of (g : Gy B Y sc fc W j) {o : Op2} {a b : Expr} {wa wb : Env → Sto → QD → Prop} {xq : QX} {pos : Pos} (ha : SE B Y W C xq a wa) (hb : SE B Y W C xq b wb) :
    SE B Y W C xq (.BinOp a (opOf o) b pos) (fun ρ St q => wa ρ St fun x S1 => wb ρ S1 fun y S2 => wBin o x y fun d => q d S2) := by
  cases o with
  | add => exact SE.add ha hb
  | sub => exact SE.sub ha hb
  | mul => exact SE.mul ha hb
  | fdiv => exact SE.fdiv ha hb
  | mod => exact SE.mod ha hb
theorem bif_of (D : Gd B C T G j) (g : Gy B Y sc fc W j) {f : Bf} {x : Str} {a : Expr} {wa : Env → Sto → QD → Prop} {xq : QX} {p pos : Pos} (hf : bfNm f = some x) (hg : ∀ δ, Y δ → Gl (cx B δ) x) (ha : SE B Y W C xq a wa) (st : notStar a = true) :
    SE B Y W C xq (.Call (.Name x p) [a] [] pos) (fun ρ St q => wa ρ St fun x S1 => wBf f x S1 fun d => q d S1) := by
  have hm : ∀ y, y ∈ blts → B.mg y = none := D.blt
  cases f with
  | len => cases hf; exact SE.len hg (hm _ (by decide +kernel)) ha st
  | abs => cases hf; exact SE.abs hg (hm _ (by decide +kernel)) ha st
  | int => cases hf; exact SE.intf hg (hm _ (by decide +kernel)) ha st
  | list => cases hf; exact SE.listf hg (hm _ (by decide +kernel)) ha st
  | tuple => cases hf; exact SE.tuplef hg (hm _ (by decide +kernel)) ha st
  | any => cases hf; exact SE.anyf g.calm hg (hm _ (by decide +kernel)) ha st
  | all => cases hf; exact SE.allf g.calm hg (hm _ (by decide +kernel)) ha st
  | sum => cases hf; exact SE.sumf g.calm hg (hm _ (by decide +kernel)) ha st
  | sorted => cases hf; exact SE.sortedf g.room hg (hm _ (by decide +kernel)) ha st
  | dict => cases hf
theorem fld_of (D : Gd B C T G j) {c f : Bs} (h : fldB T c f = true) : Cls B.K (He.ga B.K (mkS c)) ∧ NoAttr B.K (He.ga B.K (mkS c)) (mkS f) := by
  unfold fldB at h
  split at h
  · next fs e =>
    obtain ⟨k1, k2⟩ := D.cl c fs e
    exact ⟨k1, k2 f (List.contains_iff_mem.mp h)⟩
  · cases h
theorem ty_mem (u : Ty) : Str.ofString (tyNm u) ∈ blts := by cases u <;> decide +kernel
theorem no_marks {o q : CmpOp} {b c : Expr} (h : notSet b = true) (h2 : notSet c = true) : lastMarks [o, q] [b, c] = false := by
  show behindInMarks q c = false
  exact marks_set h2 q
end
set_option maxHeartbeats 0
mutual
theorem sE {B : Bx} {Y : Dl → Prop} {sc : Scope} {fc : Option Scope} {W : WX} {j : Nat} {C : XC} {T : Tb} {G : Gx} (D : Gd B C T G j) (g : Gy B Y sc fc W j) :
    ∀ (e : E) (x : Expr), okE T false sc e x = true → SE B Y W C G.xq x (wE G e)
  | .var i, x, h => by
    obtain ⟨y, p, rfl, h1⟩ := kName_inv h
    simp only [Bool.and_eq_true] at h1
    refine (SE.var (i := i) (by rw [D.N]; exact of_decide_eq_true h1.1.1) (fun δ hδ => by rw [g.sc δ hδ]; exact visB_inv h1.1.2) (okNm_inv h1.2).1 (okNm_inv h1.2).2).cg fun ρ St q w => ?_
    exact w
  | .non, x, h => by
    obtain ⟨c, k, p, rfl, h1⟩ := kConst_inv h
    cases c <;> first | (cases h1; done) | exact SE.non.cg fun ρ St q w => w
  | .bl b, x, h => by
    obtain ⟨c, k, p, rfl, h1⟩ := kConst_inv h
    cases c with
    | bool c =>
      have e : b = c := by simpa using h1
      subst e
      exact SE.bl.cg fun ρ St q w => w
    | _ => cases h1
  | .int i, x, h => by
    obtain ⟨c, k, p, rfl, h1⟩ := kConst_inv h
    cases c with
    | int c =>
      have e : i = c := of_decide_eq_true h1
      subst e
      exact SE.int.cg fun ρ St q w => w
    | _ => cases h1
  | .str s, x, h => by
    obtain ⟨c, k, p, rfl, h1⟩ := kConst_inv h
    cases c with
    | str z =>
      simp only [Bool.and_eq_true] at h1
      exact (SE.str (of_decide_eq_true h1.1) (Nat.le_of_lt (small1000 (of_decide_eq_true h1.2)))).cg fun ρ St q w => w
    | _ => cases h1
  | .glb nm d, x, h => by
    obtain ⟨y, p, rfl, h1⟩ := kName_inv h
    simp only [Bool.and_eq_true] at h1
    obtain ⟨⟨h3, h4⟩, h5⟩ := h1
    obtain ⟨u, v, hm, rv, is⟩ := D.gl _ _ (inGl_mem h5)
    exact (SE.glb (gl_of g h3) hm rv is (okNm_inv h4).1).cg fun ρ St q w => w
  | .tup es, x, h => by
    obtain ⟨xs, k, p, rfl, h1⟩ := kTuple_inv h
    simp only [Bool.and_eq_true] at h1
    exact (SE.tup (sEs D g es xs h1.1.2 h1.2) (of_decide_eq_true h1.1.1)).cg fun ρ St q w => w
  | .lst es, x, h => by
    obtain ⟨xs, p, rfl, h1⟩ := kList_inv h
    simp only [Bool.and_eq_true] at h1
    exact (SE.lst (sEs D g es xs h1.1.2 h1.2) (of_decide_eq_true h1.1.1)).cg fun ρ St q w => w
  | .newl es, x, h => by
    obtain ⟨xs, p, rfl, h1⟩ := kList_inv h
    simp only [Bool.and_eq_true] at h1
    exact (SE.newl (sEs D g es xs h1.1.2 h1.2) (of_decide_eq_true h1.1.1)).cg fun ρ St q w => w
  | .dct es, x, h => by
    obtain ⟨ks, xs, p, rfl, h1⟩ := kDict_inv h
    simp only [Bool.and_eq_true] at h1
    exact (SE.dct (sPs D g es ks xs p h1.2) (by rintro rfl; simp at h1) (of_decide_eq_true h1.1.2)).cg fun ρ St q w => w
  | .newk es, x, h => by
    obtain ⟨ks, xs, p, rfl, h1⟩ := kDict_inv h
    simp only [Bool.and_eq_true] at h1
    exact (SE.newk (sPs D g es ks xs p h1.2) (by rintro rfl; simp at h1) (of_decide_eq_true h1.1.2)).cg fun ρ St q w => w
  | .fmt a, x, h => by
    obtain ⟨y, p, rfl, h1⟩ := kFmt_inv (show kFmt x _ = true from h)
    exact (SE.fmt (sE D g a y h1)).cg fun ρ St q w => w
  | .fst es, x, h => by
    obtain ⟨xs, p, rfl, h1⟩ := kJs_inv (show kJs x _ = true from h)
    rw [Bool.and_eq_true] at h1
    exact (SE.fst (sJs D g es xs h1.2) (of_decide_eq_true h1.1)).cg fun ρ St q w => w
  | .newd, x, h => by
    obtain ⟨ks, xs, p, rfl, h1⟩ := kDict_inv h
    simp only [Bool.and_eq_true, List.isEmpty_iff] at h1
    obtain ⟨rfl, rfl⟩ := h1
    exact SE.newd.cg fun ρ St q w => w
  | .bin o a b, x, h => by
    obtain ⟨y, op, z, p, rfl, h1⟩ := kBin_inv h
    simp only [Bool.and_eq_true] at h1
    have e := of_decide_eq_true h1.1.1
    subst e
    exact (bin_of g (sE D g a y h1.1.2) (sE D g b z h1.2)).cg fun ρ St q w => w
  | .neg a, x, h => by
    obtain ⟨y, p, rfl, h1⟩ := kNeg_inv h
    exact (SE.neg (sE D g a y h1)).cg fun ρ St q w => w
  | .not a, x, h => by
    obtain ⟨y, p, rfl, h1⟩ := kNot_inv h
    exact (SE.not (sE D g a y h1)).cg fun ρ St q w => w
  | .boo an es, x, h => by
    obtain ⟨op, xs, p, rfl, h1⟩ := kBool_inv h
    simp only [Bool.and_eq_true] at h1
    exact (sBs D g es xs op p an h1.1.1 (by rintro rfl; simp at h1) h1.2).cg fun ρ St q w => w
  | .cmp o a b, x, h => by
    obtain ⟨y, op, z, p, rfl, h1⟩ := kCmp_inv h
    simp only [Bool.and_eq_true] at h1
    have e := of_decide_eq_true h1.1.1.1
    subst e
    exact (SE.cmp (cm_of g o) (marks_set h1.1.1.2 _) (sE D g a y h1.1.2) (sE D g b z h1.2)).cg fun ρ St q w => w
  | .chn o q a b c, x, h => by
    obtain ⟨y, op, z, op2, z2, p, rfl, h1⟩ := kChn_inv h
    simp only [Bool.and_eq_true] at h1
    obtain ⟨⟨⟨⟨⟨⟨e1, e2⟩, n1⟩, n2⟩, h2⟩, h3⟩, h4⟩ := h1
    have e1 := of_decide_eq_true e1
    have e2 := of_decide_eq_true e2
    subst e1; subst e2
    exact (SE.chn (cm_of g o) (cm_of g q) (no_marks n1 n2) (sE D g a y h2) (sE D g b z h3) (sE D g c z2 h4)).cg fun ρ St q w => w
  | .ite c a b, x, h => by
    obtain ⟨z, y, v, p, rfl, h1⟩ := kIf_inv h
    simp only [Bool.and_eq_true] at h1
    exact (SE.ite (sT D g c z h1.1.1.2) (sE D g a y h1.1.2) (sE D g b v h1.2)).cg fun ρ St q w => w
  | .idx a i, x, h => by
    obtain ⟨y, z, p, rfl, h1⟩ := kSub_inv h
    simp only [Bool.and_eq_true] at h1
    exact (SE.idx g.room (sE D g a y h1.1.2) (sE D g i z h1.2) (plain_ix h1.1.1)).cg fun ρ St q w => w
  | .sl a lo hi, x, h => by
    obtain ⟨y, z, p, rfl, h1⟩ := kSub_inv h
    simp only [Bool.and_eq_true] at h1
    obtain ⟨l, r, p2, rfl, h2⟩ := kSl_inv h1.2
    simp only [Bool.and_eq_true] at h2
    exact (SE.sl (sE D g a y h1.1) (sO D g lo l h2.1) (sO D g hi r h2.2)).cg fun ρ St q w => w
  | .call f es, x, h => by
    obtain ⟨nm, p, xs, q, rfl, h1⟩ := kCall_inv h
    simp only [Bool.and_eq_true] at h1
    obtain ⟨⟨⟨⟨⟨h2, h3⟩, h4⟩, h5⟩, h6⟩, h7⟩ := h1
    obtain ⟨fa, fd, ps, hm, hk, hb, F⟩ := D.fs f nm (of_decide_eq_true h2)
    cases xs with
    | nil => simp at h5
    | cons a xs =>
      exact (SE.call g.tk F g.room (gl_of g h3) hm hk hb (okNm_inv h4).1 (sEs D g es (a :: xs) h6 h7) h6).cg fun ρ St q w => w
  | .bif f a, x, h => by
    obtain ⟨nm, p, xs, q, rfl, h1⟩ := kCall_inv h
    obtain ⟨y, rfl, g1⟩ := one_inv h1
    simp only [Bool.and_eq_true] at g1
    obtain ⟨⟨⟨h2, h3⟩, h4⟩, h5⟩ := g1
    exact (bif_of D g (of_decide_eq_true h2) (gl_of g h3) (sE D g a y h5) h4).cg fun ρ St q w => w
  | .isi u a, x, h => by
    obtain ⟨nm, p, xs, q, rfl, h1⟩ := kCall_inv h
    obtain ⟨y, z, rfl, g1⟩ := two_inv h1
    obtain ⟨nm2, p2, rfl, g2⟩ := kName_inv g1
    simp only [Bool.and_eq_true] at g2
    obtain ⟨⟨⟨⟨⟨h2, h3⟩, h4⟩, h5⟩, h6⟩, h7⟩ := g2
    have e1 := of_decide_eq_true h2
    have e2 := of_decide_eq_true h3
    subst e1; subst e2
    exact (SE.isi (gl_of g h4) (D.blt _ (by decide +kernel)) (gl_of g h5) (D.blt _ (ty_mem u)) (sE D g a y h7) h6).cg fun ρ St q w => w
  | .lc elt tg it tt own, x, h => by
    obtain ⟨y, t, i, cs, scope, p, rfl, h1⟩ := kLc_inv h
    simp only [Bool.and_eq_true] at h1
    obtain ⟨⟨⟨⟨⟨h2, h3⟩, h4⟩, h5⟩, h6⟩, h7⟩ := h1
    have g2 := g.blk scope
    exact (SE.lc (vs := own) g.calm (by rw [D.N]; exact D.nd) (sI D g it t i h4) (fun δ hδ => by rw [g.sc δ hδ, D.N]; exact blkOk_by h3) (map_ownOf T.N own)
      (sG (own := some own) g2 D.N D.nd (fun i x _ h => List.contains_iff_mem.mp (show own.contains i = true from h)) tg t h5) (sTt D.nox g2 tt cs h6) (sE D.nox g2 elt y h7) h2).cg fun ρ St q w => w
  | .frz a, x, h => by
    have h1 : (okE T false sc a x && (!false || plainTest x)) = true := h
    rw [Bool.and_eq_true] at h1
    exact (SE.frz (sE D g a x h1.1)).cg fun ρ St q w => w
  | .b1 f a, x, h => by
    obtain ⟨nm, p, xs, q, rfl, h1⟩ := kCall_inv h
    obtain ⟨y, rfl, g1⟩ := one_inv h1
    simp only [Bool.and_eq_true] at g1
    obtain ⟨⟨⟨h2, h3⟩, h4⟩, h5⟩ := g1
    have e1 := of_decide_eq_true h2
    subst e1
    exact (SE.b1 g.calm (by cases f <;> rfl) (gl_of g h3) (D.blt _ (by cases f <;> decide +kernel)) (sE D g a y h5) h4).cg fun ρ St q w => w
  | .fld c a f, x, h => by
    obtain ⟨y, m, p, rfl, h1⟩ := kAttr_inv h
    simp only [Bool.and_eq_true] at h1
    obtain ⟨⟨⟨h2, h3⟩, h4⟩, h5⟩ := h1
    have e1 := of_decide_eq_true h2
    subst e1
    obtain ⟨k1, k2⟩ := fld_of D h4
    exact (SE.fld k1 k2 (sE D g a y h5) h3).cg fun ρ St q w => w
  | .mk c i es, x, h => by
    obtain ⟨nm, p, xs, q, rfl, h1⟩ := kCall_inv h
    simp only [Bool.and_eq_true, Bool.not_eq_true'] at h1
    obtain ⟨⟨⟨⟨⟨⟨h2, h3⟩, h4⟩, h5⟩, h6⟩, h7⟩, h8⟩ := h1
    have e1 := of_decide_eq_true h2
    subst e1
    obtain ⟨f, fd, ps, j', ej, m1, m2, m3, m4⟩ := D.mkr i c (of_decide_eq_true h3)
    cases xs with
    | nil => simp at h6
    | cons y ys => exact (SE.made g.tk m4 (fun δ hδ => by rw [← ej]; exact g.room δ hδ) m1 (gl_of g h4) m2 m3 (okNm_inv h5).1 (sEs D g es (y :: ys) h7 h8) h7).cg fun ρ St q w => w
  | .meth c m i a es, x, h => by
    obtain ⟨y, n, p, xs, q, rfl, hl, hc, h1⟩ := kMeth_inv h
    simp only [Bool.and_eq_true] at h1
    obtain ⟨⟨⟨⟨⟨h2, h3⟩, h4⟩, h5⟩, h6⟩, h7⟩ := h1
    have e1 := of_decide_eq_true h2
    subst e1
    obtain ⟨k1, f, fd, ps, m1, m2, m3⟩ := D.ms i c m (of_decide_eq_true h3)
    cases xs with
    | nil =>
      cases es with
      | nil => exact (SE.meth0 g.tk m3 g.room k1 m1 m2 (sE D g a y h6) hc hl).cg fun ρ St q w => w
      | cons => exact absurd h7 (by simp [okEs])
    | cons z zs => exact (SE.meth g.tk m3 g.room k1 m1 m2 (sE D g a y h6) (sEs D g es (z :: zs) h4 h7) h4 (of_decide_eq_true h5) hc hl).cg fun ρ St q w => w
  | .dgt a k d, x, h => by
    obtain ⟨y, m, p, xs, q, rfl, hl, hc, h1⟩ := kMeth_inv h
    obtain ⟨u, v, rfl, g1⟩ := two_inv h1
    simp only [Bool.and_eq_true] at g1
    obtain ⟨⟨⟨⟨⟨h2, h3⟩, h4⟩, h5⟩, h6⟩, h7⟩ := g1
    have e1 := of_decide_eq_true h2
    subst e1
    exact (SE.dgt g.room (sE D g a y h5) (sE D g k u h6) (sE D g d v h7) hc h3 h4 hl).cg fun ρ St q w => w
  | .repN a b, x, h => by
    obtain ⟨y, op, z, p, rfl, h1⟩ := kBin_inv h
    simp only [Bool.and_eq_true] at h1
    have e := of_decide_eq_true h1.1.1
    subst e
    exact (SE.repN (sE D g a y h1.1.2) (sE D g b z h1.2)).cg fun ρ St q w => w
  termination_by e => (sizeOf e, 0)
theorem sT {B : Bx} {Y : Dl → Prop} {sc : Scope} {fc : Option Scope} {W : WX} {j : Nat} {C : XC} {T : Tb} {G : Gx} (D : Gd B C T G j) (g : Gy B Y sc fc W j) :
    ∀ (e : E) (x : Expr), okE T true sc e x = true → ST B Y W C G.xq x (wT G e)
  | .not a, x, h => by
    obtain ⟨y, p, rfl, h1⟩ := kNot_inv h
    exact (ST.not (sT D g a y h1)).cg fun ρ St q w => w
  | .boo an es, x, h => by
    obtain ⟨op, xs, p, rfl, h1⟩ := kBool_inv h
    simp only [Bool.and_eq_true] at h1
    exact (SW.st (sWs D g es xs op p an h1.1.1 (by rintro rfl; simp at h1) h1.2)).cg fun ρ St q w => w
  | .cmp o a b, x, h => by
    obtain ⟨y, op, z, p, rfl, h1⟩ := kCmp_inv h
    simp only [Bool.and_eq_true] at h1
    have e := of_decide_eq_true h1.1.1.1
    subst e
    exact (ST.cmp (cm_of g o) (marks_set h1.1.1.2 _) (sE D g a y h1.1.2) (sE D g b z h1.2)).cg fun ρ St q w => w
  | .chn o q a b c, x, h => by
    obtain ⟨y, op, z, op2, z2, p, rfl, h1⟩ := kChn_inv h
    simp only [Bool.and_eq_true] at h1
    obtain ⟨⟨⟨⟨⟨⟨e1, e2⟩, n1⟩, n2⟩, h2⟩, h3⟩, h4⟩ := h1
    have e1 := of_decide_eq_true e1
    have e2 := of_decide_eq_true e2
    subst e1; subst e2
    exact (ST.chn (cm_of g o) (cm_of g q) (no_marks n1 n2) (sE D g a y h2) (sE D g b z h3) (sE D g c z2 h4)).cg fun ρ St q w => w
  | .ite c a b, x, h => by
    obtain ⟨z, y, v, p, rfl, h1⟩ := kIf_inv h
    simp at h1
  | .var a, x, h => (ST.val (sE D g _ x (gen_plain rfl h).2) (plain_test (gen_plain rfl h).1)).cg fun ρ St q w => w
  | .non, x, h => (ST.val (sE D g _ x (gen_plain rfl h).2) (plain_test (gen_plain rfl h).1)).cg fun ρ St q w => w
  | .bl a, x, h => (ST.val (sE D g _ x (gen_plain rfl h).2) (plain_test (gen_plain rfl h).1)).cg fun ρ St q w => w
  | .int a, x, h => (ST.val (sE D g _ x (gen_plain rfl h).2) (plain_test (gen_plain rfl h).1)).cg fun ρ St q w => w
  | .str a, x, h => (ST.val (sE D g _ x (gen_plain rfl h).2) (plain_test (gen_plain rfl h).1)).cg fun ρ St q w => w
  | .glb a b, x, h => (ST.val (sE D g _ x (gen_plain rfl h).2) (plain_test (gen_plain rfl h).1)).cg fun ρ St q w => w
  | .tup a, x, h => (ST.val (sE D g _ x (gen_plain rfl h).2) (plain_test (gen_plain rfl h).1)).cg fun ρ St q w => w
  | .lst a, x, h => (ST.val (sE D g _ x (gen_plain rfl h).2) (plain_test (gen_plain rfl h).1)).cg fun ρ St q w => w
  | .newl a, x, h => (ST.val (sE D g _ x (gen_plain rfl h).2) (plain_test (gen_plain rfl h).1)).cg fun ρ St q w => w
  | .dct a, x, h => (ST.val (sE D g _ x (gen_plain rfl h).2) (plain_test (gen_plain rfl h).1)).cg fun ρ St q w => w
  | .newk a, x, h => (ST.val (sE D g _ x (gen_plain rfl h).2) (plain_test (gen_plain rfl h).1)).cg fun ρ St q w => w
  | .fmt a, x, h => by
    have h : (!true && _) = true := h
    cases h
  | .fst a, x, h => by
    have h : (!true && _) = true := h
    cases h
  | .newd, x, h => (ST.val (sE D g _ x (gen_plain rfl h).2) (plain_test (gen_plain rfl h).1)).cg fun ρ St q w => w
  | .bin a b c, x, h => (ST.val (sE D g _ x (gen_plain rfl h).2) (plain_test (gen_plain rfl h).1)).cg fun ρ St q w => w
  | .neg a, x, h => (ST.val (sE D g _ x (gen_plain rfl h).2) (plain_test (gen_plain rfl h).1)).cg fun ρ St q w => w
  | .idx a b, x, h => (ST.val (sE D g _ x (gen_plain rfl h).2) (plain_test (gen_plain rfl h).1)).cg fun ρ St q w => w
  | .sl a b c, x, h => (ST.val (sE D g _ x (gen_plain rfl h).2) (plain_test (gen_plain rfl h).1)).cg fun ρ St q w => w
  | .call a b, x, h => (ST.val (sE D g _ x (gen_plain rfl h).2) (plain_test (gen_plain rfl h).1)).cg fun ρ St q w => w
  | .bif a b, x, h => (ST.val (sE D g _ x (gen_plain rfl h).2) (plain_test (gen_plain rfl h).1)).cg fun ρ St q w => w
  | .isi a b, x, h => (ST.val (sE D g _ x (gen_plain rfl h).2) (plain_test (gen_plain rfl h).1)).cg fun ρ St q w => w
  | .lc a b c d e, x, h => (ST.val (sE D g _ x (gen_plain rfl h).2) (plain_test (gen_plain rfl h).1)).cg fun ρ St q w => w
  | .frz a, x, h => (ST.val (sE D g _ x (gen_plain rfl h).2) (plain_test (gen_plain rfl h).1)).cg fun ρ St q w => w
  | .b1 a b, x, h => (ST.val (sE D g _ x (gen_plain rfl h).2) (plain_test (gen_plain rfl h).1)).cg fun ρ St q w => w
  | .fld a b c, x, h => (ST.val (sE D g _ x (gen_plain rfl h).2) (plain_test (gen_plain rfl h).1)).cg fun ρ St q w => w
  | .mk a b c, x, h => (ST.val (sE D g _ x (gen_plain rfl h).2) (plain_test (gen_plain rfl h).1)).cg fun ρ St q w => w
  | .dgt a b c, x, h => (ST.val (sE D g _ x (gen_plain rfl h).2) (plain_test (gen_plain rfl h).1)).cg fun ρ St q w => w
  | .repN a b, x, h => (ST.val (sE D g _ x (gen_plain rfl h).2) (plain_test (gen_plain rfl h).1)).cg fun ρ St q w => w
  | .meth a b c d e, x, h => (ST.val (sE D g _ x (gen_plain rfl h).2) (plain_test (gen_plain rfl h).1)).cg fun ρ St q w => w
  termination_by e => (sizeOf e, 1)
theorem sEs {B : Bx} {Y : Dl → Prop} {sc : Scope} {fc : Option Scope} {W : WX} {j : Nat} {C : XC} {T : Tb} {G : Gx} (D : Gd B C T G j) (g : Gy B Y sc fc W j) :
    ∀ (es : Es) (xs : List Expr), xs.all notStar = true → okEs T sc es xs = true → SA B Y W C G.xq xs (wEs G es)
  | .nil, [], _, h => SA.nil.cg fun ρ St q w => w
  | .nil, _ :: _, _, h => by cases h
  | .cons a es, [], _, h => by cases h
  | .cons a es, x :: xs, n, h => by
    have h1 : (okE T false sc a x && okEs T sc es xs) = true := h
    rw [Bool.and_eq_true] at h1
    rw [List.all_cons, Bool.and_eq_true] at n
    exact (SA.cons (sE D g a x h1.1) (sEs D g es xs n.2 h1.2) (star_cons n.1)).cg fun ρ St q w => w
  termination_by es => (sizeOf es, 0)
theorem sJs {B : Bx} {Y : Dl → Prop} {sc : Scope} {fc : Option Scope} {W : WX} {j : Nat} {C : XC} {T : Tb} {G : Gx} (D : Gd B C T G j) (g : Gy B Y sc fc W j) :
    ∀ (es : Es) (xs : List Expr), okEs T sc es xs = true → SJ B Y W C G.xq xs (fun acc => wJs G acc es)
  | .nil, [], h => SJ.nil.cg fun acc ρ St q w => w
  | .nil, _ :: _, h => by cases h
  | .cons a es, [], h => by cases h
  | .cons a es, x :: xs, h => by
    have h1 : (okE T false sc a x && okEs T sc es xs) = true := h
    rw [Bool.and_eq_true] at h1
    exact (SJ.cons (sE D g a x h1.1) (sJs D g es xs h1.2)).cg fun acc ρ St q w => w
  termination_by es => (sizeOf es, 0)
theorem sPs {B : Bx} {Y : Dl → Prop} {sc : Scope} {fc : Option Scope} {W : WX} {j : Nat} {C : XC} {T : Tb} {G : Gx} (D : Gd B C T G j) (g : Gy B Y sc fc W j) :
    ∀ (es : Es) (ks : List (Option Expr)) (xs : List Expr) (pos : Pos), okPs T sc es ks xs = true → SPp B Y W C G.xq pos ks xs (wEs G es)
  | .nil, [], [], pos, h => SPp.nil.cg fun ρ St q w => w
  | .nil, [], _ :: _, pos, h => by cases h
  | .nil, _ :: _, _, pos, h => by cases h
  | .cons a .nil, _, _, pos, h => by cases h
  | .cons a (.cons b es), [], _, pos, h => by cases h
  | .cons a (.cons b es), none :: _, _, pos, h => by cases h
  | .cons a (.cons b es), some _ :: _, [], pos, h => by cases h
  | .cons a (.cons b es), some x :: ks, y :: ys, pos, h => by
    have h1 : (okE T false sc a x && okE T false sc b y && okPs T sc es ks ys) = true := h
    simp only [Bool.and_eq_true] at h1
    exact (SPp.cons (sE D g a x h1.1.1) (sE D g b y h1.1.2) (sPs D g es ks ys pos h1.2)).cg fun ρ St q w => w
  termination_by es => (sizeOf es, 0)
theorem sBs {B : Bx} {Y : Dl → Prop} {sc : Scope} {fc : Option Scope} {W : WX} {j : Nat} {C : XC} {T : Tb} {G : Gx} (D : Gd B C T G j) (g : Gy B Y sc fc W j) :
    ∀ (es : Es) (xs : List Expr) (op : BoolOp) (pos : Pos) (an : Bool), ((match op with | .And => true | .Or => false) == an) = true → xs ≠ [] → okBs T false sc es xs = true → SE B Y W C G.xq (.BoolOp op xs pos) (wB G false an es)
  | .nil, [], op, pos, an, e, n, h => absurd rfl n
  | .nil, _ :: _, op, pos, an, e, n, h => by cases h
  | .cons a es, [], op, pos, an, e, n, h => by cases h
  | .cons a .nil, x :: xs, op, pos, an, e, n, h => by
    have h1 : (okE T false sc a x && okBs T false sc .nil xs) = true := h
    rw [Bool.and_eq_true] at h1
    cases xs with
    | nil => exact (SE.bool1 (sE D g a x h1.1)).cg fun ρ St q w => w
    | cons => exact absurd h1.2 (by simp [okBs])
  | .cons a (.cons b es), x :: xs, op, pos, an, e, n, h => by
    have h1 : (okE T false sc a x && okBs T false sc (.cons b es) xs) = true := h
    rw [Bool.and_eq_true] at h1
    cases xs with
    | nil => exact absurd h1.2 (by simp [okBs])
    | cons y ys =>
      have r := sBs D g (.cons b es) (y :: ys) op pos an e (by simp) h1.2
      cases op with
      | And =>
        have e : an = true := by simpa using e
        subst e
        exact (SE.and (sE D g a x h1.1) r).cg fun ρ St q w => w
      | Or =>
        have e : an = false := by simpa using e
        subst e
        exact (SE.or (sE D g a x h1.1) r).cg fun ρ St q w => w
  termination_by es => (sizeOf es, 0)
theorem sWs {B : Bx} {Y : Dl → Prop} {sc : Scope} {fc : Option Scope} {W : WX} {j : Nat} {C : XC} {T : Tb} {G : Gx} (D : Gd B C T G j) (g : Gy B Y sc fc W j) :
    ∀ (es : Es) (xs : List Expr) (op : BoolOp) (pos : Pos) (an : Bool), ((match op with | .And => true | .Or => false) == an) = true → xs ≠ [] → okBs T true sc es xs = true → SW B Y W C G.xq (.BoolOp op xs pos) (fun ρ St Q => wB G true an es ρ St (mB Q))
  | .nil, [], op, pos, an, e, n, h => absurd rfl n
  | .nil, _ :: _, op, pos, an, e, n, h => by cases h
  | .cons a es, [], op, pos, an, e, n, h => by cases h
  | .cons a .nil, x :: xs, op, pos, an, e, n, h => by
    have h1 : (okE T true sc a x && okBs T true sc .nil xs) = true := h
    rw [Bool.and_eq_true] at h1
    cases xs with
    | nil => cases op with
      | And => exact (SW.and1 (sT D g a x h1.1)).cg fun ρ St q w => w
      | Or => exact (SW.or1 (sT D g a x h1.1)).cg fun ρ St q w => w
    | cons => exact absurd h1.2 (by simp [okBs])
  | .cons a (.cons b es), x :: xs, op, pos, an, e, n, h => by
    have h1 : (okE T true sc a x && okBs T true sc (.cons b es) xs) = true := h
    rw [Bool.and_eq_true] at h1
    cases xs with
    | nil => exact absurd h1.2 (by simp [okBs])
    | cons y ys =>
      have r := sWs D g (.cons b es) (y :: ys) op pos an e (by simp) h1.2
      cases op with
      | And =>
        have e : an = true := by simpa using e
        subst e
        exact (SW.and (sT D g a x h1.1) r).cg fun ρ St q w => w
      | Or =>
        have e : an = false := by simpa using e
        subst e
        exact (SW.or (sT D g a x h1.1) r).cg fun ρ St q w => w
  termination_by es => (sizeOf es, 0)
theorem sTt {B : Bx} {Y : Dl → Prop} {sc : Scope} {fc : Option Scope} {W : WX} {j : Nat} {C : XC} {T : Tb} {G : Gx} (D : Gd B C T G j) (g : Gy B Y sc fc W j) :
    ∀ (es : Es) (xs : List Expr), okTt T sc es xs = true → STs B Y W C G.xq xs (wTs G es)
  | .nil, [], h => STs.nil.cg fun ρ St q w => w
  | .nil, _ :: _, h => by cases h
  | .cons a .nil, [], h => by cases h
  | .cons a .nil, [x], h => (STs.one (sT D g a x h)).cg fun ρ St q w => w
  | .cons a .nil, _ :: _ :: _, h => by cases h
  | .cons a (.cons _ _), _, h => by cases h
  termination_by es => (sizeOf es, 0)
theorem sO {B : Bx} {Y : Dl → Prop} {sc : Scope} {fc : Option Scope} {W : WX} {j : Nat} {C : XC} {T : Tb} {G : Gx} (D : Gd B C T G j) (g : Gy B Y sc fc W j) :
    ∀ (es : Eo) (xs : Option Expr), okO T sc es xs = true → SO B Y W C G.xq xs (wEo G es)
  | .none, none, h => SO.none.cg fun ρ St q w => w
  | .none, some _, h => by cases h
  | .some a, none, h => by cases h
  | .some a, some x, h => (SO.some (sE D g a x h)).cg fun ρ St q w => w
  termination_by es => (sizeOf es, 0)
theorem sI {B : Bx} {Y : Dl → Prop} {sc : Scope} {fc : Option Scope} {W : WX} {j : Nat} {C : XC} {T : Tb} {G : Gx} (D : Gd B C T G j) (g : Gy B Y sc fc W j) :
    ∀ (it : Wk) (t x : Expr), okWk T sc it t x = true → SI B Y W C G.xq t x (wIt G it)
  | .over a, t, x, h => (SI.over (sE D g a x h)).cg fun ρ St q w => w
  | .rng1 a, t, x, h => by
    obtain ⟨nm, p, xs, q, rfl, h1⟩ := kCall_inv h
    obtain ⟨y, rfl, g1⟩ := one_inv h1
    simp only [Bool.and_eq_true] at g1
    obtain ⟨⟨⟨h2, h3⟩, h4⟩, h5⟩ := g1
    have e1 := of_decide_eq_true h2
    subst e1
    exact (SI.rng1 (gl_of g h3) (D.blt _ (by decide +kernel)) (sE D g a y h5) h4).cg fun ρ St q w => w
  | .rng2 a b, t, x, h => by
    obtain ⟨nm, p, xs, q, rfl, h1⟩ := kCall_inv h
    obtain ⟨y, z, rfl, g1⟩ := two_inv h1
    simp only [Bool.and_eq_true] at g1
    obtain ⟨⟨⟨⟨⟨h2, h3⟩, h4⟩, h5⟩, h6⟩, h7⟩ := g1
    have e1 := of_decide_eq_true h2
    subst e1
    exact (SI.rng2 (gl_of g h3) (D.blt _ (by decide +kernel)) (sE D g a y h6) (sE D g b z h7) h4 h5).cg fun ρ St q w => w
  | .enum a, t, x, h => by
    obtain ⟨ts, k, p0, rfl, h0⟩ := kTuple_inv h
    obtain ⟨nm, p, xs, q, rfl, h1⟩ := kCall_inv h0
    obtain ⟨y, rfl, g1⟩ := one_inv h1
    simp only [Bool.and_eq_true] at g1
    obtain ⟨⟨⟨h2, h3⟩, h4⟩, h5⟩ := g1
    have e1 := of_decide_eq_true h2
    subst e1
    exact (SI.enum (gl_of g h3) (D.blt _ (by decide +kernel)) (sE D g a y h5) h4).cg fun ρ St q w => w
  termination_by it => (sizeOf it, 0)
end
end DL
/-! DL12: soundness of the check of statements; defs; programs. -/
namespace DL
open PySem PySem.Spec PyProof.Rows L2
variable [TBS]
section
variable {B : Bx} {Y : Dl → Prop} {W : WX} {C : XC} {xq : QX} {vs : List Nat}
theorem SS.cg {x : Stmt} {w w' : Env → Sto → Ks → Prop} (h : SS B Y W C xq vs x w) (k : ∀ ρ St q, w' ρ St q → w ρ St q) : SS B Y W C xq vs x w' := by
  obtain ⟨t, p, kk⟩ := h.ex
  exact ⟨⟨t, p, fun ρ St F σ H q E r e x w => kk ρ St F σ H q E r e x (k _ _ _ w)⟩⟩
theorem SSs.cg {x : List Stmt} {w w' : Env → Sto → Ks → Prop} (h : SSs B Y W C xq vs x w) (k : ∀ ρ St q, w' ρ St q → w ρ St q) : SSs B Y W C xq vs x w' := by
  obtain ⟨t, p, kk⟩ := h.ex
  exact ⟨⟨t, p, fun ρ St F σ H q E r e x w => kk ρ St F σ H q E r e x (k _ _ _ w)⟩⟩
end
section
variable {B : Bx} {Y : Dl → Prop} {sc : Scope} {W : WX} {j : Nat} {C : XC} {T : Tb} {G : Gx}
theorem aug_ok {i : Nat} {x : Str} {px pos : Pos} {o : Op2} {a : Expr} {wa : Env → Sto → QD → Prop} {vs : List Nat} {xq : QX} (hp : isPM o = true) (hN : B.N.Nodup) (hi : B.N[i]? = some x) (hx : ∀ δ, Y δ → Loc δ.env.scope x ∧ (δ.fn x = true ∨ δ.env.scope.names.lookup x = some .local)) (hv : i ∈ vs)
    (ha : SE B Y W C xq a wa) : SS B Y W C xq vs (.AugAssign (.Name x px) (opOf o) a pos) (fun ρ St k => ∃ d, get ρ i = some d ∧ wa ρ St fun y S1 => wAug o d y fun e => k.nx (put ρ i e) S1) := by
  cases o with
  | add =>
    refine SS.aug (ti := ipI fun i j => i + j) (z := wAug .add) hN hi hx hv (fun δ _ => ip_add) ha fun F St H v u x y q Q r ix iy w k => ?_
    cases ix with
    | int i => cases iy with
      | int j => exact ⟨i, j, rfl, rfl, k _ F _ H Fr.refl r (.int _) w⟩
      | _ => exact False.elim w
    | _ => exact False.elim (by cases iy <;> exact w)
  | sub =>
    refine SS.aug (ti := ipI fun i j => i - j) (z := wAug .sub) hN hi hx hv (fun δ _ => ip_sub) ha fun F St H v u x y q Q r ix iy w k => ?_
    cases ix with
    | int i => cases iy with
      | int j => exact ⟨i, j, rfl, rfl, k _ F _ H Fr.refl r (.int _) w⟩
      | _ => exact False.elim w
    | _ => exact False.elim (by cases iy <;> exact w)
  | _ => cases hp
theorem locB_inv {sc : Scope} {x : Str} (h : locB sc x = true) : sc.names.lookup x = some .local := by
  unfold locB at h; split at h
  · assumption
  · cases h
theorem swaps_two {x y : Str} {px py p1 p2 : Pos} {k1 k2 : Nat} {a b : Expr} {env : PySem.Env} (kd : env.scope.kind = .function) (hx : env.scope.names.lookup x = some .local) (hy : env.scope.names.lookup y = some .local) (hl : (py.line == px.line) = true) (hne : (x == y) = false)
    (sa : notStar a = true) (sb : notStar b = true) (hf : [a, b].all (foldedForSure 8) = false) (hc : [a, b].all (constantsAlone 8) = false) :
    swappedStores [.Tuple [.Name x px, .Name y py] k1 p1] (.Tuple [a, b] k2 p2) env = pure (some [x, y]) := by
  have hb : env.blockKind = .function := by unfold PySem.Env.blockKind; rw [kd]; rfl
  have kx : env.kindOf x = some .local := hx
  have ky : env.kindOf y = some .local := hy
  have hl' : py.line = px.line := by simpa using hl
  have hn' : ¬ x = y := by simpa using hne
  have hyx : (y == x) = false := beq_eq_false_iff_ne.mpr fun e => hn' e.symm
  rw [List.all_cons, List.all_cons, List.all_nil, Bool.and_true] at hf hc
  simp [swappedStores, hb, kx, ky, hl', Expr.pos, List.filterMap, List.any, hf, hc, hyx, List.eraseDups, List.eraseDupsBy, List.eraseDupsBy.loop]
  rintro (h | h)
  · cases a <;> first | (cases h; done) | (cases sa; done)
  · cases b <;> first | (cases h; done) | (cases sb; done)
mutual
theorem okTg_own {N : List Str} {sc : Scope} {fc : Option Scope} {vs : List Nat} : ∀ (t : Tg) (e : Expr), okTg N sc fc none t e = true → (∀ i ∈ asgTg t, i ∈ vs) → okTg N sc fc (some vs) t e = true
  | .nm i, e, h, m => by
    obtain ⟨x, p, rfl, h1⟩ := kName_inv h
    simp only [Bool.and_eq_true] at h1
    show (decide (N[i]? = some x) && stoB sc fc x && ownB (some vs) i) = true
    simp only [Bool.and_eq_true]
    exact ⟨h1.1, List.contains_iff_mem.mpr (m i (by simp [asgTg]))⟩
  | .tup ts, e, h, m => by
    obtain ⟨es, k, p, rfl, h1⟩ := kTuple_inv h
    rw [Bool.and_eq_true] at h1
    show (es.all notStar && okTgs N sc fc (some vs) ts es) = true
    rw [Bool.and_eq_true]
    exact ⟨h1.1, okTgs_own ts es h1.2 m⟩
theorem okTgs_own {N : List Str} {sc : Scope} {fc : Option Scope} {vs : List Nat} : ∀ (t : Tgs) (e : List Expr), okTgs N sc fc none t e = true → (∀ i ∈ asgTgs t, i ∈ vs) → okTgs N sc fc (some vs) t e = true
  | .nil, [], h, m => h
  | .nil, _ :: _, h, m => by cases h
  | .cons t ts, [], h, m => by cases h
  | .cons t ts, e :: es, h, m => by
    have h' : (okTg N sc fc none t e && okTgs N sc fc none ts es) = true := h
    rw [Bool.and_eq_true] at h'
    show (okTg N sc fc (some vs) t e && okTgs N sc fc (some vs) ts es) = true
    rw [Bool.and_eq_true]
    exact ⟨okTg_own t e h'.1 fun i hi => m i (List.mem_append_left _ hi), okTgs_own ts es h'.2 fun i hi => m i (List.mem_append_right _ hi)⟩
end
theorem sGv {fc : Option Scope} (g : Gy B Y sc fc W j) {N : List Str} (hN : B.N = N) (nd : N.Nodup) {vs : List Nat} (t : Tg) (e : Expr) (h : okTg N sc fc none t e = true) (m : ∀ i ∈ asgTg t, i ∈ vs) : SG B Y e vs (bindT t) :=
  sG g hN nd (own := some vs) (fun i x _ h => List.contains_iff_mem.mp h) t e (okTg_own t e h m)
theorem Gy.tr {fc : Option Scope} (g : Gy B Y sc fc W j) (W' : WX) : Gy B (trY B Y W') sc fc W' j := by
  refine ⟨?_, ?_, ?_, ?_, ?_, fun h => (g.lam h).imp ?_⟩
  · rintro _ ⟨δ, pn, xe, hδ, _, _, rfl⟩; exact g.calm δ hδ
  · rintro _ ⟨δ, pn, xe, hδ, _, _, rfl⟩; exact g.room δ hδ
  · rintro _ ⟨δ, pn, xe, hδ, _, _, rfl⟩; exact g.sc δ hδ
  · rintro _ ⟨δ, pn, xe, hδ, _, _, rfl⟩; exact g.fn δ hδ
  · rintro _ ⟨δ, pn, xe, hδ, tk, _, rfl⟩; exact tk
  · rintro _ ⟨δ, pn, xe, hδ, _, _, rfl⟩; exact ⟨δ, hδ, rfl, rfl⟩
/-- the def's context: its tables -/
noncomputable def TabAt (B : Bx) (env0 : PySem.Env) : Prop := ∃ (cc P : Addr) (nm : Nat → Nat → Str), LamX.TabB B.base B.mg cc P ∧ env0.code = .ref cc ∧ (P, nm) ∈ TBS.T ∧ (∀ l c, nm l c = env0.qual ++ stepS) ∧ ∀ p ∈ TBS.T, p.1 = P → p.2 = nm
structure Gn (B : Bx) (Y : Dl → Prop) (T : Tb) : Prop where
  env : ∃ env0 : PySem.Env, (∀ δ, Y δ → δ.env = env0) ∧ (T.fc = none → (∃ n fr st, T.nd n fr st = true) → TabAt B env0)
theorem Gn.tr (n : Gn B Y T) (W' : WX) : Gn B (trY B Y W') T := by
  obtain ⟨env0, h1, h2⟩ := n.env
  refine ⟨env0, ?_, h2⟩
  rintro _ ⟨δ, pn, xe, hδ, _, _, rfl⟩
  exact h1 δ hδ
theorem po_tr (W' : WX) : ∀ δ, trY B Y W' δ → PassesOwn (model B.prog B.w) δ.A δ.env δ.xe := by
  rintro _ ⟨δ, pn, xe, hδ, _, po, rfl⟩; exact po
theorem fr_tr (fr : ∀ δ, Y δ → δ.stack = δ.env :: δ.outer ∧ δ.env.frame = some δ.env.locals) (W' : WX) : ∀ δ, trY B Y W' δ → δ.stack = δ.env :: δ.outer ∧ δ.env.frame = some δ.env.locals := by
  rintro _ ⟨δ, pn, xe, hδ, _, _, rfl⟩; exact fr δ hδ
noncomputable def Gx.xat (G : Gx) (qx : QX) : Gx := { G with xq := qx }
theorem Gd.xat (D : Gd B C T G j) (qx : QX) : Gd B C T (G.xat qx) j := ⟨D.N, D.nd, D.blt, D.fs, D.gl, D.wd, D.xf, D.xi, D.xp, D.xn, D.dp, D.cl, D.ms, D.mkr, D.fk, D.hs, D.bs, D.ns, D.lmB, D.ls, D.hsm⟩
theorem isNone_inv {α : Type} {o : Option α} (h : isNone o = true) : o = none := by cases o <;> first | rfl | cases h
mutual
theorem sS {B : Bx} {Y : Dl → Prop} {sc : Scope} {W : WX} {j : Nat} {C : XC} {T : Tb} {G : Gx} (D : Gd B C T G j) (g : Gy B Y sc T.fc W j) (gn : Gn B Y T) (po : ∀ δ, Y δ → PassesOwn (model B.prog B.w) δ.A δ.env δ.xe) (fr : ∀ δ, Y δ → δ.stack = δ.env :: δ.outer ∧ δ.env.frame = some δ.env.locals) (kd : sc.kind = .function) :
    ∀ (s : S) (x : Stmt) (vs : List Nat), okS T sc s x = true → (∀ i ∈ asgS s, i ∈ vs) → SS B Y W C G.xq vs x (wS G s)
  | .set t e, x, vs, h, hv => by
    obtain ⟨y, z, p, rfl, h1⟩ := kAsg_inv h
    simp only [Bool.and_eq_true, Bool.or_eq_true] at h1
    obtain ⟨⟨⟨⟨h2, h3⟩, h4⟩, h5⟩, h6⟩ := h1
    have h5 : ∀ δ, Y δ → swappedStores [y] z δ.env = pure none := fun δ hδ => by
      rcases h5 with h5 | h5
      · exact no_pair h5 _
      · exact no_cell h5 _ (g.sc δ hδ)
    rcases h6 with ((h6 | ⟨h6, h7⟩) | h6) | ⟨h6, h7⟩
    · exact (SS.set (sE D g e z h3) (sGv g D.N D.nd t y h4 hv).ag (fun δ _ => no_swap h6 _ _ _) h5 h2).cg fun ρ St q w => w
    · obtain ⟨c1, c2, scope, cpos, nm, py, rfl, rfl, l1, l2, l3⟩ := lcSet_inv h6
      cases e with
      | lc elt tg it tt own =>
        obtain ⟨elt', t', i', cs, scope', p', e1, g1⟩ := kLc_inv h3
        injection e1 with e1 e2 e3 e4
        subst e1; subst e2; subst e3; subst e4
        simp only [Bool.and_eq_true] at g1
        obtain ⟨⟨⟨⟨⟨f2, f3⟩, f4⟩, f5⟩, f6⟩, f7⟩ := g1
        have g2 := g.blk scope
        obtain ⟨te, a1, a2, a3⟩ := lc_ex (pos := cpos) (vs := own) g.calm (by rw [D.N]; exact D.nd) (sI D g it t' i' f4) (fun δ hδ => by rw [g.sc δ hδ, D.N]; exact blkOk_by f3) (map_ownOf T.N own)
          (sG (own := some own) g2 D.N D.nd (fun i x _ h => List.contains_iff_mem.mp (show own.contains i = true from h)) tg t' f5) (sTt D.nox g2 tt cs f6) (sE D.nox g2 elt c1 f7) f2
        cases t with
        | nm k =>
          have k1 : (decide (T.N[k]? = some nm) && stoB sc T.fc nm && ownB none k) = true := h4
          simp only [Bool.and_eq_true] at k1
          have hi := of_decide_eq_true k1.1.1
          exact (SS.setLc (t := te) (fun δ hδ i y py spos => a2 δ hδ i y py spos) a3 (by rw [D.N]; exact hi) (fun δ hδ => by rw [g.sc δ hδ]; exact ⟨l1, kd⟩) l2 l3 (hv k List.mem_cons_self)).cg fun ρ St q w => w
        | tup ts =>
          exact Bool.noConfusion (show false = true from h4)
      | _ => cases h7
    · exact (SS.set (sE D g e z h3) (sGv g D.N D.nd t y h4 hv).ag (fun δ hδ => cell_swap h6 _ _ (g.sc δ hδ)) h5 h2).cg fun ρ St q w => w
    · obtain ⟨c1, c2, c3, scope, cpos, nm, py, rfl, rfl, l1, l2, l3⟩ := dcSet_inv h6
      cases e with
      | _ => cases h7
  | .aug i o e, x, vs, h, hv => by
    obtain ⟨y, p2, op, z, p, rfl, h1⟩ := kAug_inv h
    simp only [Bool.and_eq_true] at h1
    obtain ⟨⟨⟨⟨h2, h3⟩, h4⟩, h5⟩, h6⟩ := h1
    have e1 := of_decide_eq_true h3
    subst e1
    have hi := of_decide_eq_true h4
    exact (aug_ok h2 (by rw [D.N]; exact D.nd) (by rw [D.N]; exact hi) (sto_ok g h5) (hv i List.mem_cons_self) (sE D g e z h6)).cg fun ρ St q w => w
  | .put o i e, x, vs, h, hv => by
    obtain ⟨y, z, p, rfl, h1⟩ := kAsg_inv h
    obtain ⟨y1, y2, p2, rfl, g1⟩ := kSub_inv h1
    simp only [Bool.and_eq_true] at g1
    obtain ⟨⟨⟨⟨h2, h3⟩, h4⟩, h5⟩, h6⟩ := g1
    exact (SS.put g.room (sE D g e z h4) (sE D g o y1 h5) (sE D g i y2 h6) h2 h3).cg fun ρ St q w => w
  | .expr e, x, vs, h, hv => by
    obtain ⟨y, p, rfl, h1⟩ := kExp_inv h
    rw [Bool.and_eq_true] at h1
    exact (SS.expr (sE D g e y h1.2) h1.1).cg fun ρ St q w => w
  | .app o e, x, vs, h, hv => by
    obtain ⟨y, p, rfl, h1⟩ := kExp_inv h
    obtain ⟨z, m, p2, xs, q, rfl, hl, hc, g1⟩ := kMeth_inv h1
    obtain ⟨y, rfl, g2⟩ := one_inv g1
    simp only [Bool.and_eq_true] at g2
    obtain ⟨⟨⟨h2, h3⟩, h4⟩, h5⟩ := g2
    have e1 := of_decide_eq_true h2
    subst e1
    exact (SS.app (sE D g o z h4) (sE D g e y h5) hc h3 hl).cg fun ρ St q w => w
  | .ret e, x, vs, h, hv => by
    obtain ⟨y, p, rfl, h1⟩ := kRet_inv h
    cases y with
    | none => cases h1
    | some y => exact (SS.ret (sE D g e y h1)).cg fun ρ St q w => w
  | .retN, x, vs, h, hv => by
    obtain ⟨y, p, rfl, h1⟩ := kRet_inv h
    cases y with
    | none => exact SS.retN.cg fun ρ St q w => w
    | some y => cases h1
  | .ite c a b, x, vs, h, hv => by
    obtain ⟨y, xs, ys, p, rfl, h1⟩ := kIfS_inv h
    simp only [Bool.and_eq_true] at h1
    exact (SS.ite (sT D g c y h1.1.1) (sSs D g gn po fr kd a xs vs h1.1.2 fun i hi => hv i (List.mem_append_left _ hi)) (sSs D g gn po fr kd b ys vs h1.2 fun i hi => hv i (List.mem_append_right _ hi))).cg fun ρ St q w => w
  | .loop c b, x, vs, h, hv => by
    obtain ⟨y, xs, p, rfl, h1⟩ := kWhile_inv h
    rw [Bool.and_eq_true] at h1
    exact (SS.loop po (sT D g c y h1.1) (sSs D g gn po fr kd b xs vs h1.2 hv)).cg fun ρ St q w => w
  | .each t it b, x, vs, h, hv => by
    obtain ⟨y, z, xs, p, rfl, h1⟩ := kFor_inv h
    simp only [Bool.and_eq_true] at h1
    obtain ⟨⟨⟨h2, h3⟩, h4⟩, h5⟩ := h1
    exact (SS.each po g.calm (sI D g it y z h3) (sGv g D.N D.nd t y h4 fun i hi => hv i (List.mem_append_left _ hi)).ag (sSs D g gn po fr kd b xs vs h5 fun i hi => hv i (List.mem_append_right _ hi)) h2).cg fun ρ St q w => w
  | .brk, x, vs, h, hv => by
    cases x <;> first | (cases h; done) | exact SS.brk.cg fun ρ St q w => w
  | .cont, x, vs, h, hv => by
    cases x <;> first | (cases h; done) | exact SS.cont.cg fun ρ St q w => w
  | .pass, x, vs, h, hv => by
    cases x <;> first | (cases h; done) | exact SS.pass.cg fun ρ St q w => w
  | .fz i, x, vs, h, hv => by cases h
  | .rais c, x, vs, h, hv => by
    obtain ⟨y, p, m, k, p2, p3, p4, rfl, h1⟩ := kRaise_inv h
    simp only [Bool.and_eq_true] at h1
    obtain ⟨⟨⟨h2, h3⟩, h4⟩, h5⟩ := h1
    have h5 : T.xn c = false := by simpa using h5
    exact (SS.rais g.calm g.tk (D.xf c y (of_decide_eq_true h2)) (D.xp c y (of_decide_eq_true h2) h5) (gl_of g h3) (okNm_inv h4).1).cg fun ρ St q w => w.2
  | .raisn c e, x, vs, h, hv => by
    obtain ⟨y, p, z, p2, p3, rfl, h1⟩ := kRaiseN_inv h
    simp only [Bool.and_eq_true] at h1
    obtain ⟨⟨⟨⟨⟨h2, h3⟩, h4⟩, h5⟩, h6⟩, h7⟩ := h1
    by_cases hd : 1 ≤ G.dp
    · exact (SS.raisn g.calm g.tk (D.xn c y (of_decide_eq_true h2) h5) (fun δ hδ => (g.room δ hδ).mono (by have := D.dp; omega)) (gl_of g h3) (okNm_inv h4).1 (sE D g e z h7) h6).cg fun ρ St q w => w.2
    · exact ⟨⟨fun _ _ _ => False, fun δ hδ => ⟨fun _ _ _ _ _ _ z => z.elim⟩, fun _ _ _ _ _ _ _ _ _ _ w _ => hd w.1.2⟩⟩
  | .xini f, x, vs, h, hv => ⟨⟨fun _ _ _ => False, fun δ hδ => ⟨fun _ _ _ _ _ _ z => z.elim⟩, fun _ _ _ _ _ _ _ _ _ _ w _ => w.elim⟩⟩
  | .tri b c none hh, x, vs, h, hv => by
    rw [okS] at h
    obtain ⟨body, y, p, n, b0, su, p2, p3, rfl, h1⟩ := kTry_inv h
    simp only [Bool.and_eq_true] at h1
    obtain ⟨⟨⟨⟨⟨h2, h3⟩, h4⟩, h5⟩, h6⟩, h7⟩ := h1
    have e1 := isNone_inv h5
    subst e1
    have hx := of_decide_eq_true h2
    have h6' : okSu B.N sc none T.bs hh (b0 :: su) = true := by rw [D.N]; exact h6
    exact (SS.tri (vb := asgSs b) fr g.sc g.tk (D.xf c y hx) (gl_of g h3) (okNm_inv h4).1 (fun _ _ => D.xi c y hx) h6' hv fun ρ k W' => sSs (D.xat (xq1 G.xq c hh (asgSs b) ρ k)) (g.tr W') (gn.tr W') (po_tr W') (fr_tr fr W') kd b body (asgSs b) h7 fun i hi => hi).cg fun ρ St q w => w
  | .tri b c (some i) hh, x, vs, h, hv => by
    rw [okS] at h
    obtain ⟨body, y, p, n, b0, su, p2, p3, rfl, h1⟩ := kTry_inv h
    simp only [Bool.and_eq_true] at h1
    obtain ⟨⟨⟨⟨⟨⟨h2, h3⟩, h4⟩, h5⟩, h6⟩, h8⟩, h7⟩ := h1
    cases n with
    | none => cases h5
    | some n =>
      have h5 : (decide (T.N[i]? = some n) && (match sc.names.lookup n with | some .local => true | _ => false)) = true := h5
      rw [Bool.and_eq_true] at h5
      have hx := of_decide_eq_true h2
      have h6' : okSu B.N sc (some i) T.bs hh (b0 :: su) = true := by rw [D.N]; exact h6
      have hl : sc.names.lookup n = some .local := by
        have := h5.2
        split at this
        · assumption
        · cases this
      by_cases hd : isSmeS hh = true ∧ ¬ 1 ≤ G.dp
      · refine ⟨⟨fun _ _ _ => False, fun δ hδ => ⟨fun _ _ _ _ _ _ z => z.elim⟩, fun _ _ _ _ _ _ _ _ _ _ w _ => ?_⟩⟩
        cases hh <;> first | exact hd.2 w.1 | exact absurd hd.1 (by simp [isSmeS])
      · refine (SS.triA (vb := asgSs b) fr g.sc g.tk (D.xf c y hx) (by rw [D.N]; exact D.nd) (by rw [D.N]; exact of_decide_eq_true h5.1) hl (gl_of g h3) (okNm_inv h4).1 (fun _ _ => D.xi c y hx) h6' (fun z => (D.xn c y hx (by have h9 := h8.1; rw [z] at h9; simpa using h9)).g) (fun z => ⟨D.hsm (by have h9 := h8.2; rw [z] at h9; simpa using h9), fun δ hδ => (g.room δ hδ).mono (by have := D.dp; have : 1 ≤ G.dp := Decidable.byContradiction fun y => hd ⟨z, y⟩; omega)⟩) (fun k hk => hv k (List.mem_cons_of_mem _ hk)) fun ρ k W' => sSs (D.xat (xq1 G.xq c hh (i :: asgSs b) ρ k)) (g.tr W') (gn.tr W') (po_tr W') (fr_tr fr W') kd b body (asgSs b) h7 fun i hi => hi).cg fun ρ St q w => by cases hh <;> first | exact w | exact w.2
  | .putf c o f e, x, vs, h, hv => by
    obtain ⟨y, z, p, rfl, h1⟩ := kAsg_inv h
    obtain ⟨v, m, p2, rfl, h2⟩ := kAttr_inv h1
    simp only [Bool.and_eq_true] at h2
    obtain ⟨⟨⟨h3, h4⟩, h6⟩, h7⟩ := h2
    have e1 := of_decide_eq_true h3
    subst e1
    obtain ⟨k1, k2⟩ := fld_of D h4
    exact (SS.putf k1 k2 (sE D g e z h6) (sE D g o v h7)).cg fun ρ St q w => w
  | .augf c o f op e, x, vs, h, hv => by
    obtain ⟨v, m, p2, op', y, p, rfl, h1⟩ := kAugF_inv h
    simp only [Bool.and_eq_true] at h1
    obtain ⟨⟨⟨⟨⟨h2, h3⟩, h4⟩, h5⟩, h6⟩, h7⟩ := h1
    have e1 := of_decide_eq_true h4
    have e2 := of_decide_eq_true h3
    subst e1; subst e2
    obtain ⟨k1, k2⟩ := fld_of D h5
    cases op with
    | add => exact (SS.augf (op := .add) (.inl rfl) k1 k2 (sE D g o v h6) (sE D g e y h7)).cg fun ρ St q w => w
    | sub => exact (SS.augf (op := .sub) (.inr rfl) k1 k2 (sE D g o v h6) (sE D g e y h7)).cg fun ρ St q w => w
    | _ => cases h2
  | .bxp b a c m xi c2 m2 n2, x, vs, h, hv => by
    obtain ⟨z, p7, rfl, h1⟩ := kExp_inv h
    obtain ⟨y, n, p5, xs, p6, rfl, hl, hc, g1⟩ := kMeth_inv h1
    obtain ⟨w, rfl, g2⟩ := one_inv g1
    obtain ⟨y2, n3, p8, rfl, g3⟩ := kAttr_inv g2
    simp only [Bool.and_eq_true, Bool.not_eq_true'] at g3
    obtain ⟨⟨⟨⟨⟨⟨⟨⟨k1, k2⟩, k3⟩, k4⟩, k5⟩, k6⟩, k7⟩, k8⟩, k9⟩ := g3
    have e1 := of_decide_eq_true k2
    have e2 := of_decide_eq_true k5
    subst e1; subst e2
    obtain ⟨cls, _⟩ := D.ms xi c m (of_decide_eq_true k3)
    obtain ⟨f, fd, ps, j', ej, mt, bind, fn⟩ := D.hs xi c m (of_decide_eq_true k3)
    obtain ⟨cls2, _⟩ := D.ms n2 c2 m2 (of_decide_eq_true k6)
    obtain ⟨g', fd2, ps2, j2, ej2, mt2, fi, bind2, fn2⟩ := D.bs n2 c2 m2 (of_decide_eq_true k6)
    have ejj : j' = j2 := by omega
    subst ejj
    exact (SS.bxp g.tk g.room cls mt bind (fun d sp key => fn B.base d sp (fun _ _ z => z) key) cls2 (bmeth_of mt2 fi k7) bind2 fn2 ((sE D g (.var b) y k4).cg fun ρ St q w => w) ((sE D g (.var a) y2 k9).cg fun ρ St q w => w) hc k8 hl k1).cg fun ρ St q w => w
  | .par i j a b, x, vs, h, hv => by
    obtain ⟨y, z, px, py, k1, p1, e1, e2, k2, p2, p3, rfl, hl, hne, sa, sb, hf, hc, h1⟩ := kPar_inv h
    simp only [Bool.and_eq_true] at h1
    obtain ⟨⟨⟨⟨⟨⟨h2, h3⟩, h4⟩, h5⟩, h6⟩, h7⟩, h8⟩ := h1
    have hi := of_decide_eq_true h2
    have hj := of_decide_eq_true h3
    exact (SS.par g.calm (by rw [D.N]; exact D.nd) (by rw [D.N]; exact hi) (by rw [D.N]; exact hj) (of_decide_eq_true h4) (fun δ hδ => by rw [g.sc δ hδ]; exact ⟨locB_inv h5, locB_inv h6⟩)
      (fun δ hδ => swaps_two (by rw [g.sc δ hδ]; exact kd) (by rw [g.sc δ hδ]; exact locB_inv h5) (by rw [g.sc δ hδ]; exact locB_inv h6) hl hne sa sb hf hc) (sE D g a e1 h7) (sE D g b e2 h8) sa sb (hv i List.mem_cons_self) (hv j (List.mem_cons_of_mem _ List.mem_cons_self))).cg fun ρ St q w => w
theorem sSs {B : Bx} {Y : Dl → Prop} {sc : Scope} {W : WX} {j : Nat} {C : XC} {T : Tb} {G : Gx} (D : Gd B C T G j) (g : Gy B Y sc T.fc W j) (gn : Gn B Y T) (po : ∀ δ, Y δ → PassesOwn (model B.prog B.w) δ.A δ.env δ.xe  ) (fr : ∀ δ, Y δ → δ.stack = δ.env :: δ.outer ∧ δ.env.frame = some δ.env.locals) (kd : sc.kind = .function) :
    ∀ (s : List S) (x : List Stmt) (vs : List Nat), okSs T sc s x = true → (∀ i ∈ asgSs s, i ∈ vs) → SSs B Y W C G.xq vs x (wSs G s)
  | [], [], vs, h, hv => SSs.nil.cg fun ρ St q w => w
  | [], _ :: _, vs, h, hv => by cases h
  | s :: r, xs, vs, h, hv => by
    by_cases hb : ∃ i n js b e c m xi, s = .bld i n js b e c m xi
    · obtain ⟨i, n, js, b, e, c, m, xi, rfl⟩ := hb
      cases xs with
      | nil => cases h
      | cons x1 xs => cases xs with
        | nil =>
          have h' : (okS T sc (.bld i n js b e c m xi) x1 && okSs T sc r []) = true := h
          rw [Bool.and_eq_true] at h'
          cases h'.1
        | cons x2 xs => cases xs with
        | nil =>
          have h' : (okS T sc (.bld i n js b e c m xi) x1 && okSs T sc r [x2]) = true := h
          rw [Bool.and_eq_true] at h'
          cases h'.1
        | cons x3 xs =>
          by_cases hY : ∃ δ, Y δ
          · obtain ⟨δ0, h0⟩ := hY
            have h' : (okNd T sc i n js b x1 && okBs2 T sc b e x2 && okBs3 T sc i b c m xi x3 && okSs T sc r xs) = true := h
            simp only [Bool.and_eq_true] at h'
            obtain ⟨⟨⟨h1, h2⟩, h3⟩, h4⟩ := h'
            obtain ⟨name, params, body, scope, p1, rfl, k1⟩ := kNd_inv h1
            obtain ⟨y2, z2, p4, rfl, k2⟩ := kAsg_inv h2
            obtain ⟨z3, p7, rfl, k3⟩ := kExp_inv h3
            obtain ⟨y3, m3, p5, as3, p6, rfl, l3, c3, k3⟩ := kMeth_inv k3
            simp only [Bool.and_eq_true, Bool.not_eq_true'] at k1 k2 k3
            obtain ⟨⟨⟨⟨⟨⟨⟨⟨⟨⟨⟨⟨a1, a2⟩, a3⟩, a4⟩, a5⟩, a6⟩, a7⟩, a8⟩, a9⟩, a10⟩, a11⟩, a12⟩, a13⟩ := k1
            obtain ⟨⟨⟨⟨b1, b2⟩, b3⟩, b4⟩, b5⟩ := k2
            obtain ⟨⟨⟨⟨⟨⟨d1, d2⟩, d3⟩, d4⟩, d5⟩, d6⟩, d7⟩ := k3
            have hfc : T.fc = none := isNone_inv a1
            have e2 := of_decide_eq_true a2
            have e3 := of_decide_eq_true d2
            subst e2; subst e3
            obtain ⟨env0, he, tab⟩ := gn.env
            have esc : env0.scope = sc := by rw [← he δ0 h0]; exact g.sc δ0 h0
            obtain ⟨cc, P, nm, t1, t2, t3, t4, t5⟩ := tab hfc ⟨_, _, _, a13⟩
            obtain ⟨ps1, j', ej, len, nk⟩ := D.ns _ _ _ a13
            obtain ⟨an, nk⟩ := nk _ _ _ _ _ rfl
            obtain ⟨cls, _⟩ := D.ms xi c m (of_decide_eq_true d3)
            obtain ⟨f, fd, ps, j2, ej2, mt, bind, fn⟩ := D.hs xi c m (of_decide_eq_true d3)
            have ejj : j' = j2 := by omega
            subst ejj
            cases as3 with
            | nil => exact absurd d7 (by simp [okEs])
            | cons y4 as3 =>
              have d8 : (okE T false sc (.var i) y4 && okEs T sc .nil as3) = true := d7
              rw [Bool.and_eq_true] at d8
              cases as3 with
              | cons _ _ => exact absurd d8.2 (by simp [okEs])
              | nil =>
                have sy : notStar y4 = true := by rw [List.all_cons, Bool.and_eq_true] at d4; exact d4.1
                have loc : sc.names.lookup stepS = some .local := by
                  split at a4
                  · assumption
                  · cases a4
                have ho : SE B Y W C G.xq y3 (fun ρ St q => ∃ d, get ρ b = some d ∧ q d St) := (sE D g (.var b) y3 d6).cg fun ρ St q w => w
                have hy : SA B Y W C G.xq [y4] (fun ρ St q => ∃ d, get ρ i = some d ∧ q [d] St) := (SA.cons (sE D g (.var i) y4 d8.1) SA.nil (star_cons sy)).cg fun ρ St q w => w
                have hs2 : SS B Y W C G.xq vs (.Assign [y2] z2 p4) (fun ρ St k => wE G e ρ St fun x S1 => k.nx (put ρ b x) S1) :=
                  (SS.set (sE D g e z2 b2) (sGv g D.N D.nd (.nm b) y2 b3 (fun k hk => hv k (by simp only [asgTg, List.mem_singleton] at hk; subst hk; exact List.mem_append_left _ (List.mem_cons_of_mem _ List.mem_cons_self)))).ag (fun δ _ => no_swap b5 _ _ _) (fun δ _ => no_pair b4 _) b1).cg fun ρ St q w => w
                exact (SSs.bld (xi := 0) (n := 0) (p4 := p1) (fr := js.filterMap fun j => T.N[j]?) (hsp := G.hsp xi) (S := G.spc n) g.tk g.room he (fun δ hδ x => g.fn δ hδ x (by rw [hfc]; rfl)) t1 t2 t3 t4 t5 (by rw [esc]; exact NdefX.ndef_free a10) (NdefX.ndef_fr a10) (by rw [D.N]; exact of_decide_eq_true a8)
                  (List.isEmpty_iff.mp a11) (List.isEmpty_iff.mp a12) an (by rw [D.N]; exact D.nd) (by rw [D.N]; exact of_decide_eq_true a3) (by rw [esc]; exact loc) (hv i (List.mem_append_left _ List.mem_cons_self)) (fun z => by rw [List.contains_iff_mem.mpr z] at a6; cases a6) (fun z => by rw [List.contains_iff_mem.mpr z] at a7; cases a7)
                  len (fun base' q c ext => nk base' q env0 c ext) hs2 cls mt bind fn ho hy sy c3 l3 (sSs D g gn po fr kd r xs vs h4 fun i hi => hv i (List.mem_append_right _ hi))).cg fun ρ St q w => w
          · exact ⟨⟨fun _ _ _ => True, fun δ hδ => absurd ⟨δ, hδ⟩ hY, fun _ _ _ _ _ _ _ _ _ _ _ _ => trivial⟩⟩
    by_cases hg : ∃ i c f, s = .frf i c f
    · obtain ⟨i, c, f, rfl⟩ := hg
      have h1 : okSs T sc r xs = true := by cases xs <;> exact h
      exact (SSs.frf (i := i) (cn := c) (f := f) (sSs D g gn po fr kd r xs vs h1 fun i hi => hv i (List.mem_append_right _ hi))).cg fun ρ St q w => w
    by_cases hf : ∃ i, s = .fz i
    · obtain ⟨i, rfl⟩ := hf
      have h1 : okSs T sc r xs = true := by cases xs <;> exact h
      exact (SSs.fz (i := i) (sSs D g gn po fr kd r xs vs h1 fun i hi => hv i (List.mem_append_right _ hi))).cg fun ρ St q w => w
    · cases xs with
      | nil => cases s <;> first | exact absurd ⟨_, rfl⟩ hf | exact absurd ⟨_, _, _, rfl⟩ hg | exact absurd ⟨_, _, _, _, _, _, _, _, rfl⟩ hb | cases h
      | cons x xs =>
        have h1 : (okS T sc s x && okSs T sc r xs) = true := by cases s <;> first | exact absurd ⟨_, rfl⟩ hf | exact absurd ⟨_, _, _, rfl⟩ hg | exact absurd ⟨_, _, _, _, _, _, _, _, rfl⟩ hb | exact h
        rw [Bool.and_eq_true] at h1
        exact (SSs.cons (sS D g gn po fr kd s x vs h1.1 fun i hi => hv i (List.mem_append_left _ hi)) (sSs D g gn po fr kd r xs vs h1.2 fun i hi => hv i (List.mem_append_right _ hi))).cg fun ρ St q w => w
end
end
/-! ### a def -/
noncomputable def startE (n : Nat) (ds : List D) : Env := ds.map some ++ List.replicate (n - ds.length) none
noncomputable def bodyK (q : QD) : Ks := { nx := fun _ S => q .non S, rt := q, bk := fun _ _ => False, ct := fun _ _ => False }
theorem get_eq : ∀ (ρ : Env) (i : Nat) (d : D), get ρ i = some d → ρ[i]? = some (some d)
  | [], _, _, h => by cases h
  | x :: r, 0, d, h => by
    have h : x = some d := h
    rw [h]; rfl
  | x :: r, i + 1, d, h => by
    rw [List.getElem?_cons_succ]
    exact get_eq r i d h
theorem re_start {K : PySem.W.Frag} {F : Hp} {N : List Str} {vs : List V} {ds : List D} (h : IsL K F vs ds) : RE K F (startE N.length ds) (L2.start N vs) := by
  refine ⟨?_, fun i d g => ?_⟩
  · simp [startE, L2.start, h.length]
  · have g := get_eq _ _ _ g
    unfold startE at g
    by_cases hi : i < ds.length
    · rw [List.getElem?_append_left (by rw [List.length_map]; exact hi), List.getElem?_map] at g
      cases e : ds[i]? with
      | none => rw [e] at g; cases g
      | some d2 =>
        rw [e] at g
        have : d2 = d := by simpa using g
        subst this
        obtain ⟨u, hu, is⟩ := h.get e
        refine ⟨u, ?_, is⟩
        unfold L2.start
        rw [List.getElem?_append_left (by rw [List.length_map, h.length]; exact hi), List.getElem?_map, hu]
        rfl
    · rw [List.getElem?_append_right (by rw [List.length_map]; omega)] at g
      rw [List.getElem?_replicate] at g
      split at g <;> simp at g
noncomputable def Gx.at (G : Gx) (qx : QX) : Gx := { G with xq := qx }
/-- a table that tells of lambdas -/
noncomputable def Tb.hasL (T : Tb) : Prop := ∃ n fr params body scope, T.lm n fr params body scope = true
theorem def_ok {P : Program} {w : World} {K : PySem.W.Frag} {mg : Str → Option Value} {base : Heap} {x qual : Str} {params : Arguments} {body : List Stmt} {scope : Scope} {dvs : List V} {kws : List (Str × V)} {f : Addr} {fd : FuncData} {T : Tb} {ps : List Str} {C : XC} {G : Gx} {k : Nat} {own : List S}
    (F : FunD K x qual params body scope dvs kws f fd) (Sc : FnScope T.N ps scope) (D : ∀ qx, Gd ⟨P, w, K, mg, base, T.N, T.hasL⟩ C T (G.at qx) k) (hok : okSs T scope own body = true) (hfc : T.fc = none)
    (tab : (∃ n fr st, T.nd n fr st = true) → ∃ (cc Pt : Addr) (nm : Nat → Nat → Str), LamX.TabB base mg cc Pt ∧ fd.code = .ref cc ∧ (Pt, nm) ∈ TBS.T ∧ (∀ l c, nm l c = (envOfC qual scope 0 f (.ref cc)).qual ++ stepS) ∧ ∀ p ∈ TBS.T, p.1 = Pt → p.2 = nm)
    (tabL : T.hasL → ∃ (cc Pt : Addr) (nm : Nat → Nat → Str), LamX.TabB base mg cc Pt ∧ fd.code = .ref cc ∧ (Pt, nm) ∈ TBS.T ∧ (∀ l c, nm l c = (envOfC qual scope 0 f (.ref cc)).qual ++ "<lambda>") ∧ ∀ p ∈ TBS.T, p.1 = Pt → p.2 = nm) :
    FnOk P w K mg base (L2.CX P w) (k + 1) f fd ps (lift K w C fun ds St q qx => ds.length = ps.length ∧ wSs (G.at qx) own (startE T.N.length ds) St (bodyK q)) := by
  obtain ⟨oc, od, dV, kV, doc, pm, an, cdv, ct, osl, rfl, lk, hcd, _, _⟩ := F.ex
  refine fn_of lk hcd Sc (fun vs H Q E h => ?_) (fun A outer s H vs Q E hr hsp => ?_)
  · obtain ⟨ds, St, F0, q, qx, r, il, ⟨hlen, _⟩, _⟩ := h
    rw [il.length, hlen]
  · obtain ⟨ds, St, F0, q, qx, r, il, ⟨hlen, w0⟩, kq, kx⟩ := hsp
    let X := cxOf (L2.CX P w) P w K mg base T.N qual scope f cdv A outer s H E
    let δ : Dl := ⟨X.A, X.s_0, X.H_0, X.env, X.outer, X.stack, X.ex, X.fn, X.calm, X.pn, X.xe⟩
    have g : Gy ⟨P, w, K, mg, base, T.N, T.hasL⟩ (fun δ' => δ' = δ) scope T.fc (fun cls d _ H => E cls d H) k := by
      refine ⟨?_, ?_, ?_, ?_, ?_, fun h => ?_⟩
      · rintro _ rfl; rfl
      · rintro _ rfl; exact hr
      · rintro _ rfl; rfl
      · rintro _ rfl x _; rfl
      · rintro _ rfl; exact takes_of (X := X) rfl rfl rfl rfl
      · obtain ⟨cc, Pt, nm, t1, t2, t3, t4, t5⟩ := tabL h
        have t2 : cdv = .ref cc := t2
        subst t2
        refine ⟨cc, Pt, nm, _, t1, t3, t4, t5, ?_⟩
        rintro _ rfl
        exact ⟨rfl, rfl⟩
    have gn : Gn ⟨P, w, K, mg, base, T.N, T.hasL⟩ (fun δ' => δ' = δ) T := by
      refine ⟨X.env, ?_, fun _ h => ?_⟩
      · rintro _ rfl; rfl
      · obtain ⟨cc, Pt, nm, t1, t2, t3, t4, t5⟩ := tab h
        have t2 : cdv = .ref cc := t2
        subst t2
        exact ⟨cc, Pt, nm, t1, rfl, t3, t4, t5⟩
    have po : ∀ δ', δ' = δ → PassesOwn (model P w) δ'.A δ'.env δ'.xe := by
      rintro _ rfl
      exact passes_of (X := X) rfl
    obtain ⟨t, p, kk⟩ := (sSs (D qx) g gn po (by rintro _ rfl; exact ⟨rfl, rfl⟩) Sc.kind own body _ hok fun i hi => hi).ex
    refine ⟨t, p δ rfl, kk (startE T.N.length ds) St F0 (L2.start T.N vs) H (bodyK q) _ r (re_start il) ?_ w0 ?_⟩
    · intro c d S' F' H' dx σ' _ f r' p hq
      exact kx c d S' F' H' dx hq f r' p
    · exact ⟨fun ρ' S' F' σ' H' _ f r' _ hq => kq .non S' .non F' H' hq f r' .non, fun d S' F' v H' f r' i hq => kq d S' v F' H' hq f r' i, fun _ _ _ _ _ _ _ _ _ hq => hq.elim, fun _ _ _ _ _ _ _ _ _ hq => hq.elim⟩
/-- a def within a def -/
theorem nest_ok {P : Program} {w : World} {K : PySem.W.Frag} {mg : Str → Option Value} {base : Heap} {T : Tb} {ps fr : List Str} {C : XC} {G : Gx} {k : Nat} {own : List S} {FN : NdefX.NF} {q0 : Addr}
    (Sc : NdefX.NScope T.N ps fr FN.scope) (hb : ∀ (doc pm ctv : Value) (us : List Value), us.length = ps.length → bindArgs (FN.fd doc pm ctv) ⟨us, []⟩ = pure (ps.zip us)) (D : ∀ qx, Gd ⟨P, w, K, mg, base, T.N, T.hasL⟩ C T (G.at qx) k) (hok : okSs T FN.scope own FN.body = true) (hfc : T.fc = some FN.scope) (hnl : ¬ T.hasL) :
    NdefX.NOk P w K mg base (L2.CX P w) (k + 1) q0 FN ps fr (spN K w C ps.length fun ds St q qx => ds.length = ps.length + fr.length ∧ wSs (G.at qx) own (startE T.N.length ds) St (bodyK q)) := by
  refine NdefX.nok_of Sc hb (fun ws vs H Q E h => h.1) (fun A outer s H vs wo Q E hr hf hc hl hsp => ?_)
  obtain ⟨hv, ws, rfl, ds, St, F0, q, qx, r, il, ⟨hlen, w0⟩, kq, kx⟩ := hsp
  let X := NdefX.ncx (L2.CX P w) P w K mg base T.N FN q0 A outer s H E
  let δ : Dl := ⟨X.A, X.s_0, X.H_0, X.env, X.outer, X.stack, X.ex, X.fn, X.calm, X.pn, X.xe⟩
  have g : Gy ⟨P, w, K, mg, base, T.N, T.hasL⟩ (fun δ' => δ' = δ) FN.scope T.fc (fun cls d _ H => E cls d H) k := by
    rw [hfc]
    refine ⟨?_, ?_, ?_, ?_, ?_, fun h => (hnl h).elim⟩
    · rintro _ rfl; rfl
    · rintro _ rfl; exact hr
    · rintro _ rfl; rfl
    · rintro _ rfl x h
      have h : (FN.scope.names.lookup x == some .cell) = true := h
      exact absurd rfl (Sc.nocell _ (PySem.mem_of_lookup (eq_of_beq h)))
    · rintro _ rfl; exact takes_of (X := X) rfl rfl rfl rfl
  have gn : Gn ⟨P, w, K, mg, base, T.N, T.hasL⟩ (fun δ' => δ' = δ) T := ⟨X.env, by rintro _ rfl; rfl, fun h => by rw [hfc] at h; cases h⟩
  have po : ∀ δ', δ' = δ → PassesOwn (model P w) δ'.A δ'.env δ'.xe := by
    rintro _ rfl
    exact passes_of (X := X) rfl
  obtain ⟨t, p, kk⟩ := (sSs (D qx) g gn po (by rintro _ rfl; exact ⟨rfl, rfl⟩) Sc.kind own FN.body _ hok fun i hi => hi).ex
  have es : NdefX.startF T.N vs (ws.map some) = L2.start T.N (vs ++ ws) := by
    unfold NdefX.startF L2.start
    rw [List.map_append, List.append_assoc, List.length_append, List.length_map, Nat.sub_sub]
  rw [es]
  refine ⟨t, p δ rfl, kk (startE T.N.length ds) St F0 (L2.start T.N (vs ++ ws)) H (bodyK q) _ r (re_start il) ?_ w0 ?_⟩
  · intro c d S' F' H' dx σ' _ f r' p hq
    exact kx c d S' F' H' dx hq f r' p
  · exact ⟨fun ρ' S' F' σ' H' _ f r' _ hq => kq .non S' .non F' H' hq f r' .non, fun d S' F' v H' f r' i hq => kq d S' v F' H' hq f r' i, fun _ _ _ _ _ _ _ _ _ hq => hq.elim, fun _ _ _ _ _ _ _ _ _ hq => hq.elim⟩
/-- a lambda -/
theorem lam_ok {P : Program} {w : World} {K : PySem.W.Frag} {mg : Str → Option Value} {base : Heap} {T : Tb} {ps fr : List Str} {C : XC} {G : Gx} {k : Nat} {own : E} {FN : NdefX.NF} {body : Expr} {q0 : Addr} (h1 : ps.length = 1)
    (Sc : NdefX.NScope T.N ps fr FN.scope) (hb : ∀ (pm ctv : Value) (us : List Value), us.length = ps.length → bindArgs (PySem.W.kla_fn FN.name FN.qual FN.params body FN.scope FN.cl pm (.ref FN.c) ctv) ⟨us, []⟩ = pure (ps.zip us)) (D : ∀ qx, Gd ⟨P, w, K, mg, base, T.N, T.hasL⟩ C T (G.at qx) k) (hok : okE T false FN.scope own body = true) (hfc : T.fc = some FN.scope) (hnl : ¬ T.hasL) :
    LOk P w K mg base (L2.CX P w) (k + 1) q0 FN body ps fr (spN K w C 1 fun ds St q qx => ds.length = 1 + fr.length ∧ wSs (G.at qx) [.ret own] (startE T.N.length ds) St (bodyK q)) := by
  refine lok_of Sc hb (fun ws vs H Q E h => h.1.trans h1.symm) (fun A outer s H vs wo Q E hr hl hsp => ?_)
  obtain ⟨hv, ws, rfl, ds, St, F0, q, qx, r, il, ⟨hlen, w0⟩, kq, kx⟩ := hsp
  let X := NdefX.ncx (L2.CX P w) P w K mg base T.N FN q0 A outer s H E
  let δ : Dl := ⟨X.A, X.s_0, X.H_0, X.env, X.outer, X.stack, X.ex, X.fn, X.calm, X.pn, X.xe⟩
  have g : Gy ⟨P, w, K, mg, base, T.N, T.hasL⟩ (fun δ' => δ' = δ) FN.scope T.fc (fun cls d _ H => E cls d H) k := by
    rw [hfc]
    refine ⟨?_, ?_, ?_, ?_, ?_, fun h => (hnl h).elim⟩
    · rintro _ rfl; rfl
    · rintro _ rfl; exact hr
    · rintro _ rfl; rfl
    · rintro _ rfl x h
      have h : (FN.scope.names.lookup x == some .cell) = true := h
      exact absurd rfl (Sc.nocell _ (PySem.mem_of_lookup (eq_of_beq h)))
    · rintro _ rfl; exact takes_of (X := X) rfl rfl rfl rfl
  obtain ⟨t, p, kk⟩ := (sE (D qx) g own body hok).ex
  have es : NdefX.startF T.N vs (ws.map some) = L2.start T.N (vs ++ ws) := by
    unfold NdefX.startF L2.start
    rw [List.map_append, List.append_assoc, List.length_append, List.length_map, Nat.sub_sub]
  rw [es]
  refine ⟨t, p δ rfl, kk (startE T.N.length ds) St F0 (L2.start T.N (vs ++ ws)) H q _ r (re_start il) ?_ w0 ?_⟩
  · intro c d S' F' H' dx f r' p hq
    exact kx c d S' F' H' dx hq f r' p
  · exact fun d S' F' v H' f r' i hq => kq d S' v F' H' hq f r' i
end DL
/-! DL13: a program of own defs; all of them hold what they say. -/
namespace DL
open PySem PySem.Spec PyProof.Rows L2
structure Fn where
  np : Nat
  N : List Str
  body : List S
structure Pg where
  fs : List (Nat × Str × Fn)
  gl : List (Str × D)
  wd : List (Str × List (D × D))
  xc : List (Nat × Str) := []
  bs : Str := ""
  cl : List (Bs × List Bs) := []
  mt : List (Nat × Bs × Bs) := []
  nt : List (Nat × Nat) := []
  xn : List (Nat × Nat) := []
noncomputable def lkC : List (Bs × List Bs) → Bs → Option (List Bs)
  | [], _ => none
  | (c, fs) :: r, x => if c = x then some fs else lkC r x
theorem lkC_mem : ∀ {l : List (Bs × List Bs)} {c : Bs} {fs : List Bs}, lkC l c = some fs → (c, fs) ∈ l
  | [], _, _, h => by cases h
  | (c', fs') :: r, c, fs, h => by
    unfold lkC at h
    split at h
    · next e => cases h; subst e; exact List.mem_cons_self
    · exact List.mem_cons_of_mem _ (lkC_mem h)
noncomputable def lk {α : Type} : List (Nat × α) → Nat → Option α
  | [], _ => none
  | (j, a) :: r, i => if j = i then some a else lk r i
theorem lk_mem {α : Type} : ∀ {l : List (Nat × α)} {i : Nat} {a : α}, lk l i = some a → (i, a) ∈ l
  | [], _, _, h => by cases h
  | (j, b) :: r, i, a, h => by
    unfold lk at h
    split at h
    · next e => cases h; subst e; exact List.mem_cons_self
    · exact List.mem_cons_of_mem _ (lk_mem h)
noncomputable def Pg.at (P : Pg) (i : Nat) : Option (Str × Fn) := lk P.fs i
/-- the i-th def has f's text, its names aside -/
noncomputable def Pg.Has (P : Pg) (i : Nat) (f : Fn) : Prop := ∃ (nm : Str) (N : List Str), P.at i = some (nm, ⟨f.np, N, f.body⟩) ∧ N.length = f.N.length
theorem Pg.has {P : Pg} {i : Nat} {f : Fn} {nm : Str} {N : List Str} (h : P.at i = some (nm, ⟨f.np, N, f.body⟩)) (hl : N.length = f.N.length) : P.Has i f := ⟨nm, N, h, hl⟩
/-- the i-th def is the __init__ of a class of errors -/
noncomputable def Pg.xi (P : Pg) (i : Nat) : Bool := P.xn.any fun q => q.2 == i
/-- the i-th def as a global function, as a method (a def within a def: neither) -/
noncomputable def Pg.fsN (P : Pg) (i : Nat) : Option Str := match lk P.mt i, lk P.nt i with
  | none, none => (P.at i).map (·.1)
  | _, _ => none
noncomputable def Pg.ms (P : Pg) (i : Nat) : Option (Bs × Bs) := match P.at i, lk P.nt i with
  | some _, none => if P.xi i = true then none else lk P.mt i
  | _, _ => none
/-- the parameters of a def within a def -/
noncomputable def stepPs : List Str := ["sign", "notes"]
noncomputable def stepA (params : Arguments) : Bool := match params with
  | ⟨[], [⟨a, none, _⟩, ⟨b, none, _⟩], none, [], [], none, []⟩ => decide (a = "sign") && decide (b = "notes")
  | _ => false
theorem stepA_inv {params : Arguments} (h : stepA params = true) : ∃ p1 p2, params = ⟨[], [⟨"sign", none, p1⟩, ⟨"notes", none, p2⟩], none, [], [], none, []⟩ := by
  unfold stepA at h
  split at h
  · next a p1 b p2 =>
    rw [Bool.and_eq_true] at h
    have e1 := of_decide_eq_true h.1
    have e2 := of_decide_eq_true h.2
    subst e1; subst e2
    exact ⟨p1, p2, rfl⟩
  · cases h
/-! _law_is_integer (9) and _law_same (11), if they are known by their texts -/
noncomputable def kIteS (s : S) (k : E → List S → List S → Bool) : Bool := match s with
  | .ite c a b => k c a b
  | _ => false
theorem kIteS_inv {s : S} {k : E → List S → List S → Bool} (h : kIteS s k = true) : ∃ c a b, s = .ite c a b ∧ k c a b = true := by
  unfold kIteS at h
  split at h
  · exact ⟨_, _, _, rfl, h⟩
  · cases h
noncomputable def isN1 : E → Bool
  | .cmp .is (.var 1) .non => true
  | _ => false
noncomputable def isB1 : E → Bool
  | .isi .bool (.var 1) => true
  | _ => false
noncomputable def isI1 : E → Bool
  | .isi .int (.var 1) => true
  | _ => false
noncomputable def isNl : List S → Bool
  | [] => true
  | _ => false
noncomputable def isSmR : List S → Bool
  | [.ret (.boo true (.cons (.call 9 (.cons (.var 0) .nil)) (.cons (.cmp .eq (.var 0) (.var 1)) .nil)))] => true
  | _ => false
noncomputable def isIi : List S → Bool
  | [.ret (.boo true (.cons (.isi .int (.var 0)) (.cons (.not (.isi .bool (.var 0))) .nil)))] => true
  | _ => false
noncomputable def isSm : List S → Bool
  | s1 :: s2 :: s3 :: _ => (kIteS s1 fun c _ b => isN1 c && isNl b) && (kIteS s2 fun c _ b => isB1 c && isNl b) && (kIteS s3 fun c a _ => isI1 c && isSmR a)
  | _ => false
theorem isN1_inv {e : E} (h : isN1 e = true) : e = .cmp .is (.var 1) .non := by
  unfold isN1 at h
  split at h
  · rfl
  · cases h
theorem isB1_inv {e : E} (h : isB1 e = true) : e = .isi .bool (.var 1) := by
  unfold isB1 at h
  split at h
  · rfl
  · cases h
theorem isI1_inv {e : E} (h : isI1 e = true) : e = .isi .int (.var 1) := by
  unfold isI1 at h
  split at h
  · rfl
  · cases h
theorem isNl_inv {e : List S} (h : isNl e = true) : e = [] := by
  cases e with
  | nil => rfl
  | cons => cases h
theorem isSmR_inv {e : List S} (h : isSmR e = true) : e = [.ret smE] := by
  unfold isSmR at h
  split at h
  · rfl
  · cases h
theorem isIi_inv {e : List S} (h : isIi e = true) : e = iiB := by
  unfold isIi at h
  split at h
  · rfl
  · cases h
theorem isSm_inv {e : List S} (h : isSm e = true) : ∃ a b c r, e = .ite (.cmp .is (.var 1) .non) a [] :: .ite (.isi .bool (.var 1)) b [] :: .ite (.isi .int (.var 1)) [.ret smE] c :: r := by
  unfold isSm at h
  split at h
  · rw [Bool.and_eq_true, Bool.and_eq_true] at h
    obtain ⟨⟨h1, h2⟩, h3⟩ := h
    obtain ⟨c1, a1, b1, rfl, h1⟩ := kIteS_inv h1
    obtain ⟨c2, a2, b2, rfl, h2⟩ := kIteS_inv h2
    obtain ⟨c3, a3, b3, rfl, h3⟩ := kIteS_inv h3
    have h1 := Bool.and_eq_true_iff.mp h1
    have h2 := Bool.and_eq_true_iff.mp h2
    have h3 := Bool.and_eq_true_iff.mp h3
    rw [isN1_inv h1.1, isNl_inv h1.2, isB1_inv h2.1, isNl_inv h2.2, isI1_inv h3.1, isSmR_inv h3.2]
    exact ⟨_, _, _, _, rfl⟩
  · cases h
noncomputable def Pg.fnA (P : Pg) (i : Nat) (k : Str → Fn → Bool) : Bool := match P.at i, P.fsN i with
  | some (nm, f), some _ => k nm f
  | _, _ => false
theorem fnA_inv {P : Pg} {i : Nat} {k : Str → Fn → Bool} (h : P.fnA i k = true) : ∃ nm f nm', P.at i = some (nm, f) ∧ P.fsN i = some nm' ∧ k nm f = true := by
  unfold Pg.fnA at h
  split at h
  · next e1 e2 => exact ⟨_, _, _, e1, e2, h⟩
  · cases h
noncomputable def Pg.hs (P : Pg) : Bool := (P.fnA 9 fun _ f => decide (f.np = 1) && isIi f.body) && P.fnA 11 fun nm f => decide (nm = "_law_same") && decide (f.np = 2) && isSm f.body
noncomputable def Pg.tb0 (P : Pg) (f : Fn) (sc : Scope) : Tb := ⟨f.N, P.fsN, P.gl, P.wd, lk P.xc, P.bs, lkC P.cl, P.ms, some sc, fun _ _ _ => false, fun _ _ _ _ _ => false, fun c => (lk P.xn c).isSome, P.hs⟩
/-- the tree of the n-th def, within the i-th -/
noncomputable def Pg.nd (P : Pg) (i n : Nat) (fr : List Str) (st : Stmt) : Bool := decide (lk P.nt n = some i) && match P.at n with
  | some (nm, f) => decide (nm = stepS) && decide (f.np = 2 + fr.length) && kNd st fun _ params body scope => stepA params && NdefX.nscB f.N stepPs fr scope && okSs (P.tb0 f scope) scope f.body body
  | none => false
/-- the parameters of lambdas -/
noncomputable def lamNs : List Str := ["_law_shape_here", "one"]
noncomputable def lamA (ps : List Str) (params : Arguments) : Bool := match params with
  | ⟨[], [⟨a, none, _⟩], none, [], [], none, []⟩ => decide (ps = [a]) && lamNs.contains a
  | _ => false
theorem lamA_inv {ps : List Str} {params : Arguments} (h : lamA ps params = true) : ∃ a p, params = ⟨[], [⟨a, none, p⟩], none, [], [], none, []⟩ ∧ ps = [a] ∧ (a = "_law_shape_here" ∨ a = "one") := by
  unfold lamA at h
  split at h
  · next a p =>
    rw [Bool.and_eq_true] at h
    refine ⟨a, p, rfl, of_decide_eq_true h.1, ?_⟩
    have := List.contains_iff_mem.mp h.2
    rcases List.mem_cons.mp this with e | this
    · exact .inl e
    · exact .inr (List.mem_singleton.mp this)
  · cases h
/-- the tree of the n-th def, a lambda within the i-th -/
noncomputable def Pg.lm (P : Pg) (i n : Nat) (fr : List Str) (params : Arguments) (body : Expr) (scope : Scope) : Bool := decide (lk P.nt n = some i) && match P.at n with
  | some (nm, ⟨np, N, [.ret e]⟩) => decide (nm = "<lambda>") && decide (np = 1 + fr.length) && lamA (N.take 1) params && NdefX.nscB N (N.take 1) fr scope && okE (P.tb0 ⟨np, N, [.ret e]⟩ scope) false scope e body
  | _ => false
noncomputable def Pg.tb (P : Pg) (i : Nat) (f : Fn) : Tb := ⟨f.N, P.fsN, P.gl, P.wd, lk P.xc, P.bs, lkC P.cl, P.ms, none, P.nd i, P.lm i, fun c => (lk P.xn c).isSome, P.hs⟩
noncomputable def noSp : Nat → DSp := fun _ _ _ _ _ => False
/-- what the i-th def says, k calls deep; fk: the function value that it is handed, what that says -/
noncomputable def Pg.sp2 (P : Pg) : Nat → Nat → Option (D × DSp) → DSp
  | 0, _, _ => fun _ _ _ _ => False
  | 1, i, fk => fun ds St q qx => match P.at i with
    | some (_, f) => ds.length = f.np ∧ ∃ (q' : QD) (qx' : QX), (∀ d S', q' d S' → ∃ S2, Sub S2 S' ∧ q d S2) ∧ (∀ c d S', qx' c d S' → ∃ S2, Sub S2 S' ∧ qx c d S2) ∧
      wSs ⟨fun j => Pg.sp2 P 0 j none, noSp, qx', fk, fun j d sp => Pg.sp2 P 0 j (some (d, sp)), 0⟩ f.body (startE f.N.length ds) St (bodyK q')
    | none => False
  | k + 2, i, fk => fun ds St q qx => match P.at i with
    | some (_, f) => ds.length = f.np ∧ ∃ (q' : QD) (qx' : QX), (∀ d S', q' d S' → ∃ S2, Sub S2 S' ∧ q d S2) ∧ (∀ c d S', qx' c d S' → ∃ S2, Sub S2 S' ∧ qx c d S2) ∧
      wSs ⟨fun j => Pg.sp2 P (k + 1) j none, fun j => Pg.sp2 P k j none, qx', fk, fun j d sp => Pg.sp2 P (k + 1) j (some (d, sp)), k + 1⟩ f.body (startE f.N.length ds) St (bodyK q')
    | none => False
noncomputable def Pg.spec (P : Pg) (k i : Nat) : DSp := P.sp2 k i none
noncomputable def Pg.hsp (P : Pg) (k i : Nat) (d : D) (sp : DSp) : DSp := P.sp2 k i (some (d, sp))
noncomputable def Pg.spc (P : Pg) : Nat → Nat → DSp
  | 0 => noSp
  | k + 1 => P.spec k
noncomputable def Pg.G2 (P : Pg) (k : Nat) (qx : QX) (fk : Option (D × DSp)) : Gx := ⟨P.spec k, P.spc k, qx, fk, P.hsp k, k⟩
noncomputable def Pg.G (P : Pg) (k : Nat) (qx : QX) : Gx := P.G2 k qx none
theorem Pg.sp2_eq (P : Pg) (k i : Nat) (fk : Option (D × DSp)) (ds : List D) (St : Sto) (q : QD) (qx : QX) : P.sp2 (k + 1) i fk ds St q qx = (match P.at i with
    | some (_, f) => ds.length = f.np ∧ ∃ (q' : QD) (qx' : QX), (∀ d S', q' d S' → ∃ S2, Sub S2 S' ∧ q d S2) ∧ (∀ c d S', qx' c d S' → ∃ S2, Sub S2 S' ∧ qx c d S2) ∧
      wSs (P.G2 k qx' fk) f.body (startE f.N.length ds) St (bodyK q')
    | none => False) := by
  cases k <;> rfl
theorem Pg.sp2_gen {P : Pg} {k i : Nat} {fk : Option (D × DSp)} {f : Fn} {ds : List D} {St : Sto} {q q' : QD} {qx qx' : QX} (h : P.Has i f) (hl : ds.length = f.np) (c1 : ∀ d S', q' d S' → ∃ S2, Sub S2 S' ∧ q d S2) (c2 : ∀ c d S', qx' c d S' → ∃ S2, Sub S2 S' ∧ qx c d S2)
    (w : wSs (P.G2 k qx' fk) f.body (startE f.N.length ds) St (bodyK q')) : P.sp2 (k + 1) i fk ds St q qx := by
  obtain ⟨nm, N, h, e⟩ := h
  rw [Pg.sp2_eq, h]
  refine ⟨hl, q', qx', c1, c2, ?_⟩
  show wSs (P.G2 k qx' fk) f.body (startE N.length ds) St (bodyK q')
  rw [e]
  exact w
theorem Pg.spec_gen {P : Pg} {k i : Nat} {f : Fn} {ds : List D} {St : Sto} {q q' : QD} {qx qx' : QX} (h : P.Has i f) (hl : ds.length = f.np) (c1 : ∀ d S', q' d S' → ∃ S2, Sub S2 S' ∧ q d S2) (c2 : ∀ c d S', qx' c d S' → ∃ S2, Sub S2 S' ∧ qx c d S2)
    (w : wSs (P.G k qx') f.body (startE f.N.length ds) St (bodyK q')) : P.spec (k + 1) i ds St q qx := Pg.sp2_gen h hl c1 c2 w
/-- .. part of the store is forgotten at the end -/
theorem Pg.spec_fgt {P : Pg} {k i : Nat} {f : Fn} {ds : List D} {St : Sto} {q : QD} {qx : QX} (h : P.Has i f) (hl : ds.length = f.np) (w : wSs (P.G k fun c d S' => ∃ S2, Sub S2 S' ∧ qx c d S2) f.body (startE f.N.length ds) St (bodyK fun d S' => ∃ S2, Sub S2 S' ∧ q d S2)) : P.spec (k + 1) i ds St q qx :=
  Pg.spec_gen h hl (fun _ _ z => z) (fun _ _ _ z => z) w
theorem Pg.spec_succ {P : Pg} {k i : Nat} {f : Fn} {ds : List D} {St : Sto} {q : QD} {qx : QX} (h : P.Has i f) (hl : ds.length = f.np) (w : wSs (P.G k qx) f.body (startE f.N.length ds) St (bodyK q)) : P.spec (k + 1) i ds St q qx :=
  Pg.spec_gen h hl (fun _ S z => ⟨S, Sub.refl S, z⟩) (fun _ _ S z => ⟨S, Sub.refl S, z⟩) w
variable [TBS]
/-- the program's text as own terms, in a world's heap -/
structure Lnk (P : Pg) (C : XC) (prog : Program) (w : World) (K : PySem.W.Frag) (mg : Str → Option Value) (base : Heap) (fa : Nat → Addr) (fd : Nat → FuncData) : Prop where
  fs : ∀ (i : Nat) (nm : Str) (f : Fn), P.at i = some (nm, f) → lk P.nt i = none → (lk P.mt i = none → mg nm = some (.ref (fa i))) ∧ Binds K (fd i) (f.N.take f.np) [] ∧ f.np ≤ f.N.length ∧
    ∃ x qual params body scope dvs kws, FunD K x qual params body scope dvs kws (fa i) (fd i) ∧ FnScope f.N (f.N.take f.np) scope ∧ okSs (P.tb i f) scope f.body body = true ∧
      ((∃ n fr st, P.nd i n fr st = true) → ∃ (cc Pt : Addr) (nm : Nat → Nat → Str), LamX.TabB base mg cc Pt ∧ (fd i).code = .ref cc ∧ (Pt, nm) ∈ TBS.T ∧ (∀ l c, nm l c = (envOfC qual scope 0 (fa i) (.ref cc)).qual ++ stepS) ∧ ∀ p ∈ TBS.T, p.1 = Pt → p.2 = nm) ∧
      ((∃ n fr params body scope, P.lm i n fr params body scope = true) → ∃ (cc Pt : Addr) (nm : Nat → Nat → Str), LamX.TabB base mg cc Pt ∧ (fd i).code = .ref cc ∧ (Pt, nm) ∈ TBS.T ∧ (∀ l c, nm l c = (envOfC qual scope 0 (fa i) (.ref cc)).qual ++ "<lambda>") ∧ ∀ p ∈ TBS.T, p.1 = Pt → p.2 = nm)
  blt : ∀ x, x ∈ blts → mg x = none
  gl : ∀ (nm : Str) (d : D), (nm, d) ∈ P.gl → ∃ u v, mg nm = some u ∧ RelV v u ∧ Is K (fun _ => none) v d
  wd : ∀ (nm : Str) (d : List (D × D)), (nm, d) ∈ P.wd → ∃ p0, mg nm = some (.ref p0) ∧ (∀ s e, lookD d (.str s) = some e → ∃ v, KDct K w p0 (mkS s) v ∧ Is K (fun _ => none) v e) ∧ (∀ y, isKey y = true → (∀ s, y ≠ .str s) → lookD d y = none)
  xf : ∀ N lm c x, lk P.xc c = some x → XF ⟨prog, w, K, mg, base, N, lm⟩ C c x
  xi : ∀ N lm c x, lk P.xc c = some x → XI ⟨prog, w, K, mg, base, N, lm⟩ C P.bs
  xp : ∀ N lm c x, lk P.xc c = some x → (lk P.xn c).isSome = false → XP ⟨prog, w, K, mg, base, N, lm⟩ C c
  xn : ∀ N lm c x, lk P.xc c = some x → (lk P.xn c).isSome = true → XN ⟨prog, w, K, mg, base, N, lm⟩ C c x
  cl : ∀ c fs, (c, fs) ∈ P.cl → Cls K (He.ga K (mkS c)) ∧ ∀ f ∈ fs, NoAttr K (He.ga K (mkS c)) (mkS f)
  mt : ∀ i c m, lk P.mt i = some (c, m) → P.xi i = false → Cls K (He.ga K (mkS c)) ∧ Meth K (He.ga K (mkS c)) (mkS m) (fa i)
  mkr : ∀ i c, lk P.mt i = some (c, initS) → P.xi i = false → Mk K (He.ga K (mkS c)) (fa i) ∧ mg (mkS c) = some (.ref (He.ga K (mkS c)))
theorem fnIn_of {K : PySem.W.Frag} {x qual : Str} {params : Arguments} {body : List Stmt} {scope : Scope} {dvs : List V} {kws : List (Str × V)} {f : Addr} {fd : FuncData} (F : FunD K x qual params body scope dvs kws f fd) : PySem.W.fnIn K f = true := by
  obtain ⟨oc, od, dV, kV, doc, pm, an, cdv, ct, osl, _, lk, _, _, _⟩ := F.ex
  unfold PySem.W.fnIn
  rw [lk]
theorem no_ok {prog : Program} {w : World} {K : PySem.W.Frag} {mg : Str → Option Value} {base : Heap} {C : XC} {fa : Addr} {fd : FuncData} {ps : List Str} {j : Nat} {sp : DSp} (h : ∀ ds St q qx, ¬ sp ds St q qx) : FnOk prog w K mg base (L2.CX prog w) j fa fd ps (lift K w C sp) :=
  ⟨fun vs H Q E s => by
      obtain ⟨_, _, _, _, _, _, _, s, _⟩ := s
      exact (h _ _ _ _ s).elim, fun _ _ _ _ _ _ _ _ _ _ _ _ _ s => by
      obtain ⟨_, _, _, _, _, _, _, s, _⟩ := s
      exact (h _ _ _ _ s).elim⟩
theorem no_nok {prog : Program} {w : World} {K : PySem.W.Frag} {mg : Str → Option Value} {base : Heap} {C : XC} {q0 : Addr} {FN : NdefX.NF} {ps fr : List Str} {j n : Nat} {sp : DSp} (h : ∀ ds St q qx, ¬ sp ds St q qx) (hn : n = ps.length) : NdefX.NOk prog w K mg base (L2.CX prog w) j q0 FN ps fr (spN K w C n sp) :=
  ⟨fun ws vs H Q E s => s.1.trans hn, fun _ _ _ _ _ _ _ _ _ _ _ _ _ _ _ s => by
    obtain ⟨_, _, _, _, _, _, _, _, _, _, s, _⟩ := s
    exact (h _ _ _ _ s).elim⟩
theorem ms_inv {P : Pg} {i : Nat} {c m : Bs} (h : P.ms i = some (c, m)) : (∃ nm f, P.at i = some (nm, f)) ∧ lk P.nt i = none ∧ lk P.mt i = some (c, m) ∧ P.xi i = false := by
  unfold Pg.ms at h
  split at h
  · next q e en =>
    by_cases hx : P.xi i = true
    · rw [if_pos hx] at h; cases h
    · rw [if_neg hx] at h
      exact ⟨⟨_, _, e⟩, en, h, by simpa using hx⟩
  · cases h
theorem fsN_inv {P : Pg} {i : Nat} {nm : Str} (h : P.fsN i = some nm) : (∃ f, P.at i = some (nm, f)) ∧ lk P.nt i = none ∧ lk P.mt i = none := by
  unfold Pg.fsN at h
  split at h
  · next e en =>
    obtain ⟨⟨nm2, f2⟩, e1, rfl⟩ := Option.map_eq_some_iff.mp h
    exact ⟨⟨f2, e1⟩, en, e⟩
  · cases h
theorem hs_of {P : Pg} {C : XC} {prog : Program} {w : World} {K : PySem.W.Frag} {mg : Str → Option Value} {base : Heap} {fa : Nat → Addr} {fd : Nat → FuncData} (L : Lnk P C prog w K mg base fa fd) (h : P.hs = true) (N : List Str) (lm : Prop) : HSm ⟨prog, w, K, mg, base, N, lm⟩ := by
  unfold Pg.hs at h
  rw [Bool.and_eq_true] at h
  obtain ⟨h1, h2⟩ := h
  obtain ⟨nm1, f1, nm1', a1, n1, k1⟩ := fnA_inv h1
  obtain ⟨nm2, f2, nm2', a2, n2, k2⟩ := fnA_inv h2
  simp only [Bool.and_eq_true] at k1 k2
  have ii := isIi_inv k1.2
  obtain ⟨sa, sb, sc, sr, esm⟩ := isSm_inv k2.2
  obtain ⟨_, en1, em1⟩ := fsN_inv n1
  obtain ⟨_, en2, em2⟩ := fsN_inv n2
  obtain ⟨hm1, hb1, l1, x1, q1, p1, b1, s1, d1, kw1, F1, S1, ok1, _, _⟩ := L.fs 9 nm1 f1 a1 en1
  obtain ⟨hm2, hb2, l2, x2, q2, p2, b2, s2, d2, kw2, F2, S2, ok2, _, _⟩ := L.fs 11 nm2 f2 a2 en2
  rw [ii] at ok1
  rw [esm] at ok2
  have z1 : (f1.N.take f1.np).length = 1 := by rw [List.length_take, of_decide_eq_true k1.1] at *; omega
  have z2 : (f2.N.take f2.np).length = 2 := by rw [List.length_take, of_decide_eq_true k2.1.2] at *; omega
  refine ⟨⟨fa 11, fd 11, f2.N.take f2.np, ?_, F2.kp, hb2, sm_fn (T := P.tb 11 f2) F2 S2 z2 L.blt (fun nm hn => ?_) ok2⟩, L.blt _ (by decide +kernel), L.blt _ (by decide +kernel)⟩
  · have := hm2 em2
    rwa [of_decide_eq_true k2.1.1] at this
  · have hn : P.fsN 9 = some nm := hn
    obtain ⟨⟨f', e1⟩, _, _⟩ := fsN_inv hn
    rw [a1] at e1
    cases e1
    exact ⟨fa 9, fd 9, f1.N.take f1.np, hm1 em1, F1.kp, hb1, ii_fn (T := P.tb 9 f1) F1 S1 z1 L.blt ok1⟩
theorem nd_inv {P : Pg} {i n : Nat} {fr : List Str} {st : Stmt} (h : P.nd i n fr st = true) : lk P.nt n = some i ∧ ∃ nm f, P.at n = some (nm, f) ∧ nm = stepS ∧ f.np = 2 + fr.length ∧ ∃ name params body scope pos, st = .FunctionDef name params body [] none [] scope none name pos ∧ stepA params = true ∧ NdefX.NScope f.N stepPs fr scope ∧ okSs (P.tb0 f scope) scope f.body body = true := by
  unfold Pg.nd at h
  rw [Bool.and_eq_true] at h
  obtain ⟨h1, h2⟩ := h
  split at h2
  · next nm f e =>
    rw [Bool.and_eq_true, Bool.and_eq_true] at h2
    obtain ⟨name, params, body, scope, pos, e2, h3⟩ := kNd_inv h2.2
    simp only [Bool.and_eq_true] at h3
    exact ⟨of_decide_eq_true h1, nm, f, e, of_decide_eq_true h2.1.1, of_decide_eq_true h2.1.2, name, params, body, scope, pos, e2, h3.1.1, NdefX.nscope_by h3.1.2, h3.2⟩
  · cases h2
theorem lm_inv {P : Pg} {i n : Nat} {fr : List Str} {params : Arguments} {body : Expr} {scope : Scope} (h : P.lm i n fr params body scope = true) : lk P.nt n = some i ∧ ∃ np N e, P.at n = some (("<lambda>" : Str), (⟨np, N, [.ret e]⟩ : Fn)) ∧ np = 1 + fr.length ∧ lamA (N.take 1) params = true ∧ NdefX.NScope N (N.take 1) fr scope ∧ okE (P.tb0 ⟨np, N, [.ret e]⟩ scope) false scope e body = true := by
  unfold Pg.lm at h
  rw [Bool.and_eq_true] at h
  obtain ⟨h1, h2⟩ := h
  split at h2
  · next nm np N e hat =>
    simp only [Bool.and_eq_true] at h2
    obtain ⟨⟨⟨⟨a1, a2⟩, a3⟩, a4⟩, a5⟩ := h2
    have a1 := of_decide_eq_true a1
    subst a1
    exact ⟨of_decide_eq_true h1, np, N, e, hat, of_decide_eq_true a2, a3, NdefX.nscope_by a4, a5⟩
  · cases h2
theorem sub_lift {K : PySem.W.Frag} {ω : World} {C : XC} {vs : List V} {H : Hp} {Q : VK} {E : XK} {a b : DSp} (h : ∀ ds St q qx, a ds St q qx → ∃ (q' : QD) (qx' : QX), (∀ d S', q' d S' → ∃ S2, Sub S2 S' ∧ q d S2) ∧ (∀ c d S', qx' c d S' → ∃ S2, Sub S2 S' ∧ qx c d S2) ∧ b ds St q' qx') (l : lift K ω C a vs H Q E) : lift K ω C b vs H Q E := by
  obtain ⟨ds, St, F0, q, qx, r, il, s, k1, k2⟩ := l
  obtain ⟨q', qx', c1, c2, w0⟩ := h ds St q qx s
  refine ⟨ds, St, F0, q', qx', r, il, w0, fun d S' v F' H' hq fr sr is => ?_, fun c d S' F' H' dx hq fr sr pay => ?_⟩
  · obtain ⟨S2, sb, hq2⟩ := c1 d S' hq
    exact k1 d S2 v F' H' hq2 (fr.sub' sb) (sr.sub' sb) is
  · obtain ⟨S2, sb, hq2⟩ := c2 c d S' hq
    exact k2 c d S2 F' H' dx hq2 (fr.sub' sb) (sr.sub' sb) pay
noncomputable def Pg.psL (P : Pg) (n : Nat) : List Str := match P.at n with
  | some (_, f) => f.N.take 1
  | none => []
theorem no_lok {prog : Program} {w : World} {K : PySem.W.Frag} {mg : Str → Option Value} {base : Heap} {C : XC} {q0 : Addr} {FN : NdefX.NF} {body : Expr} {ps fr : List Str} {j : Nat} {sp : DSp} (h : ∀ ds St q qx, ¬ sp ds St q qx) (hn : 1 = ps.length) : LOk prog w K mg base (L2.CX prog w) j q0 FN body ps fr (spN K w C 1 sp) :=
  ⟨fun ws vs H Q E s => s.1.trans hn, fun _ _ _ _ _ _ _ _ _ _ _ _ _ _ _ s => by
    obtain ⟨_, _, _, _, _, _, _, _, _, _, s, _⟩ := s
    exact (h _ _ _ _ s).elim⟩
theorem psL_len {P : Pg} {i n : Nat} {fr : List Str} {params : Arguments} {body : Expr} {scope : Scope} (h : P.lm i n fr params body scope = true) : (P.psL n).length = 1 := by
  obtain ⟨_, np, N, e, hat, _, h3, _⟩ := lm_inv h
  obtain ⟨a, p, _, e2, _⟩ := lamA_inv h3
  unfold Pg.psL
  rw [hat]
  show (N.take 1).length = 1
  rw [e2]; rfl
/-- all that the program's defs promise, k calls deep -/
structure PrK (P : Pg) (C : XC) (prog : Program) (w : World) (K : PySem.W.Frag) (mg : Str → Option Value) (OkB : Heap → Prop) (fa : Nat → Addr) (fd : Nat → FuncData) (k : Nat) : Prop where
  fn : ∀ (base : Heap), OkB base → ∀ (i : Nat) (nm : Str) (f : Fn), P.at i = some (nm, f) → lk P.nt i = none → ∀ fk : Option (D × DSp), (∀ d sp, fk = some (d, sp) → KeyOk prog w K mg base C k d sp) → FnOk prog w K mg base (L2.CX prog w) (k + 1) (fa i) (fd i) (f.N.take f.np) (lift K w C (P.sp2 k i fk))
  nd : ∀ (base : Heap), OkB base → ∀ (n i : Nat) (fr : List Str) (name : Str) (params : Arguments) (body : List Stmt) (scope : Scope) (pos : Pos) (q : Addr) (env0 : PySem.Env) (c : Addr), P.nd i n fr (.FunctionDef name params body [] none [] scope none name pos) = true → NdefX.NOk prog w K mg base (L2.CX prog w) (k + 1) q (nfOf env0 name params body scope c) stepPs fr (spN K w C stepPs.length (P.spec k n))
  ld : ∀ (base : Heap), OkB base → ∀ (n i : Nat) (fr : List Str) (params : Arguments) (body : Expr) (scope : Scope) (q c : Addr) (q0 : Str) (cl : List (Str × Addr)), P.lm i n fr params body scope = true → LOk prog w K mg base (L2.CX prog w) (k + 1) q (lfOf q0 cl params scope c) body (P.psL n) fr (spN K w C 1 (P.spec k n))
theorem prog_all {P : Pg} {C : XC} {prog : Program} {w : World} {K : PySem.W.Frag} {mg : Str → Option Value} {OkB : Heap → Prop} {fa : Nat → Addr} {fd : Nat → FuncData} (up : ∀ base base', OkB base → (∀ b u, Heap.get? base b = some u → Heap.get? base' b = some u) → OkB base') (L : ∀ base, OkB base → Lnk P C prog w K mg base fa fd) :
    ∀ k, PrK P C prog w K mg OkB fa fd k := by
  intro k
  induction k using Nat.strongRecOn with
  | ind k ih =>
    cases k with
    | zero => exact ⟨fun base hB i nm f h _ fk hk => no_ok fun _ _ _ _ s => s, fun base hB n i fr name params body scope pos q env0 c h => no_nok (fun _ _ _ _ s => s) rfl, fun base hB n i fr params body scope q c q0 cl h => no_lok (fun _ _ _ _ s => s) (psL_len h).symm⟩
    | succ k =>
      have I := ih k (Nat.lt_succ_self k)
      have low : ∀ base, OkB base → ∀ i' nm' f', P.at i' = some (nm', f') → lk P.nt i' = none → FnOk prog w K mg base (L2.CX prog w) k (fa i') (fd i') (f'.N.take f'.np) (lift K w C (P.spc k i')) := by
        intro base hB i' nm' f' e' en
        cases k with
        | zero => exact no_ok fun _ _ _ _ s => s
        | succ k => exact (ih k (by omega)).fn base hB i' nm' f' e' en none fun _ _ h => by cases h
      have lowN : ∀ base, OkB base → ∀ (n i : Nat) (fr : List Str) (name : Str) (params : Arguments) (body : List Stmt) (scope : Scope) (pos : Pos) (q : Addr) (env0 : PySem.Env) (c : Addr), P.nd i n fr (.FunctionDef name params body [] none [] scope none name pos) = true → NdefX.NOk prog w K mg base (L2.CX prog w) k q (nfOf env0 name params body scope c) stepPs fr (spN K w C stepPs.length (P.spc k n)) := by
        intro base hB n i fr name params body scope pos q env0 c h
        cases k with
        | zero => exact no_nok (fun _ _ _ _ s => s) rfl
        | succ k => exact (ih k (by omega)).nd base hB n i fr name params body scope pos q env0 c h
      have lowL : ∀ base, OkB base → ∀ (n i : Nat) (fr : List Str) (params : Arguments) (body : Expr) (scope : Scope) (q c : Addr) (q0 : Str) (cl : List (Str × Addr)), P.lm i n fr params body scope = true → LOk prog w K mg base (L2.CX prog w) k q (lfOf q0 cl params scope c) body (P.psL n) fr (spN K w C 1 (P.spc k n)) := by
        intro base hB n i fr params body scope q c q0 cl h
        cases k with
        | zero => exact no_lok (fun _ _ _ _ s => s) (psL_len h).symm
        | succ k => exact (ih k (by omega)).ld base hB n i fr params body scope q c q0 cl h
      have lenL : ∀ n i fr params body scope, P.lm i n fr params body scope = true → ∀ ds St q qx, P.spc k n ds St q qx → ds.length = 1 + fr.length := by
        intro n i fr params body scope h ds St q qx s
        cases k with
        | zero => exact s.elim
        | succ k =>
          obtain ⟨_, np, N, e, hat, hnp, _⟩ := lm_inv h
          cases k with
          | zero => exact s.elim
          | succ k =>
            have s : P.sp2 (k + 1) n none ds St q qx := s
            rw [Pg.sp2_eq, hat] at s
            exact s.1.trans hnp
      have lenN : ∀ n i fr st, P.nd i n fr st = true → ∀ ds St q qx, P.spc k n ds St q qx → ds.length = stepPs.length + fr.length := by
        intro n i fr st h ds St q qx s
        cases k with
        | zero => exact s.elim
        | succ k =>
          obtain ⟨_, nm, f, e, _, hnp, _⟩ := nd_inv h
          cases k with
          | zero => exact s.elim
          | succ k =>
            have s : P.sp2 (k + 1) n none ds St q qx := s
            rw [Pg.sp2_eq, e] at s
            rw [s.1, hnp]; rfl
      have GD : ∀ base, OkB base → ∀ (T : Tb) (N : T.N.Nodup) (hfs : T.fs = P.fsN) (hgl : T.gl = P.gl) (hwd : T.wd = P.wd) (hxc : T.xc = lk P.xc) (hbs : T.bs = P.bs) (hcl : T.cl = lkC P.cl) (hms : T.ms = P.ms) (hxn : T.xn = fun c => (lk P.xn c).isSome) (hhs : T.hs = P.hs) (hnd : ∀ n fr st, T.nd n fr st = true → ∃ i, P.nd i n fr st = true) (hlm : ∀ n fr params body scope, T.lm n fr params body scope = true → ∃ i, P.lm i n fr params body scope = true) (qx : QX) (fk : Option (D × DSp)), (∀ d sp, fk = some (d, sp) → KeyOk prog w K mg base C (k + 1) d sp) → Gd ⟨prog, w, K, mg, base, T.N, T.hasL⟩ C T (P.G2 k qx fk) (k + 1) := by
        intro base hB T N hfs hgl hwd hxc hbs hcl hms hxn hhs hnd hlm qx fk hk
        have L0 := L base hB
        refine ⟨rfl, N, L0.blt, fun i' nm' h' => ?_, fun nm' d h' => L0.gl nm' d (by rw [← hgl]; exact h'), fun nm' d h' => L0.wd nm' d (by rw [← hwd]; exact h'), fun c x h' => L0.xf _ _ c x (by rw [← hxc]; exact h'), fun c x h' => by rw [hbs]; exact L0.xi _ _ c x (by rw [← hxc]; exact h'), fun c x h' h2 => L0.xp _ _ c x (by rw [← hxc]; exact h') (by rw [hxn] at h2; exact h2), fun c x h' h2 => L0.xn _ _ c x (by rw [← hxc]; exact h') (by rw [hxn] at h2; exact h2), Nat.le_refl _, fun c fs h' => L0.cl c fs (lkC_mem (by rw [← hcl]; exact h')), fun i' c m h' => ?_, fun i' c h' => ?_, fun d sp e => hk d sp e, fun i' c m h' => ?_, fun i' c m h' => ?_, fun n fr st h' => ?_, fun h => h, fun n fr params body scope h' => ?_, fun h' => hs_of L0 (by rw [← hhs]; exact h') _ _⟩
        · rw [hfs] at h'
          obtain ⟨⟨f2, e1⟩, en, em⟩ := fsN_inv (P := P) (i := i') (nm := nm') h'
          obtain ⟨hm2, hb2, _, x2, q2, p2, b2, s2, d2, k2, F2, _, _, _⟩ := L0.fs i' nm' f2 e1 en
          exact ⟨fa i', fd i', _, hm2 em, F2.kp, hb2, I.fn base hB i' nm' f2 e1 en none fun _ _ h => by cases h⟩
        · rw [hms] at h'
          obtain ⟨⟨nm2, f2, e1⟩, en, em, ex⟩ := ms_inv (P := P) (i := i') (c := c) (m := m) h'
          obtain ⟨hm2, hb2, _, x2, q2, p2, b2, s2, d2, k2, F2, _, _, _⟩ := L0.fs i' nm2 f2 e1 en
          obtain ⟨m1, m2⟩ := L0.mt i' c m em ex
          exact ⟨m1, fa i', fd i', _, m2, hb2, I.fn base hB i' nm2 f2 e1 en none fun _ _ h => by cases h⟩
        · rw [hms] at h'
          obtain ⟨⟨nm2, f2, e1⟩, en, em, ex⟩ := ms_inv (P := P) (i := i') (c := c) (m := initS) h'
          obtain ⟨hm2, hb2, _, x2, q2, p2, b2, s2, d2, k2, F2, _, _, _⟩ := L0.fs i' nm2 f2 e1 en
          obtain ⟨m1, m2⟩ := L0.mkr i' c em ex
          exact ⟨fa i', fd i', _, k, rfl, m1, m2, hb2, low base hB i' nm2 f2 e1 en⟩
        · rw [hms] at h'
          obtain ⟨⟨nm2, f2, e1⟩, en, em, ex⟩ := ms_inv (P := P) (i := i') (c := c) (m := m) h'
          obtain ⟨hm2, hb2, _, x2, q2, p2, b2, s2, d2, k2, F2, _, _, _⟩ := L0.fs i' nm2 f2 e1 en
          obtain ⟨m1, m2⟩ := L0.mt i' c m em ex
          exact ⟨fa i', fd i', _, k, rfl, m2, hb2, fun base' d sp ext key => I.fn base' (up base base' hB ext) i' nm2 f2 e1 en (some (d, sp)) fun d' sp' h => by cases h; exact key⟩
        · rw [hms] at h'
          obtain ⟨⟨nm2, f2, e1⟩, en, em, ex⟩ := ms_inv (P := P) (i := i') (c := c) (m := m) h'
          obtain ⟨hm2, hb2, _, x2, q2, p2, b2, s2, d2, k2, F2, _, _, _⟩ := L0.fs i' nm2 f2 e1 en
          obtain ⟨m1, m2⟩ := L0.mt i' c m em ex
          exact ⟨fa i', fd i', _, k, rfl, m2, fnIn_of F2, hb2, low base hB i' nm2 f2 e1 en⟩
        · obtain ⟨i, h1⟩ := hnd n fr st h'
          refine ⟨stepPs, k, rfl, lenN n i fr st h1, fun name params body scope pos e => ?_⟩
          subst e
          refine ⟨fun env => ?_, fun base' q env0 c ext => lowN base' (up base base' hB ext) n i fr name params body scope pos q env0 c h1⟩
          obtain ⟨_, _, _, _, _, _, name', params', body', scope', pos', e2, h3, _⟩ := nd_inv h1
          injection e2 with e2 e3
          subst e3
          obtain ⟨p1, p2, rfl⟩ := stepA_inv h3
          rfl
        · obtain ⟨i, h1⟩ := hlm n fr params body scope h'
          refine ⟨P.psL n, k, rfl, psL_len h1, lenL n i fr params body scope h1, fun env => ?_, fun q c q0 cl => lowL base hB n i fr params body scope q c q0 cl h1⟩
          obtain ⟨_, _, _, _, _, _, h3, _⟩ := lm_inv h1
          obtain ⟨a, p, rfl, _, _⟩ := lamA_inv h3
          rfl
      refine ⟨fun base hB i nm f h en fk hk => ?_, fun base hB n i fr name params body scope pos q0 env0 c h => ?_, fun base hB n i fr params body scope q1 c q0 cl h => ?_⟩
      · obtain ⟨hm, hb, hn, x, qual, params, body, scope, dvs, kws, F, Sc, hok, tab, tabL⟩ := (L base hB).fs i nm f h en
        have D : ∀ qx, Gd ⟨prog, w, K, mg, base, (P.tb i f).N, (P.tb i f).hasL⟩ C (P.tb i f) ((P.G2 k (fun _ _ _ => False) fk).at qx) (k + 1) := fun qx => GD base hB (P.tb i f) Sc.nd rfl rfl rfl rfl rfl rfl rfl rfl rfl (fun n fr st h => ⟨i, h⟩) (fun n fr params body scope h => ⟨i, h⟩) qx fk hk
        refine (def_ok (ps := f.N.take f.np) F Sc D hok rfl tab tabL).imp fun vs H Q E s => sub_lift (fun ds St q qx s => ?_) s
        rw [Pg.sp2_eq, h] at s
        obtain ⟨hl, q', qx', c1, c2, w0⟩ := s
        exact ⟨q', qx', c1, c2, by rw [hl, List.length_take]; omega, w0⟩
      · obtain ⟨hnt, nm, f, e, _, hnp, name', params', body', scope', pos', e2, h3, Sc, hok⟩ := nd_inv h
        injection e2 with e2 e3 e4 _ _ _ e5
        subst e3; subst e4; subst e5
        have D : ∀ qx, Gd ⟨prog, w, K, mg, base, (P.tb0 f scope).N, (P.tb0 f scope).hasL⟩ C (P.tb0 f scope) ((P.G2 k (fun _ _ _ => False) none).at qx) (k + 1) := fun qx => GD base hB (P.tb0 f scope) Sc.nd rfl rfl rfl rfl rfl rfl rfl rfl rfl (fun n fr st h => by cases h) (fun n fr params body scope h => by cases h) qx none fun _ _ h => by cases h
        obtain ⟨p1, p2, rfl⟩ := stepA_inv h3
        refine (nest_ok (T := P.tb0 f scope) (FN := nfOf env0 name _ body scope c) (q0 := q0) Sc (fun doc pm ctv us hl => ?_) D hok rfl (fun z => by obtain ⟨_, _, _, _, _, z⟩ := z; cases z)).imp fun ws vs H Q E s => ?_
        · match us, hl with
          | [u, v], _ => rfl
        · obtain ⟨hl, us, e1, l⟩ := s
          refine ⟨hl, us, e1, sub_lift (fun ds St q qx s => ?_) l⟩
          have s : P.sp2 (k + 1) n none ds St q qx := s
          rw [Pg.sp2_eq, e] at s
          obtain ⟨hl, q', qx', c1, c2, w0⟩ := s
          exact ⟨q', qx', c1, c2, by rw [hl, hnp]; rfl, w0⟩
      · obtain ⟨hnt, np, N, e, hat, hnp, h3, Sc, hok⟩ := lm_inv h
        have D : ∀ qx, Gd ⟨prog, w, K, mg, base, (P.tb0 ⟨np, N, [.ret e]⟩ scope).N, (P.tb0 ⟨np, N, [.ret e]⟩ scope).hasL⟩ C (P.tb0 ⟨np, N, [.ret e]⟩ scope) ((P.G2 k (fun _ _ _ => False) none).at qx) (k + 1) := fun qx => GD base hB (P.tb0 ⟨np, N, [.ret e]⟩ scope) Sc.nd rfl rfl rfl rfl rfl rfl rfl rfl rfl (fun n fr st h => by cases h) (fun n fr params body scope h => by cases h) qx none fun _ _ h => by cases h
        have hps : P.psL n = N.take 1 := by unfold Pg.psL; rw [hat]
        rw [hps]
        have h1 : (N.take 1).length = 1 := by rw [← hps]; exact psL_len h
        obtain ⟨a, p, rfl, ea, en⟩ := lamA_inv h3
        refine (lam_ok (T := P.tb0 ⟨np, N, [.ret e]⟩ scope) (FN := lfOf q0 cl _ scope c) (q0 := q1) h1 Sc (fun pm ctv us hl => ?_) D hok rfl (fun z => by obtain ⟨_, _, _, _, _, z⟩ := z; cases z)).imp fun ws vs H Q E s => ?_
        · rw [ea] at hl ⊢
          match us, hl with
          | [u], _ => rcases en with rfl | rfl <;> rfl
        · obtain ⟨hl, us, e1, l⟩ := s
          refine ⟨hl, us, e1, sub_lift (fun ds St q qx s => ?_) l⟩
          have s : P.sp2 (k + 1) n none ds St q qx := s
          rw [Pg.sp2_eq, hat] at s
          obtain ⟨hl, q', qx', c1, c2, w0⟩ := s
          exact ⟨q', qx', c1, c2, hl.trans hnp, w0⟩
theorem prog_ok {P : Pg} {C : XC} {prog : Program} {w : World} {K : PySem.W.Frag} {mg : Str → Option Value} {OkB : Heap → Prop} {fa : Nat → Addr} {fd : Nat → FuncData} (up : ∀ base base', OkB base → (∀ b u, Heap.get? base b = some u → Heap.get? base' b = some u) → OkB base') (L : ∀ base, OkB base → Lnk P C prog w K mg base fa fd)
    (base : Heap) (hB : OkB base) (k i : Nat) (nm : Str) (f : Fn) (h : P.at i = some (nm, f)) (en : lk P.nt i = none) : FnOk prog w K mg base (L2.CX prog w) (k + 1) (fa i) (fd i) (f.N.take f.np) (lift K w C (P.spec k i)) :=
  (prog_all up L k).fn base hB i nm f h en none fun _ _ h => by cases h
end DL
/-! DL14: from the text and the head's facts to the link; the law's end. -/
namespace DL
open PySem PySem.Spec PyProof.Rows L2
/-- a def of the top -/
noncomputable def dOf (p : Program) (i : Nat) : He.DefD := match p.main.body[i]? with
  | some (.FunctionDef name args body _ _ _ sc _ _ _) => ⟨(name, none), name, name, args, body, sc, [], []⟩
  | _ => ⟨("", none), "", "", ⟨[], [], none, [], [], none, []⟩, [], ⟨.function, [], false, false, []⟩, [], []⟩
/-- a method of a class of the top -/
noncomputable def findM (m : Str) : List Stmt → Option He.DefD
  | [] => none
  | .FunctionDef name args body _ _ _ sc _ _ _ :: r => if name = m then some ⟨("", some name), name, "", args, body, sc, [], []⟩ else findM m r
  | _ :: r => findM m r
noncomputable def dOfM (p : Program) (i : Nat) (m : Str) : He.DefD := match p.main.body[i]? with
  | some (.ClassDef c _ _ body _ _ _ _ _ _ _) => match findM m body with
    | some d => { d with at_ := (c, some m), qual := c ++ "." ++ m }
    | none => ⟨("", none), "", "", ⟨[], [], none, [], [], none, []⟩, [], ⟨.function, [], false, false, []⟩, [], []⟩
  | _ => ⟨("", none), "", "", ⟨[], [], none, [], [], none, []⟩, [], ⟨.function, [], false, false, []⟩, [], []⟩
noncomputable def BindsP (params : Arguments) (ps : List Str) : Prop := ∀ (x qual : Str) (body : List Stmt) (scope : Scope) (kV doc pm : Value) (an : Option Addr) (cdv ct : Value) (us : List Value), us.length = ps.length →
  bindArgs (PySem.W.fnOf x qual params body scope .none kV doc pm an cdv ct) ⟨us, []⟩ = pure (ps.zip us)
inductive AllB : List (Nat × Str × Fn) → List He.DefD → Prop
  | nil : AllB [] []
  | cons {q : Nat × Str × Fn} {fs : List (Nat × Str × Fn)} {d : He.DefD} {ds : List He.DefD} : BindsP d.params (q.2.2.N.take q.2.2.np) → AllB fs ds → AllB (q :: fs) (d :: ds)
theorem AllB.get : ∀ {fs : List (Nat × Str × Fn)} {ds : List He.DefD} {i : Nat} {q : Nat × Str × Fn} {d : He.DefD}, AllB fs ds → fs[i]? = some q → ds[i]? = some d → BindsP d.params (q.2.2.N.take q.2.2.np)
  | _, _, 0, _, _, .cons h _, e1, e2 => by cases e1; cases e2; exact h
  | _, _, i + 1, _, _, .cons _ t, e1, e2 => AllB.get t (by simpa using e1) (by simpa using e2)
noncomputable def scB (N ps : List Str) (sc : Scope) : Bool := (match sc.kind with | .function => true | _ => false) && !sc.isCoroutine && !sc.isGenerator && decide N.Nodup &&
  (ps.all fun x => match sc.names.lookup x with | some .local => true | some .cell => true | _ => false) && sc.names.all fun y => match y.2 with | .free => false | _ => true
theorem scB_ok {N : List Str} {n : Nat} {sc : Scope} (h : scB N (N.take n) sc = true) : FnScope N (N.take n) sc := by
  unfold scB at h
  simp only [Bool.and_eq_true, Bool.not_eq_true'] at h
  obtain ⟨⟨⟨⟨⟨h1, h2⟩, h3⟩, h4⟩, h5⟩, h6⟩ := h
  refine ⟨?_, h2, h3, of_decide_eq_true h4, by rw [List.length_take, List.take_eq_take_iff]; omega, fun x hx => ?_, fun y hy e => ?_⟩
  · split at h1
    · assumption
    · cases h1
  · have := List.all_eq_true.mp h5 x hx
    split at this
    · exact .inl (by assumption)
    · exact .inr (by assumption)
    · cases this
  · have := List.all_eq_true.mp h6 y hy
    rw [e] at this
    cases this
/-- where the i-th def stands -/
noncomputable def Pg.at_ (P : Pg) (i : Nat) (nm : Str) : Str × Option Str := match lk P.mt i with
  | none => (nm, none)
  | some (c, m) => (mkS c, some (mkS m))
/-- the defs of the top and the methods -/
noncomputable def Pg.tops (P : Pg) : List (Nat × Str × Fn) := P.fs.filter fun q => (lk P.nt q.1).isNone
theorem lk_filter {α : Type} {p : Nat → Bool} {i : Nat} (h : p i = true) : ∀ {l : List (Nat × α)}, lk (l.filter fun q => p q.1) i = lk l i
  | [] => rfl
  | (j, a) :: r => by
    have fc : ((j, a) :: r).filter (fun q : Nat × α => p q.1) = if p j = true then (j, a) :: r.filter (fun q : Nat × α => p q.1) else r.filter (fun q : Nat × α => p q.1) := List.filter_cons
    by_cases e : j = i
    · subst e
      rw [fc, if_pos h]
      unfold lk
      rw [if_pos rfl, if_pos rfl]
    · have e2 : lk ((j, a) :: r) i = lk r i := by rw [lk, if_neg e]
      rw [e2, ← lk_filter h (l := r)]
      by_cases hp : p j = true
      · rw [fc, if_pos hp, lk, if_neg e]
      · rw [fc, if_neg hp]
theorem lk_tops {P : Pg} {i : Nat} (h : lk P.nt i = none) : lk P.tops i = lk P.fs i := lk_filter (p := fun j => (lk P.nt j).isNone) (by rw [h]; rfl)
/-- the name of what the def nm holds: a def or a lambda -/
noncomputable def Pg.nsS (P : Pg) (nm : Str) : Str := match P.nt.find? fun z => decide ((P.at z.2).map (·.1) = some nm) with
  | some z => ((P.at z.1).map (·.1)).getD stepS
  | none => stepS
noncomputable def chkB (P : Pg) (i : Nat) (q : Str × Fn) (d : He.DefD) : Bool := (!(P.nt.any fun z => z.2 == i) || (decide (d.qual = q.1) && (lk P.mt i).isNone && P.nt.all fun z => !(z.2 == i) || decide ((P.at z.1).map (·.1) = some (P.nsS q.1)))) && decide (d.at_ = P.at_ i q.1) && d.dfl.isEmpty && d.kwd.isEmpty && decide (q.2.np ≤ q.2.N.length) && scB q.2.N (q.2.N.take q.2.np) d.scope && okSs (P.tb i q.2) d.scope q.2.body d.body
noncomputable def chkAll (P : Pg) : List (Nat × Str × Fn) → List He.DefD → Bool
  | [], [] => true
  | q :: fs, d :: ds => chkB P q.1 q.2 d && chkAll P fs ds
  | _, _ => false
noncomputable def ix {α : Type} : List (Nat × α) → Nat → Nat
  | [], _ => 0
  | (j, _) :: r, i => if j = i then 0 else ix r i + 1
theorem lk_ix {α : Type} : ∀ {l : List (Nat × α)} {i : Nat} {a : α}, lk l i = some a → l[ix l i]? = some (i, a)
  | [], _, _, h => by cases h
  | (j, b) :: r, i, a, h => by
    unfold lk at h
    unfold ix
    by_cases e : j = i
    · rw [if_pos e] at h ⊢
      cases h; subst e; rfl
    · rw [if_neg e] at h ⊢
      rw [List.getElem?_cons_succ]
      exact lk_ix h
theorem chk_get {P : Pg} : ∀ {fs : List (Nat × Str × Fn)} {ds : List He.DefD} {i : Nat} {q : Nat × Str × Fn}, chkAll P fs ds = true → fs[i]? = some q → ∃ d, ds[i]? = some d ∧ chkB P q.1 q.2 d = true
  | q :: fs, d :: ds, 0, _, h, e => by
    cases e
    exact ⟨d, rfl, by rw [chkAll, Bool.and_eq_true] at h; exact h.1⟩
  | q :: fs, d :: ds, i + 1, _, h, e => by
    rw [chkAll, Bool.and_eq_true] at h
    obtain ⟨d2, a, b⟩ := chk_get h.2 (i := i) (by simpa using e)
    exact ⟨d2, by simpa using a, b⟩
  | [], _, _, _, _, e => by simp at e
  | _ :: _, [], _, _, h, _ => by cases h
/-- a kept global's fact -/
noncomputable def glFa (q : Str × D) : He.Fa := match q.2 with
  | .int i => .int q.1 i
  | .str s => .str q.1 (mkS s)
  | _ => .glo q.1
/-- the facts asked of the head -/
noncomputable def clF (P : Pg) : List He.Fa := (P.cl.map fun q => .cls (mkS q.1)) ++ (P.cl.flatMap fun q => q.2.map fun f => .noat (mkS q.1) (mkS f)) ++ ((P.mt.filter fun q => !P.xi q.1).map fun q => .cls (mkS q.2.1)) ++ (P.mt.map fun q => .meth (mkS q.2.1) (mkS q.2.2)) ++
  ((P.mt.filter fun q => decide (q.2.2 = initS) && !P.xi q.1).flatMap fun q => [.mkr (mkS q.2.1), .glo (mkS q.2.1)])
noncomputable def factsOf (P : Pg) : List He.Fa := ((P.tops.filter fun q => (lk P.mt q.1).isNone).map fun q => .glo q.2.1) ++ (P.gl.map glFa) ++ (P.wd.map fun q => .glo q.1) ++ ((P.xc.map fun q => .glo q.2) ++ (if P.xc.isEmpty then [] else [.glo P.bs])) ++ blts.map .free ++ clF P
/-- the class of an error -/
noncomputable def xcNm (P : Pg) (c : Nat) : Str := (lk P.xc c).getD P.bs
noncomputable def xcOf (P : Pg) (K : PySem.W.Frag) : XC := ⟨fun c => .ref (He.ga K (xcNm P c)), fun _ => "start"⟩
noncomputable def exkB (K : PySem.W.Frag) (Ca : Addr) : Bool := PySem.W.keepIn K (.ref Ca) && decide (PySem.W.subIn K (.ref Ca) (.type "BaseException") = some true) && decide (PySem.W.typeIn K (.ref Ca) = some (.type "type"))
noncomputable def excB (K : PySem.W.Frag) (Ca : Addr) : Bool := PySem.W.excIn K Ca [.type "ValueError", .type "Exception", .type "BaseException", .type "object"] "ValueError.__new__"
noncomputable def xnB (K : PySem.W.Frag) (Ca fI : Addr) : Bool := oexB K Ca && xfB K Ca && decide (PySem.W.findIn K (.ref Ca) "start" = some none) && decide (PySem.W.findIn K (.ref Ca) "__init__" = some (some (.ref fI))) && decide (PySem.W.typeIn K (.ref fI) = some (.type "function"))
/-- the __init__ of classes of errors -/
noncomputable def Pg.xnS (P : Pg) : Bool := P.xn.all fun q => (lk P.nt q.2).isNone && (match P.at q.2 with
  | some (_, ⟨2, [_, _], [.xini f]⟩) => decide (mkS f = "start")
  | _ => false)
noncomputable def eccB (K : PySem.W.Frag) (Ca : Addr) : Bool := decide (PySem.W.findIn K (.ref Ca) "__getattribute__" = some (some (.builtin "BaseException.__getattribute__"))) && decide (PySem.W.findIn K (.ref Ca) "__getattr__" = some none) &&
  decide (PySem.W.subIn K (.ref Ca) (.type "BaseException") = some true) && PySem.W.hasDictIn K Ca && decide (PySem.W.findIn K (.ref Ca) "__class__" = some (some (.builtin "object.__class__"))) &&
  decide (PySem.W.specialIn K (.builtin "object.__class__") "__get__" = some (some (.builtin "getset_descriptor.__get__"))) && decide (PySem.W.takesIn K (.builtin "object.__class__") = some true) && decide (PySem.W.mroIn K Ca (.type "object") = some true)
theorem eccB_ok {K : PySem.W.Frag} {Ca : Addr} (h : eccB K Ca = true) : ExcC K Ca := by
  unfold eccB at h
  simp only [Bool.and_eq_true] at h
  obtain ⟨⟨⟨⟨⟨⟨⟨h1, h2⟩, h3⟩, h4⟩, h5⟩, h6⟩, h7⟩, h8⟩ := h
  exact ⟨of_decide_eq_true h1, of_decide_eq_true h2, of_decide_eq_true h3, h4, of_decide_eq_true h5, of_decide_eq_true h6, of_decide_eq_true h7, of_decide_eq_true h8⟩
theorem fact_of {fa : List He.Fa} {fn : List He.DefD} {K : PySem.W.Frag} (c : He.SaysD fa fn K) {f : He.Fa} (h : f ∈ fa) : f.ok K = true := by
  obtain ⟨i, hi, e⟩ := List.mem_iff_getElem.mp h
  exact c.fact i (by rw [List.getElem?_eq_getElem hi, e])
noncomputable def faOf (K : PySem.W.Frag) (P : Pg) (i : Nat) : Addr := match P.at i with
  | some (nm, _) => He.fAd K (P.at_ i nm)
  | none => 0
/-- the classes of errors, looked at in the head's heap -/
noncomputable def xcB (P : Pg) (K : PySem.W.Frag) : Bool := (P.xc.all fun q => decide (q.1 < NX) && exkB K (He.ga K q.2) && (match lk P.xn q.1 with | none => excB K (He.ga K q.2) | some i => xnB K (He.ga K q.2) (faOf K P i))) &&
  (List.range NX).all fun c => (P.xc.all fun q => decide (PySem.W.exmOne K (.ref (He.ga K (xcNm P c))) (.ref (He.ga K q.2)) = some (decide (c = q.1)))) && eccB K (He.ga K (xcNm P c)) && decide (PySem.W.kitOne K (.ref (He.ga K (xcNm P c))) (.ref (He.ga K P.bs)) = some true)
theorem init_eq : mkS initS = "__init__" := by decide +kernel
open Classical in
noncomputable def fdOf (K : PySem.W.Frag) (fn : List He.DefD) (i : Nat) : FuncData := if h : ∃ d fd, fn[i]? = some d ∧ FunD K d.name d.qual d.params d.body d.scope (d.dvs K) (d.kws K) (He.fAd K d.at_) fd then Classical.choose (Classical.choose_spec h) else default
/-- the names of the defs that hold a def -/
noncomputable def Pg.par (P : Pg) : List Str := P.nt.filterMap fun q => (P.at q.2).map (·.1)
noncomputable def Pg.nmT (P : Pg) (nm : Str) : Nat → Nat → Str := fun _ _ => nm ++ ".<locals>." ++ P.nsS nm
/-- their tables -/
noncomputable def Pg.tabs (P : Pg) (K : PySem.W.Frag) : List NdefX.NTab := P.par.map fun nm => ((He.cT K (nm, none)).2, P.nmT nm)
theorem par_mem {P : Pg} {n i : Nat} {nm : Str} {f : Fn} (h : lk P.nt n = some i) (e : P.at i = some (nm, f)) : nm ∈ P.par := List.mem_filterMap.mpr ⟨(n, i), lk_mem h, by show (P.at i).map (·.1) = some nm; rw [e]; rfl⟩
variable [TBS]
theorem lnk_of {P : Pg} {prog : Program} {w : World} {K : PySem.W.Frag} {h : Heap} {mg : Str → Option Value} {base : Heap} {fn : List He.DefD} (X : K.In h) (N : h.Ns mainGlobals mg) (c : He.SaysD (factsOf P) fn K) (ck : chkAll P P.tops fn = true) (bd : AllB P.tops fn)
    (tab : ∀ nm ∈ P.par, LamX.TabB base mg (He.cT K (nm, none)).1 (He.cT K (nm, none)).2 ∧ ((He.cT K (nm, none)).2, P.nmT nm) ∈ TBS.T ∧ ∀ p ∈ TBS.T, p.1 = (He.cT K (nm, none)).2 → p.2 = P.nmT nm)
    (gl : ∀ (nm : Str) (d : D), (nm, d) ∈ P.gl → (∀ i, d ≠ .int i) → (∀ s, d ≠ .str s) → Is K (fun _ => none) (.ref (He.ga K nm)) d) (gz : P.gl.all (fun q => match q.2 with | .str s => decide (s.length ≤ 1000) | _ => true) = true)
    (xb : P.xc = [] ∨ xcB P K = true) (mi : ((P.mt.all fun q => (P.at q.1).isSome) && P.xnS) = true)
    (wd : ∀ (nm : Str) (d : List (D × D)), (nm, d) ∈ P.wd → (∀ s e, lookD d (.str s) = some e → ∃ v, KDct K w (He.ga K nm) (mkS s) v ∧ Is K (fun _ => none) v e) ∧ (∀ y, isKey y = true → (∀ s, y ≠ .str s) → lookD d y = none)) :
    Lnk P (xcOf P K) prog w K mg base (faOf K P) (fun i => fdOf K fn (ix P.tops i)) := by
  have glo : ∀ nm, (He.Fa.glo nm) ∈ factsOf P → mg nm = some (.ref (He.ga K nm)) := fun nm m => He.glo_ok X N (fact_of c m)
  have clm : ∀ f ∈ clF P, f ∈ factsOf P := fun f m => List.mem_append_right _ m
  have mts : ∀ i cc m, lk P.mt i = some (cc, m) → He.fAd K (P.at_ i "") = He.ma K (He.ga K (mkS cc)) (mkS m) := fun i cc m e => by
    unfold Pg.at_
    rw [e]
    rfl
  have fam : ∀ i cc m, lk P.mt i = some (cc, m) → (∃ q, P.at i = some q) → faOf K P i = He.ma K (He.ga K (mkS cc)) (mkS m) := fun i cc m e h => by
    obtain ⟨q, hq⟩ := h
    unfold faOf
    rw [hq]
    show He.fAd K (P.at_ i q.1) = _
    unfold Pg.at_
    rw [e]
    rfl
  have atm : ∀ i cc m, lk P.mt i = some (cc, m) → ∃ q, P.at i = some q := fun i cc m e => by
    have := List.all_eq_true.mp (Bool.and_eq_true_iff.mp mi).1 _ (lk_mem e)
    exact Option.isSome_iff_exists.mp this
  have fsP : ∀ (i : Nat) (nm : Str) (f : Fn), P.at i = some (nm, f) → lk P.nt i = none → (lk P.mt i = none → mg nm = some (.ref (faOf K P i))) ∧ Binds K (fdOf K fn (ix P.tops i)) (f.N.take f.np) [] ∧ f.np ≤ f.N.length ∧
    ∃ x qual params body scope dvs kws, FunD K x qual params body scope dvs kws (faOf K P i) (fdOf K fn (ix P.tops i)) ∧ FnScope f.N (f.N.take f.np) scope ∧ okSs (P.tb i f) scope f.body body = true ∧
      ((∃ n fr st, P.nd i n fr st = true) → ∃ (cc Pt : Addr) (nm : Nat → Nat → Str), LamX.TabB base mg cc Pt ∧ (fdOf K fn (ix P.tops i)).code = .ref cc ∧ (Pt, nm) ∈ TBS.T ∧ (∀ l c, nm l c = (envOfC qual scope 0 (faOf K P i) (.ref cc)).qual ++ stepS) ∧ ∀ p ∈ TBS.T, p.1 = Pt → p.2 = nm) ∧
      ((∃ n fr params body scope, P.lm i n fr params body scope = true) → ∃ (cc Pt : Addr) (nm : Nat → Nat → Str), LamX.TabB base mg cc Pt ∧ (fdOf K fn (ix P.tops i)).code = .ref cc ∧ (Pt, nm) ∈ TBS.T ∧ (∀ l c, nm l c = (envOfC qual scope 0 (faOf K P i) (.ref cc)).qual ++ "<lambda>") ∧ ∀ p ∈ TBS.T, p.1 = Pt → p.2 = nm) := by
    intro i nm f e en0
    have et : lk P.tops i = some (nm, f) := by rw [lk_tops en0]; exact e
    have e0 := lk_ix et
    obtain ⟨d, e2, ch⟩ := chk_get ck e0
    show (lk P.mt i = none → mg nm = some (.ref (faOf K P i))) ∧ Binds K (fdOf K fn (ix P.tops i)) (f.N.take f.np) [] ∧ _
    unfold chkB at ch
    simp only [Bool.and_eq_true, List.isEmpty_iff] at ch
    obtain ⟨⟨⟨⟨⟨⟨c0, c1⟩, c2⟩, c3⟩, c4⟩, c5⟩, c6⟩ := ch
    have c1 := of_decide_eq_true c1
    have hex : ∃ d fd, fn[ix P.tops i]? = some d ∧ FunD K d.name d.qual d.params d.body d.scope (d.dvs K) (d.kws K) (He.fAd K d.at_) fd := by
      obtain ⟨fd, F⟩ := c.def_ _ e2
      exact ⟨d, fd, e2, F⟩
    obtain ⟨e3, F⟩ := Classical.choose_spec (Classical.choose_spec hex)
    have ef : fdOf K fn (ix P.tops i) = Classical.choose (Classical.choose_spec hex) := by unfold fdOf; rw [dif_pos hex]
    rw [← ef] at F
    have ed : Classical.choose hex = d := Option.some.inj (e3.symm.trans e2)
    rw [ed] at F
    have ea : He.fAd K d.at_ = faOf K P i := by
      unfold faOf
      rw [e, c1]
    rw [ea] at F
    have hd1 : d.dvs K = [] := by unfold He.DefD.dvs; rw [c2]; rfl
    have hd2 : d.kws K = [] := by unfold He.DefD.kws; rw [c3]; rfl
    have F2 := F
    rw [hd1] at F2
    have ptab : ∀ n, lk P.nt n = some i → ∃ cc, LamX.TabB base mg cc (He.cT K (nm, none)).2 ∧ (fdOf K fn (ix P.tops i)).code = .ref cc ∧ ((He.cT K (nm, none)).2, P.nmT nm) ∈ TBS.T ∧ (∀ p ∈ TBS.T, p.1 = (He.cT K (nm, none)).2 → p.2 = P.nmT nm) ∧ (P.at n).map (·.1) = some (P.nsS nm) ∧ d.qual = nm := fun n hnt => by
      have hp := par_mem hnt e
      have any : (P.nt.any fun z => z.2 == i) = true := List.any_eq_true.mpr ⟨(n, i), lk_mem hnt, by show (i == i) = true; simp⟩
      rw [any] at c0
      simp only [Bool.not_true, Bool.false_or, Bool.and_eq_true, Option.isNone_iff_eq_none] at c0
      obtain ⟨⟨cq, cm⟩, ca⟩ := c0
      have cq := of_decide_eq_true cq
      have ca := List.all_eq_true.mp ca _ (lk_mem hnt)
      simp only [beq_self_eq_true, Bool.not_true, Bool.false_or] at ca
      have ca := of_decide_eq_true ca
      obtain ⟨t1, t2, t3⟩ := tab nm hp
      obtain ⟨oc, od, dV, kV, doc, pm, an, cdv, ct, osl, ed2, lk2, hcd, _, _⟩ := F.ex
      obtain ⟨cc, rfl⟩ := He.codeIn_ref hcd
      have hfd : (fdOf K fn (ix P.tops i)).code = .ref cc := by rw [ed2]
      have hat : He.fAd K (nm, none) = faOf K P i := by
        unfold faOf
        rw [e]
        show _ = He.fAd K (P.at_ i nm)
        unfold Pg.at_
        rw [cm]
      have hcc : (He.cT K (nm, none)).1 = cc := He.codeOf_eq (by rw [hat]; exact lk2) hfd
      exact ⟨cc, by rw [← hcc]; exact t1, hfd, t2, t3, ca, cq⟩
    refine ⟨?_, FunD.bindsN F2 fun kV doc pm an cdv ct us hl => bd.get e0 e2 _ _ _ _ _ _ _ _ _ _ us hl, of_decide_eq_true c4, _, _, _, _, _, _, _, F, scB_ok c5, c6, fun hnd => ?_, fun hlm => ?_⟩
    rotate_left
    · obtain ⟨n, fr, st, hnd⟩ := hnd
      obtain ⟨hnt, nm2, f2, e22, en2, _⟩ := nd_inv hnd
      obtain ⟨cc, t1, hfd, t2, t3, hns, cq⟩ := ptab n hnt
      have hns : P.nsS nm = stepS := by rw [e22] at hns; rw [← en2]; exact (Option.some.inj hns).symm
      refine ⟨cc, (He.cT K (nm, none)).2, P.nmT nm, t1, hfd, t2, fun l c => ?_, t3⟩
      show nm ++ ".<locals>." ++ P.nsS nm = d.qual ++ ".<locals>." ++ stepS
      rw [cq, hns]
    · obtain ⟨n, fr, params, body, scope, hlm⟩ := hlm
      obtain ⟨hnt, np2, N2, e2l, hat2, _⟩ := lm_inv hlm
      obtain ⟨cc, t1, hfd, t2, t3, hns, cq⟩ := ptab n hnt
      have hns : P.nsS nm = "<lambda>" := by rw [hat2] at hns; exact (Option.some.inj hns).symm
      refine ⟨cc, (He.cT K (nm, none)).2, P.nmT nm, t1, hfd, t2, fun l c => ?_, t3⟩
      show nm ++ ".<locals>." ++ P.nsS nm = d.qual ++ ".<locals>." ++ "<lambda>"
      rw [cq, hns]
    intro en
    have := glo nm (by
      unfold factsOf
      exact List.mem_append_left _ (List.mem_append_left _ (List.mem_append_left _ (List.mem_append_left _ (List.mem_append_left _ (List.mem_map.mpr ⟨(i, nm, f), List.mem_filter.mpr ⟨lk_mem et, by rw [en]; rfl⟩, rfl⟩))))))
    rw [this]
    unfold faOf
    rw [e]
    show _ = some (Value.ref (He.fAd K (P.at_ i nm)))
    unfold Pg.at_
    rw [en]
    rfl
  refine ⟨fsP, fun x hx => He.free_ok X N (fact_of c (List.mem_append_left _ (List.mem_append_right _ (List.mem_map_of_mem hx)))), fun nm d e => ?_, fun nm d e => ?_, fun N0 lm0 cc x e => ?_, fun N0 lm0 cc x e => ?_, fun N0 lm0 cc x e e2 => ?_, fun N0 lm0 cc x e e2 => ?_, fun cc fs e => ?_, fun i cc m e ex => ?_, fun i cc e ex => ?_⟩
  · have hm : glFa (nm, d) ∈ factsOf P := by
      unfold factsOf
      exact List.mem_append_left _ (List.mem_append_left _ (List.mem_append_left _ (List.mem_append_left _ (List.mem_append_right _ (List.mem_map.mpr ⟨(nm, d), e, rfl⟩)))))
    cases d with
    | int i =>
      obtain ⟨t, ht⟩ := He.int_ok X N (fact_of c hm)
      exact ⟨_, .int i, ht, ⟨t, rfl⟩, .int i⟩
    | str s =>
      obtain ⟨t, ht⟩ := He.str_ok X N (fact_of c hm)
      have hz := List.all_eq_true.mp gz _ e
      exact ⟨_, .str (mkS s), ht, ⟨t, rfl⟩, .str s (Nat.le_of_lt (small1000 (of_decide_eq_true hz)))⟩
    | _ => exact ⟨_, .ref (He.ga K nm), glo nm hm, rfl, gl nm _ e (fun i z => by cases z) (fun s z => by cases z)⟩
  · obtain ⟨h1, h2⟩ := wd nm d e
    exact ⟨_, glo nm (by
      unfold factsOf
      exact List.mem_append_left _ (List.mem_append_left _ (List.mem_append_left _ (List.mem_append_right _ (List.mem_map.mpr ⟨(nm, d), e, rfl⟩))))), h1, h2⟩
  · have hx : xcB P K = true := by
      rcases xb with h | h
      · rw [h] at e; cases e
      · exact h
    unfold xcB at hx
    rw [Bool.and_eq_true] at hx
    obtain ⟨x1, x2⟩ := hx
    have h1 := List.all_eq_true.mp x1 _ (lk_mem e)
    simp only [exkB, Bool.and_eq_true] at h1
    obtain ⟨⟨h0, ⟨⟨h2, h3⟩, h4⟩⟩, _⟩ := h1
    have hc : (xcOf P K).cls cc = .ref (He.ga K x) := by show Value.ref (He.ga K (xcNm P cc)) = _; unfold xcNm; rw [e]; rfl
    refine ⟨⟨_, glo x (by
      unfold factsOf
      exact List.mem_append_left _ (List.mem_append_left _ (List.mem_append_right _ (List.mem_append_left _ (List.mem_map.mpr ⟨(cc, x), lk_mem e, rfl⟩))))), hc, h2, of_decide_eq_true h3, of_decide_eq_true h4⟩, of_decide_eq_true h0, fun c' hlt => ?_⟩
    have h5 := List.all_eq_true.mp x2 c' (List.mem_range.mpr hlt)
    simp only [Bool.and_eq_true] at h5
    have h6 := of_decide_eq_true (List.all_eq_true.mp h5.1.1 _ (lk_mem e))
    rw [hc]
    exact h6
  · have hx : xcB P K = true := by
      rcases xb with h | h
      · rw [h] at e; cases e
      · exact h
    have hb : mg P.bs = some (.ref (He.ga K P.bs)) := glo P.bs (by
      unfold factsOf
      refine List.mem_append_left _ (List.mem_append_left _ (List.mem_append_right _ (List.mem_append_right _ ?_)))
      cases h : P.xc with
      | nil => rw [h] at e; cases e
      | cons q r => exact List.mem_cons_self)
    unfold xcB at hx
    rw [Bool.and_eq_true] at hx
    refine ⟨⟨_, hb⟩, He.free_ok X N (fact_of c (List.mem_append_left _ (List.mem_append_right _ (List.mem_map_of_mem (by decide +kernel))))), fun c' hlt => ?_⟩
    have h5 := List.all_eq_true.mp hx.2 c' (List.mem_range.mpr hlt)
    simp only [Bool.and_eq_true] at h5
    exact ⟨_, _, rfl, hb, eccB_ok h5.1.2, of_decide_eq_true h5.2⟩
  · have hx : xcB P K = true := by
      rcases xb with h | h
      · rw [h] at e; cases e
      · exact h
    unfold xcB at hx
    rw [Bool.and_eq_true] at hx
    have h1 := List.all_eq_true.mp hx.1 _ (lk_mem e)
    simp only [Bool.and_eq_true] at h1
    have h2 := h1.2
    have en : lk P.xn cc = none := by
      cases h : lk P.xn cc with
      | none => rfl
      | some i => rw [h] at e2; cases e2
    have hc : (xcOf P K).cls cc = .ref (He.ga K x) := by show Value.ref (He.ga K (xcNm P cc)) = _; unfold xcNm; rw [e]; rfl
    have h2 : (match lk P.xn cc with | none => excB K (He.ga K x) | some i => xnB K (He.ga K x) (faOf K P i)) = true := h2
    rw [en] at h2
    exact ⟨_, hc, h2⟩
  · have hx : xcB P K = true := by
      rcases xb with h | h
      · rw [h] at e; cases e
      · exact h
    unfold xcB at hx
    rw [Bool.and_eq_true] at hx
    have h1 := List.all_eq_true.mp hx.1 _ (lk_mem e)
    simp only [Bool.and_eq_true] at h1
    have h2 : (match lk P.xn cc with | none => excB K (He.ga K x) | some i => xnB K (He.ga K x) (faOf K P i)) = true := h1.2
    obtain ⟨i, en⟩ := Option.isSome_iff_exists.mp e2
    rw [en] at h2
    have h2 : xnB K (He.ga K x) (faOf K P i) = true := h2
    unfold xnB at h2
    simp only [Bool.and_eq_true] at h2
    obtain ⟨⟨⟨⟨g1, g2⟩, g3⟩, g4⟩, g5⟩ := h2
    have hc : (xcOf P K).cls cc = .ref (He.ga K x) := by show Value.ref (He.ga K (xcNm P cc)) = _; unfold xcNm; rw [e]; rfl
    have hs := List.all_eq_true.mp (Bool.and_eq_true_iff.mp mi).2 _ (lk_mem en)
    rw [Bool.and_eq_true, Option.isNone_iff_eq_none] at hs
    obtain ⟨s1, s2⟩ := hs
    have s2 : (match P.at i with | some (_, ⟨2, [_, _], [.xini f]⟩) => decide (mkS f = "start") | _ => false) = true := s2
    split at s2
    · next nm sl st f hat =>
      have ef := of_decide_eq_true s2
      obtain ⟨_, hb, _, x', qual, params, body, scope, dvs, kws, F, Sc, hok, _, _⟩ := fsP i _ _ hat s1
      have hok : okSs (P.tb i ⟨2, [sl, st], [.xini f]⟩) scope [.xini f] body = true := hok
      match body, hok with
      | [s], hok =>
        have hok : (okS (P.tb i ⟨2, [sl, st], [.xini f]⟩) scope (.xini f) s && okSs (P.tb i ⟨2, [sl, st], [.xini f]⟩) scope [] []) = true := hok
        rw [Bool.and_eq_true] at hok
        obtain ⟨a, p1, m, p2, b, p3, p4, rfl, h3⟩ := kXini_inv hok.1
        simp only [Bool.and_eq_true] at h3
        obtain ⟨⟨⟨⟨⟨⟨k1, k2⟩, k3⟩, k4⟩, k5⟩, k6⟩, k7⟩ := h3
        have k1 := Option.some.inj (of_decide_eq_true k1)
        have k2 := Option.some.inj (of_decide_eq_true k2)
        subst k1; subst k2
        have k7 := of_decide_eq_true k7
        subst k7
        have FI : FnOk prog w K mg base (L2.CX prog w) 1 (faOf K P i) (fdOf K fn (ix P.tops i)) [sl, st] (spI K (mkS f)) := init_fn F Sc (visB_inv k3) (visB_inv k4) (okNm_inv k5) (okNm_inv k6)
        rw [ef] at FI
        exact ⟨⟨_, _, _, sl, st, glo x (by
          unfold factsOf
          exact List.mem_append_left _ (List.mem_append_left _ (List.mem_append_right _ (List.mem_append_left _ (List.mem_map.mpr ⟨(cc, x), lk_mem e, rfl⟩))))), hc, oexB_ok g1, xfB_ok g2, of_decide_eq_true g3, of_decide_eq_true g4, of_decide_eq_true g5, hb, FI⟩, rfl⟩
      | [], hok => cases hok
      | s :: s2 :: r, hok =>
        have hok : (okS (P.tb i ⟨2, [sl, st], [.xini f]⟩) scope (.xini f) s && okSs (P.tb i ⟨2, [sl, st], [.xini f]⟩) scope [] (s2 :: r)) = true := hok
        rw [Bool.and_eq_true] at hok
        cases hok.2
    · cases s2
  · refine ⟨He.cls_ok (fact_of c (clm _ ?_)), fun f hf => He.noat_ok (fact_of c (clm _ ?_))⟩
    · exact List.mem_append_left _ (List.mem_append_left _ (List.mem_append_left _ (List.mem_append_left _ (List.mem_map.mpr ⟨(cc, fs), e, rfl⟩))))
    · exact List.mem_append_left _ (List.mem_append_left _ (List.mem_append_left _ (List.mem_append_right _ (List.mem_flatMap.mpr ⟨(cc, fs), e, List.mem_map.mpr ⟨f, hf, rfl⟩⟩))))
  · rw [fam i cc m e (atm i cc m e)]
    refine ⟨He.cls_ok (fact_of c (clm _ ?_)), He.meth_ok (fact_of c (clm _ ?_))⟩
    · exact List.mem_append_left _ (List.mem_append_left _ (List.mem_append_right _ (List.mem_map.mpr ⟨(i, cc, m), List.mem_filter.mpr ⟨lk_mem e, by rw [ex]; rfl⟩, rfl⟩)))
    · exact List.mem_append_left _ (List.mem_append_right _ (List.mem_map.mpr ⟨(i, cc, m), lk_mem e, rfl⟩))
  · rw [fam i cc initS e (atm i cc initS e), init_eq]
    have hm : ∀ f, f ∈ [He.Fa.mkr (mkS cc), He.Fa.glo (mkS cc)] → f ∈ clF P := fun f hf =>
      List.mem_append_right _ (List.mem_flatMap.mpr ⟨(i, cc, initS), List.mem_filter.mpr ⟨lk_mem e, by rw [ex, decide_eq_true rfl]; rfl⟩, hf⟩)
    exact ⟨He.mkr_ok (fact_of c (clm _ (hm _ List.mem_cons_self))), glo _ (clm _ (hm _ (List.mem_cons_of_mem _ List.mem_cons_self)))⟩
omit [TBS] in
theorem lkp_filter {K : PySem.W.Frag} {p : Addr → Bool} {a : Addr} {o : Obj} : (K.filter fun q => p q.1).lookup a = some o → K.lookup a = some o := by
  induction K with
  | nil => intro h; exact h
  | cons q r ih =>
    obtain ⟨b, u⟩ := q
    have fc : ((b, u) :: r).filter (fun q : Addr × Obj => p q.1) = if p b = true then (b, u) :: r.filter (fun q : Addr × Obj => p q.1) else r.filter (fun q : Addr × Obj => p q.1) := List.filter_cons
    intro h
    rw [fc] at h
    by_cases e : a = b
    · subst e
      by_cases hp : p a = true
      · rw [if_pos hp, List.lookup_cons_self] at h
        rw [List.lookup_cons_self]; exact h
      · rw [if_neg hp] at h
        exfalso
        obtain ⟨z, hz⟩ : ∃ z, (a, z) ∈ r.filter fun q => p q.1 := ⟨o, He.lookup_mem h⟩
        exact hp (List.mem_filter.mp hz).2
    · have e2 : (a == b) = false := beq_eq_false_iff_ne.mpr e
      rw [List.lookup_cons, e2]
      by_cases hp : p b = true
      · rw [if_pos hp, List.lookup_cons, e2] at h
        exact ih h
      · rw [if_neg hp] at h
        exact ih h
/-- what is kept of the head: all but the tables -/
noncomputable def Pg.kf (P : Pg) (K : PySem.W.Frag) : PySem.W.Frag := match P.nt with
  | [] => K
  | _ :: _ => K.filter fun q => !((P.par.map fun nm => (He.cT K (nm, none)).2).contains q.1)
omit [TBS] in
theorem kf_in {P : Pg} {K : PySem.W.Frag} {h : Heap} (X : K.In h) : (P.kf K).In h := by
  unfold Pg.kf
  split
  · exact X
  · exact fun a o e => X a o (lkp_filter (p := fun a => !((P.par.map fun nm => (He.cT K (nm, none)).2).contains a)) e)
/-- the tables are empty, and not kept -/
noncomputable def tabB (P : Pg) (K : PySem.W.Frag) (ts : List Addr) : Bool := (P.par.all fun nm => PySem.W.codeHdIn (P.kf K) (He.cT (P.kf K) (nm, none)).1 (He.cT (P.kf K) (nm, none)).2 && ((P.kf K).lookup (He.cT (P.kf K) (nm, none)).2).isNone && ts.contains (He.cT (P.kf K) (nm, none)).2) && decide ((P.par.map fun nm => (He.cT (P.kf K) (nm, none)).2).Nodup)
omit [TBS] in
/-- the law's end over k_head -/
theorem fin_walk {l : PySem.W.OpenLaw} {q : Program} {loose : List Str} {XP : (Str → Option Value) → Heap → Prop} {YP : World → Heap → Prop} {d : DefRec} {K : Params → PySem.W.Frag} {P : Pg} {fn : List He.DefD} {i k : Nat} {f : Fn} {x : Str}
    (hn : l.most = some 63) (hdf : d.params.defaults = []) (hr : Room (k + 1) callerA)
    (hY : ∀ (w : World) (h : Heap), YP w h → (K w.params).In h)
    (hi : P.at i = some (d.name, f)) (hl : lk P.mt i = none) (hnl : lk P.nt i = none) (mi : ((P.mt.all fun q => (P.at q.1).isSome) && P.xnS) = true) (hx : f.N.take f.np = [x])
    (c : ∀ w : World, He.SaysD (factsOf P) fn (P.kf (K w.params))) {ts : List Addr} (hT0 : ∀ (w : World) (h : Heap), YP w h → ∀ p ∈ ts, h.get? p = some { cls := .none, data := .fields #[] }) (tb : ∀ w : World, tabB P (K w.params) ts = true) (ck : chkAll P P.tops fn = true) (bd : AllB P.tops fn)
    (gl : ∀ (w : World) (nm : Str) (d : D), (nm, d) ∈ P.gl → (∀ i, d ≠ .int i) → (∀ s, d ≠ .str s) → Is (P.kf (K w.params)) (fun _ => none) (.ref (He.ga (P.kf (K w.params)) nm)) d) (gz : P.gl.all (fun q => match q.2 with | .str s => decide (s.length ≤ 1000) | _ => true) = true)
    (xb : ∀ w : World, P.xc = [] ∨ xcB P (P.kf (K w.params)) = true)
    (wd : ∀ (w : World) (nm : Str) (d : List (D × D)), (nm, d) ∈ P.wd → (∀ s e, lookD d (.str s) = some e → ∃ v, KDct (P.kf (K w.params)) w (He.ga (P.kf (K w.params)) nm) (mkS s) v ∧ Is (P.kf (K w.params)) (fun _ => none) v e) ∧ (∀ y, isKey y = true → (∀ s, y ≠ .str s) → lookD d y = none))
    (plain : ∀ ns : List Int, ns.length ≤ 63 → P.spec k i [.scr ns] (fun _ => none) (fun d _ => d = .bl true) fun _ _ _ => False) :
    PySem.W.WalkO q loose XP YP l.row.toRowW d [] (fun f vs => PySem.call f vs) := by
  refine LamX.walk_ofTsE (n := 63) (k := k + 1) (x := x) (CX := fun w => L2.CX l.prog w) hn (by decide) hdf hr (fun w mg fa h Y N hm => ?_) fun w H s e s' z => ?_
  · have X0 := hY w h Y
    have X : (P.kf (K w.params)).In h := kf_in X0
    have tb := tb w
    unfold tabB at tb
    rw [Bool.and_eq_true] at tb
    obtain ⟨tb1, tb2⟩ := tb
    have tb2 := of_decide_eq_true tb2
    letI inst : TBS := ⟨P.tabs (P.kf (K w.params))⟩
    have tbs : ∀ p ∈ P.par.map (fun nm => He.cT (P.kf (K w.params)) (nm, none)), PySem.W.codeHdIn (P.kf (K w.params)) p.1 p.2 = true ∧ (P.kf (K w.params)).lookup p.2 = none ∧ h.get? p.2 = some { cls := .none, data := .fields #[] } := fun p hp => by
      obtain ⟨nm, hnm, rfl⟩ := List.mem_map.mp hp
      have := List.all_eq_true.mp tb1 nm hnm
      simp only [Bool.and_eq_true, Option.isNone_iff_eq_none] at this
      obtain ⟨⟨h1, h2⟩, h3⟩ := this
      refine ⟨h1, h2, ?_⟩
      exact hT0 w h Y _ (List.contains_iff_mem.mp h3)
    have L : ∀ base, (∀ p ∈ P.par.map (fun nm => He.cT (P.kf (K w.params)) (nm, none)), LamX.TabB base mg p.1 p.2) → Lnk P (xcOf P (P.kf (K w.params))) l.prog w (P.kf (K w.params)) mg base (faOf (P.kf (K w.params)) P) (fun i => fdOf (P.kf (K w.params)) fn (ix P.tops i)) := fun base hB => lnk_of X N (c w) ck bd (fun nm hnm => ⟨hB _ (List.mem_map_of_mem (f := fun nm => He.cT (P.kf (K w.params)) (nm, none)) hnm), List.mem_map_of_mem (f := fun nm => ((He.cT (P.kf (K w.params)) (nm, none)).2, P.nmT nm)) hnm, fun p hp e => by
      obtain ⟨nm2, hn2, rfl⟩ := List.mem_map.mp hp
      have e : (He.cT (P.kf (K w.params)) (nm2, none)).2 = (He.cT (P.kf (K w.params)) (nm, none)).2 := e
      obtain ⟨a, ha, e1⟩ := List.mem_iff_getElem.mp hn2
      obtain ⟨b, hb, e2⟩ := List.mem_iff_getElem.mp hnm
      have ab : a = b := by
        refine (List.getElem_inj (h₀ := by rw [List.length_map]; exact ha) (h₁ := by rw [List.length_map]; exact hb) tb2).mp ?_
        rw [List.getElem_map, List.getElem_map, e1, e2]
        exact e
      subst ab
      rw [← e1, ← e2]⟩) (gl w) gz (xb w) mi (wd w)
    have up : ∀ base base', (∀ p ∈ P.par.map (fun nm => He.cT (P.kf (K w.params)) (nm, none)), LamX.TabB base mg p.1 p.2) → (∀ b u, Heap.get? base b = some u → Heap.get? base' b = some u) → ∀ p ∈ P.par.map (fun nm => He.cT (P.kf (K w.params)) (nm, none)), LamX.TabB base' mg p.1 p.2 := fun base base' hB ext p hp => ⟨(hB p hp).code.keeps ext, (hB p hp).bm.keeps ext, (hB p hp).gP⟩
    obtain ⟨dd, e2, ch⟩ := chk_get ck (lk_ix (show lk P.tops i = some (d.name, f) by rw [lk_tops hnl]; exact hi))
    have e : fa = faOf (P.kf (K w.params)) P i := by
      have hm2 : mg d.name = some (.ref (faOf (P.kf (K w.params)) P i)) := by
        have g := He.glo_ok X N (fact_of (c w) (f := .glo d.name) (by
          unfold factsOf
          exact List.mem_append_left _ (List.mem_append_left _ (List.mem_append_left _ (List.mem_append_left _ (List.mem_append_left _ (List.mem_map.mpr ⟨(i, d.name, f), List.mem_filter.mpr ⟨lk_mem (show lk P.tops i = some (d.name, f) by rw [lk_tops hnl]; exact hi), by rw [hl]; rfl⟩, rfl⟩)))))))
        rw [g]
        unfold faOf
        rw [hi]
        show _ = some (Value.ref (He.fAd (P.kf (K w.params)) (P.at_ i d.name)))
        unfold Pg.at_
        rw [hl]
        rfl
      have := hm.symm.trans hm2
      cases this
      rfl
    subst e
    have hi0 := lk_ix (show lk P.tops i = some (d.name, f) by rw [lk_tops hnl]; exact hi)
    refine ⟨P.kf (K w.params), X, fdOf (P.kf (K w.params)) fn (ix P.tops i), P.par.map (fun nm => He.cT (P.kf (K w.params)) (nm, none)), lift (P.kf (K w.params)) w (xcOf P (P.kf (K w.params))) (P.spec k i), fun p hp => (tbs p hp).2.2, fun p hp => (tbs p hp).2.1, fun p hp => PySem.W.codeHd_of_K X (tbs p hp).1, fun s u => ?_, fun H a ns hlen _ hT hS => ?_, fun base _ _ hB => ?_⟩
    · unfold chkB at ch
      simp only [Bool.and_eq_true, List.isEmpty_iff] at ch
      obtain ⟨⟨⟨⟨⟨⟨c0, c1⟩, c2⟩, c3⟩, c4⟩, c5⟩, c6⟩ := ch
      have hex : ∃ d fd, fn[ix P.tops i]? = some d ∧ FunD (P.kf (K w.params)) d.name d.qual d.params d.body d.scope (d.dvs (P.kf (K w.params))) (d.kws (P.kf (K w.params))) (He.fAd (P.kf (K w.params)) d.at_) fd := by
        obtain ⟨fd, F⟩ := (c w).def_ _ e2
        exact ⟨dd, fd, e2, F⟩
      obtain ⟨e3, F2⟩ := Classical.choose_spec (Classical.choose_spec hex)
      have ef : fdOf (P.kf (K w.params)) fn (ix P.tops i) = Classical.choose (Classical.choose_spec hex) := by unfold fdOf; rw [dif_pos hex]
      rw [← ef] at F2
      have ed : Classical.choose hex = dd := Option.some.inj (e3.symm.trans e2)
      rw [ed] at F2
      have hd1 : dd.dvs (P.kf (K w.params)) = [] := by unfold He.DefD.dvs; rw [c2]; rfl
      rw [hd1] at F2
      have := FunD.bindsA (ps := [x]) F2 (fun kV doc pm an cdv ct us hl => by
        have := bd.get hi0 e2 dd.name dd.qual dd.body dd.scope kV doc pm an cdv ct us (by rw [hx]; exact hl)
        rw [hx] at this
        exact this) s [u] rfl
      exact this
    · let F0 : Hp := fun b => if b ∈ P.par.map (fun nm => (He.cT (P.kf (K w.params)) (nm, none)).2) then none else H b
      have tbl : ∀ b, b ∈ P.par.map (fun nm => (He.cT (P.kf (K w.params)) (nm, none)).2) → H b = some (.tbl #[]) := fun b hb => by
        obtain ⟨nm, hnm, rfl⟩ := List.mem_map.mp hb
        exact hT _ (List.mem_map_of_mem (f := fun nm => He.cT (P.kf (K w.params)) (nm, none)) hnm)
      have out : ∀ b, H b ≠ some (.tbl #[]) → F0 b = H b := fun b h => if_neg fun z => h (tbl b z)
      have sq : SqL (P.kf (K w.params)) F0 a (ns.map V.int) := by
        rcases hS with (h | ⟨o, h⟩) | h
        · exact .inl (.inl (by rw [out a (by rw [h]; exact fun z => by cases z)]; exact h))
        · exact .inl (.inr ⟨o, by rw [out a (by rw [h]; exact fun z => by cases z)]; exact h⟩)
        · exact .inr h
      have sub0 : Same F0 H := fun b o e => by
        by_cases hb : b ∈ P.par.map (fun nm => (He.cT (P.kf (K w.params)) (nm, none)).2)
        · have e2 : F0 b = none := if_pos hb
          rw [e2] at e; cases e
        · have e2 : F0 b = H b := if_neg hb
          rw [← e2]; exact e
      refine ⟨[.scr ns], fun _ => none, F0, _, _, ⟨sub0, fun a o e => (by cases e), fun p hp => ?_⟩, .cons (.scr sq (Nat.le_trans hlen (by decide))) .nil, plain ns hlen, fun d S' v F' H' e _ _ is => ?_, fun c d S' F' H' dx e => e.elim⟩
      · obtain ⟨nm, hnm, rfl⟩ := List.mem_map.mp hp
        have hm : (He.cT (P.kf (K w.params)) (nm, none)).2 ∈ P.par.map (fun nm => (He.cT (P.kf (K w.params)) (nm, none)).2) := List.mem_map_of_mem (f := fun nm => (He.cT (P.kf (K w.params)) (nm, none)).2) hnm
        refine ⟨if_pos hm, rfl, #[], tbl _ hm, trivial, fun pos cv z => ?_⟩
        have z : codeAmong pos [] = some cv := z
        simp [codeAmong] at z
      · subst e
        cases is
        rfl
    · have := prog_ok up L base hB k i _ f hi hnl
      rw [hx] at this
      exact this
  · obtain ⟨_, _, _, _, _, _, _, _, _, _, _, _, z⟩ := z
    exact z.elim
end DL
/-! DL15: the module's tuples and dicts of texts, looked at in the head's heap. -/
namespace DL
open PySem PySem.Spec PyProof.Rows L2
noncomputable def flatD : D → Bool
  | .non => true
  | .bl _ => true
  | .int _ => true
  | .str s => decide (s.length ≤ 1000)
  | _ => false
noncomputable def dvOf : D → He.Dv
  | .bl b => .bl b
  | .int i => .int i
  | .str s => .str (mkS s)
  | _ => .non
theorem is_flat {K : PySem.W.Frag} {F : Hp} {d : D} (h : flatD d = true) : Is K F ((dvOf d).v K) d := by
  cases d with
  | non => exact .non
  | bl b => exact .bl b
  | int i => exact .int i
  | str s => exact .str s (Nat.le_of_lt (small1000 (of_decide_eq_true h)))
  | _ => cases h
theorem isl_flat {K : PySem.W.Frag} {F : Hp} : ∀ {ds : List D}, ds.all flatD = true → IsL K F ((ds.map dvOf).map (He.Dv.v K)) ds
  | [], _ => .nil
  | d :: ds, h => by
    rw [List.all_cons, Bool.and_eq_true] at h
    exact .cons (is_flat h.1) (isl_flat h.2)
noncomputable def glAll (K : PySem.W.Frag) (gl : List (Str × D)) : Bool := gl.all fun q => match q.2 with
  | .tup ds => ds.all flatD && decide (ds.length ≤ 1000) && He.tupB K q.1 (ds.map dvOf)
  | .int _ => true
  | .str _ => true
  | _ => false
theorem gl_ok {K : PySem.W.Frag} {gl : List (Str × D)} (h : glAll K gl = true) {nm : Str} {d : D} (e : (nm, d) ∈ gl) (n1 : ∀ i, d ≠ .int i) (n2 : ∀ s, d ≠ .str s) : Is K (fun _ => none) (.ref (He.ga K nm)) d := by
  have := List.all_eq_true.mp h _ e
  cases d with
  | tup ds =>
    simp only [Bool.and_eq_true] at this
    exact .tup (He.tupB_ok this.2 _) (by rw [List.length_map, List.length_map]; exact Nat.le_of_lt (small1000 (of_decide_eq_true this.1.2))) (isl_flat this.1.1)
  | int i => exact absurd rfl (n1 i)
  | str s => exact absurd rfl (n2 s)
  | _ => cases this
end DL
/-! UF_k06: own terms of defs (printed by ugen.py), what a program must hold of them. -/
namespace U
open PySem DL
/-- _law_tape -/
noncomputable def f__law_tape : Fn := ⟨1, ["_law_script", "_law_cells", "_law_seed", "_law_cell"], [
  .set (.nm 1) (.lc (.bif .abs (.bif .int (.var 3))) (.nm 3) (.over (.var 0)) .nil [3]),
  .set (.nm 2) (.int 7),
  .each (.nm 3) (.over (.var 1)) [
    .set (.nm 2) (.bin .mod (.bif .int (.bin .add (.bin .mul (.var 2) (.int 31)) (.var 3))) (.int 2147483647))],
  .ret (.newk (.cons (.str [99, 101, 108, 108, 115]) (.cons (.var 1) (.cons (.str [97, 116]) (.cons (.int 0) (.cons (.str [108, 101, 102, 116]) (.cons (.int 0) (.cons (.str [115, 101, 101, 100]) (.cons (.var 2) (.cons (.str [115, 97, 108, 116]) (.cons (.int 0) .nil)))))))))))]⟩
/-- _law_take -/
noncomputable def f__law_take : Fn := ⟨2, ["_law_tape_here", "_law_many", "_law_mixed", "_law_drawn"], [
  .ite (.boo true (.cons (.cmp .eq (.idx (.var 0) (.str [108, 101, 102, 116])) (.int 0)) (.cons (.cmp .lt (.idx (.var 0) (.str [97, 116])) (.bif .len (.idx (.var 0) (.str [99, 101, 108, 108, 115])))) .nil))) [
    .put (.var 0) (.str [108, 101, 102, 116]) (.idx (.idx (.var 0) (.str [99, 101, 108, 108, 115])) (.idx (.var 0) (.str [97, 116]))),
    .put (.var 0) (.str [97, 116]) (.bin .add (.idx (.var 0) (.str [97, 116])) (.int 1))] [],
  .ite (.cmp .gt (.idx (.var 0) (.str [108, 101, 102, 116])) (.int 0)) [
    .set (.nm 3) (.bin .mod (.bif .int (.idx (.var 0) (.str [108, 101, 102, 116]))) (.var 1)),
    .put (.var 0) (.str [108, 101, 102, 116]) (.bin .fdiv (.idx (.var 0) (.str [108, 101, 102, 116])) (.var 1)),
    .ret (.var 3)] [],
  .put (.var 0) (.str [115, 97, 108, 116]) (.bin .add (.idx (.var 0) (.str [115, 97, 108, 116])) (.int 1)),
  .set (.nm 2) (.bin .mod (.bif .int (.bin .add (.bin .mul (.idx (.var 0) (.str [115, 101, 101, 100])) (.int 48271)) (.bin .mul (.idx (.var 0) (.str [115, 97, 108, 116])) (.int 69621)))) (.int 2147483647)),
  .set (.nm 2) (.bin .mod (.bif .int (.bin .add (.bin .add (.bin .mul (.var 2) (.var 2)) (.bin .mul (.idx (.var 0) (.str [115, 97, 108, 116])) (.int 40692))) (.int 12345))) (.int 2147483399)),
  .ret (.bin .mod (.bif .int (.var 2)) (.var 1))]⟩
/-- _law_is_integer -/
noncomputable def f__law_is_integer : Fn := ⟨1, ["_law_actual"], [
  .ret (.boo true (.cons (.isi .int (.var 0)) (.cons (.not (.isi .bool (.var 0))) .nil)))]⟩
/-- _law_same -/
noncomputable def f__law_same : Fn := ⟨2, ["_law_actual", "_law_expected", "_law_key"], [
  .ite (.cmp .is (.var 1) .non) [
    .ret (.cmp .is (.var 0) .non)] [],
  .ite (.isi .bool (.var 1)) [
    .ret (.boo true (.cons (.isi .bool (.var 0)) (.cons (.cmp .eq (.var 0) (.var 1)) .nil)))] [],
  .ite (.isi .int (.var 1)) [
    .ret (.boo true (.cons (.call 9 (.cons (.var 0) .nil)) (.cons (.cmp .eq (.var 0) (.var 1)) .nil)))] [],
  .ite (.isi .str (.var 1)) [
    .ret (.boo true (.cons (.isi .str (.var 0)) (.cons (.cmp .eq (.var 0) (.var 1)) .nil)))] [],
  .ite (.isi .tuple (.var 1)) [
    .ret (.boo true (.cons (.isi .tuple (.var 0)) (.cons (.call 10 (.cons (.var 0) (.cons (.var 1) .nil))) .nil)))] [],
  .ite (.isi .list (.var 1)) [
    .ret (.boo true (.cons (.isi .list (.var 0)) (.cons (.call 10 (.cons (.var 0) (.cons (.var 1) .nil))) .nil)))] [],
  .ite (.boo false (.cons (.not (.isi .dict (.var 0))) (.cons (.cmp .ne (.bif .len (.var 0)) (.bif .len (.var 1))) .nil))) [
    .ret (.bl false)] [],
  .each (.nm 2) (.over (.var 1)) [
    .ite (.boo false (.cons (.cmp .notin (.var 2) (.var 0)) (.cons (.not (.call 11 (.cons (.idx (.var 0) (.var 2)) (.cons (.idx (.var 1) (.var 2)) .nil)))) .nil))) [
      .ret (.bl false)] []],
  .each (.nm 2) (.over (.var 0)) [
    .ite (.isi .bool (.var 2)) [
      .ret (.bl false)] []],
  .ret (.bl true)]⟩
/-- _law_same_items -/
noncomputable def f__law_same_items : Fn := ⟨2, ["_law_actual", "_law_expected", "_law_k"], [
  .ite (.cmp .ne (.bif .len (.var 0)) (.bif .len (.var 1))) [
    .ret (.bl false)] [],
  .each (.nm 2) (.rng1 (.bif .len (.var 1))) [
    .ite (.not (.call 11 (.cons (.idx (.var 0) (.var 2)) (.cons (.idx (.var 1) (.var 2)) .nil)))) [
      .ret (.bl false)] []],
  .ret (.bl true)]⟩
/-- _law_atom -/
noncomputable def f__law_atom : Fn := ⟨4, ["_law_tape_here", "_law_kind_here", "_law_singles", "_law_sets", "_law_choice", "_law_x", "_law_y"], [
  .set (.nm 4) (.call 8 (.cons (.var 0) (.cons (.int 12) .nil))),
  .ite (.boo true (.cons (.cmp .ne (.var 3) (.lst .nil)) (.cons (.boo false (.cons (.cmp .lt (.var 4) (.int 4)) (.cons (.cmp .eq (.var 2) (.lst .nil)) .nil))) .nil))) [
    .ite (.boo false (.cons (.cmp .eq (.var 2) (.lst .nil)) (.cons (.cmp .eq (.var 4) (.int 0)) .nil))) [
      .ret (.tup (.cons (.str [105, 110, 115, 105, 100, 101]) (.cons (.idx (.var 3) (.call 8 (.cons (.var 0) (.cons (.bif .len (.var 3)) .nil)))) (.cons (.idx (.var 3) (.call 8 (.cons (.var 0) (.cons (.bif .len (.var 3)) .nil)))) .nil))))] [],
    .ret (.tup (.cons (.str [105, 110]) (.cons (.idx (.var 2) (.call 8 (.cons (.var 0) (.cons (.bif .len (.var 2)) .nil)))) (.cons (.idx (.var 3) (.call 8 (.cons (.var 0) (.cons (.bif .len (.var 3)) .nil)))) .nil))))] [],
  .ite (.cmp .eq (.var 2) (.lst .nil)) [
    .ret (.tup (.cons (.str [116, 114, 117, 101]) .nil))] [],
  .set (.nm 5) (.idx (.var 2) (.call 8 (.cons (.var 0) (.cons (.bif .len (.var 2)) .nil)))),
  .set (.nm 6) (.idx (.var 2) (.call 8 (.cons (.var 0) (.cons (.bif .len (.var 2)) .nil)))),
  .ite (.cmp .lt (.var 4) (.int 7)) [
    .ret (.tup (.cons (.str [108, 97, 98, 101, 108]) (.cons (.idx (.idx (.var 1) (.int 1)) (.call 8 (.cons (.var 0) (.cons (.bif .len (.idx (.var 1) (.int 1))) .nil)))) (.cons (.var 5) .nil))))] [],
  .ite (.cmp .eq (.var 4) (.int 7)) [
    .ret (.tup (.cons (.str [116, 111, 112]) (.cons (.var 5) .nil)))] [],
  .ite (.cmp .eq (.var 4) (.int 8)) [
    .ret (.tup (.cons (.str [115, 97, 109, 101]) (.cons (.var 5) (.cons (.var 6) .nil))))] [],
  .ret (.ite (.cmp .lt (.var 4) (.int 11)) (.tup (.cons (.str [99, 104, 105, 108, 100]) (.cons (.call 8 (.cons (.var 0) (.cons (.idx (.var 1) (.int 0)) .nil))) (.cons (.var 5) (.cons (.var 6) .nil))))) (.tup (.cons (.str [98, 101, 108, 111, 119]) (.cons (.var 5) (.cons (.var 6) .nil)))))]⟩
/-- _law_matrix -/
noncomputable def f__law_matrix : Fn := ⟨5, ["_law_tape_here", "_law_kind_here", "_law_singles", "_law_sets", "_law_depth", "_law_choice", "_law_word", "_law_name", "_law_left"], [
  .set (.nm 5) (.ite (.cmp .gt (.var 4) (.int 0)) (.call 8 (.cons (.var 0) (.cons (.int 8) .nil))) (.int 0)),
  .ite (.cmp .lt (.var 5) (.int 3)) [
    .ret (.call 16 (.cons (.var 0) (.cons (.var 1) (.cons (.var 2) (.cons (.var 3) .nil)))))] [],
  .ite (.cmp .eq (.var 5) (.int 3)) [
    .ret (.tup (.cons (.str [110, 111, 116]) (.cons (.call 17 (.cons (.var 0) (.cons (.var 1) (.cons (.var 2) (.cons (.var 3) (.cons (.bin .sub (.var 4) (.int 1)) .nil)))))) .nil)))] [],
  .ite (.cmp .lt (.var 5) (.int 7)) [
    .set (.nm 6) (.idx (.lst (.cons (.str [97, 110, 100]) (.cons (.str [111, 114]) .nil))) (.call 8 (.cons (.var 0) (.cons (.int 2) .nil)))),
    .set (.nm 8) (.call 17 (.cons (.var 0) (.cons (.var 1) (.cons (.var 2) (.cons (.var 3) (.cons (.bin .sub (.var 4) (.int 1)) .nil)))))),
    .ret (.tup (.cons (.var 6) (.cons (.var 8) (.cons (.call 17 (.cons (.var 0) (.cons (.var 1) (.cons (.var 2) (.cons (.var 3) (.cons (.bin .sub (.var 4) (.int 1)) .nil)))))) .nil))))] [],
  .set (.nm 6) (.idx (.lst (.cons (.str [115, 111, 109, 101]) (.cons (.str [97, 108, 108]) .nil))) (.call 8 (.cons (.var 0) (.cons (.int 2) .nil)))),
  .set (.nm 7) (.idx (.lst (.cons (.str [120]) (.cons (.str [121]) (.cons (.str [122]) .nil)))) (.call 8 (.cons (.var 0) (.cons (.int 3) .nil)))),
  .ret (.tup (.cons (.var 6) (.cons (.var 7) (.cons (.call 17 (.cons (.var 0) (.cons (.var 1) (.cons (.bin .add (.var 2) (.lst (.cons (.var 7) .nil))) (.cons (.var 3) (.cons (.bin .sub (.var 4) (.int 1)) .nil)))))) .nil))))]⟩
/-- _law_closed -/
noncomputable def f__law_closed : Fn := ⟨4, ["_law_tape_here", "_law_formula", "_law_singles", "_law_sets", "_law_name"], [
  .each (.nm 4) (.over (.var 2)) [
    .set (.nm 1) (.tup (.cons (.idx (.lst (.cons (.str [115, 111, 109, 101]) (.cons (.str [97, 108, 108]) .nil))) (.call 8 (.cons (.var 0) (.cons (.int 2) .nil)))) (.cons (.var 4) (.cons (.var 1) .nil))))],
  .each (.nm 4) (.over (.var 3)) [
    .set (.nm 1) (.tup (.cons (.idx (.lst (.cons (.str [115, 111, 109, 101, 115, 101, 116]) (.cons (.str [97, 108, 108, 115, 101, 116]) .nil))) (.call 8 (.cons (.var 0) (.cons (.int 2) .nil)))) (.cons (.var 4) (.cons (.var 1) .nil))))],
  .ret (.var 1)]⟩
structure Up__law_tape (P : Pg) : Prop where
  self : P.Has 7 f__law_tape
structure Up__law_take (P : Pg) : Prop where
  self : P.Has 8 f__law_take
structure Up__law_is_integer (P : Pg) : Prop where
  self : P.Has 9 f__law_is_integer
structure Up__law_same_items (P : Pg) : Prop where
  self__law_same_items : P.Has 10 f__law_same_items
  self__law_same : P.Has 11 f__law_same
  to__law_is_integer : Up__law_is_integer P
structure Up__law_atom (P : Pg) : Prop where
  self : P.Has 16 f__law_atom
  to__law_take : Up__law_take P
structure Up__law_matrix (P : Pg) : Prop where
  self : P.Has 17 f__law_matrix
  to__law_take : Up__law_take P
  to__law_atom : Up__law_atom P
structure Up__law_closed (P : Pg) : Prop where
  self : P.Has 18 f__law_closed
  to__law_take : Up__law_take P
end U
/-! UF_k03: own terms of defs (printed by ugen.py), what a program must hold of them. -/
namespace U
open PySem DL
end U
/-! UF_k07: own terms of defs (printed by ugen.py), what a program must hold of them. -/
namespace U
open PySem DL
end U
/-! UF_k08: own terms of defs (printed by ugen.py), what a program must hold of them. -/
namespace U
open PySem DL
end U
/-! UF_k10: own terms of defs (printed by ugen.py), what a program must hold of them. -/
namespace U
open PySem DL
/-- is_set_name -/
noncomputable def f_is_set_name : Fn := ⟨1, ["name"], [
  .ret (.chn .le .le (.str [65]) (.idx (.var 0) (.int 0)) (.str [90]))]⟩
structure Up_is_set_name (P : Pg) : Prop where
  self : P.Has 116 f_is_set_name
end U
/-! UF_k05: own terms of defs (printed by ugen.py), what a program must hold of them. -/
namespace U
open PySem DL
/-- SyntaxProblem.__init__ -/
noncomputable def f_SyntaxProblem_init : Fn := ⟨2, ["self", "start"], [
  .xini [115, 116, 97, 114, 116]]⟩
/-- tokens -/
noncomputable def f_tokens : Fn := ⟨1, ["text", "result", "at", "char", "end"], [
  .set (.nm 1) (.newl .nil),
  .set (.nm 2) (.int 0),
  .loop (.cmp .lt (.var 2) (.bif .len (.var 0))) [
    .set (.nm 3) (.idx (.var 0) (.var 2)),
    .set (.nm 4) (.bin .add (.var 2) (.int 1)),
    .ite (.cmp .isin (.var 3) (.glb "LETTERS" (.str [97, 98, 99, 100, 101, 102, 103, 104, 105, 106, 107, 108, 109, 110, 111, 112, 113, 114, 115, 116, 117, 118, 119, 120, 121, 122, 65, 66, 67, 68, 69, 70, 71, 72, 73, 74, 75, 76, 77, 78, 79, 80, 81, 82, 83, 84, 85, 86, 87, 88, 89, 90]))) [
      .loop (.boo true (.cons (.cmp .lt (.var 4) (.bif .len (.var 0))) (.cons (.boo false (.cons (.cmp .isin (.idx (.var 0) (.var 4)) (.glb "LETTERS" (.str [97, 98, 99, 100, 101, 102, 103, 104, 105, 106, 107, 108, 109, 110, 111, 112, 113, 114, 115, 116, 117, 118, 119, 120, 121, 122, 65, 66, 67, 68, 69, 70, 71, 72, 73, 74, 75, 76, 77, 78, 79, 80, 81, 82, 83, 84, 85, 86, 87, 88, 89, 90]))) (.cons (.cmp .isin (.idx (.var 0) (.var 4)) (.glb "DIGITS" (.str [48, 49, 50, 51, 52, 53, 54, 55, 56, 57]))) .nil))) .nil))) [
        .aug 4 .add (.int 1)],
      .app (.var 1) (.tup (.cons (.ite (.cmp .isin (.sl (.var 0) (.some (.var 2)) (.some (.var 4))) (.glb "WORDS" (.tup [.str [116, 114, 117, 101], .str [110, 111, 116], .str [97, 110, 100], .str [111, 114], .str [115, 111, 109, 101], .str [97, 108, 108], .str [105, 110], .str [105, 110, 115, 105, 100, 101], .str [98, 101, 108, 111, 119], .str [115, 97, 109, 101], .str [116, 111, 112], .str [99, 104, 105, 108, 100], .str [108, 97, 98, 101, 108]]))) (.str [119, 111, 114, 100]) (.str [110, 97, 109, 101])) (.cons (.sl (.var 0) (.some (.var 2)) (.some (.var 4))) (.cons (.var 2) .nil))))] [
      .ite (.boo false (.cons (.cmp .isin (.var 3) (.glb "SIGNS" (.str [40, 41, 44, 58]))) (.cons (.cmp .isin (.var 3) (.str [48, 49])) .nil))) [
        .app (.var 1) (.tup (.cons (.str [115, 105, 103, 110]) (.cons (.var 3) (.cons (.var 2) .nil))))] [
        .ite (.boo true (.cons (.cmp .ne (.var 3) (.str [32])) (.cons (.cmp .ne (.var 3) (.str [10])) .nil))) [
          .app (.var 1) (.tup (.cons (.str [119, 114, 111, 110, 103]) (.cons (.var 3) (.cons (.var 2) .nil))))] []]],
    .set (.nm 2) (.var 4)],
  .ret (.frz (.var 1))]⟩
/-- Reader.__init__ -/
noncomputable def f_Reader_init : Fn := ⟨2, ["self", "text"], [
  .putf [82, 101, 97, 100, 101, 114] (.var 0) [102, 111, 117, 110, 100] (.call 216 (.cons (.var 1) .nil)),
  .putf [82, 101, 97, 100, 101, 114] (.var 0) [97, 116] (.int 0)]⟩
/-- Reader.need -/
noncomputable def f_Reader_need : Fn := ⟨2, ["self", "condition"], [
  .ite (.var 1) [
    .retN] [],
  .ite (.cmp .lt (.fld [82, 101, 97, 100, 101, 114] (.var 0) [97, 116]) (.bif .len (.fld [82, 101, 97, 100, 101, 114] (.var 0) [102, 111, 117, 110, 100]))) [
    .raisn 7 (.idx (.idx (.fld [82, 101, 97, 100, 101, 114] (.var 0) [102, 111, 117, 110, 100]) (.fld [82, 101, 97, 100, 101, 114] (.var 0) [97, 116])) (.int 2))] [],
  .ite (.not (.fld [82, 101, 97, 100, 101, 114] (.var 0) [102, 111, 117, 110, 100])) [
    .raisn 7 (.int 0)] [],
  .raisn 7 (.bin .add (.idx (.idx (.fld [82, 101, 97, 100, 101, 114] (.var 0) [102, 111, 117, 110, 100]) (.neg (.int 1))) (.int 2)) (.bif .len (.idx (.idx (.fld [82, 101, 97, 100, 101, 114] (.var 0) [102, 111, 117, 110, 100]) (.neg (.int 1))) (.int 1))))]⟩
/-- Reader.fixed -/
noncomputable def f_Reader_fixed : Fn := ⟨1, ["self"], [
  .ite (.boo true (.cons (.cmp .lt (.fld [82, 101, 97, 100, 101, 114] (.var 0) [97, 116]) (.bif .len (.fld [82, 101, 97, 100, 101, 114] (.var 0) [102, 111, 117, 110, 100]))) (.cons (.cmp .isin (.idx (.idx (.fld [82, 101, 97, 100, 101, 114] (.var 0) [102, 111, 117, 110, 100]) (.fld [82, 101, 97, 100, 101, 114] (.var 0) [97, 116])) (.int 0)) (.tup (.cons (.str [119, 111, 114, 100]) (.cons (.str [115, 105, 103, 110]) .nil)))) .nil))) [
    .ret (.idx (.idx (.fld [82, 101, 97, 100, 101, 114] (.var 0) [102, 111, 117, 110, 100]) (.fld [82, 101, 97, 100, 101, 114] (.var 0) [97, 116])) (.int 1))] [],
  .ret (.str [])]⟩
/-- Reader.take -/
noncomputable def f_Reader_take : Fn := ⟨2, ["self", "expected"], [
  .expr (.meth [82, 101, 97, 100, 101, 114] [110, 101, 101, 100] 218 (.var 0) (.cons (.cmp .eq (.meth [82, 101, 97, 100, 101, 114] [102, 105, 120, 101, 100] 219 (.var 0) .nil) (.var 1)) .nil)),
  .augf [82, 101, 97, 100, 101, 114] (.var 0) [97, 116] .add (.int 1)]⟩
/-- Reader.name -/
noncomputable def f_Reader_name : Fn := ⟨2, ["self", "sort", "name"], [
  .expr (.meth [82, 101, 97, 100, 101, 114] [110, 101, 101, 100] 218 (.var 0) (.cons (.boo true (.cons (.cmp .lt (.fld [82, 101, 97, 100, 101, 114] (.var 0) [97, 116]) (.bif .len (.fld [82, 101, 97, 100, 101, 114] (.var 0) [102, 111, 117, 110, 100]))) (.cons (.cmp .eq (.idx (.idx (.fld [82, 101, 97, 100, 101, 114] (.var 0) [102, 111, 117, 110, 100]) (.fld [82, 101, 97, 100, 101, 114] (.var 0) [97, 116])) (.int 0)) (.str [110, 97, 109, 101])) .nil))) .nil)),
  .set (.nm 2) (.idx (.idx (.fld [82, 101, 97, 100, 101, 114] (.var 0) [102, 111, 117, 110, 100]) (.fld [82, 101, 97, 100, 101, 114] (.var 0) [97, 116])) (.int 1)),
  .ite (.cmp .eq (.var 1) (.str [108, 97, 98, 101, 108])) [
    .expr (.meth [82, 101, 97, 100, 101, 114] [110, 101, 101, 100] 218 (.var 0) (.cons (.boo true (.cons (.cmp .eq (.bif .len (.var 2)) (.int 1)) (.cons (.not (.call 116 (.cons (.var 2) .nil))) .nil))) .nil))] [
    .ite (.cmp .ne (.var 1) (.str [97, 110, 121])) [
      .expr (.meth [82, 101, 97, 100, 101, 114] [110, 101, 101, 100] 218 (.var 0) (.cons (.cmp .eq (.call 116 (.cons (.var 2) .nil)) (.cmp .eq (.var 1) (.str [115, 101, 116]))) .nil))] []],
  .augf [82, 101, 97, 100, 101, 114] (.var 0) [97, 116] .add (.int 1),
  .ret (.var 2)]⟩
/-- Reader.pair -/
noncomputable def f_Reader_pair : Fn := ⟨3, ["self", "first", "second", "one", "two"], [
  .expr (.meth [82, 101, 97, 100, 101, 114] [116, 97, 107, 101] 220 (.var 0) (.cons (.str [40]) .nil)),
  .set (.nm 3) (.meth [82, 101, 97, 100, 101, 114] [110, 97, 109, 101] 221 (.var 0) (.cons (.var 1) .nil)),
  .expr (.meth [82, 101, 97, 100, 101, 114] [116, 97, 107, 101] 220 (.var 0) (.cons (.str [44]) .nil)),
  .set (.nm 4) (.meth [82, 101, 97, 100, 101, 114] [110, 97, 109, 101] 221 (.var 0) (.cons (.var 2) .nil)),
  .expr (.meth [82, 101, 97, 100, 101, 114] [116, 97, 107, 101] 220 (.var 0) (.cons (.str [41]) .nil)),
  .ret (.tup (.cons (.var 3) (.cons (.var 4) .nil)))]⟩
/-- Reader.single -/
noncomputable def f_Reader_single : Fn := ⟨1, ["self", "name"], [
  .expr (.meth [82, 101, 97, 100, 101, 114] [116, 97, 107, 101] 220 (.var 0) (.cons (.str [40]) .nil)),
  .set (.nm 1) (.meth [82, 101, 97, 100, 101, 114] [110, 97, 109, 101] 221 (.var 0) (.cons (.str [101, 108, 101, 109, 101, 110, 116]) .nil)),
  .expr (.meth [82, 101, 97, 100, 101, 114] [116, 97, 107, 101] 220 (.var 0) (.cons (.str [41]) .nil)),
  .ret (.var 1)]⟩
/-- Reader.simple -/
noncomputable def f_Reader_simple : Fn := ⟨1, ["self", "word", "sort", "result", "label", "way"], [
  .set (.nm 1) (.meth [82, 101, 97, 100, 101, 114] [102, 105, 120, 101, 100] 219 (.var 0) .nil),
  .expr (.meth [82, 101, 97, 100, 101, 114] [110, 101, 101, 100] 218 (.var 0) (.cons (.cmp .isin (.var 1) (.tup (.cons (.str [40]) (.cons (.str [116, 114, 117, 101]) (.cons (.str [108, 97, 98, 101, 108]) (.cons (.str [99, 104, 105, 108, 100]) (.cons (.str [98, 101, 108, 111, 119]) (.cons (.str [115, 97, 109, 101]) (.cons (.str [105, 110]) (.cons (.str [105, 110, 115, 105, 100, 101]) (.cons (.str [116, 111, 112]) .nil))))))))))) .nil)),
  .augf [82, 101, 97, 100, 101, 114] (.var 0) [97, 116] .add (.int 1),
  .ite (.cmp .eq (.var 1) (.str [40])) [
    .set (.nm 3) (.meth [82, 101, 97, 100, 101, 114] [101, 105, 116, 104, 101, 114] 222 (.var 0) .nil),
    .expr (.meth [82, 101, 97, 100, 101, 114] [116, 97, 107, 101] 220 (.var 0) (.cons (.str [41]) .nil)),
    .ret (.var 3)] [],
  .ite (.cmp .eq (.var 1) (.str [116, 114, 117, 101])) [
    .ret (.tup (.cons (.str [116, 114, 117, 101]) .nil))] [],
  .ite (.cmp .eq (.var 1) (.str [116, 111, 112])) [
    .ret (.tup (.cons (.str [116, 111, 112]) (.cons (.meth [82, 101, 97, 100, 101, 114] [115, 105, 110, 103, 108, 101] 226 (.var 0) .nil) .nil)))] [],
  .ite (.cmp .eq (.var 1) (.str [108, 97, 98, 101, 108])) [
    .set (.nm 4) (.meth [82, 101, 97, 100, 101, 114] [110, 97, 109, 101] 221 (.var 0) (.cons (.str [108, 97, 98, 101, 108]) .nil)),
    .ret (.tup (.cons (.str [108, 97, 98, 101, 108]) (.cons (.var 4) (.cons (.meth [82, 101, 97, 100, 101, 114] [115, 105, 110, 103, 108, 101] 226 (.var 0) .nil) .nil))))] [],
  .ite (.cmp .eq (.var 1) (.str [99, 104, 105, 108, 100])) [
    .expr (.meth [82, 101, 97, 100, 101, 114] [110, 101, 101, 100] 218 (.var 0) (.cons (.boo false (.cons (.cmp .eq (.meth [82, 101, 97, 100, 101, 114] [102, 105, 120, 101, 100] 219 (.var 0) .nil) (.str [48])) (.cons (.cmp .eq (.meth [82, 101, 97, 100, 101, 114] [102, 105, 120, 101, 100] 219 (.var 0) .nil) (.str [49])) .nil))) .nil)),
    .set (.nm 5) (.ite (.cmp .eq (.meth [82, 101, 97, 100, 101, 114] [102, 105, 120, 101, 100] 219 (.var 0) .nil) (.str [48])) (.int 0) (.int 1)),
    .augf [82, 101, 97, 100, 101, 114] (.var 0) [97, 116] .add (.int 1),
    .ret (.bin .add (.tup (.cons (.str [99, 104, 105, 108, 100]) (.cons (.var 5) .nil))) (.meth [82, 101, 97, 100, 101, 114] [112, 97, 105, 114] 225 (.var 0) (.cons (.str [101, 108, 101, 109, 101, 110, 116]) (.cons (.str [101, 108, 101, 109, 101, 110, 116]) .nil))))] [],
  .ite (.cmp .eq (.var 1) (.str [105, 110])) [
    .ret (.bin .add (.tup (.cons (.str [105, 110]) .nil)) (.meth [82, 101, 97, 100, 101, 114] [112, 97, 105, 114] 225 (.var 0) (.cons (.str [101, 108, 101, 109, 101, 110, 116]) (.cons (.str [115, 101, 116]) .nil))))] [],
  .set (.nm 2) (.ite (.cmp .eq (.var 1) (.str [105, 110, 115, 105, 100, 101])) (.str [115, 101, 116]) (.str [101, 108, 101, 109, 101, 110, 116])),
  .ret (.bin .add (.tup (.cons (.var 1) .nil)) (.meth [82, 101, 97, 100, 101, 114] [112, 97, 105, 114] 225 (.var 0) (.cons (.var 2) (.cons (.var 2) .nil))))]⟩
/-- Reader.denied -/
noncomputable def f_Reader_denied : Fn := ⟨1, ["self", "word", "name"], [
  .set (.nm 1) (.meth [82, 101, 97, 100, 101, 114] [102, 105, 120, 101, 100] 219 (.var 0) .nil),
  .ite (.cmp .eq (.var 1) (.str [110, 111, 116])) [
    .augf [82, 101, 97, 100, 101, 114] (.var 0) [97, 116] .add (.int 1),
    .ret (.tup (.cons (.str [110, 111, 116]) (.cons (.meth [82, 101, 97, 100, 101, 114] [100, 101, 110, 105, 101, 100] 224 (.var 0) .nil) .nil)))] [],
  .ite (.boo false (.cons (.cmp .eq (.var 1) (.str [115, 111, 109, 101])) (.cons (.cmp .eq (.var 1) (.str [97, 108, 108])) .nil))) [
    .augf [82, 101, 97, 100, 101, 114] (.var 0) [97, 116] .add (.int 1),
    .set (.nm 2) (.meth [82, 101, 97, 100, 101, 114] [110, 97, 109, 101] 221 (.var 0) (.cons (.str [97, 110, 121]) .nil)),
    .expr (.meth [82, 101, 97, 100, 101, 114] [116, 97, 107, 101] 220 (.var 0) (.cons (.str [58]) .nil)),
    .ite (.call 116 (.cons (.var 2) .nil)) [
      .set (.nm 1) (.bin .add (.var 1) (.str [115, 101, 116]))] [],
    .ret (.tup (.cons (.var 1) (.cons (.var 2) (.cons (.meth [82, 101, 97, 100, 101, 114] [100, 101, 110, 105, 101, 100] 224 (.var 0) .nil) .nil))))] [],
  .ret (.meth [82, 101, 97, 100, 101, 114] [115, 105, 109, 112, 108, 101] 227 (.var 0) .nil)]⟩
/-- Reader.both -/
noncomputable def f_Reader_both : Fn := ⟨1, ["self", "left"], [
  .set (.nm 1) (.meth [82, 101, 97, 100, 101, 114] [100, 101, 110, 105, 101, 100] 224 (.var 0) .nil),
  .loop (.cmp .eq (.meth [82, 101, 97, 100, 101, 114] [102, 105, 120, 101, 100] 219 (.var 0) .nil) (.str [97, 110, 100])) [
    .augf [82, 101, 97, 100, 101, 114] (.var 0) [97, 116] .add (.int 1),
    .set (.nm 1) (.tup (.cons (.str [97, 110, 100]) (.cons (.var 1) (.cons (.meth [82, 101, 97, 100, 101, 114] [100, 101, 110, 105, 101, 100] 224 (.var 0) .nil) .nil))))],
  .ret (.var 1)]⟩
/-- Reader.either -/
noncomputable def f_Reader_either : Fn := ⟨1, ["self", "left"], [
  .set (.nm 1) (.meth [82, 101, 97, 100, 101, 114] [98, 111, 116, 104] 223 (.var 0) .nil),
  .loop (.cmp .eq (.meth [82, 101, 97, 100, 101, 114] [102, 105, 120, 101, 100] 219 (.var 0) .nil) (.str [111, 114])) [
    .augf [82, 101, 97, 100, 101, 114] (.var 0) [97, 116] .add (.int 1),
    .set (.nm 1) (.tup (.cons (.str [111, 114]) (.cons (.var 1) (.cons (.meth [82, 101, 97, 100, 101, 114] [98, 111, 116, 104] 223 (.var 0) .nil) .nil))))],
  .ret (.var 1)]⟩
/-- read_formula -/
noncomputable def f_read_formula : Fn := ⟨1, ["text", "reader", "result"], [
  .set (.nm 1) (.mk [82, 101, 97, 100, 101, 114] 217 (.cons (.var 0) .nil)),
  .set (.nm 2) (.meth [82, 101, 97, 100, 101, 114] [101, 105, 116, 104, 101, 114] 222 (.var 1) .nil),
  .expr (.meth [82, 101, 97, 100, 101, 114] [110, 101, 101, 100] 218 (.var 1) (.cons (.cmp .ge (.fld [82, 101, 97, 100, 101, 114] (.var 1) [97, 116]) (.bif .len (.fld [82, 101, 97, 100, 101, 114] (.var 1) [102, 111, 117, 110, 100]))) .nil)),
  .ret (.var 2)]⟩
/-- _law_put -/
noncomputable def f__law_put : Fn := ⟨3, ["_law_tape_here", "_law_out", "_law_string", "_law_last", "_law_letters", "_law_gap"], [
  .set (.nm 3) (.sl (.idx (.var 1) (.str [116, 101, 120, 116])) (.some (.neg (.int 1))) .none),
  .set (.nm 4) (.str [97, 98, 99, 100, 101, 102, 103, 104, 105, 106, 107, 108, 109, 110, 111, 112, 113, 114, 115, 116, 117, 118, 119, 120, 121, 122, 65, 66, 67, 68, 69, 70, 71, 72, 73, 74, 75, 76, 77, 78, 79, 80, 81, 82, 83, 84, 85, 86, 87, 88, 89, 90, 48, 49, 50, 51, 52, 53, 54, 55, 56, 57]),
  .set (.nm 5) (.idx (.lst (.cons (.str [32]) (.cons (.str []) (.cons (.str [10]) (.cons (.str [32, 32]) .nil))))) (.bin .fdiv (.call 8 (.cons (.var 0) (.cons (.int 16) .nil))) (.int 4))),
  .ite (.boo true (.cons (.cmp .eq (.var 5) (.str [])) (.cons (.cmp .ne (.var 3) (.str [])) (.cons (.cmp .isin (.var 3) (.var 4)) (.cons (.cmp .isin (.idx (.var 2) (.int 0)) (.var 4)) .nil))))) [
    .set (.nm 5) (.str [32])] [],
  .put (.var 1) (.str [116, 101, 120, 116]) (.bin .add (.bin .add (.idx (.var 1) (.str [116, 101, 120, 116])) (.var 5)) (.var 2))]⟩
/-- _law_put_all -/
noncomputable def f__law_put_all : Fn := ⟨3, ["_law_tape_here", "_law_out", "_law_strings", "_law_string"], [
  .each (.nm 3) (.over (.var 2)) [
    .expr (.call 229 (.cons (.var 0) (.cons (.var 1) (.cons (.var 3) .nil))))]]⟩
/-- _law_put_formula -/
noncomputable def f__law_put_formula : Fn := ⟨4, ["_law_tape_here", "_law_out", "_law_formula", "_law_least", "_law_word", "_law_rank", "_law_brackets", "_law_names"], [
  .set (.nm 4) (.idx (.var 2) (.int 0)),
  .set (.nm 5) (.dgt (.newk (.cons (.str [111, 114]) (.cons (.int 0) (.cons (.str [97, 110, 100]) (.cons (.int 1) .nil))))) (.var 4) (.ite (.cmp .isin (.var 4) (.lst (.cons (.str [108, 97, 98, 101, 108]) (.cons (.str [99, 104, 105, 108, 100]) (.cons (.str [98, 101, 108, 111, 119]) (.cons (.str [115, 97, 109, 101]) (.cons (.str [116, 111, 112]) (.cons (.str [105, 110]) (.cons (.str [105, 110, 115, 105, 100, 101]) (.cons (.str [116, 114, 117, 101]) .nil)))))))))) (.int 3) (.int 2))),
  .set (.nm 6) (.boo false (.cons (.cmp .lt (.var 5) (.var 3)) (.cons (.cmp .eq (.call 8 (.cons (.var 0) (.cons (.int 6) .nil))) (.int 0)) .nil))),
  .ite (.var 6) [
    .expr (.call 229 (.cons (.var 0) (.cons (.var 1) (.cons (.str [40]) .nil))))] [],
  .ite (.cmp .eq (.var 4) (.str [116, 114, 117, 101])) [
    .expr (.call 229 (.cons (.var 0) (.cons (.var 1) (.cons (.var 4) .nil))))] [
    .ite (.cmp .isin (.var 4) (.lst (.cons (.str [108, 97, 98, 101, 108]) (.cons (.str [99, 104, 105, 108, 100]) .nil)))) [
      .set (.nm 7) (.bif .list (.sl (.var 2) (.some (.int 2)) .none)),
      .expr (.call 230 (.cons (.var 0) (.cons (.var 1) (.cons (.bin .add (.bin .add (.lst (.cons (.var 4) (.cons (.b1 .str (.idx (.var 2) (.int 1))) (.cons (.str [40]) (.cons (.idx (.var 7) (.int 0)) .nil))))) (.frz (.repN (.lst (.cons (.str [44]) (.cons (.idx (.var 7) (.neg (.int 1))) .nil))) (.bin .sub (.bif .len (.var 7)) (.int 1))))) (.lst (.cons (.str [41]) .nil))) .nil))))] [
      .ite (.cmp .eq (.var 5) (.int 3)) [
        .expr (.call 230 (.cons (.var 0) (.cons (.var 1) (.cons (.bin .add (.bin .add (.lst (.cons (.var 4) (.cons (.str [40]) (.cons (.idx (.var 2) (.int 1)) .nil)))) (.frz (.repN (.lst (.cons (.str [44]) (.cons (.idx (.var 2) (.neg (.int 1))) .nil))) (.bin .sub (.bif .len (.var 2)) (.int 2))))) (.lst (.cons (.str [41]) .nil))) .nil))))] [
        .ite (.cmp .eq (.var 4) (.str [110, 111, 116])) [
          .expr (.call 229 (.cons (.var 0) (.cons (.var 1) (.cons (.var 4) .nil)))),
          .expr (.call 231 (.cons (.var 0) (.cons (.var 1) (.cons (.idx (.var 2) (.int 1)) (.cons (.int 2) .nil)))))] [
          .ite (.cmp .lt (.var 5) (.int 2)) [
            .expr (.call 231 (.cons (.var 0) (.cons (.var 1) (.cons (.idx (.var 2) (.int 1)) (.cons (.var 5) .nil))))),
            .expr (.call 229 (.cons (.var 0) (.cons (.var 1) (.cons (.var 4) .nil)))),
            .expr (.call 231 (.cons (.var 0) (.cons (.var 1) (.cons (.idx (.var 2) (.int 2)) (.cons (.bin .add (.var 5) (.int 1)) .nil)))))] [
            .expr (.call 230 (.cons (.var 0) (.cons (.var 1) (.cons (.lst (.cons (.ite (.cmp .isin (.var 4) (.lst (.cons (.str [115, 111, 109, 101]) (.cons (.str [115, 111, 109, 101, 115, 101, 116]) .nil)))) (.str [115, 111, 109, 101]) (.str [97, 108, 108])) (.cons (.idx (.var 2) (.int 1)) (.cons (.str [58]) .nil)))) .nil)))),
            .expr (.call 231 (.cons (.var 0) (.cons (.var 1) (.cons (.idx (.var 2) (.int 2)) (.cons (.int 2) .nil)))))]]]]],
  .ite (.var 6) [
    .expr (.call 229 (.cons (.var 0) (.cons (.var 1) (.cons (.str [41]) .nil))))] []]⟩
structure Up_SyntaxProblem_init (P : Pg) : Prop where
  self : P.Has 215 f_SyntaxProblem_init
structure Up_tokens (P : Pg) : Prop where
  self : P.Has 216 f_tokens
structure Up_Reader_init (P : Pg) : Prop where
  self : P.Has 217 f_Reader_init
  to_tokens : Up_tokens P
structure Up_Reader_need (P : Pg) : Prop where
  self : P.Has 218 f_Reader_need
  to_SyntaxProblem_init : Up_SyntaxProblem_init P
structure Up_Reader_fixed (P : Pg) : Prop where
  self : P.Has 219 f_Reader_fixed
structure Up_Reader_take (P : Pg) : Prop where
  self : P.Has 220 f_Reader_take
  to_Reader_need : Up_Reader_need P
  to_Reader_fixed : Up_Reader_fixed P
structure Up_Reader_name (P : Pg) : Prop where
  self : P.Has 221 f_Reader_name
  to_Reader_need : Up_Reader_need P
  to_is_set_name : Up_is_set_name P
structure Up_Reader_pair (P : Pg) : Prop where
  self : P.Has 225 f_Reader_pair
  to_Reader_take : Up_Reader_take P
  to_Reader_name : Up_Reader_name P
structure Up_Reader_single (P : Pg) : Prop where
  self : P.Has 226 f_Reader_single
  to_Reader_take : Up_Reader_take P
  to_Reader_name : Up_Reader_name P
structure Up_Reader_either (P : Pg) : Prop where
  self_Reader_either : P.Has 222 f_Reader_either
  self_Reader_both : P.Has 223 f_Reader_both
  self_Reader_denied : P.Has 224 f_Reader_denied
  self_Reader_simple : P.Has 227 f_Reader_simple
  to_Reader_fixed : Up_Reader_fixed P
  to_Reader_name : Up_Reader_name P
  to_Reader_take : Up_Reader_take P
  to_is_set_name : Up_is_set_name P
  to_Reader_need : Up_Reader_need P
  to_Reader_pair : Up_Reader_pair P
  to_Reader_single : Up_Reader_single P
structure Up_read_formula (P : Pg) : Prop where
  self : P.Has 228 f_read_formula
  to_Reader_init : Up_Reader_init P
  to_Reader_either : Up_Reader_either P
  to_Reader_need : Up_Reader_need P
structure Up__law_put (P : Pg) : Prop where
  self : P.Has 229 f__law_put
  to__law_take : Up__law_take P
structure Up__law_put_all (P : Pg) : Prop where
  self : P.Has 230 f__law_put_all
  to__law_put : Up__law_put P
structure Up__law_put_formula (P : Pg) : Prop where
  self : P.Has 231 f__law_put_formula
  to__law_put : Up__law_put P
  to__law_take : Up__law_take P
  to__law_put_all : Up__law_put_all P
end U
/-! UF_k04: own terms of defs (printed by ugen.py), what a program must hold of them. -/
namespace U
open PySem DL
/-- write_formula -/
noncomputable def f_write_formula : Fn := ⟨1, ["formula", "word"], [
  .set (.nm 1) (.idx (.var 0) (.int 0)),
  .ite (.cmp .eq (.var 1) (.str [116, 114, 117, 101])) [
    .ret (.str [116, 114, 117, 101])] [],
  .ite (.cmp .eq (.var 1) (.str [108, 97, 98, 101, 108])) [
    .ret (.fst (.cons (.str [108, 97, 98, 101, 108, 32]) (.cons (.fmt (.idx (.var 0) (.int 1))) (.cons (.str [40]) (.cons (.fmt (.idx (.var 0) (.int 2))) (.cons (.str [41]) .nil))))))] [],
  .ite (.cmp .eq (.var 1) (.str [99, 104, 105, 108, 100])) [
    .ret (.fst (.cons (.str [99, 104, 105, 108, 100, 32]) (.cons (.fmt (.idx (.var 0) (.int 1))) (.cons (.str [40]) (.cons (.fmt (.idx (.var 0) (.int 2))) (.cons (.str [44, 32]) (.cons (.fmt (.idx (.var 0) (.int 3))) (.cons (.str [41]) .nil))))))))] [],
  .ite (.cmp .eq (.var 1) (.str [116, 111, 112])) [
    .ret (.fst (.cons (.str [116, 111, 112, 40]) (.cons (.fmt (.idx (.var 0) (.int 1))) (.cons (.str [41]) .nil))))] [],
  .ite (.cmp .isin (.var 1) (.tup (.cons (.str [98, 101, 108, 111, 119]) (.cons (.str [115, 97, 109, 101]) (.cons (.str [105, 110]) (.cons (.str [105, 110, 115, 105, 100, 101]) .nil)))))) [
    .ret (.fst (.cons (.fmt (.var 1)) (.cons (.str [40]) (.cons (.fmt (.idx (.var 0) (.int 1))) (.cons (.str [44, 32]) (.cons (.fmt (.idx (.var 0) (.int 2))) (.cons (.str [41]) .nil)))))))] [],
  .ite (.cmp .eq (.var 1) (.str [110, 111, 116])) [
    .ret (.bin .add (.str [110, 111, 116, 32]) (.call 236 (.cons (.idx (.var 0) (.int 1)) .nil)))] [],
  .ite (.boo false (.cons (.cmp .eq (.var 1) (.str [97, 110, 100])) (.cons (.cmp .eq (.var 1) (.str [111, 114])) .nil))) [
    .ret (.bin .add (.bin .add (.bin .add (.bin .add (.bin .add (.bin .add (.str [40]) (.call 236 (.cons (.idx (.var 0) (.int 1)) .nil))) (.str [32])) (.var 1)) (.str [32])) (.call 236 (.cons (.idx (.var 0) (.int 2)) .nil))) (.str [41]))] [],
  .ret (.bin .add (.bin .add (.bin .add (.bin .add (.sl (.var 1) .none (.some (.ite (.cmp .eq (.idx (.var 1) (.int 0)) (.str [115])) (.int 4) (.int 3)))) (.str [32])) (.idx (.var 0) (.int 1))) (.str [58, 32])) (.call 236 (.cons (.idx (.var 0) (.int 2)) .nil)))]⟩
/-- _law_parts -/
noncomputable def f__law_parts : Fn := ⟨1, ["_law_formula", "_law_total", "_law_one"], [
  .set (.nm 1) (.int 1),
  .each (.nm 2) (.over (.sl (.var 0) (.some (.int 1)) .none)) [
    .ite (.isi .tuple (.var 2)) [
      .set (.nm 1) (.bin .add (.var 1) (.call 237 (.cons (.var 2) .nil)))] []],
  .ret (.var 1)]⟩
/-- _law_letters -/
noncomputable def f__law_letters_v2 : Fn := ⟨1, ["_law_formula", "_law_total", "_law_one"], [
  .set (.nm 1) (.int 0),
  .each (.nm 2) (.over (.sl (.var 0) (.some (.int 1)) .none)) [
    .ite (.isi .tuple (.var 2)) [
      .set (.nm 1) (.bin .add (.var 1) (.call 238 (.cons (.var 2) .nil)))] [
      .ite (.isi .str (.var 2)) [
        .set (.nm 1) (.bin .add (.var 1) (.bif .len (.var 2)))] []]],
  .ret (.var 1)]⟩
structure Up_write_formula (P : Pg) : Prop where
  self : P.Has 236 f_write_formula
structure Up__law_parts (P : Pg) : Prop where
  self : P.Has 237 f__law_parts
structure Up__law_letters_v2 (P : Pg) : Prop where
  self : P.Has 238 f__law_letters_v2
end U
/-! K04A: the program of k04 (printed by ugen.py), checked against the program. -/
namespace K04
open PySem DL U
/-- law -/
noncomputable def f_law : Fn := ⟨1, ["_law_script", "_law_tape_here", "_law_kind_here", "_law_singles", "_law_sets", "_law_formula", "_law_out", "_law_text_here", "_law_more", "e"], [
  .set (.nm 1) (.call 7 (.cons (.var 0) .nil)),
  .set (.nm 2) (.tup (.cons (.int 2) (.cons (.tup (.cons (.str [97]) (.cons (.str [98]) .nil))) .nil))),
  .set (.nm 3) (.sl (.lst (.cons (.str [120]) (.cons (.str [121, 49]) (.cons (.str [117, 86, 57]) .nil)))) .none (.some (.bin .add (.int 1) (.call 8 (.cons (.var 1) (.cons (.int 3) .nil)))))),
  .set (.nm 4) (.sl (.lst (.cons (.str [88]) (.cons (.str [89, 50]) .nil))) .none (.some (.call 8 (.cons (.var 1) (.cons (.int 3) .nil))))),
  .set (.nm 5) (.call 18 (.cons (.var 1) (.cons (.call 17 (.cons (.var 1) (.cons (.var 2) (.cons (.var 3) (.cons (.var 4) (.cons (.int 4) .nil)))))) (.cons (.var 3) (.cons (.var 4) .nil))))),
  .set (.nm 6) (.newk (.cons (.str [116, 101, 120, 116]) (.cons (.str []) .nil))),
  .expr (.call 231 (.cons (.var 1) (.cons (.var 6) (.cons (.var 5) (.cons (.int 0) .nil))))),
  .ite (.not (.call 11 (.cons (.call 228 (.cons (.idx (.var 6) (.str [116, 101, 120, 116])) .nil)) (.cons (.var 5) .nil)))) [
    .ret (.bl false)] [],
  .set (.nm 7) (.call 236 (.cons (.var 5) .nil)),
  .ite (.boo false (.cons (.cmp .gt (.bif .len (.var 7)) (.bin .add (.bin .mul (.int 30) (.call 237 (.cons (.var 5) .nil))) (.call 238 (.cons (.var 5) .nil)))) (.cons (.not (.call 11 (.cons (.call 228 (.cons (.var 7) .nil)) (.cons (.var 5) .nil)))) .nil))) [
    .ret (.bl false)] [],
  .set (.nm 8) (.idx (.lst (.cons (.str [120]) (.cons (.str [41]) (.cons (.str [115, 111, 109, 101]) (.cons (.str [63]) (.cons (.str [58]) (.cons (.str [48]) (.cons (.str [116, 114, 117, 101]) .nil)))))))) (.call 8 (.cons (.var 1) (.cons (.int 7) .nil)))),
  .tri [
    .expr (.call 228 (.cons (.bin .add (.bin .add (.idx (.var 6) (.str [116, 101, 120, 116])) (.str [32])) (.var 8)) .nil))] 7 (some 9) (.sme 6 [116, 101, 120, 116]),
  .ret (.bl false)]⟩
noncomputable def P : Pg := ⟨[(215, ("__init__" : Str), f_SyntaxProblem_init),
    (116, ("is_set_name" : Str), f_is_set_name),
    (216, ("tokens" : Str), f_tokens),
    (217, ("__init__" : Str), f_Reader_init),
    (218, ("need" : Str), f_Reader_need),
    (219, ("fixed" : Str), f_Reader_fixed),
    (220, ("take" : Str), f_Reader_take),
    (221, ("name" : Str), f_Reader_name),
    (222, ("either" : Str), f_Reader_either),
    (223, ("both" : Str), f_Reader_both),
    (224, ("denied" : Str), f_Reader_denied),
    (225, ("pair" : Str), f_Reader_pair),
    (226, ("single" : Str), f_Reader_single),
    (227, ("simple" : Str), f_Reader_simple),
    (228, ("read_formula" : Str), f_read_formula),
    (236, ("write_formula" : Str), f_write_formula),
    (7, ("_law_tape" : Str), f__law_tape),
    (8, ("_law_take" : Str), f__law_take),
    (9, ("_law_is_integer" : Str), f__law_is_integer),
    (10, ("_law_same_items" : Str), f__law_same_items),
    (11, ("_law_same" : Str), f__law_same),
    (16, ("_law_atom" : Str), f__law_atom),
    (17, ("_law_matrix" : Str), f__law_matrix),
    (18, ("_law_closed" : Str), f__law_closed),
    (229, ("_law_put" : Str), ⟨f__law_put.np, ["_law_tape_here", "_law_out", "_law_string", "_law_last", "_law_letters_here", "_law_gap"], f__law_put.body⟩),
    (230, ("_law_put_all" : Str), f__law_put_all),
    (231, ("_law_put_formula" : Str), f__law_put_formula),
    (237, ("_law_parts" : Str), f__law_parts),
    (238, ("_law_letters" : Str), f__law_letters_v2),
    (239, ("law" : Str), f_law)],
  [("LETTERS", .str [97, 98, 99, 100, 101, 102, 103, 104, 105, 106, 107, 108, 109, 110, 111, 112, 113, 114, 115, 116, 117, 118, 119, 120, 121, 122, 65, 66, 67, 68, 69, 70, 71, 72, 73, 74, 75, 76, 77, 78, 79, 80, 81, 82, 83, 84, 85, 86, 87, 88, 89, 90]),
    ("DIGITS", .str [48, 49, 50, 51, 52, 53, 54, 55, 56, 57]),
    ("WORDS", .tup [.str [116, 114, 117, 101], .str [110, 111, 116], .str [97, 110, 100], .str [111, 114], .str [115, 111, 109, 101], .str [97, 108, 108], .str [105, 110], .str [105, 110, 115, 105, 100, 101], .str [98, 101, 108, 111, 119], .str [115, 97, 109, 101], .str [116, 111, 112], .str [99, 104, 105, 108, 100], .str [108, 97, 98, 101, 108]]),
    ("SIGNS", .str [40, 41, 44, 58])],
  [],
  [(7, "SyntaxProblem")], "SayError",
  [([82, 101, 97, 100, 101, 114], [[97, 116], [102, 111, 117, 110, 100]])],
  [(215, [83, 121, 110, 116, 97, 120, 80, 114, 111, 98, 108, 101, 109], [95, 95, 105, 110, 105, 116, 95, 95]),
    (217, [82, 101, 97, 100, 101, 114], [95, 95, 105, 110, 105, 116, 95, 95]),
    (218, [82, 101, 97, 100, 101, 114], [110, 101, 101, 100]),
    (219, [82, 101, 97, 100, 101, 114], [102, 105, 120, 101, 100]),
    (220, [82, 101, 97, 100, 101, 114], [116, 97, 107, 101]),
    (221, [82, 101, 97, 100, 101, 114], [110, 97, 109, 101]),
    (222, [82, 101, 97, 100, 101, 114], [101, 105, 116, 104, 101, 114]),
    (223, [82, 101, 97, 100, 101, 114], [98, 111, 116, 104]),
    (224, [82, 101, 97, 100, 101, 114], [100, 101, 110, 105, 101, 100]),
    (225, [82, 101, 97, 100, 101, 114], [112, 97, 105, 114]),
    (226, [82, 101, 97, 100, 101, 114], [115, 105, 110, 103, 108, 101]),
    (227, [82, 101, 97, 100, 101, 114], [115, 105, 109, 112, 108, 101])],
  [], [(7, 215)]⟩
noncomputable abbrev prog : Program := PySem.Challenge.pw_treesays_k04_formulas_are_read_as_printe
noncomputable def fn : List He.DefD := [dOfM prog 2 "__init__", dOf prog 4, dOf prog 10, dOfM prog 11 "__init__", dOfM prog 11 "need", dOfM prog 11 "fixed", dOfM prog 11 "take", dOfM prog 11 "name", dOfM prog 11 "either", dOfM prog 11 "both", dOfM prog 11 "denied", dOfM prog 11 "pair", dOfM prog 11 "single", dOfM prog 11 "simple", dOf prog 12, dOf prog 13, dOf prog 15, dOf prog 16, dOf prog 17, dOf prog 18, dOf prog 19, dOf prog 26, dOf prog 27, dOf prog 28, dOf prog 30, dOf prog 31, dOf prog 32, dOf prog 33, dOf prog 34, dOf prog 35]
set_option maxHeartbeats 0 in
theorem bd : AllB P.tops fn := .cons (fun _ _ _ _ _ _ _ _ _ _ us hl => match us, hl with | [_, _], _ => rfl) (.cons (fun _ _ _ _ _ _ _ _ _ _ us hl => match us, hl with | [_], _ => rfl) (.cons (fun _ _ _ _ _ _ _ _ _ _ us hl => match us, hl with | [_], _ => rfl) (.cons (fun _ _ _ _ _ _ _ _ _ _ us hl => match us, hl with | [_, _], _ => rfl) (.cons (fun _ _ _ _ _ _ _ _ _ _ us hl => match us, hl with | [_, _], _ => rfl) (.cons (fun _ _ _ _ _ _ _ _ _ _ us hl => match us, hl with | [_], _ => rfl) (.cons (fun _ _ _ _ _ _ _ _ _ _ us hl => match us, hl with | [_, _], _ => rfl) (.cons (fun _ _ _ _ _ _ _ _ _ _ us hl => match us, hl with | [_, _], _ => rfl) (.cons (fun _ _ _ _ _ _ _ _ _ _ us hl => match us, hl with | [_], _ => rfl) (.cons (fun _ _ _ _ _ _ _ _ _ _ us hl => match us, hl with | [_], _ => rfl) (.cons (fun _ _ _ _ _ _ _ _ _ _ us hl => match us, hl with | [_], _ => rfl) (.cons (fun _ _ _ _ _ _ _ _ _ _ us hl => match us, hl with | [_, _, _], _ => rfl) (.cons (fun _ _ _ _ _ _ _ _ _ _ us hl => match us, hl with | [_], _ => rfl) (.cons (fun _ _ _ _ _ _ _ _ _ _ us hl => match us, hl with | [_], _ => rfl) (.cons (fun _ _ _ _ _ _ _ _ _ _ us hl => match us, hl with | [_], _ => rfl) (.cons (fun _ _ _ _ _ _ _ _ _ _ us hl => match us, hl with | [_], _ => rfl) (.cons (fun _ _ _ _ _ _ _ _ _ _ us hl => match us, hl with | [_], _ => rfl) (.cons (fun _ _ _ _ _ _ _ _ _ _ us hl => match us, hl with | [_, _], _ => rfl) (.cons (fun _ _ _ _ _ _ _ _ _ _ us hl => match us, hl with | [_], _ => rfl) (.cons (fun _ _ _ _ _ _ _ _ _ _ us hl => match us, hl with | [_, _], _ => rfl) (.cons (fun _ _ _ _ _ _ _ _ _ _ us hl => match us, hl with | [_, _], _ => rfl) (.cons (fun _ _ _ _ _ _ _ _ _ _ us hl => match us, hl with | [_, _, _, _], _ => rfl) (.cons (fun _ _ _ _ _ _ _ _ _ _ us hl => match us, hl with | [_, _, _, _, _], _ => rfl) (.cons (fun _ _ _ _ _ _ _ _ _ _ us hl => match us, hl with | [_, _, _, _], _ => rfl) (.cons (fun _ _ _ _ _ _ _ _ _ _ us hl => match us, hl with | [_, _, _], _ => rfl) (.cons (fun _ _ _ _ _ _ _ _ _ _ us hl => match us, hl with | [_, _, _], _ => rfl) (.cons (fun _ _ _ _ _ _ _ _ _ _ us hl => match us, hl with | [_, _, _, _], _ => rfl) (.cons (fun _ _ _ _ _ _ _ _ _ _ us hl => match us, hl with | [_], _ => rfl) (.cons (fun _ _ _ _ _ _ _ _ _ _ us hl => match us, hl with | [_], _ => rfl) (.cons (fun _ _ _ _ _ _ _ _ _ _ us hl => match us, hl with | [_], _ => rfl) (.nil))))))))))))))))))))))))))))))
set_option maxHeartbeats 0 in
theorem ck : chkAll P P.tops fn = true := by decide +kernel
theorem up_SyntaxProblem_init : Up_SyntaxProblem_init P := ⟨Pg.has rfl rfl⟩
theorem up_is_set_name : Up_is_set_name P := ⟨Pg.has rfl rfl⟩
theorem up_tokens : Up_tokens P := ⟨Pg.has rfl rfl⟩
theorem up_Reader_init : Up_Reader_init P := ⟨Pg.has rfl rfl, up_tokens⟩
theorem up_Reader_need : Up_Reader_need P := ⟨Pg.has rfl rfl, up_SyntaxProblem_init⟩
theorem up_Reader_fixed : Up_Reader_fixed P := ⟨Pg.has rfl rfl⟩
theorem up_Reader_take : Up_Reader_take P := ⟨Pg.has rfl rfl, up_Reader_need, up_Reader_fixed⟩
theorem up_Reader_name : Up_Reader_name P := ⟨Pg.has rfl rfl, up_Reader_need, up_is_set_name⟩
theorem up_Reader_pair : Up_Reader_pair P := ⟨Pg.has rfl rfl, up_Reader_take, up_Reader_name⟩
theorem up_Reader_single : Up_Reader_single P := ⟨Pg.has rfl rfl, up_Reader_take, up_Reader_name⟩
theorem up_Reader_either : Up_Reader_either P := ⟨Pg.has rfl rfl, Pg.has rfl rfl, Pg.has rfl rfl, Pg.has rfl rfl, up_Reader_fixed, up_Reader_name, up_Reader_take, up_is_set_name, up_Reader_need, up_Reader_pair, up_Reader_single⟩
theorem up_read_formula : Up_read_formula P := ⟨Pg.has rfl rfl, up_Reader_init, up_Reader_either, up_Reader_need⟩
theorem up_write_formula : Up_write_formula P := ⟨Pg.has rfl rfl⟩
theorem up__law_tape : Up__law_tape P := ⟨Pg.has rfl rfl⟩
theorem up__law_take : Up__law_take P := ⟨Pg.has rfl rfl⟩
theorem up__law_is_integer : Up__law_is_integer P := ⟨Pg.has rfl rfl⟩
theorem up__law_same_items : Up__law_same_items P := ⟨Pg.has rfl rfl, Pg.has rfl rfl, up__law_is_integer⟩
theorem up__law_atom : Up__law_atom P := ⟨Pg.has rfl rfl, up__law_take⟩
theorem up__law_matrix : Up__law_matrix P := ⟨Pg.has rfl rfl, up__law_take, up__law_atom⟩
theorem up__law_closed : Up__law_closed P := ⟨Pg.has rfl rfl, up__law_take⟩
theorem up__law_put : Up__law_put P := ⟨Pg.has rfl rfl, up__law_take⟩
theorem up__law_put_all : Up__law_put_all P := ⟨Pg.has rfl rfl, up__law_put⟩
theorem up__law_put_formula : Up__law_put_formula P := ⟨Pg.has rfl rfl, up__law_put, up__law_take, up__law_put_all⟩
theorem up__law_parts : Up__law_parts P := ⟨Pg.has rfl rfl⟩
theorem up__law_letters_v2 : Up__law_letters_v2 P := ⟨Pg.has rfl rfl⟩
noncomputable abbrev iLaw : Nat := 239
end K04
/-! U1: steps, loops, the store; the tape. For any program that holds the texts. -/
namespace U
open PySem DL
local macro_rules | `(tactic| and_intros) => `(tactic| repeat (first | refine ⟨_, rfl, ?_⟩ | refine ⟨rfl, ?_⟩))
theorem if_t {c : Bool} {A B : Prop} (h : c = true) (a : A) : if c = true then A else B := by rw [if_pos h]; exact a
theorem if_f {c : Bool} {A B : Prop} (h : c = false) (b : B) : if c = true then A else B := by rw [if_neg (by rw [h]; exact Bool.false_ne_true)]; exact b
theorem if_nf {c : Bool} {A B : Prop} (h : c = true) (b : B) : if c = false then A else B := by rw [if_neg (by rw [h]; exact fun e => Bool.noConfusion e)]; exact b
theorem if_nt {c : Bool} {A B : Prop} (h : c = false) (a : A) : if c = false then A else B := by rw [if_pos h]; exact a
/-- a test whose outcome is open -/
theorem if_c {c : Bool} {A B : Prop} (a : c = true → A) (b : c = false → B) : if c = true then A else B := by
  cases c with
  | true => exact a rfl
  | false => exact b rfl
theorem int_ne {i j : Int} (h : i ≠ j) : dEq (.int i) (.int j) = false := beq_eq_false_iff_ne.mpr h
/-! ### the store -/
theorem ups_same {S : Sto} {p : Addr} {o : DO} : ups S p o p = some o := if_pos rfl
theorem ups_ne {S : Sto} {p a : Addr} {o : DO} (h : a ≠ p) : ups S p o a = S a := if_neg h
theorem del_ne {S : Sto} {p a : Addr} (h : a ≠ p) : del S p a = S a := if_neg h
theorem idx_ref {S : Sto} {p : Addr} {kvs : List (D × D)} {y d : D} {Q : D → Prop} (h : S p = some (.dct kvs)) (hk : isKey y = true) (hl : lookD kvs y = some d) (q : Q d) : wIdx S (.ref p) y Q := by
  unfold wIdx
  simp only [h]
  exact ⟨hk, d, hl, q⟩
theorem put_ref {S : Sto} {p : Addr} {kvs : List (D × D)} {y v : D} {k : Sto → Prop} (h : S p = some (.dct kvs)) (hk : isKey y = true) (hz : kvs.length < SZ) (q : k (ups S p (.dct (putD kvs y v)))) :
    match S p with
      | some (.dct kvs) => isKey y = true ∧ kvs.length < SZ ∧ k (ups S p (.dct (putD kvs y v)))
      | some (.tdc kvs) => isTK y = true ∧ kvs.length < SZ ∧ k (ups S p (.tdc (putT kvs y v)))
      | some (.lst ds) => (match y with
        | .int i => ∃ j, L2.ixN ds.length i = some j ∧ k (ups S p (.lst (ds.set j v)))
        | _ => False)
      | _ => False := by
  simp only [h]
  exact ⟨hk, hz, q⟩
theorem frz_lst {S : Sto} {p : Addr} {ds : List D} {Q : QD} (h : S p = some (.lst ds)) (q : Q (.lst ds) (del S p)) :
    match S p with
      | some (.lst ds) => fin false (.lst ds) (del S p) Q
      | some (.dct kvs) => fin false (.dct kvs) (del S p) Q
      | _ => False := by
  simp only [h]
  exact q
/-! ### loops -/
/-- each item gives one -/
theorem loopL_map {α : Type} {f : D → Sto → (List D → Sto → Prop) → Prop} {e : α → D} (g : α → D) :
    ∀ (xs : List α) (St : Sto) (Q : List D → Sto → Prop), (∀ x ∈ xs, ∀ (k : List D → Sto → Prop), k [g x] St → f (e x) St k) → Q (xs.map g) St → loopL f (xs.map e) St Q
  | [], St, Q, _, h => h
  | x :: xs, St, Q, hf, h => by
    refine hf x List.mem_cons_self _ ?_
    exact loopL_map g xs St _ (fun y hy => hf y (List.mem_cons_of_mem _ hy)) h
/-- a for loop under an invariant of the items still to come -/
theorem forL_ind {α : Type} {f : D → DL.Env → Sto → (DL.Env → Sto → Prop) → Prop} {e : α → D} {q : DL.Env → Sto → Prop} (I : List α → DL.Env → Sto → Prop) :
    ∀ (xs : List α) (ρ : DL.Env) (St : Sto), I xs ρ St → (∀ x r ρ St, I (x :: r) ρ St → ∀ k : DL.Env → Sto → Prop, (∀ ρ' S', I r ρ' S' → k ρ' S') → f (e x) ρ St k) → (∀ ρ St, I [] ρ St → q ρ St) → forL f (xs.map e) ρ St q
  | [], ρ, St, i, _, h => h ρ St i
  | x :: xs, ρ, St, i, hf, h => hf x xs ρ St i _ fun ρ' S' i' => forL_ind I xs ρ' S' i' hf h
/-- .. of the items done and still to come -/
theorem forL_pre {α : Type} {f : D → DL.Env → Sto → (DL.Env → Sto → Prop) → Prop} {e : α → D} {q : DL.Env → Sto → Prop} (I : List α → DL.Env → Sto → Prop) (all : List α) :
    ∀ (dn xs : List α) (ρ : DL.Env) (St : Sto), all = dn ++ xs → I dn ρ St → (∀ dn x r ρ St, all = dn ++ x :: r → I dn ρ St → ∀ k : DL.Env → Sto → Prop, (∀ ρ' S', I (dn ++ [x]) ρ' S' → k ρ' S') → f (e x) ρ St k) → (∀ ρ St, I all ρ St → q ρ St) → forL f (xs.map e) ρ St q
  | dn, [], ρ, St, ha, i, _, h => by
    rw [List.append_nil] at ha
    subst ha
    exact h ρ St i
  | dn, x :: xs, ρ, St, ha, i, hf, h => hf dn x xs ρ St ha i _ fun ρ' S' i' => forL_pre I all (dn ++ [x]) xs ρ' S' (by rw [ha]; simp) i' hf h
theorem while_ind {α : Type} {c : DL.Env → Sto → (Bool → Sto → Prop) → Prop} {b : DL.Env → Sto → (DL.Env → Sto → Prop) → Prop} {q : DL.Env → Sto → Prop} (I : α → DL.Env → Sto → Prop) (m : α → Nat)
    (hs : ∀ a ρ St, I a ρ St → ∀ kk : DL.Env → Sto → Prop, (∀ a' ρ' S', I a' ρ' S' → m a' < m a → kk ρ' S') → c ρ St fun k S1 => if k = true then b ρ S1 kk else q ρ S1) {a : α} {ρ : DL.Env} {St : Sto} (h : I a ρ St) : ∃ n, whileN c b n ρ St q := by
  have gen : ∀ n a ρ St, I a ρ St → m a < n → whileN c b n ρ St q := by
    intro n
    induction n with
    | zero => intro a ρ St _ h; omega
    | succ n ih =>
      intro a ρ St i hm
      exact hs a ρ St i (fun ρ' S' => whileN c b n ρ' S' q) fun a' ρ' S' i' hlt => ih a' ρ' S' i' (by omega)
  exact ⟨m a + 1, gen _ a ρ St h (by omega)⟩
theorem atD_nat {α : Type} {xs : List α} {i : Nat} : atD xs (i : Int) = xs[i]? := by
  unfold atD
  rw [if_pos (by omega)]
  rfl
theorem idx_list {α : Type} {xs : List α} {e : α → D} {r : Int} (h0 : 0 ≤ r) (h1 : r < xs.length) : ∃ x, x ∈ xs ∧ atD (xs.map e) r = some (e x) := by
  obtain ⟨j, rfl⟩ := Int.eq_ofNat_of_zero_le h0
  have hj : j < xs.length := by omega
  exact ⟨xs[j], List.getElem_mem hj, by rw [atD_nat, List.getElem?_map, List.getElem?_eq_getElem hj]; rfl⟩
noncomputable abbrev okS' (s : Bs) : Bool := s.all (· < 0x110000)
theorem okd_str' {n : Nat} {s : Bs} (h : okS' s = true) : okd n (.str s) = true := by cases n <;> exact h
theorem okd_int {n : Nat} {i : Int} : okd n (.int i) = true := by cases n <;> rfl
theorem okX {X : List Bs} (h : ∀ x ∈ X, okS' x = true) : okD (.lst (X.map .str)) := by
  show (X.map D.str).all (okd 59) = true
  refine List.all_eq_true.mpr fun d hd => ?_
  obtain ⟨x, hx, rfl⟩ := List.mem_map.mp hd
  exact okd_str' (h x hx)
/-! ### the tape -/
noncomputable abbrev kCells : D := .str [99, 101, 108, 108, 115]
noncomputable abbrev kAt : D := .str [97, 116]
noncomputable abbrev kLeft : D := .str [108, 101, 102, 116]
noncomputable abbrev kSeed : D := .str [115, 101, 101, 100]
noncomputable abbrev kSalt : D := .str [115, 97, 108, 116]
noncomputable abbrev tp (cs : List Int) (a : Nat) (l s t : Int) : List (D × D) := [(kCells, .lst (cs.map .int)), (kAt, .int a), (kLeft, .int l), (kSeed, .int s), (kSalt, .int t)]
noncomputable def TapeOk (p : Addr) (S : Sto) : Prop := ∃ cs a l s t, S p = some (.dct (tp cs a l s t)) ∧ (∀ c ∈ cs, 0 ≤ c) ∧ 0 ≤ l
theorem TapeOk.at {p : Addr} {S S' : Sto} (h : TapeOk p S) (e : S' p = S p) : TapeOk p S' := by
  obtain ⟨cs, a, l, s, t, h1, h2⟩ := h
  exact ⟨cs, a, l, s, t, e.trans h1, h2⟩
section
variable {P : Pg} {q : QD} {k : Nat} {p : Addr}
theorem mod_rng {i n : Int} (hn : 0 < n) : 0 ≤ i % n ∧ i % n < n := ⟨Int.emod_nonneg _ (by omega), Int.emod_lt_of_pos _ hn⟩
/-- all but the tape stays -/
noncomputable def Oth (p : Addr) (S S' : Sto) : Prop := ∀ a, a ≠ p → S' a = S a
theorem Oth.refl {p : Addr} {S : Sto} : Oth p S S := fun _ _ => rfl
theorem Oth.trans {p : Addr} {S S1 S2 : Sto} (h : Oth p S S1) (g : Oth p S1 S2) : Oth p S S2 := fun a n => (g a n).trans (h a n)
theorem Oth.ups {p : Addr} {S : Sto} {o : DO} : Oth p S (DL.ups S p o) := fun a n => ups_ne n
/-- a draw below n -/
theorem w_take (H : Up__law_take P) {n : Int} (hn : 0 < n) (hn2 : n < 1073741824) {S : Sto} (ht : TapeOk p S) (qx : QX) (hk : 1 ≤ k) (h : ∀ r S', 0 ≤ r → r < n → TapeOk p S' → Oth p S S' → q (.int r) S') : P.spec k 8 [.ref p, .int n] S q qx := by
  obtain ⟨k, rfl⟩ : ∃ j, k = j + 1 := ⟨k - 1, by omega⟩
  refine Pg.spec_succ H.self rfl ?_
  -- the second half, from any tape
  have rest : ∀ (S1 : Sto) (cs : List Int) (a : Nat) (l s t : Int), S1 p = some (.dct (tp cs a l s t)) → (∀ c ∈ cs, 0 ≤ c) → 0 ≤ l → Oth p S S1 → wSs (P.G k qx) (f__law_take.body.drop 1) (startE 4 [.ref p, .int n]) S1 (bodyK q) := by
    intro S1 cs a l s t e hc hl ot
    refine ⟨_, rfl, idx_ref (y := kLeft) e rfl rfl ?_⟩
    by_cases c : 0 < l
    · refine if_t (decide_eq_true c) ?_
      refine ⟨_, rfl, idx_ref (y := kLeft) e rfl rfl ?_⟩
      refine ⟨_, rfl, ?_⟩
      refine ⟨hn, ?_⟩
      refine ⟨_, rfl, idx_ref (y := kLeft) e rfl rfl ?_⟩
      refine ⟨_, rfl, ?_⟩
      refine ⟨⟨hn, hn2⟩, ?_⟩
      refine ⟨_, rfl, ?_⟩
      refine put_ref e rfl (by show 5 < 16777216; omega) ?_
      refine ⟨_, rfl, ?_⟩
      exact h _ _ (mod_rng hn).1 (mod_rng hn).2 ⟨cs, a, l / n, s, t, ups_same, hc, Int.ediv_nonneg hl (by omega)⟩ (ot.trans .ups)
    · refine if_f (decide_eq_false c) ?_
      refine ⟨_, rfl, idx_ref (y := kSalt) e rfl rfl ?_⟩
      refine ⟨_, rfl, ?_⟩
      refine put_ref e rfl (by show 5 < 16777216; omega) ?_
      generalize e0 : ups S1 p _ = S2
      have e' : S2 p = some (.dct (tp cs a l s (t + 1))) := by rw [← e0]; exact ups_same
      have ot' : Oth p S S2 := by rw [← e0]; exact ot.trans .ups
      refine ⟨_, rfl, idx_ref (y := kSeed) e' rfl rfl ?_⟩
      refine ⟨.inr ⟨by decide, by decide⟩, ?_⟩
      refine ⟨_, rfl, idx_ref (y := kSalt) e' rfl rfl ?_⟩
      refine ⟨.inr ⟨by decide, by decide⟩, ?_⟩
      refine ⟨by decide, ?_⟩
      refine ⟨_, rfl, _, rfl, ?_⟩
      have mr := mod_rng (i := s * 48271 + (t + 1) * 69621) (n := 2147483647) (by decide)
      refine ⟨.inl ⟨by omega, by omega⟩, ?_⟩
      refine ⟨_, rfl, idx_ref (y := kSalt) e' rfl rfl ?_⟩
      refine ⟨.inr ⟨by decide, by decide⟩, ?_⟩
      refine ⟨by decide, ?_⟩
      refine ⟨_, rfl, ?_⟩
      refine ⟨_, rfl, ?_⟩
      refine ⟨hn, ?_⟩
      exact h _ _ (mod_rng hn).1 (mod_rng hn).2 ⟨cs, a, l, s, t + 1, e', hc, hl⟩ ot'
  obtain ⟨cs, a, l, s, t, e, hc, hl⟩ := ht
  refine ⟨_, rfl, idx_ref (y := kLeft) e rfl rfl ?_⟩
  refine ⟨rfl, rfl, ?_⟩
  by_cases c : l = 0
  · subst c
    refine ⟨_, rfl, idx_ref (y := kAt) e rfl rfl ?_⟩
    refine ⟨_, rfl, idx_ref (y := kCells) e rfl rfl ?_⟩
    refine ⟨_, rfl, ?_⟩
    by_cases c2 : a < cs.length
    · have c3 : (a : Int) < ((cs.map D.int).length : Nat) := by rw [List.length_map]; omega
      refine if_t (decide_eq_true c3) ?_
      refine ⟨_, rfl, idx_ref (y := kCells) e rfl rfl ?_⟩
      refine ⟨_, rfl, idx_ref (y := kAt) e rfl rfl ?_⟩
      refine ⟨.int cs[a], by rw [atD_nat, List.getElem?_map, List.getElem?_eq_getElem c2]; rfl, ?_⟩
      refine ⟨_, rfl, ?_⟩
      refine put_ref e rfl (by show 5 < 16777216; omega) ?_
      generalize e0 : ups S p _ = S1
      have e1 : S1 p = some (.dct (tp cs a cs[a] s t)) := by rw [← e0]; exact ups_same
      have ot : Oth p S S1 := by rw [← e0]; exact .ups
      refine ⟨_, rfl, idx_ref (y := kAt) e1 rfl rfl ?_⟩
      refine ⟨_, rfl, ?_⟩
      refine put_ref e1 rfl (by show 5 < 16777216; omega) ?_
      exact rest _ cs (a + 1) cs[a] s t ups_same hc (hc _ (List.getElem_mem c2)) (ot.trans .ups)
    · have c3 : ¬ (a : Int) < ((cs.map D.int).length : Nat) := by rw [List.length_map]; omega
      refine if_f (decide_eq_false c3) ?_
      exact rest S cs a 0 s t e hc hl .refl
  · have c4 : dEq (.int l) (.int 0) = false := int_ne c
    refine if_f c4 ?_
    refine if_f c4 ?_
    exact rest S cs a l s t e hc hl .refl
noncomputable abbrev ab (i : Int) : Int := if i < 0 then -i else i
theorem w_tape (H : Up__law_tape P) {S : Sto} (ns : List Int) (qx : QX) (hk : 1 ≤ k) (h : ∀ p S', TapeOk p S' → S p = none → Oth p S S' → q (.ref p) S') : P.spec k 7 [.scr ns] S q qx := by
  obtain ⟨k, rfl⟩ : ∃ j, k = j + 1 := ⟨k - 1, by omega⟩
  refine Pg.spec_succ H.self rfl ?_
  refine ⟨_, rfl, ?_⟩
  refine loopL_map (e := D.int) (fun i => D.int (ab i)) ns _ _ (fun x _ k h => ⟨_, rfl, h⟩) ?_
  refine ⟨_, rfl, ?_⟩
  refine forL_ind (e := fun i => D.int (ab i)) (fun r ρ S' => S' = S ∧ ∃ (s : Int) (x : Option D), ρ = [some (.scr ns), some (.lst (ns.map fun i => D.int (ab i))), some (.int s), x]) ns _ _ ⟨rfl, 7, none, rfl⟩ ?_ ?_
  · rintro x r ρ S' ⟨rfl, s, y, rfl⟩ kk hh
    refine ⟨_, rfl, ?_⟩
    refine ⟨.inr ⟨by decide, by decide⟩, ?_⟩
    refine ⟨_, rfl, ?_⟩
    refine ⟨by decide, ?_⟩
    exact hh _ _ ⟨rfl, _, _, rfl⟩
  · rintro ρ S' ⟨rfl, s, y, rfl⟩
    refine ⟨_, rfl, ?_⟩
    refine ⟨_, rfl, ?_⟩
    refine ⟨_, rfl, rfl, by simp, fun p hp => ?_⟩
    refine h p _ ⟨ns.map ab, 0, 0, s, 0, ?_, fun c hc => ?_, by decide⟩ hp .ups
    · rw [ups_same]
      refine congrArg (fun z => some (DO.dct [(kCells, D.lst z), (kAt, .int 0), (kLeft, .int 0), (kSeed, .int s), (kSalt, .int 0)])) (?_ : ns.map (fun i => D.int (ab i)) = (ns.map ab).map .int)
      rw [List.map_map]
      rfl
    · obtain ⟨i, _, rfl⟩ := List.mem_map.mp hc
      show 0 ≤ if i < 0 then -i else i
      split <;> omega
/-- (ways, labels) -/
noncomputable def KindOk (d : D) (ways : Int) (labels : List Bs) : Prop := d = .tup [.int ways, .tup (labels.map .str)] ∧ (ways = 1 ∨ ways = 2) ∧ (labels = [[97]] ∨ labels = [[97], [98]] ∨ labels = [[98], [100], [122]])
theorem KindOk.pos {d : D} {ways : Int} {labels : List Bs} (h : KindOk d ways labels) : 0 < labels.length ∧ labels.length ≤ 3 ∧ ∀ l ∈ labels, okS' l = true := by
  rcases h.2.2 with rfl | rfl | rfl <;> decide
end
end U
/-! U2: shapes, paths, elements. -/
namespace U
open PySem DL
local macro_rules | `(tactic| and_intros) => `(tactic| repeat (first | refine ⟨_, rfl, ?_⟩ | refine ⟨rfl, ?_⟩))
inductive Sh where
  | e | n1 (l : Bs) (c : Sh) | n2 (l : Bs) (a b : Sh)
deriving DecidableEq
noncomputable def size : Sh → Nat
  | .e => 0
  | .n1 _ c => size c + 1
  | .n2 _ a b => size a + size b + 1
noncomputable def okSh : Sh → Prop
  | .e => True
  | .n1 l c => okS' l = true ∧ okSh c
  | .n2 l a b => okS' l = true ∧ okSh a ∧ okSh b
/-- a shape of a kind -/
noncomputable def shOf (ways : Int) (labels : List Bs) : Sh → Prop
  | .e => True
  | .n1 l c => ways = 1 ∧ l ∈ labels ∧ shOf ways labels c
  | .n2 l a b => ways = 2 ∧ l ∈ labels ∧ shOf ways labels a ∧ shOf ways labels b
theorem shOf.ok {ways : Int} {labels : List Bs} (hl : ∀ l ∈ labels, okS' l = true) : ∀ {s : Sh}, shOf ways labels s → okSh s
  | .e, _ => trivial
  | .n1 l c, h => ⟨hl l h.2.1, shOf.ok hl h.2.2⟩
  | .n2 l a b, h => ⟨hl l h.2.1, shOf.ok hl h.2.2.1, shOf.ok hl h.2.2.2⟩
section
variable {P : Pg} {p : Addr}
end
/-! ### paths -/
section
variable {P : Pg} {q : QD} {k : Nat}
noncomputable def sub : Sh → List Int → Option Sh
  | s, [] => some s
  | .n1 _ c, 0 :: r => sub c r
  | .n2 _ a _, 0 :: r => sub a r
  | .n2 _ _ b, 1 :: r => sub b r
  | _, _ => none
/-- a node of the shape -/
noncomputable def Node (s : Sh) (p : List Int) : Prop := ∃ t, sub s p = some t ∧ t ≠ .e ∧ p.length ≤ size s
/-! ### the order of paths -/
theorem perm_sorted {α : Type} {le : α → α → Prop} (anti : ∀ a b, le a b → le b a → a = b) (rf : ∀ a, le a a) : ∀ {xs ys : List α}, xs.Perm ys → xs.Pairwise le → ys.Pairwise le → xs = ys
  | [], ys, h, _, _ => (List.nil_perm.mp h).symm
  | x :: xs, [], h, _, _ => absurd h.length_eq (by simp)
  | x :: xs, y :: ys, h, hx, hy => by
    have h1 := List.pairwise_cons.mp hx
    have h2 := List.pairwise_cons.mp hy
    have e : x = y := by
      have m1 : x ∈ y :: ys := h.mem_iff.mp List.mem_cons_self
      have m2 : y ∈ x :: xs := h.mem_iff.mpr List.mem_cons_self
      rcases List.mem_cons.mp m1 with e | m1
      · exact e
      · rcases List.mem_cons.mp m2 with e | m2
        · exact e.symm
        · exact anti _ _ (h1.1 _ m2) (h2.1 _ m1)
    subst e
    rw [perm_sorted anti rf (List.Perm.cons_inv h) h1.2 h2.2]
/-! ### all elements -/
noncomputable abbrev El := List Int × Sh
noncomputable def elems : Sh → List Int → List El
  | .e, _ => []
  | .n1 l c, p => (p, .n1 l c) :: elems c (p ++ [0])
  | .n2 l a b, p => (p, .n2 l a b) :: (elems b (p ++ [1]) ++ elems a (p ++ [0]))
/-- what a stack stands for -/
noncomputable def rest (st : List El) : List El := st.reverse.flatMap fun x => elems x.2 x.1
end
end U
/-! U3: formulas; how the laws draw them. -/
namespace U
open PySem DL
local macro_rules | `(tactic| and_intros) => `(tactic| repeat (first | refine ⟨_, rfl, ?_⟩ | refine ⟨rfl, ?_⟩))
inductive Atm where
  | inside (a b : Bs) | inn (a b : Bs) | tru | label (l x : Bs) | top (x : Bs) | same (x y : Bs) | child (w : Int) (x y : Bs) | below (x y : Bs)
deriving DecidableEq
inductive Qw where
  | some | all | someset | allset
deriving DecidableEq
inductive Fm where
  | at_ (a : Atm) | not (f : Fm) | bin (an : Bool) (f g : Fm) | q (w : Qw) (x : Bs) (f : Fm)
deriving DecidableEq
noncomputable def encA : Atm → D
  | .inside a b => .tup [.str [105, 110, 115, 105, 100, 101], .str a, .str b]
  | .inn a b => .tup [.str [105, 110], .str a, .str b]
  | .tru => .tup [.str [116, 114, 117, 101]]
  | .label l x => .tup [.str [108, 97, 98, 101, 108], .str l, .str x]
  | .top x => .tup [.str [116, 111, 112], .str x]
  | .same x y => .tup [.str [115, 97, 109, 101], .str x, .str y]
  | .child w x y => .tup [.str [99, 104, 105, 108, 100], .int w, .str x, .str y]
  | .below x y => .tup [.str [98, 101, 108, 111, 119], .str x, .str y]
noncomputable def encQ : Qw → Bs
  | .some => [115, 111, 109, 101]
  | .all => [97, 108, 108]
  | .someset => [115, 111, 109, 101, 115, 101, 116]
  | .allset => [97, 108, 108, 115, 101, 116]
noncomputable def encB : Bool → Bs
  | true => [97, 110, 100]
  | false => [111, 114]
noncomputable def enc : Fm → D
  | .at_ a => encA a
  | .not f => .tup [.str [110, 111, 116], enc f]
  | .bin an f g => .tup [.str (encB an), enc f, enc g]
  | .q w x f => .tup [.str (encQ w), .str x, enc f]
noncomputable def dep : Fm → Nat
  | .at_ _ => 1
  | .not f => dep f + 1
  | .bin _ f g => max (dep f) (dep g) + 1
  | .q _ _ f => dep f + 1
theorem dep_pos : ∀ f, 1 ≤ dep f
  | .at_ _ => Nat.le_refl _
  | .not f => by unfold dep; omega
  | .bin _ f g => by unfold dep; omega
  | .q _ _ f => by unfold dep; omega
/-- a name of an element, of a set -/
noncomputable def eN : Bs → Bool
  | c :: r => decide (r.length ≤ 1000) && (decide (97 ≤ c) && decide (c ≤ 122))
  | [] => false
noncomputable def sN : Bs → Bool
  | c :: r => decide (r.length ≤ 1000) && (decide (65 ≤ c) && decide (c ≤ 90))
  | [] => false
theorem eN_sN {x : Bs} (h : eN x = true) (g : sN x = true) : False := by
  cases x with
  | nil => cases h
  | cons c r =>
    simp only [eN, sN, Bool.and_eq_true, decide_eq_true_eq] at h g
    omega
noncomputable def isSq : Qw → Bool
  | .someset => true
  | .allset => true
  | _ => false
/-- which names stand there, fits the kind -/
noncomputable def WSa (ways : Int) (labels : List Bs) (X Y : List Bs) : Atm → Prop
  | .inside a b => a ∈ Y ∧ b ∈ Y
  | .inn a b => a ∈ X ∧ b ∈ Y
  | .tru => True
  | .label l x => x ∈ X ∧ l ∈ labels
  | .top x => x ∈ X
  | .same x y => x ∈ X ∧ y ∈ X
  | .child w x y => x ∈ X ∧ y ∈ X ∧ 0 ≤ w ∧ w < ways
  | .below x y => x ∈ X ∧ y ∈ X
noncomputable def WS (ways : Int) (labels : List Bs) : List Bs → List Bs → Fm → Prop
  | X, Y, .at_ a => WSa ways labels X Y a
  | X, Y, .not f => WS ways labels X Y f
  | X, Y, .bin _ f g => WS ways labels X Y f ∧ WS ways labels X Y g
  | X, Y, .q .some x f => (okS' x = true ∧ eN x = true) ∧ WS ways labels (x :: X) Y f
  | X, Y, .q .all x f => (okS' x = true ∧ eN x = true) ∧ WS ways labels (x :: X) Y f
  | X, Y, .q .someset x f => (okS' x = true ∧ sN x = true) ∧ WS ways labels X (x :: Y) f
  | X, Y, .q .allset x f => (okS' x = true ∧ sN x = true) ∧ WS ways labels X (x :: Y) f
theorem cons_sub {X X' : List Bs} {x : Bs} (h : ∀ z ∈ X, z ∈ X') : ∀ z ∈ x :: X, z ∈ x :: X' := fun z hz => by
  rcases List.mem_cons.mp hz with e | e
  · rw [e]; exact List.mem_cons_self
  · exact List.mem_cons_of_mem _ (h z e)
theorem WS.mono {ways : Int} {labels : List Bs} : ∀ {f : Fm} {X Y X' Y' : List Bs}, (∀ z ∈ X, z ∈ X') → (∀ z ∈ Y, z ∈ Y') → WS ways labels X Y f → WS ways labels X' Y' f
  | .at_ a, X, Y, X', Y', hx, hy, h => by
    cases a with
    | inside a b => exact ⟨hy _ h.1, hy _ h.2⟩
    | inn a b => exact ⟨hx _ h.1, hy _ h.2⟩
    | tru => trivial
    | label l x => exact ⟨hx _ h.1, h.2⟩
    | top x => exact hx _ h
    | same x y => exact ⟨hx _ h.1, hx _ h.2⟩
    | child w x y => exact ⟨hx _ h.1, hx _ h.2.1, h.2.2⟩
    | below x y => exact ⟨hx _ h.1, hx _ h.2⟩
  | .not f, X, Y, X', Y', hx, hy, h => WS.mono (f := f) hx hy h
  | .bin _ f g, X, Y, X', Y', hx, hy, h => ⟨WS.mono (f := f) hx hy h.1, WS.mono (f := g) hx hy h.2⟩
  | .q .some x f, X, Y, X', Y', hx, hy, h => ⟨h.1, WS.mono (f := f) (cons_sub hx) hy h.2⟩
  | .q .all x f, X, Y, X', Y', hx, hy, h => ⟨h.1, WS.mono (f := f) (cons_sub hx) hy h.2⟩
  | .q .someset x f, X, Y, X', Y', hx, hy, h => ⟨h.1, WS.mono (f := f) hx (cons_sub hy) h.2⟩
  | .q .allset x f, X, Y, X', Y', hx, hy, h => ⟨h.1, WS.mono (f := f) hx (cons_sub hy) h.2⟩
section
variable {P : Pg} {p : Addr}
noncomputable abbrev nms (X : List Bs) : D := .lst (X.map .str)
theorem empty_eq (X : List Bs) : dEq (nms X) (.lst []) = decide (X = []) := by cases X <;> rfl
/-- one of the names -/
theorem w_pick (H : Up__law_take P) {X : List Bs} (hX : X ≠ []) (hl : X.length ≤ 1000) {k : Nat} {S : Sto} {q : QD} {qx : QX} (hk : 1 ≤ k) (ht : TapeOk p S)
    (h : ∀ x S', x ∈ X → TapeOk p S' → Oth p S S' → ∀ (r : Int), atD (X.map D.str) r = some (.str x) → q (.int r) S') : P.spec k 8 [.ref p, .int ((X.map D.str).length : Nat)] S q qx := by
  have hz : ((X.map D.str).length : Int) = X.length := by rw [List.length_map]
  have hp : 0 < X.length := List.length_pos_iff.mpr hX
  refine w_take H (by omega) (by omega) ht _ hk fun r S1 h0 h1 ht1 o1 => ?_
  obtain ⟨x, hx, e⟩ := idx_list (xs := X) (e := D.str) h0 (by omega)
  exact h x S1 hx ht1 o1 r e
theorem w_atom (H : Up__law_atom P) {d : D} {ways : Int} {labels : List Bs} (kd : KindOk d ways labels) (X Y : List Bs) (hX : ∀ x ∈ X, okS' x = true) (hXl : X.length ≤ 1000) (hY : ∀ x ∈ Y, okS' x = true) (hYl : Y.length ≤ 1000) {k : Nat} {S : Sto} {q : QD} (qx : QX) (hk : 2 ≤ k) (ht : TapeOk p S)
    (h : ∀ a S', WSa ways labels X Y a → TapeOk p S' → Oth p S S' → q (encA a) S') : P.spec k 16 [.ref p, d, nms X, nms Y] S q qx := by
  obtain ⟨k, rfl⟩ : ∃ j, k = j + 1 := ⟨k - 1, by omega⟩
  refine Pg.spec_succ H.self rfl ?_
  obtain ⟨hl0, hl3, hls⟩ := kd.pos
  obtain ⟨rfl, hw, _⟩ := kd
  have ox := okX hX
  have oy := okX hY
  have T := H.to__law_take
  and_intros
  refine w_take T (by decide) (by decide) ht _ (by omega) fun r S1 h0 h1 ht1 o1 => ?_
  -- what follows if there is an element variable
  have single : X ≠ [] → (Y = [] ∨ ¬ r < 4) → wSs (P.G k qx) (f__law_atom.body.drop 2) [some (.ref p), some (.tup [.int ways, .tup (labels.map .str)]), some (nms X), some (nms Y), some (.int r), none, none] S1 (bodyK q) := by
    intro hx0 _
    refine ⟨_, rfl, ox, rfl, ?_⟩
    rw [empty_eq]
    refine if_f (decide_eq_false hx0) ?_
    and_intros
    refine w_pick T hx0 hXl (by omega) ht1 fun x S2 hx ht2 o2 r1 e1 => ?_
    refine ⟨_, e1, ?_⟩
    and_intros
    refine w_pick T hx0 hXl (by omega) ht2 fun y S3 hy ht3 o3 r2 e2 => ?_
    refine ⟨_, e2, ?_⟩
    and_intros
    have o13 := (o1.trans o2).trans o3
    by_cases c7 : r < 7
    · refine if_t (decide_eq_true c7) ?_
      and_intros
      refine w_pick T (by intro e; rw [e] at hl0; simp at hl0) (by omega) (by omega) ht3 fun l S4 hl ht4 o4 r3 e3 => ?_
      refine ⟨_, e3, ?_⟩
      and_intros
      exact h (.label l x) S4 ⟨hx, hl⟩ ht4 (o13.trans o4)
    · refine if_f (decide_eq_false c7) ?_
      and_intros
      by_cases c77 : r = 7
      · subst c77
        and_intros
        exact h (.top x) S3 hx ht3 o13
      · refine if_f (int_ne c77) ?_
        and_intros
        by_cases c8 : r = 8
        · subst c8
          and_intros
          exact h (.same x y) S3 ⟨hx, hy⟩ ht3 o13
        · refine if_f (int_ne c8) ?_
          and_intros
          by_cases c11 : r < 11
          · refine if_t (decide_eq_true c11) ?_
            and_intros
            refine w_take T (by omega) (by omega) ht3 _ (by omega) fun w S4 g0 g1 ht4 o4 => ?_
            and_intros
            exact h (.child w x y) S4 ⟨hx, hy, g0, g1⟩ ht4 (o13.trans o4)
          · refine if_f (decide_eq_false c11) ?_
            and_intros
            exact h (.below x y) S3 ⟨hx, hy⟩ ht3 o13
  have none_ : X = [] → Y = [] → wSs (P.G k qx) (f__law_atom.body.drop 2) [some (.ref p), some (.tup [.int ways, .tup (labels.map .str)]), some (nms X), some (nms Y), some (.int r), none, none] S1 (bodyK q) := by
    rintro rfl rfl
    and_intros
    exact h .tru S1 trivial ht1 o1
  refine ⟨_, rfl, oy, rfl, ?_⟩
  by_cases hy0 : Y = []
  · refine if_f (show (!dEq (nms Y) (.lst [])) = false by rw [empty_eq, decide_eq_true hy0]; rfl) ?_
    refine if_f (show (!dEq (nms Y) (.lst [])) = false by rw [empty_eq, decide_eq_true hy0]; rfl) ?_
    by_cases hx0 : X = []
    · exact none_ hx0 hy0
    · exact single hx0 (.inl hy0)
  · refine if_t (show (!dEq (nms Y) (.lst [])) = true by rw [empty_eq, decide_eq_false hy0]; rfl) ?_
    and_intros
    -- a set's atom
    have setA : (X = [] ∨ r < 4) → wSs (P.G k qx) [.ite (.boo false (.cons (.cmp .eq (.var 2) (.lst .nil)) (.cons (.cmp .eq (.var 4) (.int 0)) .nil))) [
      .ret (.tup (.cons (.str [105, 110, 115, 105, 100, 101]) (.cons (.idx (.var 3) (.call 8 (.cons (.var 0) (.cons (.bif .len (.var 3)) .nil)))) (.cons (.idx (.var 3) (.call 8 (.cons (.var 0) (.cons (.bif .len (.var 3)) .nil)))) .nil))))] [],
    .ret (.tup (.cons (.str [105, 110]) (.cons (.idx (.var 2) (.call 8 (.cons (.var 0) (.cons (.bif .len (.var 2)) .nil)))) (.cons (.idx (.var 3) (.call 8 (.cons (.var 0) (.cons (.bif .len (.var 3)) .nil)))) .nil))))]
        [some (.ref p), some (.tup [.int ways, .tup (labels.map .str)]), some (nms X), some (nms Y), some (.int r), none, none] S1 ⟨fun ρ' S' => wSs (P.G k qx) (f__law_atom.body.drop 2) ρ' S' (bodyK q), q, fun _ _ => False, fun _ _ => False⟩ := by
      intro _
      have ins : wSs (P.G k qx) [.ret (.tup (.cons (.str [105, 110, 115, 105, 100, 101]) (.cons (.idx (.var 3) (.call 8 (.cons (.var 0) (.cons (.bif .len (.var 3)) .nil)))) (.cons (.idx (.var 3) (.call 8 (.cons (.var 0) (.cons (.bif .len (.var 3)) .nil)))) .nil))))]
        [some (.ref p), some (.tup [.int ways, .tup (labels.map .str)]), some (nms X), some (nms Y), some (.int r), none, none] S1 ⟨fun ρ' S' => wSs (P.G k qx) [.ret (.tup (.cons (.str [105, 110]) (.cons (.idx (.var 2) (.call 8 (.cons (.var 0) (.cons (.bif .len (.var 2)) .nil)))) (.cons (.idx (.var 3) (.call 8 (.cons (.var 0) (.cons (.bif .len (.var 3)) .nil)))) .nil))))] ρ' S' ⟨fun ρ' S' => wSs (P.G k qx) (f__law_atom.body.drop 2) ρ' S' (bodyK q), q, fun _ _ => False, fun _ _ => False⟩, q, fun _ _ => False, fun _ _ => False⟩ := by
        and_intros
        refine w_pick T hy0 hYl (by omega) ht1 fun x S2 hx ht2 o2 r1 e1 => ?_
        refine ⟨_, e1, ?_⟩
        and_intros
        refine w_pick T hy0 hYl (by omega) ht2 fun y S3 hy ht3 o3 r2 e2 => ?_
        refine ⟨_, e2, ?_⟩
        and_intros
        exact h (.inside x y) S3 ⟨hx, hy⟩ ht3 ((o1.trans o2).trans o3)
      refine ⟨_, rfl, ox, rfl, ?_⟩
      by_cases hx0 : X = []
      · refine if_nf (show dEq (nms X) (.lst []) = true by rw [empty_eq, decide_eq_true hx0]) ?_
        refine if_t (show dEq (nms X) (.lst []) = true by rw [empty_eq, decide_eq_true hx0]) ?_
        exact ins
      · refine if_nt (show dEq (nms X) (.lst []) = false by rw [empty_eq, decide_eq_false hx0]) ?_
        and_intros
        by_cases c0 : r = 0
        · subst c0
          exact ins
        · refine if_f (int_ne c0) ?_
          and_intros
          refine w_pick T hx0 hXl (by omega) ht1 fun x S2 hx ht2 o2 r1 e1 => ?_
          refine ⟨_, e1, ?_⟩
          and_intros
          refine w_pick T hy0 hYl (by omega) ht2 fun y S3 hy ht3 o3 r2 e2 => ?_
          refine ⟨_, e2, ?_⟩
          and_intros
          exact h (.inn x y) S3 ⟨hx, hy⟩ ht3 ((o1.trans o2).trans o3)
    by_cases c : r < 4
    · refine if_nf (decide_eq_true c) ?_
      refine if_t (decide_eq_true c) ?_
      exact setA (.inr c)
    · refine if_nt (decide_eq_false c) ?_
      refine ⟨_, rfl, ox, rfl, ?_⟩
      by_cases hx0 : X = []
      · refine if_t (show dEq (nms X) (.lst []) = true by rw [empty_eq, decide_eq_true hx0]) ?_
        exact setA (.inl hx0)
      · refine if_f (show dEq (nms X) (.lst []) = false by rw [empty_eq, decide_eq_false hx0]) ?_
        exact single hx0 (.inr c)
end
end U
/-! U113: tokens, the reader of formulas, plain; what is read of the beginning of a text. -/
namespace U
open PySem DL
/-! ### tokens -/
noncomputable abbrev letT : Bs := [97, 98, 99, 100, 101, 102, 103, 104, 105, 106, 107, 108, 109, 110, 111, 112, 113, 114, 115, 116, 117, 118, 119, 120, 121, 122, 65, 66, 67, 68, 69, 70, 71, 72, 73, 74, 75, 76, 77, 78, 79, 80, 81, 82, 83, 84, 85, 86, 87, 88, 89, 90]
noncomputable abbrev digT : Bs := [48, 49, 50, 51, 52, 53, 54, 55, 56, 57]
noncomputable abbrev sgnT : Bs := [40, 41, 44, 58]
noncomputable abbrev truT : Bs := [116, 114, 117, 101]
noncomputable abbrev notT : Bs := [110, 111, 116]
noncomputable abbrev andT : Bs := [97, 110, 100]
noncomputable abbrev orT : Bs := [111, 114]
noncomputable abbrev somT : Bs := [115, 111, 109, 101]
noncomputable abbrev allT : Bs := [97, 108, 108]
noncomputable abbrev innT : Bs := [105, 110]
noncomputable abbrev insT : Bs := [105, 110, 115, 105, 100, 101]
noncomputable abbrev belT : Bs := [98, 101, 108, 111, 119]
noncomputable abbrev samT : Bs := [115, 97, 109, 101]
noncomputable abbrev topT : Bs := [116, 111, 112]
noncomputable abbrev chiT : Bs := [99, 104, 105, 108, 100]
noncomputable abbrev labT : Bs := [108, 97, 98, 101, 108]
noncomputable abbrev wrdL : List Bs := [truT, notT, andT, orT, somT, allT, innT, insT, belT, samT, topT, chiT, labT]
inductive Srt where
  | word | name | sign | wrong
deriving DecidableEq
structure Tok where
  k : Srt
  s : Bs
  at' : Nat
noncomputable def Tok.en (t : Tok) : Nat := t.at' + t.s.length
noncomputable def isAl (c : Nat) : Bool := decide (c ∈ letT) || decide (c ∈ digT)
/-- the first token's length and sort; none: a blank -/
noncomputable def hdT (c : Nat) (r : Bs) : Option (Srt × Bs) :=
  if c ∈ letT then (let w := c :: r.takeWhile isAl; some (if w ∈ wrdL then .word else .name, w))
  else if c ∈ sgnT ∨ c ∈ [48, 49] then some (.sign, [c])
  else if c ≠ 32 ∧ c ≠ 10 then some (.wrong, [c]) else none
/-- the tokens of a text that stands from at on; n: enough -/
noncomputable def tkF : Nat → Nat → Bs → List Tok
  | 0, _, _ => []
  | _ + 1, _, [] => []
  | n + 1, a, c :: r => match hdT c r with
    | some (k, w) => ⟨k, w, a⟩ :: tkF n (a + w.length) ((c :: r).drop w.length)
    | none => tkF n (a + 1) r
noncomputable def tok (x : Bs) : List Tok := tkF x.length 0 x
theorem takeWhile_len {p : Nat → Bool} : ∀ r : Bs, (r.takeWhile p).length ≤ r.length
  | [] => Nat.le_refl _
  | c :: r => by
    rw [List.takeWhile_cons]
    split
    · rw [List.length_cons, List.length_cons]; have := takeWhile_len (p := p) r; omega
    · exact Nat.zero_le _
theorem hdT_len {c : Nat} {r : Bs} {k : Srt} {w : Bs} (h : hdT c r = some (k, w)) : 1 ≤ w.length ∧ w.length ≤ r.length + 1 ∧ w = (c :: r).take w.length := by
  unfold hdT at h
  by_cases c1 : c ∈ letT
  · rw [if_pos c1] at h
    have h := Option.some.inj h
    have e : c :: r.takeWhile isAl = w := congrArg Prod.snd h
    subst e
    refine ⟨by simp, by rw [List.length_cons]; have := takeWhile_len (p := isAl) r; omega, ?_⟩
    rw [List.length_cons, List.take_succ_cons]
    have : ∀ r : Bs, r.takeWhile isAl = r.take (r.takeWhile isAl).length := fun r => by
      induction r with
      | nil => rfl
      | cons a r ih =>
        rw [List.takeWhile_cons]
        split
        · rw [List.length_cons, List.take_succ_cons, ← ih]
        · rfl
    rw [← this]
  · rw [if_neg c1] at h
    by_cases c2 : c ∈ sgnT ∨ c ∈ [48, 49]
    · rw [if_pos c2] at h
      have e : [c] = w := congrArg Prod.snd (Option.some.inj h)
      subst e
      exact ⟨Nat.le_refl _, by simp, rfl⟩
    · rw [if_neg c2] at h
      by_cases c3 : c ≠ 32 ∧ c ≠ 10
      · rw [if_pos c3] at h
        have e : [c] = w := congrArg Prod.snd (Option.some.inj h)
        subst e
        exact ⟨Nat.le_refl _, by simp, rfl⟩
      · rw [if_neg c3] at h; cases h
/-- any n that is enough does -/
theorem tkF_ge : ∀ (n m a : Nat) (x : Bs), x.length ≤ n → x.length ≤ m → tkF n a x = tkF m a x
  | 0, 0, _, _, _, _ => rfl
  | 0, m + 1, a, x, h, _ => by
    have : x = [] := List.length_eq_zero_iff.mp (by omega)
    subst this; rfl
  | n + 1, 0, a, x, _, h => by
    have : x = [] := List.length_eq_zero_iff.mp (by omega)
    subst this; rfl
  | n + 1, m + 1, a, [], _, _ => rfl
  | n + 1, m + 1, a, c :: r, h1, h2 => by
    rw [List.length_cons] at h1 h2
    rw [tkF, tkF]
    cases e : hdT c r with
    | none => exact tkF_ge n m (a + 1) r (by omega) (by omega)
    | some kw =>
      obtain ⟨k, w⟩ := kw
      obtain ⟨l1, l2, _⟩ := hdT_len e
      show _ :: _ = _ :: _
      rw [tkF_ge n m (a + w.length) ((c :: r).drop w.length) (by rw [List.length_drop, List.length_cons]; omega) (by rw [List.length_drop, List.length_cons]; omega)]
/-- the tokens from a on -/
noncomputable def tkA (a : Nat) (x : Bs) : List Tok := tkF x.length a x
theorem tkA_nil (a : Nat) : tkA a [] = [] := rfl
theorem tkA_cons (a c : Nat) (r : Bs) : tkA a (c :: r) = match hdT c r with
    | some (k, w) => ⟨k, w, a⟩ :: tkA (a + w.length) ((c :: r).drop w.length)
    | none => tkA (a + 1) r := by
  unfold tkA
  rw [List.length_cons, tkF]
  cases e : hdT c r with
  | none => rfl
  | some kw =>
    obtain ⟨k, w⟩ := kw
    obtain ⟨l1, l2, _⟩ := hdT_len e
    show _ :: _ = _ :: _
    rw [tkF_ge r.length _ (a + w.length) ((c :: r).drop w.length) (by rw [List.length_drop, List.length_cons]; omega) (Nat.le_refl _)]
/-- tokens stand one behind the other, within the text -/
theorem tkA_in : ∀ (n a : Nat) (x : Bs), x.length ≤ n → ∀ t ∈ tkA a x, a ≤ t.at' ∧ t.en ≤ a + x.length ∧ 1 ≤ t.s.length
  | n, a, [], _, t, h => by cases h
  | 0, a, c :: r, hn, _, _ => by rw [List.length_cons] at hn; omega
  | n + 1, a, c :: r, hn, t, h => by
    rw [List.length_cons] at hn
    rw [tkA_cons] at h
    cases e : hdT c r with
    | none =>
      rw [e] at h
      obtain ⟨h1, h2, h3⟩ := tkA_in n (a + 1) r (by omega) t h
      rw [List.length_cons]
      exact ⟨by omega, by omega, h3⟩
    | some kw =>
      obtain ⟨k, w⟩ := kw
      obtain ⟨l1, l2, _⟩ := hdT_len e
      rw [e] at h
      rw [List.length_cons]
      rcases List.mem_cons.mp h with rfl | h
      · exact ⟨Nat.le_refl _, by show a + w.length ≤ _; omega, l1⟩
      · obtain ⟨h1, h2, h3⟩ := tkA_in n (a + w.length) ((c :: r).drop w.length) (by rw [List.length_drop, List.length_cons]; omega) t h
        rw [List.length_drop, List.length_cons] at h2
        exact ⟨by omega, by omega, h3⟩
theorem hdT_none {c : Nat} {r : Bs} (h : hdT c r = none) (s : Bs) : hdT c s = none := by
  unfold hdT at h ⊢
  by_cases c1 : c ∈ letT
  · rw [if_pos c1] at h; cases h
  · rw [if_neg c1] at h ⊢; exact h
/-! ### the reader, plain -/
/-- enough depth wanting; an error at a token; what is read, where it stands then -/
inductive Rs (α : Type) where
  | out | err (i : Nat) | ok (a : α) (j : Nat)
noncomputable def Rs.bind {α β : Type} (r : Rs α) (f : α → Nat → Rs β) : Rs β := match r with
  | .out => .out
  | .err i => .err i
  | .ok a j => f a j
noncomputable def fixT (T : List Tok) (j : Nat) : Bs := match T[j]? with
  | some ⟨.word, s, _⟩ => s
  | some ⟨.sign, s, _⟩ => s
  | _ => []
noncomputable def setN : Bs → Bool
  | c :: _ => decide (65 ≤ c) && decide (c ≤ 90)
  | [] => false
inductive Nsrt where
  | el | set | any | lab
noncomputable def okN : Nsrt → Bs → Bool
  | .el, s => !setN s
  | .set, s => setN s
  | .any, _ => true
  | .lab, s => decide (s.length = 1) && !setN s
noncomputable def rdN (T : List Tok) (z : Nsrt) (j : Nat) : Rs Bs := match T[j]? with
  | some ⟨.name, s, _⟩ => if okN z s = true then .ok s (j + 1) else .err j
  | _ => .err j
noncomputable def rdT (T : List Tok) (w : Bs) (j : Nat) : Rs Unit := if fixT T j = w then .ok () (j + 1) else .err j
noncomputable def rdP (T : List Tok) (a b : Nsrt) (j : Nat) : Rs (Bs × Bs) :=
  (rdT T [40] j).bind fun _ j => (rdN T a j).bind fun x j => (rdT T [44] j).bind fun _ j => (rdN T b j).bind fun y j => (rdT T [41] j).bind fun _ j => .ok (x, y) j
noncomputable def rdS (T : List Tok) (j : Nat) : Rs Bs :=
  (rdT T [40] j).bind fun _ j => (rdN T .el j).bind fun x j => (rdT T [41] j).bind fun _ j => .ok x j
/-- what is read: formulas as they are told -/
inductive Fx where
  | tru | top (x : Bs) | lab (l x : Bs) | chi (w : Bool) (x y : Bs) | two (w : Bs) (x y : Bs) | neg (f : Fx) | bin (w : Bs) (f g : Fx) | qn (w : Bs) (x : Bs) (f : Fx)
noncomputable def chn (p : Nat → Rs Fx) (T : List Tok) (w : Bs) : Nat → Fx → Nat → Rs Fx
  | 0, _, _ => .out
  | m + 1, d, j => if fixT T j = w then (p (j + 1)).bind fun e j2 => chn p T w m (.bin w d e) j2 else .ok d j
inductive Md where
  | eit | bot | den | sim
noncomputable def rd (T : List Tok) (N : Nat) : Nat → Md → Nat → Rs Fx
  | 0, _, _ => .out
  | n + 1, .eit, j => (rd T N n .bot j).bind fun d j1 => chn (rd T N n .bot) T orT N d j1
  | n + 1, .bot, j => (rd T N n .den j).bind fun d j1 => chn (rd T N n .den) T andT N d j1
  | n + 1, .den, j =>
    if fixT T j = notT then (rd T N n .den (j + 1)).bind fun d j1 => .ok (.neg d) j1
    else if fixT T j = somT ∨ fixT T j = allT then (rdN T .any (j + 1)).bind fun x j1 => (rdT T [58] j1).bind fun _ j2 => (rd T N n .den j2).bind fun d j3 => .ok (.qn (if setN x then fixT T j ++ [115, 101, 116] else fixT T j) x d) j3
    else rd T N n .sim j
  | n + 1, .sim, j =>
    if fixT T j = [40] then (rd T N n .eit (j + 1)).bind fun d j1 => (rdT T [41] j1).bind fun _ j2 => .ok d j2
    else if fixT T j = truT then .ok .tru (j + 1)
    else if fixT T j = topT then (rdS T (j + 1)).bind fun x j1 => .ok (.top x) j1
    else if fixT T j = labT then (rdN T .lab (j + 1)).bind fun l j1 => (rdS T j1).bind fun x j2 => .ok (.lab l x) j2
    else if fixT T j = chiT then
      if fixT T (j + 1) = [48] then (rdP T .el .el (j + 2)).bind fun x j1 => .ok (.chi false x.1 x.2) j1
      else if fixT T (j + 1) = [49] then (rdP T .el .el (j + 2)).bind fun x j1 => .ok (.chi true x.1 x.2) j1
      else .err (j + 1)
    else if fixT T j = innT then (rdP T .el .set (j + 1)).bind fun x j1 => .ok (.two innT x.1 x.2) j1
    else if fixT T j = insT then (rdP T .set .set (j + 1)).bind fun x j1 => .ok (.two insT x.1 x.2) j1
    else if fixT T j = belT ∨ fixT T j = samT then (rdP T .el .el (j + 1)).bind fun x j1 => .ok (.two (fixT T j) x.1 x.2) j1
    else .err j
/-- the whole text -/
noncomputable def rdA (T : List Tok) (N n : Nat) : Rs Fx := (rd T N n .eit 0).bind fun d j => if T.length ≤ j then .ok d j else .err j
/-! ### what is read of the beginning of the tokens alone -/
/-- .. the same outcome, as far as the i-th token -/
structure Agr {α : Type} (i : Nat) (r s : Rs α) : Prop where
  ok : ∀ a j, r = .ok a j → j ≤ i → s = .ok a j
  err : r = .err i → s = .err i
/-- positions only grow -/
noncomputable def Gro {α : Type} (j : Nat) (r : Rs α) : Prop := (∀ a j', r = .ok a j' → j < j') ∧ ∀ e, r = .err e → j ≤ e
theorem Gro.mono {α : Type} {j j' : Nat} {r : Rs α} (h : Gro j' r) (l : j ≤ j') : Gro j r := ⟨fun a x e => by have := h.1 a x e; omega, fun e x => by have := h.2 e x; omega⟩
theorem Agr.bind {α β : Type} {i : Nat} {r s : Rs α} {f g : α → Nat → Rs β} (h : Agr i r s) (hr : ∀ a j', r = .ok a j' → (∀ b j2, f a j' = .ok b j2 → j' ≤ j2) ∧ ∀ e, f a j' = .err e → j' ≤ e) (hf : ∀ a j', j' ≤ i → r = .ok a j' → Agr i (f a j') (g a j')) : Agr i (r.bind f) (s.bind g) := by
  cases r with
  | out => exact ⟨fun a j e => (by cases e), fun e => by cases e⟩
  | err x =>
    refine ⟨fun a j e => (by cases e), fun e => ?_⟩
    cases e
    rw [h.err rfl]
    rfl
  | ok a x =>
    by_cases c : x ≤ i
    · rw [h.ok a x rfl c]
      exact hf a x c rfl
    · obtain ⟨h1, h2⟩ := hr a x rfl
      exact ⟨fun b j2 e l => by have := h1 b j2 e; omega, fun e => by have := h2 i e; omega⟩
/-- weakly -/
noncomputable def Grw {α : Type} (j : Nat) (r : Rs α) : Prop := (∀ a j', r = .ok a j' → j ≤ j') ∧ ∀ e, r = .err e → j ≤ e
theorem Gro.w {α : Type} {j : Nat} {r : Rs α} (h : Gro j r) : Grw j r := ⟨fun a x e => Nat.le_of_lt (h.1 a x e), h.2⟩
section
variable {T U : List Tok} {i : Nat}
end
/-! ### how deep it goes -/
noncomputable def wtC (c : Nat) : Nat := if c = 40 then 4 else if c = 111 ∨ c = 97 then 1 else 0
noncomputable def wtS (s : Bs) : Nat := (s.map wtC).sum
noncomputable def wtT (T : List Tok) (j : Nat) : Nat := ((T.drop j).map fun t => wtS t.s).sum
theorem wtT_at {T : List Tok} {j : Nat} {t : Tok} (h : T[j]? = some t) : wtT T j = wtS t.s + wtT T (j + 1) := by
  obtain ⟨hj, e⟩ := List.getElem?_eq_some_iff.mp h
  unfold wtT
  rw [List.drop_eq_getElem_cons hj, e, List.map_cons, List.sum_cons]
theorem fix_some {T : List Tok} {j : Nat} {w : Bs} (hw : w ≠ []) (h : fixT T j = w) : ∃ t, T[j]? = some t ∧ t.s = w := by
  unfold fixT at h
  split at h
  · next s a e => exact ⟨_, e, h⟩
  · next s a e => exact ⟨_, e, h⟩
  · exact absurd h.symm hw
theorem fix_wt {T : List Tok} {j : Nat} {w : Bs} (hw : w ≠ []) (h : fixT T j = w) : wtT T j = wtS w + wtT T (j + 1) ∧ j < T.length := by
  obtain ⟨t, e, rfl⟩ := fix_some hw h
  exact ⟨wtT_at e, (List.getElem?_eq_some_iff.mp e).1⟩
/-- errors lie at tokens or behind them all -/
noncomputable def Ble {α : Type} (m : Nat) (r : Rs α) : Prop := (∀ a j, r = .ok a j → j ≤ m) ∧ ∀ e, r = .err e → e ≤ m
theorem ble_bind {α β : Type} {m : Nat} {r : Rs α} {f : α → Nat → Rs β} (h : Ble m r) (hf : ∀ a j, j ≤ m → Ble m (f a j)) : Ble m (r.bind f) := by
  cases r with
  | out => exact ⟨fun a x e => (by cases e), fun e x => by cases x⟩
  | err x => exact ⟨fun a x e => (by cases e), fun e y => by cases y; exact h.2 _ rfl⟩
  | ok a x => exact hf a x (h.1 a x rfl)
theorem ble_ok {α : Type} {m : Nat} (a : α) {j : Nat} (h : j ≤ m) : Ble m (.ok a j) := ⟨fun b x e => (by cases e; exact h), fun e x => by cases x⟩
theorem ble_err {α : Type} {m j : Nat} (h : j ≤ m) : Ble m (Rs.err (α := α) j) := ⟨fun b x e => (by cases e), fun e x => by cases x; exact h⟩
theorem rdT_ble (T : List Tok) {w : Bs} (hw : w ≠ []) {j : Nat} (h : j ≤ T.length) : Ble T.length (rdT T w j) := by
  unfold rdT
  split
  · next e => exact ble_ok _ (fix_wt hw e).2
  · exact ble_err h
theorem rdN_ble (T : List Tok) (z : Nsrt) {j : Nat} (h : j ≤ T.length) : Ble T.length (rdN T z j) := by
  unfold rdN
  split
  · next e =>
    split
    · exact ble_ok _ (List.getElem?_eq_some_iff.mp e).1
    · exact ble_err h
  · exact ble_err h
theorem rdP_ble (T : List Tok) (a b : Nsrt) {j : Nat} (h : j ≤ T.length) : Ble T.length (rdP T a b j) := ble_bind (rdT_ble T (by decide) h) fun _ _ h => ble_bind (rdN_ble T a h) fun _ _ h => ble_bind (rdT_ble T (by decide) h) fun _ _ h => ble_bind (rdN_ble T b h) fun _ _ h => ble_bind (rdT_ble T (by decide) h) fun _ _ h => ble_ok _ h
theorem rdS_ble (T : List Tok) {j : Nat} (h : j ≤ T.length) : Ble T.length (rdS T j) := ble_bind (rdT_ble T (by decide) h) fun _ _ h => ble_bind (rdN_ble T .el h) fun _ _ h => ble_bind (rdT_ble T (by decide) h) fun _ _ h => ble_ok _ h
theorem chn_ble {p : Nat → Rs Fx} {T : List Tok} {w : Bs} (hw : w ≠ []) (hp : ∀ j, j ≤ T.length → Ble T.length (p j)) : ∀ (m : Nat) (d : Fx) (j : Nat), j ≤ T.length → Ble T.length (chn p T w m d j)
  | 0, _, _, _ => ⟨fun a x e => (by cases e), fun e x => by cases x⟩
  | m + 1, d, j, h => by
    rw [chn]
    split
    · next e => exact ble_bind (hp (j + 1) (fix_wt hw e).2) fun e j2 h2 => chn_ble hw hp m _ j2 h2
    · exact ble_ok _ h
theorem rd_ble (T : List Tok) (N : Nat) : ∀ (n : Nat) (md : Md) (j : Nat), j ≤ T.length → Ble T.length (rd T N n md j)
  | 0, _, _, _ => ⟨fun a x e => (by cases e), fun e x => by cases x⟩
  | n + 1, .eit, j, h => by
    rw [rd]
    exact ble_bind (rd_ble T N n .bot j h) fun d j1 h1 => chn_ble (by decide) (fun j h => rd_ble T N n .bot j h) N d j1 h1
  | n + 1, .bot, j, h => by
    rw [rd]
    exact ble_bind (rd_ble T N n .den j h) fun d j1 h1 => chn_ble (by decide) (fun j h => rd_ble T N n .den j h) N d j1 h1
  | n + 1, .den, j, h => by
    rw [rd]
    split
    · next e => exact ble_bind (rd_ble T N n .den (j + 1) (fix_wt (by decide) e).2) fun _ _ h => ble_ok _ h
    · split
      · next e =>
        have l : j + 1 ≤ T.length := by
          rcases e with e | e
          · exact (fix_wt (by decide) e).2
          · exact (fix_wt (by decide) e).2
        exact ble_bind (rdN_ble T .any l) fun _ _ h => ble_bind (rdT_ble T (by decide) h) fun _ _ h => ble_bind (rd_ble T N n .den _ h) fun _ _ h => ble_ok _ h
      · exact rd_ble T N n .sim j h
  | n + 1, .sim, j, h => by
    have one : ∀ {w : Bs}, w ≠ [] → fixT T j = w → j + 1 ≤ T.length := fun hw e => (fix_wt hw e).2
    rw [rd]
    split
    · next e => exact ble_bind (rd_ble T N n .eit (j + 1) (one (by decide) e)) fun _ _ h => ble_bind (rdT_ble T (by decide) h) fun _ _ h => ble_ok _ h
    split
    · next e => exact ble_ok _ (one (by decide) e)
    split
    · next e => exact ble_bind (rdS_ble T (one (by decide) e)) fun _ _ h => ble_ok _ h
    split
    · next e => exact ble_bind (rdN_ble T .lab (one (by decide) e)) fun _ _ h => ble_bind (rdS_ble T h) fun _ _ h => ble_ok _ h
    split
    · next e =>
      split
      · next e2 => exact ble_bind (rdP_ble T .el .el (fix_wt (by decide) e2).2) fun _ _ h => ble_ok _ h
      · split
        · next e2 => exact ble_bind (rdP_ble T .el .el (fix_wt (by decide) e2).2) fun _ _ h => ble_ok _ h
        · exact ble_err (one (by decide) e)
    split
    · next e => exact ble_bind (rdP_ble T .el .set (one (by decide) e)) fun _ _ h => ble_ok _ h
    split
    · next e => exact ble_bind (rdP_ble T .set .set (one (by decide) e)) fun _ _ h => ble_ok _ h
    split
    · next e =>
      have l : j + 1 ≤ T.length := by
        rcases e with e | e
        · exact one (by decide) e
        · exact one (by decide) e
      exact ble_bind (rdP_ble T .el .el l) fun _ _ h => ble_ok _ h
    · exact ble_err h
/-! ### the whole -/
/-- where an error is told -/
noncomputable def posT (T : List Tok) (i : Nat) : Nat := match T[i]? with
  | some t => t.at'
  | none => match T.getLast? with
    | some t => t.en
    | none => 0
end U
/-! U4: what holds in a shape; the law's own trying. -/
namespace U
open PySem DL
local macro_rules | `(tactic| and_intros) => `(tactic| repeat (first | refine ⟨_, rfl, ?_⟩ | refine ⟨rfl, ?_⟩))
/-- the values: paths for X, sets of paths for Y -/
structure VE (s : Sh) (kvs : List (D × D)) (X Y : List Bs) : Prop where
  nd : (kvs.map (·.1)).Nodup
  ex : ∀ x ∈ X, eN x = true
  sy : ∀ y ∈ Y, sN y = true
  len : kvs.length ≤ 100
  one : ∀ x ∈ X, ∃ p, lookD kvs (.str x) = some (itD p) ∧ Node s p
  set_ : ∀ y ∈ Y, ∃ ps, lookD kvs (.str y) = some (.tup (List.map itD ps)) ∧ (∀ p ∈ ps, Node s p)
noncomputable def val (kvs : List (D × D)) (x : Bs) : D := (lookD kvs (.str x)).getD .non
noncomputable def items : D → List D
  | .tup ds => ds
  | _ => []
section
variable {P : Pg} {q : QD} {k : Nat}
end
noncomputable abbrev setD (a : List (List Int)) : D := .tup (a.map itD)
noncomputable def step (acc : List (List (List Int))) (p : List Int) : List (List (List Int)) := acc ++ acc.map (· ++ [p])
section
variable {P : Pg} {q : QD} {k : Nat}
end
/-! ### the values grow -/
theorem look_put (x : Bs) (d : D) : ∀ (kvs : List (D × D)) (y : Bs), lookD (putD kvs (.str x) d) (.str y) = if x = y then some d else lookD kvs (.str y)
  | [], y => by
    show (if keyb (.str x) (.str y) = true then some d else none) = _
    by_cases e : x = y
    · rw [if_pos (by simpa [keyb] using e), if_pos e]
    · rw [if_neg (by simpa [keyb] using e), if_neg e]; rfl
  | (k, v) :: r, y => by
    unfold putD
    by_cases hk : keyb k (.str x) = true
    · rw [if_pos hk]
      have : k = .str x := by
        cases k with
        | str t => rw [show t = x by simpa [keyb] using hk]
        | _ => cases hk
      subst this
      show (if keyb (.str x) (.str y) = true then some d else lookD r (.str y)) = if x = y then some d else (if keyb (.str x) (.str y) = true then some v else lookD r (.str y))
      by_cases e : x = y
      · rw [if_pos (by simpa [keyb] using e), if_pos e]
      · rw [if_neg (by simpa [keyb] using e), if_neg e, if_neg (by simpa [keyb] using e)]
    · rw [if_neg hk]
      show (if keyb k (.str y) = true then some v else lookD (putD r (.str x) d) (.str y)) = if x = y then some d else (if keyb k (.str y) = true then some v else lookD r (.str y))
      rw [look_put x d r y]
      by_cases hy : keyb k (.str y) = true
      · rw [if_pos hy, if_pos hy]
        have : x ≠ y := fun e => hk (by rw [e]; exact hy)
        rw [if_neg this]
      · rw [if_neg hy, if_neg hy]
theorem put_keys (x : Bs) (d : D) : ∀ (kvs : List (D × D)), (kvs.map (·.1)).Nodup → ((putD kvs (.str x) d).map (·.1)).Nodup ∧ (putD kvs (.str x) d).length ≤ kvs.length + 1 ∧ ∀ k, k ∈ (putD kvs (.str x) d).map (·.1) → k = .str x ∨ k ∈ kvs.map (·.1)
  | [], _ => ⟨by simp [putD], by simp [putD], fun k h => by simpa [putD] using h⟩
  | (k, v) :: r, nd => by
    have nd' := List.nodup_cons.mp (show (k :: r.map (·.1)).Nodup from nd)
    obtain ⟨a, b, c⟩ := put_keys x d r nd'.2
    unfold putD
    by_cases hk : keyb k (.str x) = true
    · rw [if_pos hk]
      exact ⟨nd, by simp, fun z hz => .inr hz⟩
    · rw [if_neg hk]
      refine ⟨List.nodup_cons.mpr ⟨fun h => ?_, a⟩, by rw [List.length_cons, List.length_cons]; omega, fun z hz => ?_⟩
      · rcases c k h with h | h
        · subst h; exact hk (by simp [keyb])
        · exact nd'.1 h
      · rcases List.mem_cons.mp (show z ∈ k :: (putD r (.str x) d).map (·.1) from hz) with h | h
        · exact .inr (by rw [h]; exact List.mem_cons_self)
        · rcases c z h with h | h
          · exact .inl h
          · exact .inr (List.mem_cons_of_mem _ h)
theorem cons_all {p : Bs → Bool} {X : List Bs} {x : Bs} (h : ∀ z ∈ X, p z = true) (hx : p x = true) : ∀ z ∈ x :: X, p z = true := fun z hz => by
  rcases List.mem_cons.mp hz with e | e
  · rw [e]; exact hx
  · exact h z e
/-- n more may come -/
structure VN (s : Sh) (kvs : List (D × D)) (X Y : List Bs) (n : Nat) : Prop where
  ve : VE s kvs X Y
  room : kvs.length + n ≤ 100
theorem VN.one {s : Sh} {kvs : List (D × D)} {X Y : List Bs} {n : Nat} {x : Bs} {p : List Int} (v : VN s kvs X Y (n + 1)) (hx : eN x = true) (hp : Node s p) : VN s (putD kvs (.str x) (itD p)) (x :: X) Y n := by
  obtain ⟨a, b, c⟩ := put_keys x (itD p) kvs v.ve.nd
  have := v.room
  refine ⟨⟨a, cons_all v.ve.ex hx, v.ve.sy, by omega, fun y hy => ?_, fun y hy => ?_⟩, by omega⟩
  · rw [look_put]
    by_cases e : x = y
    · rw [if_pos e]; exact ⟨p, rfl, hp⟩
    · rw [if_neg e]
      rcases List.mem_cons.mp hy with hy | hy
      · exact absurd hy.symm e
      · exact v.ve.one y hy
  · rw [look_put, if_neg (fun e => eN_sN hx (by rw [e]; exact v.ve.sy y hy))]
    exact v.ve.set_ y hy
theorem VN.set_ {s : Sh} {kvs : List (D × D)} {X Y : List Bs} {n : Nat} {x : Bs} {ps : List (List Int)} (v : VN s kvs X Y (n + 1)) (hx : sN x = true) (hp : ∀ p ∈ ps, Node s p) : VN s (putD kvs (.str x) (setD ps)) X (x :: Y) n := by
  obtain ⟨a, b, c⟩ := put_keys x (setD ps) kvs v.ve.nd
  have := v.room
  refine ⟨⟨a, v.ve.ex, cons_all v.ve.sy hx, by omega, fun y hy => ?_, fun y hy => ?_⟩, by omega⟩
  · rw [look_put, if_neg (fun e => eN_sN (v.ve.ex y hy) (by rw [← e]; exact hx))]
    exact v.ve.one y hy
  · rw [look_put]
    by_cases e : x = y
    · rw [if_pos e]; exact ⟨ps, rfl, hp⟩
    · rw [if_neg e]
      rcases List.mem_cons.mp hy with hy | hy
      · exact absurd hy.symm e
      · exact v.ve.set_ y hy
theorem VN.mono {s : Sh} {kvs : List (D × D)} {X Y : List Bs} {n m : Nat} (v : VN s kvs X Y n) (h : m ≤ n) : VN s kvs X Y m := ⟨v.ve, by have := v.room; omega⟩
end U
/-! U5: the program's plain meaning. -/
namespace U
open PySem DL
local macro_rules | `(tactic| and_intros) => `(tactic| repeat (first | refine ⟨_, rfl, ?_⟩ | refine ⟨rfl, ?_⟩))
section
variable {P : Pg} {q : QD} {k : Nat}
end
end U
/-! U6: sameness of bools; more of values. -/
namespace U
open PySem DL
local macro_rules | `(tactic| and_intros) => `(tactic| repeat (first | refine ⟨_, rfl, ?_⟩ | refine ⟨rfl, ?_⟩))
theorem VN.sub {s : Sh} {kvs : List (D × D)} {X Y X' Y' : List Bs} {n : Nat} (v : VN s kvs X Y n) (hx : ∀ z ∈ X', z ∈ X) (hy : ∀ z ∈ Y', z ∈ Y) : VN s kvs X' Y' n :=
  ⟨⟨v.ve.nd, fun z h => v.ve.ex z (hx z h), fun z h => v.ve.sy z (hy z h), v.ve.len, fun z h => v.ve.one z (hx z h), fun z h => v.ve.set_ z (hy z h)⟩, v.room⟩
end U
/-! U7: sameness of data; formulas' parts, variables, depth. -/
namespace U
open PySem DL
local macro_rules | `(tactic| and_intros) => `(tactic| repeat (first | refine ⟨_, rfl, ?_⟩ | refine ⟨rfl, ?_⟩))
/-! ### sameness -/
mutual
noncomputable def sameD : D → D → Bool
  | .non, .non => true
  | .bl a, .bl b => a == b
  | .int i, .int j => i == j
  | .str s, .str t => s == t
  | .tup xs, .tup ys => sameL xs ys
  | .lst xs, .lst ys => sameL xs ys
  | _, _ => false
noncomputable def sameL : List D → List D → Bool
  | [], [] => true
  | x :: xs, y :: ys => sameD x y && sameL xs ys
  | _, _ => false
end
theorem sameL_len : ∀ {xs ys : List D}, sameL xs ys = true → xs.length = ys.length
  | [], [], _ => rfl
  | [], _ :: _, h => by simp [sameL] at h
  | _ :: _, [], h => by simp [sameL] at h
  | x :: xs, y :: ys, h => by
    rw [sameL, Bool.and_eq_true] at h
    rw [List.length_cons, List.length_cons, sameL_len h.2]
theorem sameL_at : ∀ {xs ys : List D}, xs.length = ys.length → (sameL xs ys = true ↔ ∀ (i : Nat) (x y : D), xs[i]? = some x → ys[i]? = some y → sameD x y = true)
  | [], [], _ => by simp [sameL]
  | [], _ :: _, h => by simp at h
  | _ :: _, [], h => by simp at h
  | x :: xs, y :: ys, h => by
    rw [sameL, Bool.and_eq_true, sameL_at (xs := xs) (ys := ys) (by simpa using h)]
    constructor
    · rintro ⟨h1, h2⟩ i a b e1 e2
      cases i with
      | zero => simp at e1 e2; subst e1; subst e2; exact h1
      | succ i => exact h2 i a b (by simpa using e1) (by simpa using e2)
    · intro h
      exact ⟨h 0 x y rfl rfl, fun i a b e1 e2 => h (i + 1) a b (by simpa using e1) (by simpa using e2)⟩
theorem rangeD_map : ∀ (lo : Int) (n : Nat), rangeD lo n = (List.range n).map fun i => .int (lo + (i : Nat))
  | lo, 0 => rfl
  | lo, n + 1 => by
    rw [rangeD, rangeD_map (lo + 1) n, List.range_succ_eq_map, List.map_cons, List.map_map]
    refine congr (congrArg _ ?_) (List.map_congr_left fun i _ => ?_)
    · show D.int lo = D.int (lo + ((0 : Nat) : Int)); rw [show lo + ((0 : Nat) : Int) = lo by omega]
    · show D.int (lo + 1 + (i : Int)) = D.int (lo + ((i + 1 : Nat) : Int)); rw [show lo + 1 + (i : Int) = lo + ((i + 1 : Nat) : Int) by omega]
/-- okd, no list longer than a line -/
noncomputable def okq : Nat → D → Bool
  | _, .non => true
  | _, .bl _ => true
  | _, .int _ => true
  | _, .str s => s.all (· < 0x110000)
  | n + 1, .tup xs => decide (xs.length ≤ SZ) && xs.all (okq n)
  | n + 1, .lst xs => decide (xs.length ≤ SZ) && xs.all (okq n)
  | _, _ => false
theorem okd_of : ∀ (m n : Nat) (d : D), m ≤ n → okq m d = true → okd n d = true
  | m, n, .non, _, _ => by cases n <;> rfl
  | m, n, .bl _, _, _ => by cases n <;> rfl
  | m, n, .int _, _, _ => by cases n <;> rfl
  | m, n, .str _, _, h => by cases n <;> cases m <;> exact h
  | 0, n, .tup xs, _, h => by cases h
  | 0, n, .lst xs, _, h => by cases h
  | m + 1, 0, d, hl, _ => by omega
  | m + 1, n + 1, .tup xs, hl, h => by
    have h : (decide (xs.length ≤ SZ) && xs.all (okq m)) = true := h
    rw [Bool.and_eq_true] at h
    exact List.all_eq_true.mpr fun x hx => okd_of m n x (by omega) (List.all_eq_true.mp h.2 x hx)
  | m + 1, n + 1, .lst xs, hl, h => by
    have h : (decide (xs.length ≤ SZ) && xs.all (okq m)) = true := h
    rw [Bool.and_eq_true] at h
    exact List.all_eq_true.mpr fun x hx => okd_of m n x (by omega) (List.all_eq_true.mp h.2 x hx)
  | m, n, .dct _, _, h => by cases m <;> cases h
  | m, n, .ref _, _, h => by cases m <;> cases h
  | m, n, .opq _ _ _, _, h => by cases m <;> cases h
section
variable {P : Pg}
mutual
/-- sameness of data nested at most n deep -/
theorem w_same (H : Up__law_same_items P) : ∀ (n : Nat) (a b : D) (k : Nat) (S : Sto) (q : QD) (qx : QX), okq n a = true → okq n b = true → n ≤ 60 → 2 * n + 3 ≤ k → q (.bl (sameD a b)) S → P.spec k 11 [a, b] S q qx
  | n, a, b, 0, _, _, _, _, _, _, hk, _ => by omega
  | n, a, b, k + 1, S, q, qx, oa, ob, hn, hk, h => by
    refine Pg.spec_succ H.self__law_same rfl ?_
    have isint : ∀ (i : Int) (S : Sto) (q : QD), q (.bl true) S → P.spec k 9 [.int i] S q qx := fun i S q h => by
      obtain ⟨k, rfl⟩ : ∃ j, k = j + 1 := ⟨k - 1, by omega⟩
      exact Pg.spec_succ H.to__law_is_integer.self rfl ⟨_, rfl, _, rfl, _, rfl, _, rfl, _, rfl, _, rfl, h⟩
    have notint : ∀ (d : D) (S : Sto) (q : QD) (m : Nat), okq m d = true → (∀ i, d ≠ .int i) → q (.bl false) S → P.spec k 9 [d] S q qx := fun d S q m od hd h => by
      obtain ⟨k, rfl⟩ : ∃ j, k = j + 1 := ⟨k - 1, by omega⟩
      refine Pg.spec_succ H.to__law_is_integer.self rfl ?_
      cases d with
      | int i => exact absurd rfl (hd i)
      | dct => cases m <;> cases od
      | ref => cases m <;> cases od
      | opq => cases m <;> cases od
      | _ => and_intros; exact h
    have ok60 : ∀ {d : D}, okq n d = true → okD d := fun {d} o => okd_of n 60 d hn o
    cases b with
    | non => cases a <;> (and_intros; exact h)
    | bl v => cases a with
      | dct => cases n <;> cases oa
      | ref => cases n <;> cases oa
      | opq => cases n <;> cases oa
      | bl u => and_intros; exact h
      | _ => and_intros; exact h
    | int j => cases a with
      | int i =>
        and_intros
        refine isint i _ _ ?_
        and_intros
        exact h
      | dct => cases n <;> cases oa
      | ref => cases n <;> cases oa
      | opq => cases n <;> cases oa
      | _ =>
        and_intros
        refine notint _ _ _ n oa (fun i z => by cases z) ?_
        and_intros
        exact h
    | str t => cases a with
      | str s =>
        and_intros
        exact ⟨ok60 oa, ok60 ob, h⟩
      | dct => cases n <;> cases oa
      | ref => cases n <;> cases oa
      | opq => cases n <;> cases oa
      | _ => and_intros; exact h
    | tup ys => cases a with
      | tup xs =>
        and_intros
        exact w_same_items H n (.tup xs) (.tup ys) xs ys k _ _ _ (.inl ⟨rfl, rfl⟩) oa ob hn (by omega) h
      | dct => cases n <;> cases oa
      | ref => cases n <;> cases oa
      | opq => cases n <;> cases oa
      | _ => and_intros; exact h
    | lst ys => cases a with
      | lst xs =>
        and_intros
        exact w_same_items H n (.lst xs) (.lst ys) xs ys k _ _ _ (.inr ⟨rfl, rfl⟩) oa ob hn (by omega) h
      | dct => cases n <;> cases oa
      | ref => cases n <;> cases oa
      | opq => cases n <;> cases oa
      | _ => and_intros; exact h
    | dct => cases n <;> cases ob
    | ref => cases n <;> cases ob
    | opq => cases n <;> cases ob
theorem w_same_items (H : Up__law_same_items P) : ∀ (n : Nat) (a b : D) (xs ys : List D) (k : Nat) (S : Sto) (q : QD) (qx : QX), ((a = .tup xs ∧ b = .tup ys) ∨ (a = .lst xs ∧ b = .lst ys)) → okq n a = true → okq n b = true → n ≤ 60 → 2 * n + 2 ≤ k → q (.bl (sameL xs ys)) S → P.spec k 10 [a, b] S q qx
  | 0, a, b, xs, ys, k, S, q, qx, hc, oa, ob, hn, hk, h => by rcases hc with ⟨rfl, rfl⟩ | ⟨rfl, rfl⟩ <;> cases oa
  | n + 1, a, b, xs, ys, 0, S, q, qx, hc, oa, ob, hn, hk, h => by omega
  | n + 1, a, b, xs, ys, k + 1, S, q, qx, hc, oa, ob, hn, hk, h => by
    refine Pg.spec_succ H.self__law_same_items rfl ?_
    have o1 : ∀ x ∈ xs, okq n x = true := by rcases hc with ⟨rfl, rfl⟩ | ⟨rfl, rfl⟩ <;> exact List.all_eq_true.mp (Bool.and_eq_true_iff.mp oa).2
    have o2 : ∀ x ∈ ys, okq n x = true := by rcases hc with ⟨rfl, rfl⟩ | ⟨rfl, rfl⟩ <;> exact List.all_eq_true.mp (Bool.and_eq_true_iff.mp ob).2
    have l1 : lenD S a = some xs.length := by rcases hc with ⟨rfl, rfl⟩ | ⟨rfl, rfl⟩ <;> rfl
    have l2 : lenD S b = some ys.length := by rcases hc with ⟨rfl, rfl⟩ | ⟨rfl, rfl⟩ <;> rfl
    have g1 : ∀ (i : Nat) (x : D) (Q : D → Prop), xs[i]? = some x → Q x → wIdx S a (.int i) Q := fun i x Q e w => by
      rcases hc with ⟨rfl, rfl⟩ | ⟨rfl, rfl⟩ <;> exact ⟨x, by rw [atD_nat]; exact e, w⟩
    have g2 : ∀ (i : Nat) (x : D) (Q : D → Prop), ys[i]? = some x → Q x → wIdx S b (.int i) Q := fun i x Q e w => by
      rcases hc with ⟨rfl, rfl⟩ | ⟨rfl, rfl⟩ <;> exact ⟨x, by rw [atD_nat]; exact e, w⟩
    have hz : ys.length ≤ 16777216 := by
      rcases hc with ⟨rfl, rfl⟩ | ⟨rfl, rfl⟩ <;> exact of_decide_eq_true (Bool.and_eq_true_iff.mp ob).1
    refine ⟨_, rfl, _, l1, _, rfl, _, l2, okd_int, okd_int, ?_⟩
    refine if_c (fun c => ?_) (fun c => ?_)
    · have c : (!dEq (.int xs.length) (.int ys.length)) = true := c
      have ne : sameL xs ys = false := by
        cases e : sameL xs ys with
        | false => rfl
        | true => rw [sameL_len e] at c; simp [dEq] at c
      rw [ne] at h
      exact h
    · have c : (!dEq (.int xs.length) (.int ys.length)) = false := c
      have hlen : xs.length = ys.length := by
        have : ((xs.length : Int) == (ys.length : Int)) = true := by simpa [dEq] using c
        have := eq_of_beq this
        omega
      refine ⟨_, rfl, _, l2, ⟨by omega, by omega⟩, ?_⟩
      rw [rangeD_map]
      refine forL_pre (e := fun i : Nat => D.int (0 + (i : Int))) (fun dn ρ S' => S' = S ∧ (∀ i ∈ dn, ∀ (x y : D), xs[i]? = some x → ys[i]? = some y → sameD x y = true) ∧ ∃ z, ρ = [some a, some b, z]) (List.range ys.length) [] _ _ _ (by rw [show ((ys.length : Int)).toNat = ys.length by omega]; rfl) ⟨rfl, by simp, none, rfl⟩ ?_ ?_
      · rintro dn i r ρ S' ha ⟨rfl, hd, z, rfl⟩ kk hh
        have hi : i < ys.length := by
          have : i ∈ List.range ys.length := by rw [ha]; simp
          exact List.mem_range.mp this
        have e1 : xs[i]? = some xs[i] := List.getElem?_eq_getElem (by omega)
        have e2 : ys[i]? = some ys[i] := List.getElem?_eq_getElem hi
        rw [show (0 : Int) + (i : Int) = (i : Int) by omega]
        refine ⟨_, rfl, _, rfl, g1 i _ _ e1 ?_⟩
        refine ⟨_, rfl, _, rfl, g2 i _ _ e2 ?_⟩
        refine w_same H n _ _ k _ _ _ (o1 _ (List.getElem_mem _)) (o2 _ (List.getElem_mem _)) (by omega) (by omega) ?_
        and_intros
        cases c : sameD xs[i] ys[i] with
        | true =>
          refine hh _ _ ⟨rfl, fun j hj x y f1 f2 => ?_, _, rfl⟩
          rcases List.mem_append.mp hj with hj | hj
          · exact hd j hj x y f1 f2
          · have : j = i := by simpa using hj
            subst this
            rw [e1] at f1; rw [e2] at f2
            cases f1; cases f2
            exact c
        | false =>
          have ne : sameL xs ys = false := by
            cases e : sameL xs ys with
            | false => rfl
            | true => rw [(sameL_at hlen).mp e i _ _ e1 e2] at c; cases c
          rw [ne] at h
          exact h
      · rintro ρ S' ⟨rfl, hd, z, rfl⟩
        have eq : sameL xs ys = true := (sameL_at hlen).mpr fun i x y e1 e2 => hd i (List.mem_range.mpr (List.getElem?_eq_some_iff.mp e2).1) x y e1 e2
        rw [eq] at h
        exact h
end
end
end U
/-! U8: formulas' parts, variables, depth; what fits a kind. -/
namespace U
open PySem DL
local macro_rules | `(tactic| and_intros) => `(tactic| repeat (first | refine ⟨_, rfl, ?_⟩ | refine ⟨rfl, ?_⟩))
noncomputable def inner : Fm → List Fm
  | .at_ _ => []
  | .not f => [f]
  | .bin _ f g => [f, g]
  | .q _ _ f => [f]
noncomputable def avars : Atm → List Bs
  | .inside a b => [a, b]
  | .inn a b => [a, b]
  | .tru => []
  | .label _ x => [x]
  | .top x => [x]
  | .same x y => [x, y]
  | .child _ x y => [x, y]
  | .below x y => [x, y]
/-- k is free in the formula -/
noncomputable def FV : Fm → Bs → Prop
  | .at_ a, k => k ∈ avars a
  | .not f, k => FV f k
  | .bin _ f g, k => FV f k ∨ FV g k
  | .q _ x f, k => FV f k ∧ k ≠ x
/-- the free variables as the laws gather them -/
noncomputable def ddup (l : List Bs) : List Bs := l.foldl (fun acc x => if x ∈ acc then acc else acc ++ [x]) []
theorem ddup_gen : ∀ (l acc : List Bs), acc.Nodup → (l.foldl (fun acc x => if x ∈ acc then acc else acc ++ [x]) acc).Nodup ∧ (∀ k, k ∈ l.foldl (fun acc x => if x ∈ acc then acc else acc ++ [x]) acc ↔ k ∈ acc ∨ k ∈ l) ∧ (l.foldl (fun acc x => if x ∈ acc then acc else acc ++ [x]) acc).length ≤ acc.length + l.length
  | [], acc, h => ⟨h, by simp, by simp⟩
  | x :: l, acc, h => by
    rw [List.foldl_cons]
    by_cases c : x ∈ acc
    · rw [if_pos c]
      obtain ⟨a, b, d⟩ := ddup_gen l acc h
      refine ⟨a, fun k => ?_, by rw [List.length_cons]; omega⟩
      rw [b k, List.mem_cons]
      constructor
      · rintro (h | h)
        · exact .inl h
        · exact .inr (.inr h)
      · rintro (h | rfl | h)
        · exact .inl h
        · exact .inl c
        · exact .inr h
    · rw [if_neg c]
      obtain ⟨a, b, d⟩ := ddup_gen l (acc ++ [x]) (List.nodup_append.mpr ⟨h, by simp, fun a ha b hb e => c (by rw [← show b = x by simpa using hb, ← e]; exact ha)⟩)
      refine ⟨a, fun k => ?_, by rw [List.length_append, List.length_singleton] at d; rw [List.length_cons]; omega⟩
      rw [b k, List.mem_append, List.mem_singleton, List.mem_cons, or_assoc]
noncomputable def lfree : Fm → List Bs
  | .at_ a => ddup (avars a)
  | .not f => lfree f
  | .bin _ f g => lfree f ++ (lfree g).filter fun x => decide (x ∉ lfree f)
  | .q _ x f => (lfree f).filter fun y => decide (y ≠ x)
theorem ddup_ok (l : List Bs) : (ddup l).Nodup ∧ ∀ k, k ∈ ddup l ↔ k ∈ l := by
  obtain ⟨a, b, _⟩ := ddup_gen l [] List.nodup_nil
  exact ⟨a, fun k => (b k).trans (by simp)⟩
theorem lfree_ok : ∀ f : Fm, (lfree f).Nodup ∧ ∀ k, k ∈ lfree f ↔ FV f k
  | .at_ a => ddup_ok _
  | .not f => lfree_ok f
  | .bin _ f g => by
    obtain ⟨a, b⟩ := lfree_ok f
    obtain ⟨c, d⟩ := lfree_ok g
    refine ⟨List.nodup_append.mpr ⟨a, c.filter _, fun x hx y hy e => ?_⟩, fun k => ?_⟩
    · have := (List.mem_filter.mp hy).2
      exact of_decide_eq_true this (by rw [← e]; exact hx)
    · show k ∈ lfree f ++ _ ↔ FV f k ∨ FV g k
      rw [List.mem_append, List.mem_filter, ← b k, ← d k, decide_eq_true_eq]
      constructor
      · rintro (h | ⟨h, _⟩)
        · exact .inl h
        · exact .inr h
      · rintro (h | h)
        · exact .inl h
        · by_cases e : k ∈ lfree f
          · exact .inl e
          · exact .inr ⟨h, e⟩
  | .q _ x f => by
    obtain ⟨a, b⟩ := lfree_ok f
    refine ⟨a.filter _, fun k => ?_⟩
    show k ∈ (lfree f).filter _ ↔ FV f k ∧ k ≠ x
    rw [List.mem_filter, b k, decide_eq_true_eq]
/-- all names and labels are texts -/
noncomputable def okA : Atm → Prop
  | .inside a b => okS' a = true ∧ okS' b = true
  | .inn a b => okS' a = true ∧ okS' b = true
  | .tru => True
  | .label l x => okS' l = true ∧ okS' x = true
  | .top x => okS' x = true
  | .same x y => okS' x = true ∧ okS' y = true
  | .child _ x y => okS' x = true ∧ okS' y = true
  | .below x y => okS' x = true ∧ okS' y = true
noncomputable def okF : Fm → Prop
  | .at_ a => okA a
  | .not f => okF f
  | .bin _ f g => okF f ∧ okF g
  | .q _ x f => okS' x = true ∧ okF f
theorem dep_not (f : Fm) : dep (.not f) = dep f + 1 := rfl
theorem dep_bin (a : Bool) (f g : Fm) : dep (.bin a f g) = max (dep f) (dep g) + 1 := rfl
theorem dep_q (w : Qw) (x : Bs) (f : Fm) : dep (.q w x f) = dep f + 1 := rfl
theorem okq_str {n : Nat} {s : Bs} (h : okS' s = true) : okq n (.str s) = true := by cases n <;> exact h
theorem okq_int {n : Nat} {i : Int} : okq n (.int i) = true := by cases n <;> rfl
theorem okq_enc : ∀ (f : Fm) (n : Nat), okF f → dep f ≤ n → okq n (enc f) = true
  | f, 0, _, h => by have := dep_pos f; omega
  | .at_ a, n + 1, h, _ => by
    cases a with
    | inside a b => simp [enc, encA, okq, SZ, okq_str (n := n) h.1, okq_str (n := n) h.2, okq_str (n := n) (s := [105, 110, 115, 105, 100, 101]) (by decide)]
    | inn a b => simp [enc, encA, okq, SZ, okq_str (n := n) h.1, okq_str (n := n) h.2, okq_str (n := n) (s := [105, 110]) (by decide)]
    | tru => simp [enc, encA, okq, SZ, okq_str (n := n) (s := [116, 114, 117, 101]) (by decide)]
    | label l x => simp [enc, encA, okq, SZ, okq_str (n := n) h.1, okq_str (n := n) h.2, okq_str (n := n) (s := [108, 97, 98, 101, 108]) (by decide)]
    | top x => simp [enc, encA, okq, SZ, okq_str (n := n) (show okS' x = true from h), okq_str (n := n) (s := [116, 111, 112]) (by decide)]
    | same x y => simp [enc, encA, okq, SZ, okq_str (n := n) h.1, okq_str (n := n) h.2, okq_str (n := n) (s := [115, 97, 109, 101]) (by decide)]
    | child w x y => simp [enc, encA, okq, SZ, okq_str (n := n) h.1, okq_str (n := n) h.2, okq_int (n := n) (i := w), okq_str (n := n) (s := [99, 104, 105, 108, 100]) (by decide)]
    | below x y => simp [enc, encA, okq, SZ, okq_str (n := n) h.1, okq_str (n := n) h.2, okq_str (n := n) (s := [98, 101, 108, 111, 119]) (by decide)]
  | .not f, n + 1, h, hd => by
    have := okq_enc f n h (by simp only [dep_not, dep_bin, dep_q] at hd; omega)
    simp [enc, okq, SZ, this, okq_str (n := n) (s := [110, 111, 116]) (by decide)]
  | .bin an f g, n + 1, h, hd => by
    have e1 := okq_enc f n h.1 (by simp only [dep_not, dep_bin, dep_q] at hd; omega)
    have e2 := okq_enc g n h.2 (by simp only [dep_not, dep_bin, dep_q] at hd; omega)
    simp [enc, okq, SZ, e1, e2, okq_str (n := n) (s := encB an) (by cases an <;> decide)]
  | .q w x f, n + 1, h, hd => by
    have e1 := okq_enc f n h.2 (by simp only [dep_not, dep_bin, dep_q] at hd; omega)
    simp [enc, okq, SZ, e1, okq_str (n := n) h.1, okq_str (n := n) (s := encQ w) (by cases w <;> decide)]
/-- a list of the free variables, ascending -/
noncomputable def FVL (f : Fm) (ys : List Bs) : Prop := ys.Nodup ∧ (ys.Pairwise fun a b => ¬ b < a) ∧ ∀ k, k ∈ ys ↔ FV f k
theorem srt_uniq {xs ys : List Bs} (h1 : xs.Nodup) (h2 : xs.Pairwise fun a b => ¬ b < a) (g1 : ys.Nodup) (g2 : ys.Pairwise fun a b => ¬ b < a) (h : ∀ k, k ∈ xs ↔ k ∈ ys) : xs = ys := by
  have p : xs.Perm ys := by
    have l1 : xs.length ≤ ys.length := len_sub h1 fun x hx => (h x).mp hx
    exact perm_of_cover g1 (fun x hx => (h x).mpr hx) l1
  exact perm_sorted (le := fun a b => ¬ b < a) (fun a b x y => List.le_antisymm x y) (fun a => List.lt_irrefl a) p h2 g2
where len_sub : ∀ {xs ys : List Bs}, xs.Nodup → (∀ x ∈ xs, x ∈ ys) → xs.length ≤ ys.length
  | [], _, _, _ => Nat.zero_le _
  | x :: xs, ys, nd, h => by
    obtain ⟨n1, n2⟩ := List.nodup_cons.mp nd
    have hx := h x List.mem_cons_self
    have hl := (List.perm_cons_erase hx).length_eq
    rw [List.length_cons] at hl ⊢
    have := len_sub n2 (fun y hy => (List.mem_erase_of_ne (fun e => n1 (by rw [← e]; exact hy))).mpr (h y (List.mem_cons_of_mem _ hy)) : ∀ y ∈ xs, y ∈ ys.erase x)
    omega
theorem FVL.len {f : Fm} {ys : List Bs} (h : FVL f ys) : ys.length = (lfree f).length := by
  obtain ⟨a, b⟩ := lfree_ok f
  have l1 := srt_uniq.len_sub h.1 fun k hk => (b k).mpr ((h.2.2 k).mp hk)
  have l2 := srt_uniq.len_sub a fun k hk => (h.2.2 k).mpr ((b k).mp hk)
  omega
theorem strs_map : ∀ (l : List Bs), strsD (l.map .str) = some l
  | [] => rfl
  | s :: l => by rw [List.map_cons, strsD, strs_map l]; rfl
section
variable {P : Pg} {q : QD} {k : Nat}
/-! ### free variables -/
/-- the dict of found names -/
noncomputable def FD (kvs : List (D × D)) (p : Bs → Prop) : Prop := ∃ ns : List Bs, kvs = ns.map (fun n => (.str n, .bl true)) ∧ ns.Nodup ∧ ∀ k, k ∈ ns ↔ p k
theorem FD.put {kvs : List (D × D)} {p : Bs → Prop} (h : FD kvs p) (x : Bs) : FD (putD kvs (.str x) (.bl true)) fun k => p k ∨ k = x := by
  obtain ⟨ns, rfl, nd, hm⟩ := h
  have gen : ∀ ns : List Bs, putD (ns.map fun n => (D.str n, D.bl true)) (.str x) (.bl true) = (if x ∈ ns then ns else ns ++ [x]).map fun n => (D.str n, D.bl true) := by
    intro ns
    induction ns with
    | nil => rfl
    | cons n ns ih =>
      rw [List.map_cons]
      unfold putD
      by_cases e : n = x
      · subst e
        rw [if_pos (by simp [keyb]), if_pos List.mem_cons_self]; rfl
      · rw [if_neg (by simpa [keyb] using e), ih]
        by_cases c : x ∈ ns
        · rw [if_pos c, if_pos (List.mem_cons_of_mem _ c)]; rfl
        · rw [if_neg c, if_neg (fun z => by
            rcases List.mem_cons.mp z with z | z
            · exact e z.symm
            · exact c z)]; rfl
  refine ⟨_, gen ns, ?_, fun k => ?_⟩
  · split
    · exact nd
    · next c => exact List.nodup_append.mpr ⟨nd, by simp, fun a ha b hb e => c (by rw [← show b = x by simpa using hb, ← e]; exact ha)⟩
  · split
    · next c =>
      rw [hm k]
      constructor
      · exact .inl
      · rintro (h | rfl)
        · exact h
        · exact (hm _).mp c
    · rw [List.mem_append, hm k, List.mem_singleton]
theorem FD.drop {kvs : List (D × D)} {p : Bs → Prop} (h : FD kvs p) (x : Bs) : FD (dropD kvs (.str x)) fun k => p k ∧ k ≠ x := by
  obtain ⟨ns, rfl, nd, hm⟩ := h
  refine ⟨ns.filter fun n => decide (n ≠ x), ?_, nd.filter _, fun k => by rw [List.mem_filter, hm k, decide_eq_true_eq]⟩
  unfold dropD
  rw [List.filter_map]
  congr 1
  refine List.filter_congr fun n _ => ?_
  show (!(n == x)) = decide (n ≠ x)
  by_cases e : n = x <;> simp [e]
theorem FD.keys {kvs : List (D × D)} {p : Bs → Prop} (h : FD kvs p) : ∃ ns : List Bs, kvs.length = ns.length ∧ strsD (kvs.map (·.1)) = some ns ∧ ns.Nodup ∧ ∀ k, k ∈ ns ↔ p k := by
  obtain ⟨ns, rfl, nd, hm⟩ := h
  refine ⟨ns, by rw [List.length_map], ?_, nd, hm⟩
  rw [List.map_map]
  exact strs_map ns
theorem FD.none {kvs : List (D × D)} {p : Bs → Prop} (h : FD kvs p) {x : Bs} (e : lookD kvs (.str x) = none) : ¬ p x := by
  obtain ⟨ns, rfl, nd, hm⟩ := h
  intro hp
  have hx := (hm x).mpr hp
  have gen : ∀ ns : List Bs, x ∈ ns → (lookD (ns.map fun n => (D.str n, D.bl true)) (.str x)).isSome = true := by
    intro ns
    induction ns with
    | nil => intro h; cases h
    | cons n ns ih =>
      intro h
      rw [List.map_cons]
      unfold lookD
      by_cases c : keyb (.str n) (.str x) = true
      · rw [if_pos c]; rfl
      · rw [if_neg c]
        rcases List.mem_cons.mp h with h | h
        · exact absurd (by simp [keyb, h]) c
        · exact ih h
  have := gen ns hx
  rw [e] at this
  cases this
theorem FD.congr {kvs : List (D × D)} {p r : Bs → Prop} (h : FD kvs p) (e : ∀ k, p k ↔ r k) : FD kvs r := by
  obtain ⟨ns, a, b, c⟩ := h
  exact ⟨ns, a, b, fun k => (c k).trans (e k)⟩
theorem FD.len {kvs : List (D × D)} {p : Bs → Prop} (h : FD kvs p) {l : List Bs} (hl : ∀ k, p k → k ∈ l) : kvs.length ≤ l.length := by
  obtain ⟨ns, rfl, nd, hm⟩ := h
  rw [List.length_map]
  exact srt_uniq.len_sub nd fun k hk => hl k ((hm k).mp hk)
end
end U
/-! U9: free variables; what fits a kind; the program's checks. -/
namespace U
open PySem DL
local macro_rules | `(tactic| and_intros) => `(tactic| repeat (first | refine ⟨_, rfl, ?_⟩ | refine ⟨rfl, ?_⟩))
/-- names no longer than a line -/
noncomputable def shF : Fm → Prop
  | .at_ a => ∀ k ∈ avars a, k.length ≤ SZ
  | .not f => shF f
  | .bin _ f g => shF f ∧ shF g
  | .q _ _ f => shF f
/-- the names free in the parts -/
noncomputable def inl (f : Fm) : List Bs := (inner f).flatMap lfree
section
variable {P : Pg}
/-! ### what fits a kind -/
theorem any_str (acc : List Bs) (x : Bs) : ((acc.map D.str).any fun z => dEq z (.str x)) = decide (x ∈ acc) := by
  induction acc with
  | nil => rfl
  | cons a acc ih =>
    rw [List.map_cons, List.any_cons, ih]
    have : dEq (.str a) (.str x) = decide (x = a) := by
      show (a == x) = _
      by_cases e : x = a
      · simp [e]
      · simp [e, Ne.symm e]
    rw [this]
    by_cases e : x = a <;> by_cases c : x ∈ acc <;> simp [e, c]
end
end U
/-! U10: the laws' own free variables, depth, fitness. -/
namespace U
open PySem DL
local macro_rules | `(tactic| and_intros) => `(tactic| repeat (first | refine ⟨_, rfl, ?_⟩ | refine ⟨rfl, ?_⟩))
section
variable {P : Pg} {q : QD} {k : Nat}
end
end U
/-! U11: the laws' own fitness; what the program is told. -/
namespace U
open PySem DL
local macro_rules | `(tactic| and_intros) => `(tactic| repeat (first | refine ⟨_, rfl, ?_⟩ | refine ⟨rfl, ?_⟩))
mutual
theorem sameD_refl : ∀ (n : Nat) (d : D), okq n d = true → sameD d d = true
  | n, .non, _ => rfl
  | n, .bl b, _ => by show (b == b) = true; simp
  | n, .int i, _ => by show (i == i) = true; simp
  | n, .str s, _ => by show (s == s) = true; simp
  | n + 1, .tup xs, h => by
    have h : (decide (xs.length ≤ SZ) && xs.all (okq n)) = true := h
    rw [Bool.and_eq_true] at h
    exact sameL_refl n xs (List.all_eq_true.mp h.2)
  | n + 1, .lst xs, h => by
    have h : (decide (xs.length ≤ SZ) && xs.all (okq n)) = true := h
    rw [Bool.and_eq_true] at h
    exact sameL_refl n xs (List.all_eq_true.mp h.2)
  | 0, .tup _, h => by cases h
  | 0, .lst _, h => by cases h
  | n, .dct _, h => by cases n <;> cases h
  | n, .ref _, h => by cases n <;> cases h
  | n, .opq _ _ _, h => by cases n <;> cases h
theorem sameL_refl : ∀ (n : Nat) (xs : List D), (∀ x ∈ xs, okq n x = true) → sameL xs xs = true
  | _, [], _ => rfl
  | n, x :: xs, h => by
    rw [sameL, sameD_refl n x (h x List.mem_cons_self), sameL_refl n xs fun y hy => h y (List.mem_cons_of_mem _ hy)]
    rfl
end
theorem eN_len {x : Bs} (h : eN x = true) : x.length ≤ SZ := by
  cases x with
  | nil => exact Nat.zero_le _
  | cons c r =>
    simp only [eN, Bool.and_eq_true, decide_eq_true_eq] at h
    show r.length + 1 ≤ 16777216
    omega
theorem sN_len {x : Bs} (h : sN x = true) : x.length ≤ SZ := by
  cases x with
  | nil => exact Nat.zero_le _
  | cons c r =>
    simp only [sN, Bool.and_eq_true, decide_eq_true_eq] at h
    show r.length + 1 ≤ 16777216
    omega
theorem all_cons {X : List Bs} {p : Bs → Prop} {x : Bs} (h : p x) (g : ∀ z ∈ X, p z) : ∀ z ∈ x :: X, p z := fun z hz => by
  rcases List.mem_cons.mp hz with e | e
  · rw [e]; exact h
  · exact g z e
theorem WS.good {ways : Int} {labels : List Bs} (hl : ∀ l ∈ labels, okS' l = true) : ∀ {f : Fm} {X Y : List Bs}, WS ways labels X Y f → (∀ x ∈ X, okS' x = true ∧ eN x = true) → (∀ y ∈ Y, okS' y = true ∧ sN y = true) → okF f ∧ shF f
  | .at_ a, X, Y, h, hx, hy => by
    have e1 := fun x h => eN_len (hx x h).2
    have e2 := fun x h => sN_len (hy x h).2
    cases a with
    | inside a b => exact ⟨⟨(hy _ h.1).1, (hy _ h.2).1⟩, all_cons (e2 _ h.1) (all_cons (e2 _ h.2) (by simp))⟩
    | inn a b => exact ⟨⟨(hx _ h.1).1, (hy _ h.2).1⟩, all_cons (e1 _ h.1) (all_cons (e2 _ h.2) (by simp))⟩
    | tru => exact ⟨trivial, by simp [shF, avars]⟩
    | label l x => exact ⟨⟨hl _ h.2, (hx _ h.1).1⟩, all_cons (e1 _ h.1) (by simp)⟩
    | top x => exact ⟨(hx _ h).1, all_cons (e1 _ h) (by simp)⟩
    | same x y => exact ⟨⟨(hx _ h.1).1, (hx _ h.2).1⟩, all_cons (e1 _ h.1) (all_cons (e1 _ h.2) (by simp))⟩
    | child w x y => exact ⟨⟨(hx _ h.1).1, (hx _ h.2.1).1⟩, all_cons (e1 _ h.1) (all_cons (e1 _ h.2.1) (by simp))⟩
    | below x y => exact ⟨⟨(hx _ h.1).1, (hx _ h.2).1⟩, all_cons (e1 _ h.1) (all_cons (e1 _ h.2) (by simp))⟩
  | .not f, X, Y, h, hx, hy => WS.good hl (f := f) h hx hy
  | .bin _ f g, X, Y, h, hx, hy => by
    obtain ⟨a, b⟩ := WS.good hl (f := f) h.1 hx hy
    obtain ⟨c, d⟩ := WS.good hl (f := g) h.2 hx hy
    exact ⟨⟨a, c⟩, b, d⟩
  | .q .some x f, X, Y, h, hx, hy => by
    obtain ⟨a, b⟩ := WS.good hl (f := f) h.2 (all_cons h.1 hx) hy
    exact ⟨⟨h.1.1, a⟩, b⟩
  | .q .all x f, X, Y, h, hx, hy => by
    obtain ⟨a, b⟩ := WS.good hl (f := f) h.2 (all_cons h.1 hx) hy
    exact ⟨⟨h.1.1, a⟩, b⟩
  | .q .someset x f, X, Y, h, hx, hy => by
    obtain ⟨a, b⟩ := WS.good hl (f := f) h.2 hx (all_cons h.1 hy)
    exact ⟨⟨h.1.1, a⟩, b⟩
  | .q .allset x f, X, Y, h, hx, hy => by
    obtain ⟨a, b⟩ := WS.good hl (f := f) h.2 hx (all_cons h.1 hy)
    exact ⟨⟨h.1.1, a⟩, b⟩
section
variable {P : Pg} {q : QD} {k : Nat}
end
end U
/-! UI: instances' fields, dicts of either sort. -/
namespace U
open PySem DL
theorem putf_ins {S : Sto} {p : Addr} {c f : Bs} {fs : List (Bs × D)} {v : D} {k : Sto → Prop} (h : S p = some (.ins c fs)) (hl : fs.length < 1000) (q : k (ups S p (.ins c (putFd fs f v)))) :
    match S p with
      | some (.ins c' fs) => (c' = c ∧ fs.length < 1000) ∧ k (ups S p (.ins c (putFd fs f v)))
      | _ => False := by
  simp only [h]
  exact ⟨⟨trivial, hl⟩, q⟩
theorem fld_ins {S : Sto} {p : Addr} {c f : Bs} {fs : List (Bs × D)} {d : D} {t : Bool} {Q : QD} (h : S p = some (.ins c fs)) (hl : lookF fs f = some d) (q : fin t d S Q) :
    match S p with
      | some (.ins c' fs) => c' = c ∧ ∃ d, lookF fs f = some d ∧ fin t d S Q
      | _ => False := by
  simp only [h]
  exact ⟨trivial, d, hl, q⟩
theorem augf_ins {G : Gx} {e : E} {ρ : DL.Env} {S : Sto} {p : Addr} {c f : Bs} {fs : List (Bs × D)} {d : D} {op : Op2} {k : Sto → Prop} (h : S p = some (.ins c fs)) (hl : lookF fs f = some d)
    (q : wE G e ρ S fun y S2 => wAug op d y fun z => match S2 p with
        | some (.ins c2 fs2) => (c2 = c ∧ fs2.length < 1000) ∧ k (ups S2 p (.ins c (putFd fs2 f z)))
        | _ => False) :
    match S p with
      | some (.ins c' fs) => c' = c ∧ ∃ d, lookF fs f = some d ∧ wE G e ρ S fun y S2 => wAug op d y fun z => match S2 p with
        | some (.ins c2 fs2) => (c2 = c ∧ fs2.length < 1000) ∧ k (ups S2 p (.ins c (putFd fs2 f z)))
        | _ => False
      | _ => False := by
  simp only [h]
  exact ⟨trivial, d, hl, q⟩
/-! ### dicts of either sort -/
end U
/-! U12: machines: marks, signs, rows. -/
namespace U
open PySem DL
local macro_rules | `(tactic| and_intros) => `(tactic| repeat (first | refine ⟨_, rfl, ?_⟩ | refine ⟨rfl, ?_⟩))
noncomputable def marks : Nat → List (List Int)
  | 0 => [[]]
  | n + 1 => (marks n).flatMap fun m => [m ++ [0], m ++ [1]]
/-- the signs in order -/
noncomputable abbrev Sg := Bs × List Int
noncomputable def sgs (labels : List Bs) (n : Nat) : List Sg := labels.flatMap fun l => (marks n).map fun m => (l, m)
section
variable {P : Pg} {q : QD} {k : Nat}
end
end U
/-! U13: machines: their tables, runs. -/
namespace U
open PySem DL
local macro_rules | `(tactic| and_intros) => `(tactic| repeat (first | refine ⟨_, rfl, ?_⟩ | refine ⟨rfl, ?_⟩))
structure Mac where
  ways : Nat
  labels : List Bs
  tr : Nat
  n : Nat
  δ : Nat → List Nat → Nat
  good : Nat → Bool
noncomputable def rowD : Nat → Nat → (List Nat → Nat) → List Nat → D
  | 0, _, f, acc => .int (f acc)
  | l + 1, n, f, acc => .tup ((List.range n).map fun s => rowD l n f (acc ++ [s]))
noncomputable def kdD (ways : Nat) (labels : List Bs) : D := .tup [.int ways, .tup (labels.map .str)]
noncomputable def Mac.nrows (M : Mac) : Nat := (sgs M.labels M.tr).length
noncomputable def Mac.enc (M : Mac) : D := .tup [kdD M.ways M.labels, .int M.tr, .tup ((List.range M.nrows).map fun r => rowD M.ways M.n (M.δ r) []), .tup ((List.range M.n).map fun s => .bl (M.good s))]
noncomputable def Mac.ix (M : Mac) (g : Sg) : Nat := (sgs M.labels M.tr).idxOf g
structure Mac.Ok (M : Mac) : Prop where
  ways : M.ways = 1 ∨ M.ways = 2
  len : M.labels.length ≤ 3
  nd : M.labels.Nodup
  ok : ∀ l ∈ M.labels, okS' l = true
  tr : M.tr ≤ 7
  pos : 0 < M.n
  n : M.n ≤ 300
  δ : ∀ r cs, M.δ r cs < M.n
/-- marked shapes -/
inductive MS where
  | e | n1 (g : Sg) (c : MS) | n2 (g : Sg) (a b : MS)
deriving DecidableEq
noncomputable def Mac.run (M : Mac) : MS → Nat
  | .e => 0
  | .n1 g c => M.δ (M.ix g) [M.run c]
  | .n2 g a b => M.δ (M.ix g) [M.run a, M.run b]
/-! ### the rows by their signs -/
section
variable {P : Pg} {q : QD} {k : Nat}
/-! ### what stands above children -/
/-! ### runs -/
noncomputable abbrev natD (c : Nat) : D := .int (c : Nat)
theorem subUps {S0 S : Sto} {p : Addr} {o : DO} (h : Sub S0 S) (n : S0 p = none) : Sub S0 (DL.ups S p o) := fun b o' e => by
  have : b ≠ p := fun e2 => by rw [e2, n] at e; cases e
  rw [ups_ne this]
  exact h b o' e
end
end U
/-! U14: marked shapes; machines that are drawn. -/
namespace U
open PySem DL
local macro_rules | `(tactic| and_intros) => `(tactic| repeat (first | refine ⟨_, rfl, ?_⟩ | refine ⟨rfl, ?_⟩))
section
variable {P : Pg} {k : Nat}
end
end U
/-! U114: the walks of tokens and of the reader's parts. -/
namespace U
open PySem DL
noncomputable def srtS : Srt → Bs
  | .word => [119, 111, 114, 100]
  | .name => [110, 97, 109, 101]
  | .sign => [115, 105, 103, 110]
  | .wrong => [119, 114, 111, 110, 103]
noncomputable def encT (t : Tok) : D := .tup [.str (srtS t.k), .str t.s, .int (t.at' : Nat)]
noncomputable abbrev cRd : Bs := [82, 101, 97, 100, 101, 114]
noncomputable abbrev fFnd : Bs := [102, 111, 117, 110, 100]
noncomputable abbrev fAtt : Bs := [97, 116]
theorem takeWhile_app {p : Nat → Bool} : ∀ {u v : Bs}, (∀ c ∈ u, p c = true) → (v = [] ∨ ∃ d r, v = d :: r ∧ p d = false) → (u ++ v).takeWhile p = u
  | [], v, _, h => by
    rcases h with rfl | ⟨d, r, rfl, e⟩
    · rfl
    · rw [List.nil_append, List.takeWhile_cons, e]; rfl
  | c :: u, v, hu, h => by
    rw [List.cons_append, List.takeWhile_cons, if_pos (hu c List.mem_cons_self), takeWhile_app (fun x hx => hu x (List.mem_cons_of_mem _ hx)) h]
theorem cut_mid (pre w v : Bs) : cutD (pre ++ (w ++ v)) (some (pre.length : Nat)) (some ((pre.length + w.length : Nat))) = w := by
  unfold cutD
  rw [HT.sIx_nat, HT.sIx_nat, Nat.min_eq_left (by rw [List.length_append, List.length_append]; omega), Nat.min_eq_left (by rw [List.length_append, List.length_append]; omega), List.drop_left, show pre.length + w.length - pre.length = w.length by omega, List.take_left]
theorem at_mid (pre : Bs) (c : Nat) (r : Bs) : atD (pre ++ c :: r) ((pre.length : Nat) : Int) = some c := by
  rw [atD_nat, List.getElem?_append_right (Nat.le_refl _), Nat.sub_self]
  rfl
theorem any_wrd (w : Bs) : ([.str truT, .str notT, .str andT, .str orT, .str somT, .str allT, .str innT, .str insT, .str belT, .str samT, .str topT, .str chiT, .str labT] : List D).any (fun z => dEq z (.str w)) = decide (w ∈ wrdL) := any_str wrdL w
theorem okS_cut {x : Bs} (h : okS' x = true) (lo hi : Option Int) : okS' (cutD x lo hi) = true := by
  refine List.all_eq_true.mpr fun c hc => ?_
  unfold cutD at hc
  exact List.all_eq_true.mp h c (List.drop_subset _ _ (List.take_subset _ _ hc))
theorem subDel' {S S' : Sto} {p : Addr} (h : DL.Sub S S') (n : S p = none) : DL.Sub S (DL.del S' p) := fun a ob e => by
  have : a ≠ p := fun z => by rw [z, n] at e; cases e
  rw [del_ne this]
  exact h a ob e
section
variable {P : Pg} {k : Nat} {q : QD}
noncomputable abbrev tBody : List DL.S := f_tokens.body
/-- the loop's body -/
noncomputable abbrev tkB : List DL.S := match tBody.drop 2 with | .loop _ b :: _ => b | _ => []
set_option maxHeartbeats 1000000 in
theorem w_tokens (H : Up_tokens P) {x : Bs} (hx : okS' x = true) (hl : x.length ≤ 1000000) {S : Sto} (qx : QX) (hk : 1 ≤ k) (h : q (.lst ((tok x).map encT)) S) : P.spec k 216 [.str x] S q qx := by
  obtain ⟨k, rfl⟩ : ∃ j, k = j + 1 := ⟨k - 1, by omega⟩
  refine Pg.spec_fgt H.self rfl ?_
  refine fun pl hpl => ?_
  refine while_ind (fun (z : Bs × Bs) ρ S' => z.1 ++ z.2 = x ∧ ∃ dn x3 x4, ρ = [some (.str x), some (.ref pl), some (natD z.1.length), x3, x4] ∧ S' pl = some (.lst (dn.map encT)) ∧ tok x = dn ++ tkA z.1.length z.2 ∧ DL.Sub S S' ∧ dn.length ≤ z.1.length) (fun z => z.2.length) ?_ (a := ([], x)) ⟨rfl, [], none, none, rfl, ups_same, rfl, subUps (DL.Sub.refl S) hpl, Nat.le_refl _⟩
  rintro ⟨pre, y⟩ ρ S1 ⟨hxy, dn, x3, x4, rfl, hp1, ht, sb, hdl⟩ kk hkk
  have hxy : pre ++ y = x := hxy
  subst hxy
  have hdl : dn.length ≤ pre.length := hdl
  have hp1 : S1 pl = some (.lst (dn.map encT)) := hp1
  have hal := hl
  rw [List.length_append] at hal
  refine ⟨_, rfl, _, rfl, _, rfl, ?_⟩
  cases y with
  | nil =>
    have e1 : decide (((pre.length : Nat) : Int) < (((pre ++ []).length : Nat) : Int)) = false := decide_eq_false (by rw [List.append_nil]; omega)
    refine if_f e1 ?_
    refine ⟨_, rfl, frz_lst hp1 ?_⟩
    have ht : tok (pre ++ []) = dn ++ tkA pre.length [] := ht
    rw [tkA_nil] at ht
    rw [ht.trans (List.append_nil dn)] at h
    exact ⟨S, subDel' sb hpl, h⟩
  | cons c r =>
    rw [List.length_cons] at hal
    have e1 : decide (((pre.length : Nat) : Int) < (((pre ++ c :: r).length : Nat) : Int)) = true := decide_eq_true (by rw [List.length_append, List.length_cons]; omega)
    refine if_t e1 ?_
    have ht : tok (pre ++ c :: r) = dn ++ tkA pre.length (c :: r) := ht
    rw [tkA_cons] at ht
    refine ⟨_, rfl, _, rfl, c, at_mid pre c r, ?_⟩
    refine ⟨_, rfl, ?_⟩
    -- the end of a turn
    have next : ∀ (w v : Bs) (dn2 : List Tok) (S2 : Sto) (y3 : Option D) (B : DL.Env → Sto → Prop), c :: r = w ++ v → w ≠ [] → tok (pre ++ c :: r) = dn2 ++ tkA (pre.length + w.length) v → dn2.length ≤ dn.length + 1 → S2 pl = some (.lst (dn2.map encT)) → DL.Sub S S2 →
        wSs (P.G k fun c d S' => ∃ S2, DL.Sub S2 S' ∧ qx c d S2) (tkB.drop 3) [some (.str (pre ++ c :: r)), some (.ref pl), some (natD pre.length), y3, some (.int (((pre.length + w.length : Nat)) : Int))] S2 { nx := kk, rt := fun d S' => ∃ S2, DL.Sub S2 S' ∧ q d S2, bk := B, ct := kk } := fun w v dn2 S2 y3 B ew wn eh dl hp2 s2 => by
      have wp : 0 < w.length := List.length_pos_iff.mpr wn
      have el := congrArg List.length ew
      rw [List.length_cons, List.length_append] at el
      refine ⟨_, rfl, hkk (pre ++ w, v) _ _ ⟨by show (pre ++ w) ++ v = _; rw [List.append_assoc, ew], dn2, y3, some (D.int (((pre.length + w.length : Nat)) : Int)), ?_, hp2, ?_, s2, ?_⟩ ?_⟩
      · exact congrArg (fun d => [some (D.str (pre ++ c :: r)), some (D.ref pl), some (D.int d), y3, some (D.int (((pre.length + w.length : Nat)) : Int))]) (show (((pre.length + w.length : Nat)) : Int) = (((pre ++ w).length : Nat) : Int) by rw [List.length_append])
      · show tok _ = dn2 ++ tkA (pre ++ w).length v
        rw [List.length_append]; exact eh
      · show dn2.length ≤ (pre ++ w).length
        rw [List.length_append]; omega
      · show v.length < (c :: r).length
        rw [List.length_cons]; omega
    have one : D.int (((pre.length : Nat) : Int) + 1) = .int (((pre.length + 1 : Nat)) : Int) := congrArg D.int (by omega)
    refine ⟨_, rfl, ?_⟩
    refine if_c (fun c1 => ?_) fun c1 => ?_
    · have c1 := of_decide_eq_true c1
      have eh : hdT c r = some (if c :: r.takeWhile isAl ∈ wrdL then Srt.word else .name, c :: r.takeWhile isAl) := by unfold hdT; rw [if_pos c1]
      rw [eh] at ht
      refine while_ind (fun (z : Bs × Bs) ρ S' => z.1 ++ z.2 = r ∧ (∀ c ∈ z.1, isAl c = true) ∧ ρ = [some (.str (pre ++ c :: r)), some (.ref pl), some (natD pre.length), some (.str [c]), some (.int (((pre.length + (c :: z.1).length : Nat)) : Int))] ∧ S' = S1) (fun z => z.2.length) ?_ (a := ([], r)) ⟨rfl, fun _ h => (by cases h), congrArg (fun d => [_, _, _, _, some d]) one, rfl⟩
      rintro ⟨u, v⟩ ρ S2 ⟨huv, hu, rfl, rfl⟩ k2 hk2
      have huv : u ++ v = r := huv
      subst huv
      have e5 : pre ++ c :: (u ++ v) = (pre ++ c :: u) ++ v := by simp
      have e6 : (pre ++ c :: u).length = pre.length + (c :: u).length := List.length_append
      refine ⟨_, rfl, _, rfl, _, rfl, ?_⟩
      -- the token is whole
      have stop : (v = [] ∨ ∃ d r, v = d :: r ∧ isAl d = false) → ∀ (B : DL.Env → Sto → Prop), wSs (P.G k fun c d S' => ∃ S2, DL.Sub S2 S' ∧ qx c d S2) [.app (.var 1) (.tup (.cons (.ite (.cmp .isin (.sl (.var 0) (.some (.var 2)) (.some (.var 4))) (.glb "WORDS" (.tup [.str truT, .str notT, .str andT, .str orT, .str somT, .str allT, .str innT, .str insT, .str belT, .str samT, .str topT, .str chiT, .str labT]))) (.str [119, 111, 114, 100]) (.str [110, 97, 109, 101])) (.cons (.sl (.var 0) (.some (.var 2)) (.some (.var 4))) (.cons (.var 2) .nil))))] [some (.str (pre ++ c :: (u ++ v))), some (.ref pl), some (natD pre.length), some (.str [c]), some (.int (((pre.length + (c :: u).length : Nat)) : Int))] S2 { nx := fun ρ' S' => wSs (P.G k fun c d S' => ∃ S2, DL.Sub S2 S' ∧ qx c d S2) (tkB.drop 3) ρ' S' { nx := kk, rt := fun d S' => ∃ S2, DL.Sub S2 S' ∧ q d S2, bk := B, ct := kk }, rt := fun d S' => ∃ S2, DL.Sub S2 S' ∧ q d S2, bk := B, ct := kk } := fun hv B => by
        have ew : (u ++ v).takeWhile isAl = u := takeWhile_app hu hv
        rw [ew] at ht
        have ecut : cutD (pre ++ c :: (u ++ v)) (some ((pre.length : Nat) : Int)) (some (((pre.length + (c :: u).length : Nat)) : Int)) = c :: u := cut_mid pre (c :: u) v
        have ow : okS' (c :: u) = true := by rw [← ecut]; exact okS_cut hx _ _
        have fin : ∀ k3 : Srt, (if c :: u ∈ wrdL then Srt.word else .name) = k3 → ∃ ds, S2 pl = some (.lst ds) ∧ ds.length < SZ ∧ wSs (P.G k fun c d S' => ∃ S2, DL.Sub S2 S' ∧ qx c d S2) (tkB.drop 3) [some (.str (pre ++ c :: (u ++ v))), some (.ref pl), some (natD pre.length), some (.str [c]), some (.int (((pre.length + (c :: u).length : Nat)) : Int))] (ups S2 pl (.lst (ds ++ [.tup [.str (srtS k3), .str (c :: u), natD pre.length]]))) { nx := kk, rt := fun d S' => ∃ S2, DL.Sub S2 S' ∧ q d S2, bk := B, ct := kk } := fun k3 e3 => by
          refine ⟨_, hp1, by rw [List.length_map]; show _ < 16777216; omega, ?_⟩
          refine next (c :: u) v (dn ++ [⟨k3, c :: u, pre.length⟩]) _ _ B rfl (List.cons_ne_nil _ _) ?_ (by rw [List.length_append]; exact Nat.le_refl _) (by rw [ups_same, List.map_append]; rfl) (subUps sb hpl)
          have ht2 : tok (pre ++ c :: (u ++ v)) = dn ++ (⟨if c :: u ∈ wrdL then Srt.word else .name, c :: u, pre.length⟩ :: tkA (pre.length + (c :: u).length) ((c :: (u ++ v)).drop (c :: u).length)) := ht
          rw [ht2, e3, List.append_assoc, show (c :: (u ++ v)).drop (c :: u).length = v from List.drop_left (l₁ := c :: u)]
          rfl
        refine ⟨_, rfl, pl, rfl, ⟨_, hp1⟩, ?_⟩
        refine ⟨_, rfl, _, rfl, _, rfl, by rw [ecut]; exact okd_str' ow, rfl, ?_⟩
        rw [ecut, any_wrd]
        refine if_c (fun c2 => ?_) fun c2 => ?_
        · refine ⟨_, rfl, _, rfl, _, rfl, _, rfl, ?_⟩
          rw [ecut]
          exact fin .word (if_pos (of_decide_eq_true c2))
        · refine ⟨_, rfl, _, rfl, _, rfl, _, rfl, ?_⟩
          rw [ecut]
          exact fin .name (if_neg (of_decide_eq_false c2))
      cases v with
      | nil =>
        have e1 : decide ((((pre.length + (c :: u).length : Nat)) : Int) < (((pre ++ c :: (u ++ [])).length : Nat) : Int)) = false := decide_eq_false (by rw [List.append_nil, List.length_append]; omega)
        refine if_f e1 ?_
        refine if_f e1 ?_
        exact stop (.inl rfl) _
      | cons d v =>
        have e1 : decide ((((pre.length + (c :: u).length : Nat)) : Int) < (((pre ++ c :: (u ++ d :: v)).length : Nat) : Int)) = true := decide_eq_true (by simp only [List.length_append, List.length_cons]; omega)
        have at2 : atD (pre ++ c :: (u ++ d :: v)) (((pre.length + (c :: u).length : Nat)) : Int) = some d := by rw [e5, ← e6]; exact at_mid _ _ _
        refine if_t e1 ?_
        -- one more
        have more : isAl d = true → ∃ x, DL.get [some (.str (pre ++ c :: (u ++ d :: v))), some (.ref pl), some (natD pre.length), some (.str [c]), some (.int (((pre.length + (c :: u).length : Nat)) : Int))] 4 = some x ∧ wAug .add x (.int 1) fun z => k2 (put [some (.str (pre ++ c :: (u ++ d :: v))), some (.ref pl), some (natD pre.length), some (.str [c]), some (.int (((pre.length + (c :: u).length : Nat)) : Int))] 4 z) S2 := fun ha => by
          refine ⟨_, rfl, hk2 (u ++ [d], v) _ _ ⟨by simp, fun x hx => ?_, ?_, rfl⟩ (Nat.lt_succ_self _)⟩
          · rcases List.mem_append.mp hx with hx | hx
            · exact hu x hx
            · rw [List.mem_singleton.mp hx]; exact ha
          · refine congrArg (fun d => [_, _, _, _, some (D.int d)]) ?_
            rw [List.length_cons, List.length_cons, List.length_append, List.length_singleton]
            omega
        refine ⟨_, rfl, _, rfl, d, at2, ?_⟩
        by_cases d1 : d ∈ letT
        · refine if_nf (decide_eq_true d1) ?_
          refine if_t (decide_eq_true d1) ?_
          exact more (by unfold isAl; rw [decide_eq_true d1]; rfl)
        · refine if_nt (decide_eq_false d1) ?_
          refine ⟨_, rfl, _, rfl, d, at2, ?_⟩
          by_cases d2 : d ∈ digT
          · refine if_t (decide_eq_true d2) ?_
            exact more (by unfold isAl; rw [decide_eq_true d2, Bool.or_true])
          · refine if_f (decide_eq_false d2) ?_
            exact stop (.inr ⟨d, v, rfl, by unfold isAl; rw [decide_eq_false d1, decide_eq_false d2]; rfl⟩) _
    · have c1 := of_decide_eq_false c1
      have fin : ∀ (k3 : Srt) (B : DL.Env → Sto → Prop), hdT c r = some (k3, [c]) → ∃ ds, S1 pl = some (.lst ds) ∧ ds.length < SZ ∧ wSs (P.G k fun c d S' => ∃ S2, DL.Sub S2 S' ∧ qx c d S2) (tkB.drop 3) [some (.str (pre ++ c :: r)), some (.ref pl), some (natD pre.length), some (.str [c]), some (.int (((pre.length : Nat) : Int) + 1))] (ups S1 pl (.lst (ds ++ [.tup [.str (srtS k3), .str [c], natD pre.length]]))) { nx := kk, rt := fun d S' => ∃ S2, DL.Sub S2 S' ∧ q d S2, bk := B, ct := kk } := fun k3 B eh => by
        refine ⟨_, hp1, by rw [List.length_map]; show _ < 16777216; omega, ?_⟩
        rw [eh] at ht
        rw [one]
        refine next [c] r (dn ++ [⟨k3, [c], pre.length⟩]) _ _ B rfl (List.cons_ne_nil _ _) ?_ (by rw [List.length_append]; exact Nat.le_refl _) (by rw [ups_same, List.map_append]; rfl) (subUps sb hpl)
        have ht2 : tok (pre ++ c :: r) = dn ++ (⟨k3, [c], pre.length⟩ :: tkA (pre.length + 1) r) := ht
        rw [ht2, List.append_assoc]
        rfl
      have oc : okS' [c] = true := by
        have := List.all_eq_true.mp hx c (by simp)
        exact List.all_eq_true.mpr fun x hx => by rw [List.mem_singleton.mp hx]; exact this
      -- a blank
      have blank : ∀ (B : DL.Env → Sto → Prop), hdT c r = none → wSs (P.G k fun c d S' => ∃ S2, DL.Sub S2 S' ∧ qx c d S2) (tkB.drop 3) [some (.str (pre ++ c :: r)), some (.ref pl), some (natD pre.length), some (.str [c]), some (.int (((pre.length : Nat) : Int) + 1))] S1 { nx := kk, rt := fun d S' => ∃ S2, DL.Sub S2 S' ∧ q d S2, bk := B, ct := kk } := fun B eh => by
        rw [eh] at ht
        rw [one]
        exact next [c] r dn _ _ B rfl (List.cons_ne_nil _ _) ht (Nat.le_succ _) hp1 sb
      have in2 : ∀ l : Bs, hdT c r = (if c ∈ sgnT ∨ c ∈ [48, 49] then some (.sign, [c]) else if c ≠ 32 ∧ c ≠ 10 then some (.wrong, [c]) else none) := fun l => by unfold hdT; rw [if_neg c1]
      have in2 := in2 []
      refine ⟨_, rfl, ?_⟩
      by_cases d1 : c ∈ sgnT
      · refine if_nf (decide_eq_true d1) ?_
        refine if_t (decide_eq_true d1) ?_
        refine ⟨_, rfl, pl, rfl, ⟨_, hp1⟩, _, rfl, _, rfl, ?_⟩
        exact fin .sign _ (by rw [in2, if_pos (.inl d1)])
      · refine if_nt (decide_eq_false d1) ?_
        refine ⟨_, rfl, ?_⟩
        by_cases d2 : c ∈ ([48, 49] : Bs)
        · refine if_t (decide_eq_true d2) ?_
          refine ⟨_, rfl, pl, rfl, ⟨_, hp1⟩, _, rfl, _, rfl, ?_⟩
          exact fin .sign _ (by rw [in2, if_pos (.inr d2)])
        · refine if_f (decide_eq_false d2) ?_
          have in3 : hdT c r = if c ≠ 32 ∧ c ≠ 10 then some (.wrong, [c]) else none := by rw [in2, if_neg fun z => z.elim d1 d2]
          have ne1 : ∀ b : Nat, (!dEq (.str [c]) (.str [b])) = decide (c ≠ b) := fun b => by
            show (!([c] == [b])) = _
            by_cases e : c = b
            · subst e; simp
            · rw [decide_eq_true e, beq_eq_false_iff_ne.mpr fun z => e (List.cons.inj z).1]; rfl
          refine ⟨_, rfl, okd_str' oc, rfl, ?_⟩
          rw [ne1]
          by_cases e1 : c = 32
          · refine if_f (decide_eq_false fun z => z e1) ?_
            refine if_f (decide_eq_false fun z => z e1) ?_
            exact blank _ (by rw [in3, if_neg fun z => z.1 e1])
          · refine if_t (decide_eq_true e1) ?_
            refine ⟨_, rfl, okd_str' oc, rfl, ?_⟩
            rw [ne1]
            by_cases e2 : c = 10
            · refine if_f (decide_eq_false fun z => z e2) ?_
              exact blank _ (by rw [in3, if_neg fun z => z.2 e2])
            · refine if_t (decide_eq_true e2) ?_
              refine ⟨_, rfl, pl, rfl, ⟨_, hp1⟩, _, rfl, _, rfl, ?_⟩
              exact fin .wrong _ (by rw [in3, if_pos ⟨e1, e2⟩])
end
end U
/-! U115: the walks of the reader's parts. -/
namespace U
open PySem DL
structure RdAt (T : List Tok) (p : Addr) (j : Nat) (S : Sto) : Prop where
  ins : S p = some (.ins cRd [(fFnd, .lst (T.map encT)), (fAtt, natD j)])
  ok : ∀ t ∈ T, okS' t.s = true
  len : T.length ≤ 1000000
  ne : ∀ t ∈ T, 1 ≤ t.s.length
noncomputable def SmP (p : Addr) (S S' : Sto) : Prop := ∀ a, a ≠ p → S' a = S a
theorem SmP.refl {p : Addr} {S : Sto} : SmP p S S := fun _ _ => rfl
theorem SmP.trans {p : Addr} {S S1 S2 : Sto} (h : SmP p S S1) (g : SmP p S1 S2) : SmP p S S2 := fun a n => (g a n).trans (h a n)
theorem enc_at {T : List Tok} {j : Nat} {t : Tok} (h : T[j]? = some t) : atD (T.map encT) ((j : Nat) : Int) = some (encT t) := by rw [atD_nat, List.getElem?_map, h]; rfl
theorem at_last {α : Type} {xs : List α} {z : α} (h : xs.getLast? = some z) : atD xs (-1) = some z := by
  have hn : xs ≠ [] := fun e => by rw [e] at h; cases h
  have hp := List.length_pos_iff.mpr hn
  unfold atD
  rw [if_neg (by decide), if_pos (by omega), show ((-1 : Int) + (xs.length : Int)).toNat = xs.length - 1 by omega, ← List.getLast?_eq_getElem?]
  exact h
section
variable {P : Pg} {k : Nat} {q : QD} {T : List Tok} {p : Addr} {S : Sto}
theorem fld_fnd {j : Nat} (hr : RdAt T p j S) {t : Bool} {Q : QD} (h : fin t (.lst (T.map encT)) S Q) :
    match S p with
      | some (.ins c' fs) => c' = cRd ∧ ∃ d, lookF fs fFnd = some d ∧ fin t d S Q
      | _ => False := fld_ins hr.ins rfl h
theorem fld_att {j : Nat} (hr : RdAt T p j S) {t : Bool} {Q : QD} (h : fin t (natD j) S Q) :
    match S p with
      | some (.ins c' fs) => c' = cRd ∧ ∃ d, lookF fs fAtt = some d ∧ fin t d S Q
      | _ => False := fld_ins hr.ins rfl h
theorem aug_rd {j : Nat} (hr : RdAt T p j S) {G : Gx} {ρ : DL.Env} {K : Ks} (h0 : DL.get ρ 0 = some (.ref p)) (h : ∀ S', RdAt T p (j + 1) S' → SmP p S S' → K.nx ρ S') : wS G (.augf cRd (.var 0) fAtt .add (.int 1)) ρ S K := by
  refine ⟨_, h0, augf_ins (k := fun S' => K.nx ρ S') (G := G) (e := .int 1) (ρ := ρ) (op := .add) hr.ins rfl (putf_ins (k := fun S' => K.nx ρ S') hr.ins (by show 2 < 1000; omega) ?_)⟩
  refine h _ ⟨?_, hr.ok, hr.len, hr.ne⟩ fun a ha => ups_ne ha
  rw [ups_same]
  show some (DO.ins cRd [(fFnd, .lst (T.map encT)), (fAtt, .int (((j : Nat) : Int) + 1))]) = _
  rw [show ((j : Nat) : Int) + 1 = ((j + 1 : Nat) : Int) by omega]
theorem w_rneed (H : Up_Reader_need P) {j : Nat} (hr : RdAt T p j S) (hj : j ≤ T.length) {c : Bool} {qx : QX} (hk : 2 ≤ k) (h : c = true → q .non S) (he : c = false → qx 7 (.int (posT T j : Nat)) S) : P.spec k 218 [.ref p, .bl c] S q qx := by
  obtain ⟨k, rfl⟩ : ∃ j, k = j + 2 := ⟨k - 2, by omega⟩
  refine Pg.spec_succ H.self rfl ?_
  refine ⟨_, rfl, _, rfl, ?_⟩
  refine if_c (fun c1 => h c1) fun c1 => ?_
  have he := he c1
  unfold posT at he
  refine ⟨_, rfl, fld_att hr ?_⟩
  refine ⟨_, rfl, fld_fnd hr ⟨_, rfl, ?_⟩⟩
  rw [List.length_map]
  by_cases c2 : j < T.length
  · have e1 := List.getElem?_eq_getElem c2
    rw [e1] at he
    refine if_t (decide_eq_true (by omega)) ?_
    refine ⟨⟨by decide, Nat.succ_le_succ (Nat.zero_le _)⟩, _, rfl, fld_fnd hr ⟨_, rfl, fld_att hr ⟨_, enc_at e1, _, rfl, ?_⟩⟩⟩
    exact ⟨_, rfl, he⟩
  · refine if_f (decide_eq_false (by omega)) ?_
    rw [List.getElem?_eq_none (by omega)] at he
    refine ⟨_, rfl, fld_fnd hr ⟨_, rfl, ?_⟩⟩
    rcases List.eq_nil_or_concat T with e | ⟨T2, t, e⟩
    · rw [e] at he
      have e1 : (!(!(T.map encT).isEmpty)) = true := by rw [e]; rfl
      refine if_t e1 ?_
      exact ⟨⟨by decide, Nat.succ_le_succ (Nat.zero_le _)⟩, _, rfl, he⟩
    · have e0 : T = T2 ++ [t] := by rw [e, List.concat_eq_append]
      have e1 : (!(!(T.map encT).isEmpty)) = false := by rw [e0]; simp
      have e2 : T.getLast? = some t := by rw [e0]; simp
      have e3 : (T.map encT).getLast? = some (encT t) := by rw [List.getLast?_map, e2]; rfl
      rw [e2] at he
      refine if_f e1 ?_
      refine ⟨⟨by decide, Nat.succ_le_succ (Nat.zero_le _)⟩, _, rfl, fld_fnd hr ⟨_, at_last e3, _, rfl, ?_⟩⟩
      refine ⟨_, rfl, fld_fnd hr ⟨_, at_last e3, _, rfl, _, rfl, ?_⟩⟩
      refine ⟨_, congrArg D.int ?_, he⟩
      show ((t.at' : Nat) : Int) + ((t.s.length : Nat) : Int) = ((t.en : Nat) : Int)
      unfold Tok.en
      omega
theorem w_rfix (H : Up_Reader_fixed P) {j : Nat} (hr : RdAt T p j S) (qx : QX) (hk : 1 ≤ k) (h : q (.str (fixT T j)) S) : P.spec k 219 [.ref p] S q qx := by
  obtain ⟨k, rfl⟩ : ∃ j, k = j + 1 := ⟨k - 1, by omega⟩
  refine Pg.spec_succ H.self rfl ?_
  refine ⟨_, rfl, fld_att hr ?_⟩
  refine ⟨_, rfl, fld_fnd hr ?_⟩
  refine ⟨_, rfl, ?_⟩
  rw [List.length_map]
  by_cases c2 : j < T.length
  · have e1 := List.getElem?_eq_getElem c2
    refine if_t (decide_eq_true (by omega)) ?_
    refine ⟨_, rfl, fld_fnd hr ⟨_, rfl, fld_att hr ⟨_, enc_at e1, ?_⟩⟩⟩
    unfold fixT at h
    rw [e1] at h
    have hok := hr.ok _ (List.getElem_mem c2)
    generalize T[j] = t at h e1 hok
    obtain ⟨k2, s, a⟩ := t
    cases k2 with
    | word =>
      refine ⟨_, rfl, rfl, rfl, ?_⟩
      refine ⟨_, rfl, fld_fnd hr ?_⟩
      refine ⟨_, rfl, fld_att hr ?_⟩
      exact ⟨_, enc_at e1, _, rfl, h⟩
    | sign =>
      refine ⟨_, rfl, rfl, rfl, ?_⟩
      refine ⟨_, rfl, fld_fnd hr ?_⟩
      refine ⟨_, rfl, fld_att hr ?_⟩
      exact ⟨_, enc_at e1, _, rfl, h⟩
    | name =>
      refine ⟨_, rfl, rfl, rfl, ?_⟩
      exact h
    | wrong =>
      refine ⟨_, rfl, rfl, rfl, ?_⟩
      exact h
  · refine if_f (decide_eq_false (by omega)) ?_
    refine if_f (decide_eq_false (by omega)) ?_
    unfold fixT at h
    rw [List.getElem?_eq_none (by omega)] at h
    exact h
theorem ok_fix {j : Nat} (hr : RdAt T p j S) (i : Nat) : okS' (fixT T i) = true := by
  unfold fixT
  cases e : T[i]? with
  | none => rfl
  | some t =>
    have := hr.ok t (List.mem_of_getElem? e)
    obtain ⟨k2, s, a⟩ := t
    cases k2 <;> (first | exact this | rfl)
theorem str_eq (s t : Bs) : dEq (.str s) (.str t) = decide (s = t) := by
  show (s == t) = _
  by_cases e : s = t
  · subst e; simp
  · rw [decide_eq_false e]; exact beq_eq_false_iff_ne.mpr e
theorem w_rtake (H : Up_Reader_take P) {j : Nat} (hr : RdAt T p j S) (hj : j ≤ T.length) {w : Bs} (ow : okS' w = true) {qx : QX} (hk : 4 ≤ k) (h : ∀ S', rdT T w j = .ok () (j + 1) → RdAt T p (j + 1) S' → SmP p S S' → q .non S') (he : rdT T w j = .err j → qx 7 (.int (posT T j : Nat)) S) : P.spec k 220 [.ref p, .str w] S q qx := by
  obtain ⟨k, rfl⟩ : ∃ j, k = j + 1 := ⟨k - 1, by omega⟩
  refine Pg.spec_succ H.self rfl ?_
  refine ⟨_, rfl, p, _, rfl, hr.ins, rfl, ?_⟩
  refine ⟨_, rfl, p, _, rfl, hr.ins, rfl, w_rfix H.to_Reader_fixed hr _ (by omega) ?_⟩
  refine ⟨_, rfl, okd_str' (ok_fix hr j), okd_str' ow, ?_⟩
  rw [str_eq]
  refine w_rneed H.to_Reader_need hr hj (by omega) (fun c => ?_) fun c => he (by unfold rdT; rw [if_neg (of_decide_eq_false c)])
  have c := of_decide_eq_true c
  refine aug_rd hr rfl fun S' r' s' => ?_
  exact h S' (by unfold rdT; rw [if_pos c]) r' s'
noncomputable def zS : Nsrt → Bs
  | .el => [101, 108, 101, 109, 101, 110, 116]
  | .set => [115, 101, 116]
  | .any => [97, 110, 121]
  | .lab => [108, 97, 98, 101, 108]
theorem w_isset2 (H : Up_is_set_name P) (x : Bs) (hx : x ≠ []) {S : Sto} (qx : QX) (hk : 1 ≤ k) (h : q (.bl (setN x)) S) : P.spec k 116 [.str x] S q qx := by
  obtain ⟨k, rfl⟩ : ∃ j, k = j + 1 := ⟨k - 1, by omega⟩
  refine Pg.spec_succ H.self rfl ?_
  cases x with
  | nil => exact absurd rfl hx
  | cons c r =>
    have one : ∀ a b : Nat, decide (([a] : Bs) < [b]) = decide (a < b) := fun a b => decide_eq_decide.mpr ⟨fun h => by
      rcases List.cons_lt_cons_iff.mp h with h | ⟨_, h⟩
      · exact h
      · exact absurd h (List.not_lt_nil _), fun h => List.cons_lt_cons_iff.mpr (.inl h)⟩
    have e1 : (!decide (([c] : Bs) < [65])) = decide (65 ≤ c) := by
      rw [one, Bool.eq_iff_iff]
      simp
    have e2 : (!decide (([90] : Bs) < [c])) = decide (c ≤ 90) := by
      rw [one, Bool.eq_iff_iff]
      simp
    refine ⟨_, rfl, _, rfl, ?_⟩
    refine if_c (fun c1 => ?_) (fun c1 => ?_)
    · have c1 : (!decide (([c] : Bs) < [65])) = true := c1
      have : setN (c :: r) = (!decide (([90] : Bs) < [c])) := by
        show (decide (65 ≤ c) && decide (c ≤ 90)) = _
        rw [← e1, c1, e2]; rfl
      rw [this] at h
      exact h
    · have c1 : (!decide (([c] : Bs) < [65])) = false := c1
      have : setN (c :: r) = false := by
        show (decide (65 ≤ c) && decide (c ≤ 90)) = _
        rw [← e1, c1]; rfl
      rw [this] at h
      exact h
theorem w_rname (H : Up_Reader_name P) {j : Nat} (hr : RdAt T p j S) (hj : j ≤ T.length) (z : Nsrt) {qx : QX} (hk : 4 ≤ k) (h : ∀ x S', rdN T z j = .ok x (j + 1) → RdAt T p (j + 1) S' → SmP p S S' → okS' x = true → x ≠ [] → q (.str x) S') (he : rdN T z j = .err j → qx 7 (.int (posT T j : Nat)) S) : P.spec k 221 [.ref p, .str (zS z)] S q qx := by
  obtain ⟨k, rfl⟩ : ∃ j, k = j + 1 := ⟨k - 1, by omega⟩
  refine Pg.spec_succ H.self rfl ?_
  refine ⟨_, rfl, p, _, rfl, hr.ins, rfl, ?_⟩
  refine ⟨_, rfl, fld_att hr ?_⟩
  refine ⟨_, rfl, fld_fnd hr ?_⟩
  refine ⟨_, rfl, ?_⟩
  rw [List.length_map]
  refine ⟨_, rfl, ?_⟩
  by_cases c2 : j < T.length
  · have e1 := List.getElem?_eq_getElem c2
    refine if_t (decide_eq_true (by omega)) ?_
    have hok := hr.ok _ (List.getElem_mem c2)
    have hne := hr.ne _ (List.getElem_mem c2)
    generalize T[j] = t at e1 hok hne
    obtain ⟨k2, s, a⟩ := t
    refine ⟨_, rfl, fld_fnd hr ?_⟩
    refine ⟨_, rfl, fld_att hr ?_⟩
    refine ⟨_, enc_at e1, _, rfl, ?_⟩
    have bad : k2 ≠ .name → rdN T z j = .err j := fun n => by
      unfold rdN
      rw [e1]
      cases k2 <;> (first | rfl | exact absurd rfl n)
    cases k2 with
    | name =>
      refine ⟨rfl, rfl, ?_⟩
      refine w_rneed H.to_Reader_need hr hj (by omega) (fun _ => ?_) fun c => by cases c
      have sn : s ≠ [] := List.length_pos_iff.mp hne
      have rok : ∀ b, okN z s = b → rdN T z j = if b = true then .ok s (j + 1) else .err j := fun b hb => by unfold rdN; rw [e1, ← hb]
      refine ⟨_, rfl, fld_fnd hr ?_⟩
      refine ⟨_, rfl, fld_att hr ?_⟩
      refine ⟨_, enc_at e1, _, rfl, ?_⟩
      have fin : okN z s = true → ∀ ρ : DL.Env, DL.get ρ 0 = some (.ref p) → DL.get ρ 2 = some (.str s) → wSs (P.G k qx) (f_Reader_name.body.drop 3) ρ S (bodyK q) := fun ho ρ h0 h2 => by
        refine aug_rd hr h0 fun S' r' s' => ?_
        exact ⟨_, h2, h s S' (by rw [rok _ ho]; rfl) r' s' hok sn⟩
      cases z with
      | any =>
        refine ⟨_, rfl, rfl, rfl, ?_⟩
        refine ⟨_, rfl, rfl, rfl, ?_⟩
        exact fin rfl _ rfl rfl
      | lab =>
        refine ⟨_, rfl, rfl, rfl, ?_⟩
        refine ⟨_, rfl, p, _, rfl, hr.ins, rfl, ?_⟩
        refine ⟨_, rfl, _, rfl, okd_int, okd_int, ?_⟩
        refine ⟨_, rfl, ?_⟩
        by_cases l1 : s.length = 1
        · have e3 : dEq (.int ((s.length : Nat) : Int)) (.int 1) = true := by rw [l1]; rfl
          refine if_t e3 ?_
          refine ⟨_, rfl, w_isset2 H.to_is_set_name s sn _ (by omega) ?_⟩
          refine ⟨_, rfl, ?_⟩
          have eo : okN .lab s = !setN s := by show (decide (s.length = 1) && !setN s) = _; rw [decide_eq_true l1, Bool.true_and]
          refine w_rneed H.to_Reader_need hr hj (by omega) (fun c => ?_) fun c => he (by rw [rok _ (eo.trans c)]; rfl)
          exact fin (eo.trans c) _ rfl rfl
        · have e3 : dEq (.int ((s.length : Nat) : Int)) (.int 1) = false := int_ne (by omega)
          refine if_f e3 ?_
          rw [e3]
          have eo : okN .lab s = false := by show (decide (s.length = 1) && !setN s) = _; rw [decide_eq_false l1]; rfl
          exact w_rneed H.to_Reader_need hr hj (by omega) (fun c => by cases c) fun _ => he (by rw [rok _ eo]; rfl)
      | set =>
        refine ⟨_, rfl, rfl, rfl, ?_⟩
        refine ⟨_, rfl, rfl, rfl, ?_⟩
        refine ⟨_, rfl, p, _, rfl, hr.ins, rfl, ?_⟩
        refine ⟨_, rfl, w_isset2 H.to_is_set_name s sn _ (by omega) ?_⟩
        refine ⟨_, rfl, rfl, rfl, rfl, rfl, ?_⟩
        have e4 : dEq (.bl (setN s)) (.bl true) = setN s := by cases setN s <;> rfl
        show P.spec k 218 [.ref p, .bl (dEq (.bl (setN s)) (.bl true))] S _ _
        rw [e4]
        refine w_rneed H.to_Reader_need hr hj (by omega) (fun c => ?_) fun c => he (by rw [rok _ (show okN .set s = false from c)]; rfl)
        exact fin c _ rfl rfl
      | el =>
        refine ⟨_, rfl, rfl, rfl, ?_⟩
        refine ⟨_, rfl, rfl, rfl, ?_⟩
        refine ⟨_, rfl, p, _, rfl, hr.ins, rfl, ?_⟩
        refine ⟨_, rfl, w_isset2 H.to_is_set_name s sn _ (by omega) ?_⟩
        refine ⟨_, rfl, rfl, rfl, rfl, rfl, ?_⟩
        have e4 : dEq (.bl (setN s)) (.bl false) = !setN s := by cases setN s <;> rfl
        show P.spec k 218 [.ref p, .bl (dEq (.bl (setN s)) (.bl false))] S _ _
        rw [e4]
        refine w_rneed H.to_Reader_need hr hj (by omega) (fun c => ?_) fun c => he (by rw [rok _ (show okN .el s = false from c)]; rfl)
        exact fin c _ rfl rfl
    | word =>
      refine ⟨rfl, rfl, ?_⟩
      exact w_rneed H.to_Reader_need hr hj (by omega) (fun c => by cases c) fun _ => he (bad fun z => by cases z)
    | sign =>
      refine ⟨rfl, rfl, ?_⟩
      exact w_rneed H.to_Reader_need hr hj (by omega) (fun c => by cases c) fun _ => he (bad fun z => by cases z)
    | wrong =>
      refine ⟨rfl, rfl, ?_⟩
      exact w_rneed H.to_Reader_need hr hj (by omega) (fun c => by cases c) fun _ => he (bad fun z => by cases z)
  · have ef : decide (((j : Nat) : Int) < ((T.length : Nat) : Int)) = false := decide_eq_false (by omega)
    refine if_f ef ?_
    rw [ef]
    exact w_rneed H.to_Reader_need hr hj (by omega) (fun c => by cases c) fun _ => he (by unfold rdN; rw [List.getElem?_eq_none (by omega)])
end
end U
/-! U116: the walk of the reader. -/
namespace U
open PySem DL
noncomputable def encFx : Fx → D
  | .tru => .tup [.str truT]
  | .top x => .tup [.str topT, .str x]
  | .lab l x => .tup [.str labT, .str l, .str x]
  | .chi w x y => .tup [.str chiT, .int (if w = true then 1 else 0), .str x, .str y]
  | .two w x y => .tup [.str w, .str x, .str y]
  | .neg f => .tup [.str notT, encFx f]
  | .bin w f g => .tup [.str w, encFx f, encFx g]
  | .qn w x f => .tup [.str w, .str x, encFx f]
theorem bind_ok {α β : Type} {r : Rs α} {f : α → Nat → Rs β} {a : α} {j : Nat} (h : r = .ok a j) : r.bind f = f a j := by rw [h]; rfl
theorem bind_er {α β : Type} {r : Rs α} {f : α → Nat → Rs β} {i : Nat} (h : r = .err i) : r.bind f = .err i := by rw [h]; rfl
theorem bind_ou {α β : Type} {r : Rs α} {f : α → Nat → Rs β} (h : r.bind f ≠ .out) : r ≠ .out := fun z => h (by rw [z]; rfl)
noncomputable def mdN : Md → Nat
  | .eit => 222
  | .bot => 223
  | .den => 224
  | .sim => 227
section
variable {P : Pg} {k : Nat} {q : QD} {T : List Tok} {p : Addr} {S : Sto}
theorem w_rpair (H : Up_Reader_pair P) {j : Nat} (hr : RdAt T p j S) (hj : j ≤ T.length) (a b : Nsrt) {qx : QX} (hk : 5 ≤ k) (h : ∀ x y j' S', rdP T a b j = .ok (x, y) j' → RdAt T p j' S' → SmP p S S' → okS' x = true → okS' y = true → q (.tup [.str x, .str y]) S') (he : ∀ i S', rdP T a b j = .err i → SmP p S S' → qx 7 (.int (posT T i : Nat)) S') : P.spec k 225 [.ref p, .str (zS a), .str (zS b)] S q qx := by
  obtain ⟨k, rfl⟩ : ∃ j, k = j + 1 := ⟨k - 1, by omega⟩
  refine Pg.spec_succ H.self rfl ?_
  refine ⟨_, rfl, p, _, rfl, hr.ins, rfl, w_rtake H.to_Reader_take hr hj (by decide) (by omega) (fun S1 e1 r1 s1 => ?_) fun e => he _ _ (bind_er e) .refl⟩
  have l1 := (rdT_ble T (by decide) hj).1 _ _ e1
  refine ⟨_, rfl, p, _, rfl, r1.ins, rfl, _, rfl, w_rname H.to_Reader_name r1 l1 a (by omega) (fun x S2 e2 r2 s2 ox _ => ?_) fun e => he _ _ ((bind_ok e1).trans (bind_er e)) s1⟩
  have l2 := (rdN_ble T a l1).1 _ _ e2
  refine ⟨_, rfl, p, _, rfl, r2.ins, rfl, w_rtake H.to_Reader_take r2 l2 (by decide) (by omega) (fun S3 e3 r3 s3 => ?_) fun e => he _ _ ((bind_ok e1).trans ((bind_ok e2).trans (bind_er e))) (s1.trans s2)⟩
  have l3 := (rdT_ble T (by decide) l2).1 _ _ e3
  refine ⟨_, rfl, p, _, rfl, r3.ins, rfl, _, rfl, w_rname H.to_Reader_name r3 l3 b (by omega) (fun y S4 e4 r4 s4 oy _ => ?_) fun e => he _ _ ((bind_ok e1).trans ((bind_ok e2).trans ((bind_ok e3).trans (bind_er e)))) ((s1.trans s2).trans s3)⟩
  have l4 := (rdN_ble T b l3).1 _ _ e4
  refine ⟨_, rfl, p, _, rfl, r4.ins, rfl, w_rtake H.to_Reader_take r4 l4 (by decide) (by omega) (fun S5 e5 r5 s5 => ?_) fun e => he _ _ ((bind_ok e1).trans ((bind_ok e2).trans ((bind_ok e3).trans ((bind_ok e4).trans (bind_er e))))) (((s1.trans s2).trans s3).trans s4)⟩
  exact ⟨_, rfl, _, rfl, h x y _ S5 ((bind_ok e1).trans ((bind_ok e2).trans ((bind_ok e3).trans ((bind_ok e4).trans (bind_ok e5))))) r5 ((((s1.trans s2).trans s3).trans s4).trans s5) ox oy⟩
theorem w_rsing (H : Up_Reader_single P) {j : Nat} (hr : RdAt T p j S) (hj : j ≤ T.length) {qx : QX} (hk : 5 ≤ k) (h : ∀ x j' S', rdS T j = .ok x j' → RdAt T p j' S' → SmP p S S' → okS' x = true → q (.str x) S') (he : ∀ i S', rdS T j = .err i → SmP p S S' → qx 7 (.int (posT T i : Nat)) S') : P.spec k 226 [.ref p] S q qx := by
  obtain ⟨k, rfl⟩ : ∃ j, k = j + 1 := ⟨k - 1, by omega⟩
  refine Pg.spec_succ H.self rfl ?_
  refine ⟨_, rfl, p, _, rfl, hr.ins, rfl, w_rtake H.to_Reader_take hr hj (by decide) (by omega) (fun S1 e1 r1 s1 => ?_) fun e => he _ _ (bind_er e) .refl⟩
  have l1 := (rdT_ble T (by decide) hj).1 _ _ e1
  refine ⟨_, rfl, p, _, rfl, r1.ins, rfl, w_rname H.to_Reader_name r1 l1 .el (by omega) (fun x S2 e2 r2 s2 ox _ => ?_) fun e => he _ _ ((bind_ok e1).trans (bind_er e)) s1⟩
  have l2 := (rdN_ble T .el l1).1 _ _ e2
  refine ⟨_, rfl, p, _, rfl, r2.ins, rfl, w_rtake H.to_Reader_take r2 l2 (by decide) (by omega) (fun S3 e3 r3 s3 => ?_) fun e => he _ _ ((bind_ok e1).trans ((bind_ok e2).trans (bind_er e))) (s1.trans s2)⟩
  exact ⟨_, rfl, h x _ S3 ((bind_ok e1).trans ((bind_ok e2).trans (bind_ok e3))) r3 ((s1.trans s2).trans s3) ox⟩
/-- what is said of each of the four -/
noncomputable def RdSp (P : Pg) (T : List Tok) (N : Nat) (p : Addr) (n : Nat) : Prop := ∀ (md : Md) (j k : Nat) (S : Sto) (q : QD) (qx : QX), RdAt T p j S → j ≤ T.length → rd T N n md j ≠ .out → n + 8 ≤ k → (∀ d j' S', rd T N n md j = .ok d j' → RdAt T p j' S' → SmP p S S' → q (encFx d) S') → (∀ i S', rd T N n md j = .err i → SmP p S S' → qx 7 (.int (posT T i : Nat)) S') → P.spec k (mdN md) [.ref p] S q qx
set_option maxHeartbeats 1000000 in
theorem w_rd_eit (H : Up_Reader_either P) {N n : Nat} (ih : RdSp P T N p n) (j k : Nat) (S : Sto) (q : QD) (qx : QX) (hr : RdAt T p j S) (hj : j ≤ T.length) (hne : rd T N (n + 1) .eit j ≠ .out) (hk : n + 8 ≤ k) (h : ∀ d j' S', rd T N (n + 1) .eit j = .ok d j' → RdAt T p j' S' → SmP p S S' → q (encFx d) S') (he : ∀ i S', rd T N (n + 1) .eit j = .err i → SmP p S S' → qx 7 (.int (posT T i : Nat)) S') : P.spec (k + 1) 222 [.ref p] S q qx := by
  refine Pg.spec_succ H.self_Reader_either rfl ?_
  rw [rd] at hne h he
  refine ⟨_, rfl, p, _, rfl, hr.ins, rfl, ?_⟩
  refine ih .bot j k S _ _ hr hj (bind_ou hne) hk (fun d j1 S1 e1 r1 s1 => ?_) fun i S' e s => he i S' (bind_er e) s
  rw [bind_ok e1] at hne h he
  have l1 := (rd_ble T N n .bot j hj).1 _ _ e1
  refine while_ind (fun (z : Nat × Fx × Nat) ρ S' => ρ = [some (.ref p), some (encFx z.2.1)] ∧ RdAt T p z.2.2 S' ∧ SmP p S S' ∧ z.2.2 ≤ T.length ∧ chn (rd T N n .bot) T orT z.1 z.2.1 z.2.2 = chn (rd T N n .bot) T orT N d j1) (fun z => z.1) ?_ (a := (N, d, j1)) ⟨rfl, r1, s1, l1, rfl⟩
  rintro ⟨m, d2, j2⟩ ρ S2 ⟨rfl, r2, s2, l2, e2⟩ kk hkk
  have r2 : RdAt T p j2 S2 := r2
  have l2 : j2 ≤ T.length := l2
  have e2 : chn (rd T N n .bot) T orT m d2 j2 = chn (rd T N n .bot) T orT N d j1 := e2
  cases m with
  | zero => exact absurd e2.symm hne
  | succ m =>
    rw [chn] at e2
    refine ⟨_, rfl, p, _, rfl, r2.ins, rfl, w_rfix H.to_Reader_fixed r2 _ (by omega) ?_⟩
    refine ⟨okd_str' (ok_fix r2 j2), rfl, ?_⟩
    rw [str_eq]
    by_cases c : fixT T j2 = orT
    · rw [if_pos c] at e2
      refine if_t (decide_eq_true c) ?_
      refine aug_rd r2 rfl fun S3 r3 s3 => ?_
      refine ⟨_, rfl, _, rfl, p, _, rfl, r3.ins, rfl, ?_⟩
      refine ih .bot (j2 + 1) k S3 _ _ r3 (fix_wt (by decide) c).2 (bind_ou (e2 ▸ hne)) hk (fun e j3 S4 e3 r4 s4 => ?_) fun i S' e s => he i S' (e2.symm.trans (bind_er e)) ((s2.trans s3).trans s)
      rw [bind_ok e3] at e2
      exact hkk (m, .bin orT d2 e, j3) _ _ ⟨rfl, r4, (s2.trans s3).trans s4, (rd_ble T N n .bot (j2 + 1) (fix_wt (by decide) c).2).1 _ _ e3, e2⟩ (Nat.lt_succ_self m)
    · rw [if_neg c] at e2
      refine if_f (decide_eq_false c) ?_
      exact ⟨_, rfl, h d2 j2 S2 e2.symm r2 s2⟩
set_option maxHeartbeats 1000000 in
theorem w_rd_bot (H : Up_Reader_either P) {N n : Nat} (ih : RdSp P T N p n) (j k : Nat) (S : Sto) (q : QD) (qx : QX) (hr : RdAt T p j S) (hj : j ≤ T.length) (hne : rd T N (n + 1) .bot j ≠ .out) (hk : n + 8 ≤ k) (h : ∀ d j' S', rd T N (n + 1) .bot j = .ok d j' → RdAt T p j' S' → SmP p S S' → q (encFx d) S') (he : ∀ i S', rd T N (n + 1) .bot j = .err i → SmP p S S' → qx 7 (.int (posT T i : Nat)) S') : P.spec (k + 1) 223 [.ref p] S q qx := by
  refine Pg.spec_succ H.self_Reader_both rfl ?_
  rw [rd] at hne h he
  refine ⟨_, rfl, p, _, rfl, hr.ins, rfl, ?_⟩
  refine ih .den j k S _ _ hr hj (bind_ou hne) hk (fun d j1 S1 e1 r1 s1 => ?_) fun i S' e s => he i S' (bind_er e) s
  rw [bind_ok e1] at hne h he
  have l1 := (rd_ble T N n .den j hj).1 _ _ e1
  refine while_ind (fun (z : Nat × Fx × Nat) ρ S' => ρ = [some (.ref p), some (encFx z.2.1)] ∧ RdAt T p z.2.2 S' ∧ SmP p S S' ∧ z.2.2 ≤ T.length ∧ chn (rd T N n .den) T andT z.1 z.2.1 z.2.2 = chn (rd T N n .den) T andT N d j1) (fun z => z.1) ?_ (a := (N, d, j1)) ⟨rfl, r1, s1, l1, rfl⟩
  rintro ⟨m, d2, j2⟩ ρ S2 ⟨rfl, r2, s2, l2, e2⟩ kk hkk
  have r2 : RdAt T p j2 S2 := r2
  have l2 : j2 ≤ T.length := l2
  have e2 : chn (rd T N n .den) T andT m d2 j2 = chn (rd T N n .den) T andT N d j1 := e2
  cases m with
  | zero => exact absurd e2.symm hne
  | succ m =>
    rw [chn] at e2
    refine ⟨_, rfl, p, _, rfl, r2.ins, rfl, w_rfix H.to_Reader_fixed r2 _ (by omega) ?_⟩
    refine ⟨okd_str' (ok_fix r2 j2), rfl, ?_⟩
    rw [str_eq]
    by_cases c : fixT T j2 = andT
    · rw [if_pos c] at e2
      refine if_t (decide_eq_true c) ?_
      refine aug_rd r2 rfl fun S3 r3 s3 => ?_
      refine ⟨_, rfl, _, rfl, p, _, rfl, r3.ins, rfl, ?_⟩
      refine ih .den (j2 + 1) k S3 _ _ r3 (fix_wt (by decide) c).2 (bind_ou (e2 ▸ hne)) hk (fun e j3 S4 e3 r4 s4 => ?_) fun i S' e s => he i S' (e2.symm.trans (bind_er e)) ((s2.trans s3).trans s)
      rw [bind_ok e3] at e2
      exact hkk (m, .bin andT d2 e, j3) _ _ ⟨rfl, r4, (s2.trans s3).trans s4, (rd_ble T N n .den (j2 + 1) (fix_wt (by decide) c).2).1 _ _ e3, e2⟩ (Nat.lt_succ_self m)
    · rw [if_neg c] at e2
      refine if_f (decide_eq_false c) ?_
      exact ⟨_, rfl, h d2 j2 S2 e2.symm r2 s2⟩
set_option maxHeartbeats 1000000 in
theorem w_rd_den (H : Up_Reader_either P) {N n : Nat} (ih : RdSp P T N p n) (j k : Nat) (S : Sto) (q : QD) (qx : QX) (hr : RdAt T p j S) (hj : j ≤ T.length) (hne : rd T N (n + 1) .den j ≠ .out) (hk : n + 8 ≤ k) (h : ∀ d j' S', rd T N (n + 1) .den j = .ok d j' → RdAt T p j' S' → SmP p S S' → q (encFx d) S') (he : ∀ i S', rd T N (n + 1) .den j = .err i → SmP p S S' → qx 7 (.int (posT T i : Nat)) S') : P.spec (k + 1) 224 [.ref p] S q qx := by
  refine Pg.spec_succ H.self_Reader_denied rfl ?_
  rw [rd] at hne h he
  refine ⟨_, rfl, p, _, rfl, hr.ins, rfl, w_rfix H.to_Reader_fixed hr _ (by omega) ?_⟩
  have of := ok_fix hr j
  generalize ew : fixT T j = w at hne h he of
  refine ⟨_, rfl, okd_str' of, rfl, ?_⟩
  rw [str_eq]
  by_cases c1 : w = notT
  · rw [if_pos c1] at hne h he
    refine if_t (decide_eq_true c1) ?_
    refine aug_rd hr rfl fun S1 r1 s1 => ?_
    refine ⟨_, rfl, p, _, rfl, r1.ins, rfl, ?_⟩
    exact ih .den (j + 1) k S1 _ _ r1 (fix_wt (w := notT) (by decide) (ew.trans c1)).2 (bind_ou hne) hk (fun d j2 S2 e2 r2 s2 => h _ _ S2 (bind_ok e2) r2 (s1.trans s2)) fun i S' e s => he i S' (bind_er e) (s1.trans s)
  · rw [if_neg c1] at hne h he
    refine if_f (decide_eq_false c1) ?_
    -- a quantifier
    have quan : (w = somT ∨ w = allT) → wSs (P.G k qx) (match f_Reader_denied.body.drop 2 with | .ite _ a _ :: _ => a | _ => []) [some (.ref p), some (.str w), none] S { nx := fun ρ' S' => wSs (P.G k qx) (f_Reader_denied.body.drop 3) ρ' S' (bodyK q), rt := q, bk := fun _ _ => False, ct := fun _ _ => False } := fun c2 => by
      rw [if_pos c2] at hne h he
      have l1 : j + 1 ≤ T.length := by
        rcases c2 with rfl | rfl
        · exact (fix_wt (by decide) ew).2
        · exact (fix_wt (by decide) ew).2
      refine aug_rd hr rfl fun S1 r1 s1 => ?_
      refine ⟨_, rfl, p, _, rfl, r1.ins, rfl, w_rname (z := .any) H.to_Reader_name r1 l1 (by omega) (fun x S2 e2 r2 s2 ox xn => ?_) fun e => he _ _ (bind_er e) s1⟩
      rw [bind_ok e2] at hne h he
      have l2 := (rdN_ble T .any l1).1 _ _ e2
      refine ⟨_, rfl, p, _, rfl, r2.ins, rfl, w_rtake H.to_Reader_take r2 l2 (by decide) (by omega) (fun S3 e3 r3 s3 => ?_) fun e => he _ _ (bind_er e) (s1.trans s2)⟩
      rw [bind_ok e3] at hne h he
      have l3 := (rdT_ble T (by decide) l2).1 _ _ e3
      refine ⟨_, rfl, w_isset2 H.to_is_set_name x xn _ (by omega) ?_⟩
      refine ⟨_, rfl, ?_⟩
      have last : ∀ w2 : Bs, (if setN x = true then w ++ [115, 101, 116] else w) = w2 → wSs (P.G k qx) [.ret (.tup (.cons (.var 1) (.cons (.var 2) (.cons (.meth cRd [100, 101, 110, 105, 101, 100] 224 (.var 0) .nil) .nil))))] [some (.ref p), some (.str w2), some (.str x)] S3 { nx := fun ρ' S' => wSs (P.G k qx) (f_Reader_denied.body.drop 3) ρ' S' (bodyK q), rt := q, bk := fun _ _ => False, ct := fun _ _ => False } := fun w2 e4 => by
        refine ⟨_, rfl, _, rfl, _, rfl, p, _, rfl, r3.ins, rfl, ?_⟩
        refine ih .den _ k S3 _ _ r3 l3 (bind_ou hne) hk (fun d j4 S4 e5 r4 s4 => ?_) fun i S' e s => he i S' (bind_er e) (((s1.trans s2).trans s3).trans s)
        have := h _ _ S4 (bind_ok e5) r4 (((s1.trans s2).trans s3).trans s4)
        rw [e4] at this
        exact this
      refine if_c (fun sx => ?_) fun sx => ?_
      · refine ⟨_, rfl, ?_⟩
        rcases c2 with rfl | rfl
        · exact ⟨by decide, last _ (by rw [if_pos sx])⟩
        · exact ⟨by decide, last _ (by rw [if_pos sx])⟩
      · exact last _ (by rw [if_neg (by rw [sx]; exact Bool.false_ne_true)])
    refine ⟨_, rfl, okd_str' of, rfl, ?_⟩
    rw [str_eq]
    by_cases c2 : w = somT
    · refine if_nf (decide_eq_true c2) ?_
      refine if_t (decide_eq_true c2) ?_
      exact quan (.inl c2)
    · refine if_nt (decide_eq_false c2) ?_
      refine ⟨_, rfl, okd_str' of, rfl, ?_⟩
      rw [str_eq]
      by_cases c3 : w = allT
      · refine if_t (decide_eq_true c3) ?_
        exact quan (.inr c3)
      · refine if_f (decide_eq_false c3) ?_
        rw [if_neg fun z => z.elim c2 c3] at hne h he
        refine ⟨_, rfl, p, _, rfl, hr.ins, rfl, ?_⟩
        exact ih .sim j k S _ _ hr hj hne hk (fun d j2 S2 e2 r2 s2 => h _ _ S2 e2 r2 s2) fun i S' e s => he i S' e s
end
end U
/-! U117: the walk of the reader's last part, of read_formula. -/
namespace U
open PySem DL
noncomputable abbrev simL : List Bs := [[40], truT, labT, chiT, belT, samT, innT, insT, topT]
section
variable {P : Pg} {k : Nat} {q : QD} {T : List Tok} {p : Addr} {S : Sto}
theorem any_sim (w : Bs) : ([.str [40], .str truT, .str labT, .str chiT, .str belT, .str samT, .str innT, .str insT, .str topT] : List D).any (fun z => dEq z (.str w)) = decide (w ∈ simL) := any_str simL w
noncomputable abbrev smB : List DL.S := f_Reader_simple.body
set_option maxHeartbeats 1000000 in
theorem w_rd_sim (H : Up_Reader_either P) {N n : Nat} (ih : RdSp P T N p n) (j k : Nat) (S : Sto) (q : QD) (qx : QX) (hr : RdAt T p j S) (hj : j ≤ T.length) (hne : rd T N (n + 1) .sim j ≠ .out) (hk : n + 8 ≤ k) (h : ∀ d j' S', rd T N (n + 1) .sim j = .ok d j' → RdAt T p j' S' → SmP p S S' → q (encFx d) S') (he : ∀ i S', rd T N (n + 1) .sim j = .err i → SmP p S S' → qx 7 (.int (posT T i : Nat)) S') : P.spec (k + 1) 227 [.ref p] S q qx := by
  refine Pg.spec_succ H.self_Reader_simple rfl ?_
  rw [rd] at hne h he
  refine ⟨_, rfl, p, _, rfl, hr.ins, rfl, w_rfix H.to_Reader_fixed hr _ (by omega) ?_⟩
  have of := ok_fix hr j
  generalize ew : fixT T j = w at hne h he of
  refine ⟨_, rfl, p, _, rfl, hr.ins, rfl, ?_⟩
  refine ⟨_, rfl, okd_str' of, rfl, ?_⟩
  rw [any_sim]
  refine w_rneed H.to_Reader_need hr hj (by omega) (fun c0 => ?_) fun c0 => ?_
  · have c0 := of_decide_eq_true c0
    have wn : w ≠ [] := fun z => by subst z; revert c0; decide
    have l1 : j + 1 ≤ T.length := (fix_wt wn ew).2
    refine aug_rd hr rfl fun S1 r1 s1 => ?_
    refine ⟨_, rfl, okd_str' of, rfl, ?_⟩
    rw [str_eq]
    by_cases c1 : w = [40]
    · rw [if_pos c1] at hne h he
      refine if_t (decide_eq_true c1) ?_
      refine ⟨_, rfl, p, _, rfl, r1.ins, rfl, ?_⟩
      refine ih .eit (j + 1) k S1 _ _ r1 l1 (bind_ou hne) hk (fun d j2 S2 e2 r2 s2 => ?_) fun i S' e s => he i S' (bind_er e) (s1.trans s)
      rw [bind_ok e2] at hne h he
      have l2 := (rd_ble T N n .eit _ l1).1 _ _ e2
      refine ⟨_, rfl, p, _, rfl, r2.ins, rfl, w_rtake H.to_Reader_take r2 l2 (by decide) (by omega) (fun S3 e3 r3 s3 => ?_) fun e => he _ _ (bind_er e) (s1.trans s2)⟩
      exact ⟨_, rfl, h d _ S3 (bind_ok e3) r3 ((s1.trans s2).trans s3)⟩
    rw [if_neg c1] at hne h he
    refine if_f (decide_eq_false c1) ?_
    refine ⟨_, rfl, okd_str' of, rfl, ?_⟩
    rw [str_eq]
    by_cases c2 : w = truT
    · rw [if_pos c2] at hne h he
      refine if_t (decide_eq_true c2) ?_
      exact h .tru _ S1 rfl r1 s1
    rw [if_neg c2] at hne h he
    refine if_f (decide_eq_false c2) ?_
    refine ⟨_, rfl, okd_str' of, rfl, ?_⟩
    rw [str_eq]
    by_cases c3 : w = topT
    · rw [if_pos c3] at hne h he
      refine if_t (decide_eq_true c3) ?_
      refine ⟨_, rfl, p, _, rfl, r1.ins, rfl, w_rsing H.to_Reader_single r1 l1 (by omega) (fun x j2 S2 e2 r2 s2 ox => ?_) fun i S' e s => he i S' (bind_er e) (s1.trans s)⟩
      exact h (.top x) j2 S2 (bind_ok e2) r2 (s1.trans s2)
    rw [if_neg c3] at hne h he
    refine if_f (decide_eq_false c3) ?_
    refine ⟨_, rfl, okd_str' of, rfl, ?_⟩
    rw [str_eq]
    by_cases c4 : w = labT
    · rw [if_pos c4] at hne h he
      refine if_t (decide_eq_true c4) ?_
      refine ⟨_, rfl, p, _, rfl, r1.ins, rfl, w_rname (z := .lab) H.to_Reader_name r1 l1 (by omega) (fun x S2 e2 r2 s2 ox xn => ?_) fun e => he _ _ (bind_er e) s1⟩
      rw [bind_ok e2] at hne h he
      have l2 := (rdN_ble T .lab l1).1 _ _ e2
      refine ⟨_, rfl, _, rfl, p, _, rfl, r2.ins, rfl, w_rsing H.to_Reader_single r2 l2 (by omega) (fun y j3 S3 e3 r3 s3 oy => ?_) fun i S' e s => he i S' (bind_er e) ((s1.trans s2).trans s)⟩
      exact h (.lab x y) j3 S3 (bind_ok e3) r3 ((s1.trans s2).trans s3)
    rw [if_neg c4] at hne h he
    refine if_f (decide_eq_false c4) ?_
    refine ⟨_, rfl, okd_str' of, rfl, ?_⟩
    rw [str_eq]
    by_cases c5 : w = chiT
    · rw [if_pos c5] at hne h he
      refine if_t (decide_eq_true c5) ?_
      refine ⟨_, rfl, p, _, rfl, r1.ins, rfl, ?_⟩
      have of1 := ok_fix r1 (j + 1)
      generalize ew1 : fixT T (j + 1) = w1 at hne h he of1
      -- behind the way
      have way : ∀ (b : Bool), (if w1 = [48] then (rdP T .el .el (j + 2)).bind fun x j1 => Rs.ok (Fx.chi false x.1 x.2) j1 else if w1 = [49] then (rdP T .el .el (j + 2)).bind fun x j1 => Rs.ok (Fx.chi true x.1 x.2) j1 else .err (j + 1)) = ((rdP T .el .el (j + 2)).bind fun x j1 => Rs.ok (Fx.chi b x.1 x.2) j1) → w1 ≠ [] → wSs (P.G k qx) ((match smB.drop 7 with | .ite _ a _ :: _ => a | _ => []).drop 2) [some (.ref p), some (.str w), none, none, none, some (.int (if b = true then 1 else 0))] S1 { nx := fun ρ' S' => wSs (P.G k qx) (smB.drop 8) ρ' S' (bodyK q), rt := q, bk := fun _ _ => False, ct := fun _ _ => False } := fun b eb w1n => by
        rw [eb] at hne h he
        have l2 : j + 2 ≤ T.length := (fix_wt w1n ew1).2
        refine aug_rd r1 rfl fun S2 r2 s2 => ?_
        refine ⟨_, rfl, _, rfl, p, _, rfl, r2.ins, rfl, w_rpair H.to_Reader_pair r2 l2 .el .el (by omega) (fun x y j3 S3 e3 r3 s3 ox oy => ?_) fun i S' e s => he i S' (bind_er e) ((s1.trans s2).trans s)⟩
        exact ⟨(show 2 + 2 ≤ 16777216 by decide), h (.chi b x y) j3 S3 (bind_ok e3) r3 ((s1.trans s2).trans s3)⟩
      refine ⟨_, rfl, p, _, rfl, r1.ins, rfl, w_rfix H.to_Reader_fixed r1 _ (by omega) ?_⟩
      rw [ew1]
      refine ⟨okd_str' of1, rfl, ?_⟩
      rw [str_eq]
      refine ⟨_, rfl, ?_⟩
      by_cases f1 : w1 = [48]
      · refine if_nf (decide_eq_true f1) ?_
        rw [decide_eq_true f1]
        refine w_rneed H.to_Reader_need r1 l1 (by omega) (fun _ => ?_) fun c => by cases c
        refine ⟨_, rfl, p, _, rfl, r1.ins, rfl, w_rfix H.to_Reader_fixed r1 _ (by omega) ?_⟩
        rw [ew1]
        refine ⟨okd_str' of1, rfl, ?_⟩
        rw [str_eq]
        refine if_t (decide_eq_true f1) ?_
        exact way false (if_pos f1) (by rw [f1]; decide)
      · refine if_nt (decide_eq_false f1) ?_
        refine ⟨_, rfl, p, _, rfl, r1.ins, rfl, w_rfix H.to_Reader_fixed r1 _ (by omega) ?_⟩
        rw [ew1]
        refine ⟨okd_str' of1, rfl, ?_⟩
        rw [str_eq]
        by_cases f2 : w1 = [49]
        · rw [decide_eq_true f2]
          refine w_rneed H.to_Reader_need r1 l1 (by omega) (fun _ => ?_) fun c => by cases c
          refine ⟨_, rfl, p, _, rfl, r1.ins, rfl, w_rfix H.to_Reader_fixed r1 _ (by omega) ?_⟩
          rw [ew1]
          refine ⟨okd_str' of1, rfl, ?_⟩
          rw [str_eq]
          refine if_f (decide_eq_false f1) ?_
          exact way true (by rw [if_neg f1, if_pos f2]) (by rw [f2]; decide)
        · rw [decide_eq_false f2]
          refine w_rneed H.to_Reader_need r1 l1 (by omega) (fun c => by cases c) fun _ => ?_
          exact he _ _ (by rw [if_neg f1, if_neg f2]) s1
    rw [if_neg c5] at hne h he
    refine if_f (decide_eq_false c5) ?_
    refine ⟨_, rfl, okd_str' of, rfl, ?_⟩
    rw [str_eq]
    by_cases c6 : w = innT
    · rw [if_pos c6] at hne h he
      refine if_t (decide_eq_true c6) ?_
      refine ⟨_, rfl, p, _, rfl, r1.ins, rfl, w_rpair H.to_Reader_pair r1 l1 .el .set (by omega) (fun x y j3 S3 e3 r3 s3 ox oy => ?_) fun i S' e s => he i S' (bind_er e) (s1.trans s)⟩
      exact ⟨(show 1 + 2 ≤ 16777216 by decide), h (.two innT x y) j3 S3 (bind_ok e3) r3 (s1.trans s3)⟩
    rw [if_neg c6] at hne h he
    refine if_f (decide_eq_false c6) ?_
    refine ⟨_, rfl, okd_str' of, rfl, ?_⟩
    rw [str_eq]
    by_cases c7 : w = insT
    · rw [if_pos c7] at hne h he
      refine if_t (decide_eq_true c7) ?_
      refine ⟨_, rfl, ?_⟩
      refine ⟨_, rfl, p, _, rfl, r1.ins, rfl, _, rfl, _, rfl, w_rpair H.to_Reader_pair r1 l1 .set .set (by omega) (fun x y j3 S3 e3 r3 s3 ox oy => ?_) fun i S' e s => he i S' (bind_er e) (s1.trans s)⟩
      have := h (.two insT x y) j3 S3 (bind_ok e3) r3 (s1.trans s3)
      rw [← c7] at this
      exact ⟨(show 1 + 2 ≤ 16777216 by decide), this⟩
    rw [if_neg c7] at hne h he
    refine if_f (decide_eq_false c7) ?_
    have c8 : w = belT ∨ w = samT := by
      simp only [simL, List.mem_cons, List.mem_nil_iff, or_false] at c0
      rcases c0 with z | z | z | z | z | z | z | z | z
      · exact absurd z c1
      · exact absurd z c2
      · exact absurd z c4
      · exact absurd z c5
      · exact .inl z
      · exact .inr z
      · exact absurd z c6
      · exact absurd z c7
      · exact absurd z c3
    rw [if_pos c8] at hne h he
    refine ⟨_, rfl, ?_⟩
    refine ⟨_, rfl, p, _, rfl, r1.ins, rfl, _, rfl, _, rfl, w_rpair H.to_Reader_pair r1 l1 .el .el (by omega) (fun x y j3 S3 e3 r3 s3 ox oy => ?_) fun i S' e s => he i S' (bind_er e) (s1.trans s)⟩
    exact ⟨(show 1 + 2 ≤ 16777216 by decide), h (.two w x y) j3 S3 (bind_ok e3) r3 (s1.trans s3)⟩
  · have c0 := of_decide_eq_false c0
    have no : ∀ x ∈ simL, ¬ w = x := fun x hx z => c0 (z ▸ hx)
    refine he j S ?_ .refl
    rw [if_neg (no _ (by decide)), if_neg (no _ (by decide)), if_neg (no _ (by decide)), if_neg (no _ (by decide)), if_neg (no _ (by decide)), if_neg (no _ (by decide)), if_neg (no _ (by decide)), if_neg fun z => z.elim (no _ (by decide)) (no _ (by decide))]
theorem w_rd (H : Up_Reader_either P) (N : Nat) : ∀ n, RdSp P T N p n
  | 0 => fun md j k S q qx _ _ hne _ _ _ => absurd rfl hne
  | n + 1 => fun md j k S q qx hr hj hne hk h he => by
    have ih := w_rd H N n
    obtain ⟨k, rfl⟩ : ∃ j, k = j + 1 := ⟨k - 1, by omega⟩
    cases md with
    | eit => exact w_rd_eit H ih j k S q qx hr hj hne (by omega) h he
    | bot => exact w_rd_bot H ih j k S q qx hr hj hne (by omega) h he
    | den => exact w_rd_den H ih j k S q qx hr hj hne (by omega) h he
    | sim => exact w_rd_sim H ih j k S q qx hr hj hne (by omega) h he
end
end U
/-! U118: formulas as drawn, the names of their quantifiers. (w_matrixN was made from U71's w_matrix3.) -/
namespace U
open PySem DL
local macro_rules | `(tactic| and_intros) => `(tactic| repeat (first | refine ⟨_, rfl, ?_⟩ | refine ⟨rfl, ?_⟩))
noncomputable abbrev xyzL : List Bs := [[120], [121], [122]]
noncomputable def qN : Fm → Bool
  | .at_ _ => true
  | .not f => qN f
  | .bin _ f g => qN f && qN g
  | .q _ x f => decide (x ∈ xyzL) && qN f
theorem and3' {a b : Bool} (h : a = true) (g : b = true) : (a && b) = true := by rw [h, g]; rfl
section
variable {P : Pg} {p : Addr}
theorem w_matrixN (H : Up__law_matrix P) {d : D} {ways : Int} {labels : List Bs} (kd : KindOk d ways labels) (Y : List Bs) (hY : ∀ x ∈ Y, okS' x = true) (hYl : Y.length ≤ 1000) : ∀ (n : Nat) (X : List Bs) (k : Nat) (c : Int) (sg : D) (S : Sto) (q : QD) (qx : QX), (∀ x ∈ X, okS' x = true) → X.length + n ≤ 1000 → c = n → n + 3 ≤ k → sg = nms X → TapeOk p S →
    (∀ f S', WS ways labels X Y f → qN f = true → dep f ≤ n + 1 → TapeOk p S' → Oth p S S' → q (enc f) S') → P.spec k 17 [.ref p, d, sg, nms Y, .int c] S q qx
  | _, _, 0, _, _, _, _, _, _, _, _, hk, _, _, _ => by omega
  | 0, X, k + 1, c, sg, S, q, qx, hX, hl, hc, hk, hs, ht, h => by
    refine Pg.spec_succ H.self rfl ?_
    subst hc; subst hs
    and_intros
    refine w_atom H.to__law_atom kd X Y hX (by omega) hY hYl qx (by omega) ht fun a S' wa ht' o1 => ?_
    exact h (.at_ a) S' wa rfl (by unfold dep; omega) ht' o1
  | n + 1, X, k + 1, c, sg, S, q, qx, hX, hl, hc, hk, hs, ht, h => by
    refine Pg.spec_succ H.self rfl ?_
    subst hs
    have T := H.to__law_take
    and_intros
    refine if_t (decide_eq_true (show (0 : Int) < c by omega)) ?_
    and_intros
    refine w_take T (by decide) (by decide) ht _ (by omega) fun r S1 h0 h1 ht1 o1 => ?_
    and_intros
    by_cases c3 : r < 3
    · refine if_t (decide_eq_true c3) ?_
      and_intros
      refine w_atom H.to__law_atom kd X Y hX (by omega) hY hYl qx (by omega) ht1 fun a S' wa ht' o2 => ?_
      exact h (.at_ a) S' wa rfl (by unfold dep; omega) ht' (o1.trans o2)
    refine if_f (decide_eq_false c3) ?_
    and_intros
    by_cases c33 : r = 3
    · subst c33
      and_intros
      refine w_matrixN H kd Y hY hYl n X k _ _ _ _ _ hX (by omega) (by omega) (by omega) rfl ht1 fun f S2 wf nf df ht2 o2 => ?_
      and_intros
      exact h (.not f) S2 wf nf (by unfold dep; omega) ht2 (o1.trans o2)
    refine if_f (int_ne c33) ?_
    and_intros
    by_cases c7 : r < 7
    · refine if_t (decide_eq_true c7) ?_
      and_intros
      refine w_take T (by decide) (by decide) ht1 _ (by omega) fun r1 S2 g0 g1 ht2 o2 => ?_
      have o12 := o1.trans o2
      have : r1 = 0 ∨ r1 = 1 := by omega
      rcases this with rfl | rfl
      · refine ⟨_, rfl, ?_⟩
        and_intros
        refine w_matrixN H kd Y hY hYl n X k _ _ _ _ _ hX (by omega) (by omega) (by omega) rfl ht2 fun f S3 wf nf df ht3 o3 => ?_
        and_intros
        refine w_matrixN H kd Y hY hYl n X k _ _ _ _ _ hX (by omega) (by omega) (by omega) rfl ht3 fun g S4 wg ng dg ht4 o4 => ?_
        exact h (.bin true f g) S4 ⟨wf, wg⟩ (and3' nf ng) (by unfold dep; omega) ht4 ((o12.trans o3).trans o4)
      · refine ⟨_, rfl, ?_⟩
        and_intros
        refine w_matrixN H kd Y hY hYl n X k _ _ _ _ _ hX (by omega) (by omega) (by omega) rfl ht2 fun f S3 wf nf df ht3 o3 => ?_
        and_intros
        refine w_matrixN H kd Y hY hYl n X k _ _ _ _ _ hX (by omega) (by omega) (by omega) rfl ht3 fun g S4 wg ng dg ht4 o4 => ?_
        exact h (.bin false f g) S4 ⟨wf, wg⟩ (and3' nf ng) (by unfold dep; omega) ht4 ((o12.trans o3).trans o4)
    refine if_f (decide_eq_false c7) ?_
    and_intros
    refine w_take T (by decide) (by decide) ht1 _ (by omega) fun r1 S2 g0 g1 ht2 o2 => ?_
    have o12 := o1.trans o2
    have last : ∀ (al : Bool) (y : Bs) (S3 : Sto), (okS' y = true ∧ eN y = true) → y ∈ xyzL → TapeOk p S3 → Oth p S S3 → wSs (P.G k qx) [.ret (.tup (.cons (.var 6) (.cons (.var 7) (.cons (.call 17 (.cons (.var 0) (.cons (.var 1) (.cons (.bin .add (.var 2) (.lst (.cons (.var 7) .nil))) (.cons (.var 3) (.cons (.bin .sub (.var 4) (.int 1)) .nil)))))) .nil))))]
        [some (.ref p), some d, some (nms X), some (nms Y), some (.int c), some (.int r), some (.str (encQ (if al = true then .all else .some))), some (.str y), none] S3 (bodyK q) := by
      intro al y S3 oy hq ht3 o3
      and_intros
      refine ⟨by rw [List.length_map]; show X.length + 1 ≤ 16777216; omega, ?_⟩
      and_intros
      refine w_matrixN H kd Y hY hYl n (X ++ [y]) k _ _ _ _ _ (fun x hx => ?_) (by simp at hl ⊢; omega) (by omega) (by omega) (by simp [nms]) ht3 fun f S4 wf nf df ht4 o4 => ?_
      · rcases List.mem_append.mp hx with h | h
        · exact hX x h
        · rw [show x = y by simpa using h]; exact oy.1
      · have wf : WS ways labels (y :: X) Y f := wf.mono (fun z hz => by
          rcases List.mem_append.mp hz with h | h
          · exact List.mem_cons_of_mem _ h
          · rw [show z = y by simpa using h]; exact List.mem_cons_self) (fun _ h => h)
        cases al
        · exact h (.q .some y f) S4 ⟨oy, wf⟩ (and3' (decide_eq_true hq) nf) (by unfold dep; omega) ht4 (o3.trans o4)
        · exact h (.q .all y f) S4 ⟨oy, wf⟩ (and3' (decide_eq_true hq) nf) (by unfold dep; omega) ht4 (o3.trans o4)
    have nm : ∀ (al : Bool), wSs (P.G k qx) [.set (.nm 7) (.idx (.lst (.cons (.str [120]) (.cons (.str [121]) (.cons (.str [122]) .nil)))) (.call 8 (.cons (.var 0) (.cons (.int 3) .nil)))),
          .ret (.tup (.cons (.var 6) (.cons (.var 7) (.cons (.call 17 (.cons (.var 0) (.cons (.var 1) (.cons (.bin .add (.var 2) (.lst (.cons (.var 7) .nil))) (.cons (.var 3) (.cons (.bin .sub (.var 4) (.int 1)) .nil)))))) .nil))))]
        [some (.ref p), some d, some (nms X), some (nms Y), some (.int c), some (.int r), some (.str (encQ (if al = true then .all else .some))), none, none] S2 (bodyK q) := by
      intro al
      and_intros
      refine w_take T (by decide) (by decide) ht2 _ (by omega) fun r2 S3 g0 g1 ht3 o3 => ?_
      have o13 := o12.trans o3
      have : r2 = 0 ∨ r2 = 1 ∨ r2 = 2 := by omega
      rcases this with rfl | rfl | rfl
      · exact ⟨_, rfl, last al [120] S3 ⟨by decide, by decide⟩ (by decide) ht3 o13⟩
      · exact ⟨_, rfl, last al [121] S3 ⟨by decide, by decide⟩ (by decide) ht3 o13⟩
      · exact ⟨_, rfl, last al [122] S3 ⟨by decide, by decide⟩ (by decide) ht3 o13⟩
    have : r1 = 0 ∨ r1 = 1 := by omega
    rcases this with rfl | rfl
    · exact ⟨_, rfl, nm false⟩
    · exact ⟨_, rfl, nm true⟩
end
end U
/-! U119: how the laws print formulas. -/
namespace U
open PySem DL
noncomputable abbrev kTxt : Bs := [116, 101, 120, 116]
noncomputable def OutAt (po : Addr) (x : Bs) (S : Sto) : Prop := S po = some (.dct [(.str kTxt, .str x)])
/-- a text of pieces with gaps -/
inductive Bt : Bs → List Bs → Prop
  | nil : Bt [] []
  | put {x g s : Bs} {ps : List Bs} : Bt x ps → s ≠ [] → (∀ c ∈ g, c = 32 ∨ c = 10) → g.length ≤ 2 → (g = [] → ∀ c d, x.getLast? = some c → s.head? = some d → ¬ (isAl c = true ∧ isAl d = true)) → Bt (x ++ (g ++ s)) (ps ++ [s])
noncomputable def Sm2 (pt po : Addr) (S S' : Sto) : Prop := ∀ a, a ≠ pt → a ≠ po → S' a = S a
theorem Sm2.refl {pt po : Addr} {S : Sto} : Sm2 pt po S S := fun _ _ _ => rfl
theorem Sm2.trans {pt po : Addr} {S S1 S2 : Sto} (h : Sm2 pt po S S1) (g : Sm2 pt po S1 S2) : Sm2 pt po S S2 := fun a n m => (g a n m).trans (h a n m)
theorem last_cut (x : Bs) : cutD x (some (-1)) none = x.getLast?.toList := by
  rcases List.eq_nil_or_concat x with rfl | ⟨y, c, rfl⟩
  · rfl
  · rw [List.concat_eq_append]
    unfold cutD
    have e1 : HT.sIx (y ++ [c]).length 0 (some (-1)) = y.length := by
      unfold HT.sIx
      simp
      omega
    have e2 : HT.sIx (y ++ [c]).length (y ++ [c]).length none = (y ++ [c]).length := rfl
    rw [e1, e2, List.drop_left, List.length_append, List.length_singleton, show y.length + 1 - y.length = 1 by omega]
    simp
theorem okS_app {x y : Bs} (h : okS' x = true) (g : okS' y = true) : okS' (x ++ y) = true := by
  refine List.all_eq_true.mpr fun c hc => ?_
  rcases List.mem_append.mp hc with hc | hc
  · exact List.all_eq_true.mp h c hc
  · exact List.all_eq_true.mp g c hc
noncomputable abbrev aldT : Bs := [97, 98, 99, 100, 101, 102, 103, 104, 105, 106, 107, 108, 109, 110, 111, 112, 113, 114, 115, 116, 117, 118, 119, 120, 121, 122, 65, 66, 67, 68, 69, 70, 71, 72, 73, 74, 75, 76, 77, 78, 79, 80, 81, 82, 83, 84, 85, 86, 87, 88, 89, 90, 48, 49, 50, 51, 52, 53, 54, 55, 56, 57]
theorem ald_al (c : Nat) : decide (c ∈ aldT) = isAl c := by
  have e : aldT = letT ++ digT := rfl
  unfold isAl
  rw [e]
  by_cases h1 : c ∈ letT
  · rw [decide_eq_true h1, decide_eq_true (List.mem_append_left _ h1)]; rfl
  · rw [decide_eq_false h1, Bool.false_or]
    by_cases h2 : c ∈ digT
    · rw [decide_eq_true h2, decide_eq_true (List.mem_append_right _ h2)]
    · rw [decide_eq_false h2, decide_eq_false fun z => (List.mem_append.mp z).elim h1 h2]
section
variable {P : Pg} {k : Nat} {q : QD}
set_option maxHeartbeats 1000000 in
theorem w_lput (H : Up__law_put P) {pt po : Addr} (ne : pt ≠ po) {x s : Bs} {ps : List Bs} (bt : Bt x ps) (hx : x.length ≤ 100000) (ox : okS' x = true) (os : okS' s = true) (sn : s ≠ []) (sl : s.length ≤ 1000) {S : Sto} (ht : TapeOk pt S) (ho : OutAt po x S) (qx : QX) (hk : 2 ≤ k)
    (h : ∀ x' S', Bt x' (ps ++ [s]) → x'.length ≤ x.length + s.length + 2 → okS' x' = true → OutAt po x' S' → TapeOk pt S' → Sm2 pt po S S' → q .non S') : P.spec k 229 [.ref pt, .ref po, .str s] S q qx := by
  obtain ⟨k, rfl⟩ : ∃ j, k = j + 1 := ⟨k - 1, by omega⟩
  refine Pg.spec_succ H.self rfl ?_
  have ho' : S po = some (.dct [(.str kTxt, .str x)]) := ho
  refine ⟨_, rfl, idx_ref (y := .str kTxt) ho' rfl rfl ?_⟩
  refine ⟨_, rfl, ?_⟩
  rw [last_cut x]
  -- the last statement
  have tail : ∀ (g : Bs) (S1 : Sto) (y3 y4 : Option D), TapeOk pt S1 → Oth pt S S1 → okS' g = true → (∀ c ∈ g, c = 32 ∨ c = 10) → g.length ≤ 2 → (g = [] → ∀ c d, x.getLast? = some c → s.head? = some d → ¬ (isAl c = true ∧ isAl d = true)) →
      wSs (P.G k qx) (f__law_put.body.drop 4) [some (.ref pt), some (.ref po), some (.str s), y3, y4, some (.str g)] S1 (bodyK q) := fun g S1 y3 y4 t1 o1 og g1 g2 g3 => by
    have ho1 : S1 po = some (.dct [(.str kTxt, .str x)]) := (o1 po ne.symm).trans ho'
    refine ⟨_, rfl, idx_ref (y := .str kTxt) ho1 rfl rfl ⟨_, rfl, (show x.length + g.length ≤ 16777216 by omega), _, rfl, (show (x ++ g).length + s.length ≤ 16777216 by rw [List.length_append]; omega), _, rfl, put_ref ho1 rfl (show 1 < 16777216 by decide) ?_⟩⟩
    refine h (x ++ (g ++ s)) _ (.put bt sn g1 g2 g3) (by rw [List.length_append, List.length_append]; omega) (okS_app ox (okS_app og os)) ?_ (t1.at (ups_ne ne)) fun a n m => (ups_ne m).trans (o1 a n)
    show ups _ _ _ po = _
    rw [ups_same, ← List.append_assoc]
    rfl
  refine w_take H.to__law_take (by decide) (by decide) ht _ (by omega) fun r S1 h0 h1 t1 o1 => ?_
  have c4 : r / 4 = 0 ∨ r / 4 = 1 ∨ r / 4 = 2 ∨ r / 4 = 3 := by omega
  refine ⟨⟨by decide, by decide⟩, ?_⟩
  rcases c4 with e | e | e | e
  · rw [e]
    refine ⟨_, rfl, ?_⟩
    refine ⟨_, rfl, rfl, rfl, ?_⟩
    exact tail [32] S1 _ _ t1 o1 (by decide) (by decide) (by decide) (fun z => by cases z)
  · rw [e]
    refine ⟨_, rfl, ?_⟩
    refine ⟨_, rfl, rfl, rfl, ?_⟩
    have g0 : ∀ c ∈ ([] : Bs), c = 32 ∨ c = 10 := fun c hc => by cases hc
    cases s with
    | nil => exact absurd rfl sn
    | cons d s =>
    cases el : x.getLast? with
    | none =>
      refine ⟨_, rfl, rfl, rfl, ?_⟩
      exact tail [] S1 _ _ t1 o1 rfl g0 (Nat.zero_le _) (fun _ c d e => by rw [el] at e; cases e)
    | some c =>
      have hc : c ∈ x := List.mem_of_getLast? el
      have oc : okS' [c] = true := List.all_eq_true.mpr fun z hz => by rw [List.mem_singleton.mp hz]; exact List.all_eq_true.mp ox c hc
      refine ⟨_, rfl, okd_str' oc, rfl, ?_⟩
      refine ⟨_, rfl, _, rfl, ?_⟩
      refine if_c (fun c1 => ?_) fun c1 => ?_
      · refine ⟨_, rfl, _, rfl, _, rfl, ?_⟩
        refine if_c (fun c2 => ?_) fun c2 => ?_
        · exact tail [32] S1 _ _ t1 o1 (by decide) (by decide) (by decide) (fun z => by cases z)
        · have c2 : decide (d ∈ aldT) = false := c2
          rw [ald_al] at c2
          refine tail [] S1 _ _ t1 o1 rfl g0 (Nat.zero_le _) (fun _ a b ea eb z => ?_)
          cases eb
          rw [c2] at z
          cases z.2
      · have c1 : decide (c ∈ aldT) = false := c1
        refine if_f c1 ?_
        rw [ald_al] at c1
        refine tail [] S1 _ _ t1 o1 rfl g0 (Nat.zero_le _) (fun _ a b ea eb z => ?_)
        rw [el] at ea
        cases ea
        rw [c1] at z
        cases z.1
  · rw [e]
    refine ⟨_, rfl, ?_⟩
    refine ⟨_, rfl, rfl, rfl, ?_⟩
    exact tail [10] S1 _ _ t1 o1 (by decide) (by decide) (by decide) (fun z => by cases z)
  · rw [e]
    refine ⟨_, rfl, ?_⟩
    refine ⟨_, rfl, rfl, rfl, ?_⟩
    exact tail [32, 32] S1 _ _ t1 o1 (by decide) (by decide) (by decide) (fun z => by cases z)
end
end U
/-! U120: formulas as they are printed. -/
namespace U
open PySem DL
local macro_rules | `(tactic| and_intros) => `(tactic| repeat (first | refine ⟨_, rfl, ?_⟩ | refine ⟨rfl, ?_⟩))
/-! ### plain -/
noncomputable abbrev nvL : List Bs := [[120], [121], [122], [88], [121, 49], [117, 86, 57], [89, 50]]
noncomputable abbrev nlL : List Bs := [[97], [98], [100], [122]]
noncomputable def tkL : List Bs := nvL ++ (nlL ++ (wrdL ++ [[40], [41], [44], [58], [48], [49]]))
theorem tk_ok : ∀ s ∈ tkL, s ≠ [] ∧ s.length ≤ 6 ∧ okS' s = true := by decide +kernel
noncomputable def digW (w : Int) : Bs := if w = 0 then [48] else [49]
noncomputable def atT : Atm → List Bs
  | .inside a b => [insT, [40], a, [44], b, [41]]
  | .inn a b => [innT, [40], a, [44], b, [41]]
  | .tru => [truT]
  | .label l x => [labT, l, [40], x, [41]]
  | .top x => [topT, [40], x, [41]]
  | .same x y => [samT, [40], x, [44], y, [41]]
  | .child w x y => [chiT, digW w, [40], x, [44], y, [41]]
  | .below x y => [belT, [40], x, [44], y, [41]]
noncomputable def ShA : Atm → Prop
  | .inside a b => a ∈ nvL ∧ b ∈ nvL
  | .inn a b => a ∈ nvL ∧ b ∈ nvL
  | .tru => True
  | .label l x => l ∈ nlL ∧ x ∈ nvL
  | .top x => x ∈ nvL
  | .same x y => x ∈ nvL ∧ y ∈ nvL
  | .child w x y => (w = 0 ∨ w = 1) ∧ x ∈ nvL ∧ y ∈ nvL
  | .below x y => x ∈ nvL ∧ y ∈ nvL
noncomputable def ShF : Fm → Prop
  | .at_ a => ShA a
  | .not f => ShF f
  | .bin _ f g => ShF f ∧ ShF g
  | .q _ x f => x ∈ nvL ∧ ShF f
noncomputable def rkB : Bool → Nat
  | true => 1
  | false => 0
noncomputable def rkF : Fm → Nat
  | .at_ _ => 3
  | .bin an _ _ => rkB an
  | _ => 2
noncomputable def qwT : Qw → Bs
  | .some => somT
  | .someset => somT
  | _ => allT
/-- which tokens are printed; none: bare -/
inductive Pr : Option Nat → Fm → List Bs → Prop
  | bare {l : Nat} {f : Fm} {ts : List Bs} : l ≤ rkF f → Pr none f ts → Pr (some l) f ts
  | brk {l : Nat} {f : Fm} {ts : List Bs} : Pr none f ts → Pr (some l) f ([40] :: (ts ++ [[41]]))
  | atm {a : Atm} : Pr none (.at_ a) (atT a)
  | neg {f : Fm} {ts : List Bs} : Pr (some 2) f ts → Pr none (.not f) (notT :: ts)
  | bin {an : Bool} {f g : Fm} {ts us : List Bs} : Pr (some (rkB an)) f ts → Pr (some (rkB an + 1)) g us → Pr none (.bin an f g) (ts ++ (encB an :: us))
  | qn {w : Qw} {x : Bs} {f : Fm} {ts : List Bs} : Pr (some 2) f ts → Pr none (.q w x f) (qwT w :: x :: [58] :: ts)
theorem nv_tk {x : Bs} (h : x ∈ nvL) : x ∈ tkL := List.mem_append_left _ h
theorem nl_tk {x : Bs} (h : x ∈ nlL) : x ∈ tkL := List.mem_append_right _ (List.mem_append_left _ h)
theorem digW_tk (w : Int) : digW w ∈ tkL := by unfold digW; split <;> decide
theorem tk2 {w a b : Bs} (hw : w ∈ tkL) (ha : a ∈ nvL) (hb : b ∈ nvL) : ∀ s ∈ [w, [40], a, [44], b, [41]], s ∈ tkL := fun s hs => by
  simp only [List.mem_cons, List.mem_nil_iff, or_false] at hs
  rcases hs with rfl | rfl | rfl | rfl | rfl | rfl
  · exact hw
  · decide
  · exact nv_tk ha
  · decide
  · exact nv_tk hb
  · decide
theorem atT_tk {a : Atm} (h : ShA a) : ∀ s ∈ atT a, s ∈ tkL := by
  cases a with
  | inside a b => exact tk2 (by decide) h.1 h.2
  | inn a b => exact tk2 (by decide) h.1 h.2
  | tru => intro s hs; rw [List.mem_singleton.mp hs]; decide
  | label l x =>
    intro s hs
    simp only [atT, List.mem_cons, List.mem_nil_iff, or_false] at hs
    rcases hs with rfl | rfl | rfl | rfl | rfl
    · decide
    · exact nl_tk h.1
    · decide
    · exact nv_tk h.2
    · decide
  | top x =>
    intro s hs
    simp only [atT, List.mem_cons, List.mem_nil_iff, or_false] at hs
    rcases hs with rfl | rfl | rfl | rfl
    · decide
    · decide
    · exact nv_tk h
    · decide
  | same x y => exact tk2 (by decide) h.1 h.2
  | child w x y =>
    intro s hs
    rcases List.mem_cons.mp hs with rfl | hs
    · decide
    · rcases List.mem_cons.mp hs with rfl | hs
      · exact digW_tk w
      · exact tk2 (w := truT) (by decide) h.2.1 h.2.2 s (List.mem_cons_of_mem _ hs)
  | below x y => exact tk2 (by decide) h.1 h.2
theorem encB_tk (an : Bool) : encB an ∈ tkL := by cases an <;> decide
theorem qwT_tk (w : Qw) : qwT w ∈ tkL := by cases w <;> decide
theorem pr_tk {o : Option Nat} {f : Fm} {ts : List Bs} (h : Pr o f ts) (sh : ShF f) : ∀ s ∈ ts, s ∈ tkL := by
  induction h with
  | bare _ _ ih => exact ih sh
  | brk _ ih =>
    intro s hs
    rcases List.mem_cons.mp hs with rfl | hs
    · decide
    · rcases List.mem_append.mp hs with hs | hs
      · exact ih sh s hs
      · rw [List.mem_singleton.mp hs]; decide
  | atm => exact atT_tk sh
  | neg _ ih =>
    intro s hs
    rcases List.mem_cons.mp hs with rfl | hs
    · decide
    · exact ih sh s hs
  | bin _ _ ih1 ih2 =>
    intro s hs
    rcases List.mem_append.mp hs with hs | hs
    · exact ih1 sh.1 s hs
    · rcases List.mem_cons.mp hs with rfl | hs
      · exact encB_tk _
      · exact ih2 sh.2 s hs
  | qn _ ih =>
    intro s hs
    rcases List.mem_cons.mp hs with rfl | hs
    · exact qwT_tk _
    · rcases List.mem_cons.mp hs with rfl | hs
      · exact nv_tk sh.1
      · rcases List.mem_cons.mp hs with rfl | hs
        · decide
        · exact ih sh.2 s hs
/-- how many tokens, how heavy, at most -/
noncomputable def nB : Fm → Nat
  | .at_ _ => 9
  | .not f => nB f + 3
  | .bin _ f g => nB f + nB g + 3
  | .q _ _ f => nB f + 5
noncomputable def wF : Fm → Nat
  | .at_ _ => 10
  | .not f => wF f + 5
  | .bin _ f g => wF f + wF g + 5
  | .q _ _ f => wF f + 5
noncomputable def oB (n : Nat) : Option Nat → Nat
  | none => n
  | some _ => 0
theorem pr_len {o : Option Nat} {f : Fm} {ts : List Bs} (h : Pr o f ts) : ts.length + oB 2 o ≤ nB f := by
  induction h with
  | bare _ _ ih => have : oB 2 none = 2 := rfl; unfold oB at ih ⊢; simp only at ih ⊢; omega
  | brk _ ih => unfold oB at ih ⊢; simp only [List.length_cons, List.length_append, List.length_nil] at ih ⊢; omega
  | @atm a => cases a <;> (unfold oB nB atT; simp)
  | neg _ ih => unfold oB at ih ⊢; unfold nB; simp only [List.length_cons] at ih ⊢; omega
  | bin _ _ ih1 ih2 => unfold oB at ih1 ih2 ⊢; unfold nB; simp only [List.length_cons, List.length_append] at ih1 ih2 ⊢; omega
  | qn _ ih => unfold oB at ih ⊢; unfold nB; simp only [List.length_cons] at ih ⊢; omega
theorem nB_dep : ∀ (f : Fm) (n : Nat), dep f ≤ n + 1 → nB f + 3 ≤ 12 * 2 ^ n ∧ wF f + 5 ≤ 15 * 2 ^ n
  | .at_ _, n, _ => by
    have : 1 ≤ 2 ^ n := Nat.one_le_two_pow
    unfold nB wF
    omega
  | .not f, n, h => by
    unfold dep at h
    have := dep_pos f
    obtain ⟨m, rfl⟩ : ∃ m, n = m + 1 := ⟨n - 1, by omega⟩
    have := nB_dep f m (by omega)
    rw [Nat.pow_succ]
    unfold nB wF
    omega
  | .bin _ f g, n, h => by
    unfold dep at h
    have := dep_pos f
    obtain ⟨m, rfl⟩ : ∃ m, n = m + 1 := ⟨n - 1, by omega⟩
    have := nB_dep f m (by omega)
    have := nB_dep g m (by omega)
    rw [Nat.pow_succ]
    unfold nB wF
    omega
  | .q _ _ f, n, h => by
    unfold dep at h
    have := dep_pos f
    obtain ⟨m, rfl⟩ : ∃ m, n = m + 1 := ⟨n - 1, by omega⟩
    have := nB_dep f m (by omega)
    have : 1 ≤ 2 ^ m := Nat.one_le_two_pow
    rw [Nat.pow_succ]
    unfold nB wF
    omega
noncomputable def Gd (ps : List Bs) : Prop := ∀ s ∈ ps, s ∈ tkL
theorem Gd.app {ps qs : List Bs} (h : Gd ps) (g : Gd qs) : Gd (ps ++ qs) := fun s hs => (List.mem_append.mp hs).elim (h s) (g s)
theorem Gd.one {s : Bs} (h : s ∈ tkL) : Gd [s] := fun t ht => by rw [List.mem_singleton.mp ht]; exact h
theorem bt_len {x : Bs} {ps : List Bs} (h : Bt x ps) (g : Gd ps) : x.length ≤ 8 * ps.length ∧ okS' x = true := by
  induction h with
  | nil => exact ⟨Nat.le_refl _, rfl⟩
  | @put x gp s ps bt sn g1 g2 g3 ih =>
    obtain ⟨i1, i2⟩ := ih fun t ht => g t (List.mem_append_left _ ht)
    obtain ⟨_, s2, s3⟩ := tk_ok s (g s (List.mem_append_right _ List.mem_cons_self))
    refine ⟨?_, okS_app i2 (okS_app (List.all_eq_true.mpr fun c hc => ?_) s3)⟩
    · simp only [List.length_append, List.length_cons, List.length_nil]; omega
    · rcases g1 c hc with rfl | rfl <;> rfl
section
variable {P : Pg} {k : Nat} {q : QD}
theorem w_lput1 (H : Up__law_put P) {pt po : Addr} (ne : pt ≠ po) {x s : Bs} {ps : List Bs} (bt : Bt x ps) (gd : Gd ps) (hl : ps.length ≤ 1000) (sg : s ∈ tkL) {S : Sto} (ht : TapeOk pt S) (ho : OutAt po x S) (qx : QX) (hk : 2 ≤ k)
    (h : ∀ x' S', Bt x' (ps ++ [s]) → OutAt po x' S' → TapeOk pt S' → q .non S') : P.spec k 229 [.ref pt, .ref po, .str s] S q qx := by
  obtain ⟨b1, b2⟩ := bt_len bt gd
  obtain ⟨s1, s2, s3⟩ := tk_ok s sg
  exact w_lput H ne bt (by omega) b2 s3 s1 (by omega) ht ho qx hk fun x' S' h1 _ _ h4 h5 _ => h x' S' h1 h4 h5
theorem w_lputall (H : Up__law_put_all P) {pt po : Addr} (ne : pt ≠ po) {x : Bs} {ps : List Bs} (bt : Bt x ps) (gd : Gd ps) {ss : List Bs} (sg : Gd ss) (hl : ps.length + ss.length ≤ 1000) {S : Sto} (ht : TapeOk pt S) (ho : OutAt po x S) (qx : QX) (hk : 3 ≤ k)
    (h : ∀ x' S', Bt x' (ps ++ ss) → OutAt po x' S' → TapeOk pt S' → q .non S') : P.spec k 230 [.ref pt, .ref po, .lst (ss.map .str)] S q qx := by
  obtain ⟨k, rfl⟩ : ∃ j, k = j + 1 := ⟨k - 1, by omega⟩
  refine Pg.spec_succ H.self rfl ?_
  refine ⟨_, rfl, ?_⟩
  refine forL_pre (e := D.str) (fun dn ρ S' => ∃ x', Bt x' (ps ++ dn) ∧ OutAt po x' S' ∧ TapeOk pt S' ∧ ∃ y, ρ = [some (.ref pt), some (.ref po), some (.lst (ss.map .str)), y]) ss [] ss _ _ rfl ⟨x, by rw [List.append_nil]; exact bt, ho, ht, none, rfl⟩ ?_ ?_
  · rintro dn s r ρ S' ha ⟨x', bt', ho', ht', y, rfl⟩ kk hh
    have hs : s ∈ ss := by rw [ha]; simp
    have hd : ∀ z ∈ dn, z ∈ ss := fun z hz => by rw [ha]; exact List.mem_append_left _ hz
    have hdl : dn.length ≤ ss.length := by rw [ha, List.length_append]; omega
    refine ⟨_, rfl, _, rfl, _, rfl, w_lput1 H.to__law_put ne bt' (gd.app fun z hz => sg z (hd z hz)) (by rw [List.length_append]; omega) (sg s hs) ht' ho' _ (by omega) fun x2 S2 b2 o2 t2 => ?_⟩
    exact hh _ _ ⟨x2, by rw [← List.append_assoc]; exact b2, o2, t2, _, rfl⟩
  · rintro ρ S' ⟨x', bt', ho', ht', y, rfl⟩
    exact h x' S' bt' ho' ht'
end
end U
/-! U121: how a formula is printed, walked. -/
namespace U
open PySem DL
theorem dgt_dct2 {S : Sto} {p : Addr} {kvs : List (D × D)} {y z : D} {Q : D → Prop} (h : S p = some (.dct kvs)) (hk : isKey y = true) (q : Q ((lookD kvs y).getD z)) : wDgt S p y z Q := by
  unfold wDgt
  simp only [h]
  exact ⟨hk, q⟩
noncomputable abbrev pfB : List DL.S := f__law_put_formula.body
noncomputable abbrev pfBig : DL.S := match pfB.drop 4 with | s :: _ => s | _ => .pass
noncomputable abbrev wdTab : List (Bs × Int) := [(labT, 3), (chiT, 3), (belT, 3), (samT, 3), (topT, 3), (innT, 3), (insT, 3), (truT, 3), (notT, 2), (somT, 2), (allT, 2), (encQ .someset, 2), (encQ .allset, 2), (andT, 1), (orT, 0)]
theorem frz_rep {S : Sto} {p : Addr} {ds : List D} {Q : QD} (hp : S p = none) (q : Q (.lst ds) S) :
    match (ups S p (.lst ds)) p with
      | some (.lst ds2) => fin false (.lst ds2) (DL.del (ups S p (.lst ds)) p) Q
      | some (.dct kvs) => fin false (.dct kvs) (DL.del (ups S p (.lst ds)) p) Q
      | _ => False := by
  refine frz_lst (ups_same) ?_
  have : DL.del (ups S p (.lst ds)) p = S := by
    funext b
    unfold DL.del ups
    by_cases hb : b = p
    · subst hb; rw [if_pos rfl, hp]
    · rw [if_neg hb, if_neg hb]
  rw [this]
  exact q
section
variable {P : Pg} {k : Nat} {q : QD} {pt po : Addr}
noncomputable abbrev lst8 : List D := [D.str [108, 97, 98, 101, 108], D.str [99, 104, 105, 108, 100], D.str [98, 101, 108, 111, 119],
          D.str [115, 97, 109, 101], D.str [116, 111, 112], D.str [105, 110], D.str [105, 110, 115, 105, 100, 101],
          D.str [116, 114, 117, 101]]
theorem dgtF {w : Bs} {G : Gx} {ρ : DL.Env} {F : QD} {S : Sto} (e : (lst8.any fun z => dEq z (D.str w)) = false) (h : F (.int 2) S) : (fun k : Bool => mB (fun k S1 => if k = true then wX G false (.int 3) ρ S1 F else wX G false (.int 2) ρ S1 F) (D.bl k) S) (lst8.any fun z => dEq z (D.str w)) := by
  rw [e]
  exact h
theorem dgtT {w : Bs} {G : Gx} {ρ : DL.Env} {F : QD} {S : Sto} (e : (lst8.any fun z => dEq z (D.str w)) = true) (h : F (.int 3) S) : (fun k : Bool => mB (fun k S1 => if k = true then wX G false (.int 3) ρ S1 F else wX G false (.int 2) ρ S1 F) (D.bl k) S) (lst8.any fun z => dEq z (D.str w)) := by
  rw [e]
  exact h
/-- the first two statements -/
theorem w_pfhead {G : Gx} {w : Bs} {r : Int} (hw : (w, r) ∈ wdTab) {ds : List D} {l : Int} {S : Sto} {K : Ks}
    (h : ∀ p : Addr, S p = none → wSs G (pfB.drop 2) [some (.ref pt), some (.ref po), some (.tup (.str w :: ds)), some (.int l), some (.str w), some (.int r), none, none] (ups S p (.dct [(.str orT, .int 0), (.str andT, .int 1)])) K) :
    wSs G pfB [some (.ref pt), some (.ref po), some (.tup (.str w :: ds)), some (.int l), none, none, none, none] S K := by
  refine ⟨_, rfl, _, rfl, ?_⟩
  refine ⟨_, rfl, rfl, by simp, fun p hp => ?_⟩
  refine ⟨p, rfl, .inl ⟨_, ups_same⟩, ?_⟩
  have h := h p hp
  simp only [wdTab, List.mem_cons, List.mem_nil_iff, or_false, Prod.mk.injEq] at hw
  rcases hw with ⟨rfl, rfl⟩ | ⟨rfl, rfl⟩ | ⟨rfl, rfl⟩ | ⟨rfl, rfl⟩ | ⟨rfl, rfl⟩ | ⟨rfl, rfl⟩ | ⟨rfl, rfl⟩ | ⟨rfl, rfl⟩ | ⟨rfl, rfl⟩ | ⟨rfl, rfl⟩ | ⟨rfl, rfl⟩ | ⟨rfl, rfl⟩ | ⟨rfl, rfl⟩ | ⟨rfl, rfl⟩ | ⟨rfl, rfl⟩
  all_goals refine ⟨_, rfl, _, rfl, rfl, rfl, ?_⟩
  all_goals first
    | exact dgtT (by decide) (dgt_dct2 ups_same rfl h)
    | exact dgtF (by decide) (dgt_dct2 ups_same rfl h)
/-- .. brackets -/
theorem w_pfshell (H : Up__law_put P) (ne : pt ≠ po) {f : Fm} {w : Bs} {ds : List D} {l : Nat} (sh : ShF f) {x : Bs} {ps : List Bs} (bt : Bt x ps) (gd : Gd ps) (hl : ps.length + nB f ≤ 1000) {S : Sto} (ht : TapeOk pt S) (ho : OutAt po x S) (qx : QX) (hk : 2 ≤ k)
    (mid : ∀ (K : Ks) (x : Bs) (ps : List Bs) (S : Sto) (b : Bool), Bt x ps → Gd ps → ps.length + nB f ≤ 1002 → TapeOk pt S → OutAt po x S → (∀ x' ts S' y7, Pr none f ts → Bt x' (ps ++ ts) → OutAt po x' S' → TapeOk pt S' → K.nx [some (.ref pt), some (.ref po), some (.tup (.str w :: ds)), some (natD l), some (.str w), some (natD (rkF f)), some (.bl b), y7] S') →
      wS (P.G k qx) pfBig [some (.ref pt), some (.ref po), some (.tup (.str w :: ds)), some (natD l), some (.str w), some (natD (rkF f)), some (.bl b), none] S K)
    (h : ∀ x' ts S', Pr (some l) f ts → Bt x' (ps ++ ts) → OutAt po x' S' → TapeOk pt S' → q .non S') :
    wSs (P.G k qx) (pfB.drop 2) [some (.ref pt), some (.ref po), some (.tup (.str w :: ds)), some (natD l), some (.str w), some (natD (rkF f)), none, none] S (bodyK q) := by
  have T := H.to__law_take
  -- with brackets
  have yes : ∀ S, TapeOk pt S → OutAt po x S → wSs (P.G k qx) (pfB.drop 3) [some (.ref pt), some (.ref po), some (.tup (.str w :: ds)), some (natD l), some (.str w), some (natD (rkF f)), some (.bl true), none] S (bodyK q) := fun S ht ho => by
    refine ⟨_, rfl, _, rfl, ?_⟩
    refine ⟨_, rfl, _, rfl, w_lput1 H ne bt gd (by omega) (by decide) ht ho _ hk fun x1 S1 b1 o1 t1 => ?_⟩
    refine mid _ x1 (ps ++ [[40]]) S1 true b1 (gd.app (.one (by decide))) (by rw [List.length_append, List.length_singleton]; omega) t1 o1 fun x2 ts S2 y7 pr b2 o2 t2 => ?_
    refine ⟨_, rfl, _, rfl, ?_⟩
    have ll := pr_len pr
    have ll : ts.length + 2 ≤ nB f := ll
    refine ⟨_, rfl, _, rfl, w_lput1 H ne b2 ((gd.app (.one (by decide))).app (pr_tk pr sh)) (by simp only [List.length_append, List.length_singleton]; omega) (by decide) t2 o2 _ hk fun x3 S3 b3 o3 t3 => ?_⟩
    refine h x3 ([40] :: (ts ++ [[41]])) S3 (.brk pr) ?_ o3 t3
    have e : ps ++ [40] :: (ts ++ [[41]]) = ps ++ [[40]] ++ ts ++ [[41]] := by simp
    rw [e]; exact b3
  have no : l ≤ rkF f → ∀ S, TapeOk pt S → OutAt po x S → wSs (P.G k qx) (pfB.drop 3) [some (.ref pt), some (.ref po), some (.tup (.str w :: ds)), some (natD l), some (.str w), some (natD (rkF f)), some (.bl false), none] S (bodyK q) := fun hr S ht ho => by
    refine ⟨_, rfl, _, rfl, ?_⟩
    refine mid _ x ps S false bt gd (by omega) ht ho fun x2 ts S2 y7 pr b2 o2 t2 => ?_
    refine ⟨_, rfl, _, rfl, ?_⟩
    exact h x2 ts S2 (.bare hr pr) b2 o2 t2
  refine ⟨_, rfl, _, rfl, ?_⟩
  refine ⟨_, rfl, ?_⟩
  by_cases c : rkF f < l
  · refine if_nf (decide_eq_true (by omega)) ?_
    rw [decide_eq_true (show ((rkF f : Nat) : Int) < ((l : Nat) : Int) by omega)]
    exact yes S ht ho
  · refine if_nt (decide_eq_false (by omega)) ?_
    refine ⟨_, rfl, w_take T (by decide) (by decide) ht _ (by omega) fun r S1 h0 h1 t1 o1 => ?_⟩
    have ho1 : OutAt po x S1 := (o1 po ne.symm).trans ho
    refine ⟨okd_int, okd_int, ?_⟩
    cases dEq (.int r) (.int 0) with
    | true => exact yes S1 t1 ho1
    | false => exact no (by omega) S1 t1 ho1
theorem decS0 : decS 0 = [48] := by decide +kernel
theorem decS1 : decS 1 = [49] := by decide +kernel
theorem out_fresh {S : Sto} {x : Bs} {p : Addr} {o : DO} (h : OutAt po x S) (hp : S p = none) : OutAt po x (ups S p o) := by
  have : po ≠ p := fun e => by rw [← e] at hp; rw [show S po = _ from h] at hp; cases hp
  exact (ups_ne this).trans h
theorem tape_fresh {S : Sto} {p : Addr} {o : DO} (h : TapeOk pt S) (hp : S p = none) : TapeOk pt (ups S p o) := by
  have : pt ≠ p := fun e => by
    obtain ⟨_, _, _, _, _, h1, _⟩ := h
    rw [← e, h1] at hp
    cases hp
  exact h.at (ups_ne this)
set_option maxHeartbeats 2000000 in
/-- the middle, of an atom -/
theorem w_pfatom (H : Up__law_put_formula P) (ne : pt ≠ po) {a : Atm} (sh : ShA a) (qx : QX) (hk : 3 ≤ k) {l : Nat} : ∃ w ds r, encA a = .tup (.str w :: ds) ∧ (w, r) ∈ wdTab ∧ r = 3 ∧ ∀ (K : Ks) (x : Bs) (ps : List Bs) (S : Sto) (b : Bool), Bt x ps → Gd ps → ps.length + 9 ≤ 1002 → TapeOk pt S → OutAt po x S → (∀ x' S' y7, Bt x' (ps ++ atT a) → OutAt po x' S' → TapeOk pt S' → K.nx [some (.ref pt), some (.ref po), some (.tup (.str w :: ds)), some (natD l), some (.str w), some (natD 3), some (.bl b), y7] S') →
      wS (P.G k qx) pfBig [some (.ref pt), some (.ref po), some (.tup (.str w :: ds)), some (natD l), some (.str w), some (natD 3), some (.bl b), none] S K := by
  have A := H.to__law_put_all
  have gd2 := atT_tk sh
  cases a with
  | tru =>
    refine ⟨_, _, _, rfl, by decide, rfl, fun K x ps S b bt gd hl ht ho h => ?_⟩
    refine ⟨_, rfl, rfl, rfl, ?_⟩
    refine ⟨_, rfl, _, rfl, _, rfl, w_lput1 H.to__law_put ne bt gd (by omega) (by decide) ht ho _ (by omega) fun x1 S1 b1 o1 t1 => ?_⟩
    exact h x1 S1 none b1 o1 t1
  | label lb y =>
    refine ⟨_, _, _, rfl, by decide, rfl, fun K x ps S b bt gd hl ht ho h => ?_⟩
    refine ⟨_, rfl, rfl, rfl, ?_⟩
    refine ⟨_, rfl, rfl, rfl, ?_⟩
    refine ⟨_, rfl, _, rfl, ?_⟩
    refine ⟨_, rfl, _, rfl, _, rfl, _, rfl, _, rfl, _, rfl, _, rfl, ?_⟩
    refine ⟨_, rfl, _, rfl, _, rfl, _, rfl, ?_⟩
    refine ⟨_, _, rfl, rfl, ⟨(show (0 : Int) ≤ 0 by decide), (show (0 : Int) ≤ 16777216 by decide), (show 2 * 0 ≤ 16777216 by decide)⟩, fun p hp => frz_rep hp ?_⟩
    refine ⟨(show 4 + 0 ≤ 16777216 by decide), (show 4 + 1 ≤ 16777216 by decide), ?_⟩
    refine w_lputall (ss := atT (.label lb y)) A ne bt gd gd2 (by simp [atT]; omega) ht ho _ (by omega) fun x1 S1 b1 o1 t1 => ?_
    exact h x1 S1 _ b1 o1 t1
  | inside y z =>
    refine ⟨_, _, _, rfl, by decide, rfl, fun K x ps S b bt gd hl ht ho h => ?_⟩
    refine ⟨_, rfl, rfl, rfl, ?_⟩
    refine ⟨_, rfl, rfl, rfl, ?_⟩
    refine ⟨_, rfl, rfl, rfl, ?_⟩
    refine ⟨_, rfl, _, rfl, _, rfl, _, rfl, _, rfl, ?_⟩
    refine ⟨_, rfl, _, rfl, _, rfl, _, rfl, ?_⟩
    refine ⟨_, _, rfl, rfl, ⟨(show (0 : Int) ≤ 1 by decide), (show (1 : Int) ≤ 16777216 by decide), (show 2 * 1 ≤ 16777216 by decide)⟩, fun p hp => frz_rep hp ?_⟩
    refine ⟨(show 3 + 2 ≤ 16777216 by decide), (show 5 + 1 ≤ 16777216 by decide), ?_⟩
    refine w_lputall (ss := atT (.inside y z)) A ne bt gd gd2 (by simp [atT]; omega) ht ho _ (by omega) fun x1 S1 b1 o1 t1 => ?_
    exact h x1 S1 none b1 o1 t1
  | inn y z =>
    refine ⟨_, _, _, rfl, by decide, rfl, fun K x ps S b bt gd hl ht ho h => ?_⟩
    refine ⟨_, rfl, rfl, rfl, ?_⟩
    refine ⟨_, rfl, rfl, rfl, ?_⟩
    refine ⟨_, rfl, rfl, rfl, ?_⟩
    refine ⟨_, rfl, _, rfl, _, rfl, _, rfl, _, rfl, ?_⟩
    refine ⟨_, rfl, _, rfl, _, rfl, _, rfl, ?_⟩
    refine ⟨_, _, rfl, rfl, ⟨(show (0 : Int) ≤ 1 by decide), (show (1 : Int) ≤ 16777216 by decide), (show 2 * 1 ≤ 16777216 by decide)⟩, fun p hp => frz_rep hp ?_⟩
    refine ⟨(show 3 + 2 ≤ 16777216 by decide), (show 5 + 1 ≤ 16777216 by decide), ?_⟩
    refine w_lputall (ss := atT (.inn y z)) A ne bt gd gd2 (by simp [atT]; omega) ht ho _ (by omega) fun x1 S1 b1 o1 t1 => ?_
    exact h x1 S1 none b1 o1 t1
  | same y z =>
    refine ⟨_, _, _, rfl, by decide, rfl, fun K x ps S b bt gd hl ht ho h => ?_⟩
    refine ⟨_, rfl, rfl, rfl, ?_⟩
    refine ⟨_, rfl, rfl, rfl, ?_⟩
    refine ⟨_, rfl, rfl, rfl, ?_⟩
    refine ⟨_, rfl, _, rfl, _, rfl, _, rfl, _, rfl, ?_⟩
    refine ⟨_, rfl, _, rfl, _, rfl, _, rfl, ?_⟩
    refine ⟨_, _, rfl, rfl, ⟨(show (0 : Int) ≤ 1 by decide), (show (1 : Int) ≤ 16777216 by decide), (show 2 * 1 ≤ 16777216 by decide)⟩, fun p hp => frz_rep hp ?_⟩
    refine ⟨(show 3 + 2 ≤ 16777216 by decide), (show 5 + 1 ≤ 16777216 by decide), ?_⟩
    refine w_lputall (ss := atT (.same y z)) A ne bt gd gd2 (by simp [atT]; omega) ht ho _ (by omega) fun x1 S1 b1 o1 t1 => ?_
    exact h x1 S1 none b1 o1 t1
  | below y z =>
    refine ⟨_, _, _, rfl, by decide, rfl, fun K x ps S b bt gd hl ht ho h => ?_⟩
    refine ⟨_, rfl, rfl, rfl, ?_⟩
    refine ⟨_, rfl, rfl, rfl, ?_⟩
    refine ⟨_, rfl, rfl, rfl, ?_⟩
    refine ⟨_, rfl, _, rfl, _, rfl, _, rfl, _, rfl, ?_⟩
    refine ⟨_, rfl, _, rfl, _, rfl, _, rfl, ?_⟩
    refine ⟨_, _, rfl, rfl, ⟨(show (0 : Int) ≤ 1 by decide), (show (1 : Int) ≤ 16777216 by decide), (show 2 * 1 ≤ 16777216 by decide)⟩, fun p hp => frz_rep hp ?_⟩
    refine ⟨(show 3 + 2 ≤ 16777216 by decide), (show 5 + 1 ≤ 16777216 by decide), ?_⟩
    refine w_lputall (ss := atT (.below y z)) A ne bt gd gd2 (by simp [atT]; omega) ht ho _ (by omega) fun x1 S1 b1 o1 t1 => ?_
    exact h x1 S1 none b1 o1 t1
  | top y =>
    refine ⟨_, _, _, rfl, by decide, rfl, fun K x ps S b bt gd hl ht ho h => ?_⟩
    refine ⟨_, rfl, rfl, rfl, ?_⟩
    refine ⟨_, rfl, rfl, rfl, ?_⟩
    refine ⟨_, rfl, rfl, rfl, ?_⟩
    refine ⟨_, rfl, _, rfl, _, rfl, _, rfl, _, rfl, ?_⟩
    refine ⟨_, rfl, _, rfl, _, rfl, _, rfl, ?_⟩
    refine ⟨_, _, rfl, rfl, ⟨(show (0 : Int) ≤ 0 by decide), (show (0 : Int) ≤ 16777216 by decide), (show 2 * 0 ≤ 16777216 by decide)⟩, fun p hp => frz_rep hp ?_⟩
    refine ⟨(show 3 + 0 ≤ 16777216 by decide), (show 3 + 1 ≤ 16777216 by decide), ?_⟩
    refine w_lputall (ss := atT (.top y)) A ne bt gd gd2 (by simp [atT]; omega) ht ho _ (by omega) fun x1 S1 b1 o1 t1 => ?_
    exact h x1 S1 none b1 o1 t1
  | child w y z =>
    refine ⟨_, _, _, rfl, by decide, rfl, fun K x ps S b bt gd hl ht ho h => ?_⟩
    refine ⟨_, rfl, rfl, rfl, ?_⟩
    refine ⟨_, rfl, rfl, rfl, ?_⟩
    refine ⟨_, rfl, _, rfl, ?_⟩
    have dw : (w.natAbs.log2 < 1920 ∧ (decS w).length ≤ 1000) ∧ decS w = digW w := by
      rcases sh.1 with rfl | rfl
      · rw [decS0]; exact ⟨⟨by decide, by decide⟩, rfl⟩
      · rw [decS1]; exact ⟨⟨by decide, by decide⟩, rfl⟩
    refine ⟨_, rfl, _, rfl, _, rfl, _, rfl, _, rfl, dw.1, ?_⟩
    rw [dw.2]
    refine ⟨_, rfl, _, rfl, ?_⟩
    refine ⟨_, rfl, _, rfl, _, rfl, _, rfl, ?_⟩
    refine ⟨_, _, rfl, rfl, ⟨(show (0 : Int) ≤ 1 by decide), (show (1 : Int) ≤ 16777216 by decide), (show 2 * 1 ≤ 16777216 by decide)⟩, fun p hp => frz_rep hp ?_⟩
    refine ⟨(show 4 + 2 ≤ 16777216 by decide), (show 6 + 1 ≤ 16777216 by decide), ?_⟩
    refine w_lputall (ss := atT (.child w y z)) A ne bt gd gd2 (by simp [atT]; omega) ht ho _ (by omega) fun x1 S1 b1 o1 t1 => ?_
    exact h x1 S1 _ b1 o1 t1
set_option maxHeartbeats 4000000 in
theorem w_lputf (H : Up__law_put_formula P) (ne : pt ≠ po) : ∀ (f : Fm) (l : Nat) (k : Nat) (x : Bs) (ps : List Bs) (S : Sto) (q : QD) (qx : QX), ShF f → Bt x ps → Gd ps → ps.length + nB f ≤ 1000 → TapeOk pt S → OutAt po x S → dep f + 4 ≤ k →
    (∀ x' ts S', Pr (some l) f ts → Bt x' (ps ++ ts) → OutAt po x' S' → TapeOk pt S' → q .non S') → P.spec k 231 [.ref pt, .ref po, enc f, natD l] S q qx
  | .at_ a, l, k, x, ps, S, q, qx, sh, bt, gd, hl, ht, ho, hk, h => by
    obtain ⟨k, rfl⟩ : ∃ j, k = j + 1 := ⟨k - 1, by omega⟩
    have hk : 1 + 4 ≤ k + 1 := hk
    refine Pg.spec_succ H.self rfl ?_
    obtain ⟨w, ds, r, e, hw, rfl, mid⟩ := w_pfatom (P := P) (k := k) H ne (a := a) (l := l) sh qx (by omega)
    have e : enc (.at_ a) = .tup (.str w :: ds) := e
    rw [e]
    refine w_pfhead hw fun p hp => ?_
    refine w_pfshell H.to__law_put ne (f := .at_ a) sh bt gd hl (tape_fresh ht hp) (out_fresh ho hp) qx (by omega) (fun K x ps S b bt gd hl ht ho h2 => ?_) h
    exact mid K x ps S b bt gd hl ht ho fun x' S' y7 b' o' t' => h2 x' _ S' y7 .atm b' o' t'
  | .not f, l, k, x, ps, S, q, qx, sh, bt, gd, hl, ht, ho, hk, h => by
    obtain ⟨k, rfl⟩ : ∃ j, k = j + 1 := ⟨k - 1, by omega⟩
    have hk : (dep f + 1) + 4 ≤ k + 1 := hk
    refine Pg.spec_succ H.self rfl ?_
    refine w_pfhead (w := notT) (r := 2) (by decide) fun p hp => ?_
    refine w_pfshell H.to__law_put ne (f := .not f) sh bt gd hl (tape_fresh ht hp) (out_fresh ho hp) qx (by omega) (fun K x ps S b bt gd hl ht ho h2 => ?_) h
    have hl : ps.length + (nB f + 3) ≤ 1002 := hl
    refine ⟨_, rfl, rfl, rfl, ?_⟩
    refine ⟨_, rfl, rfl, rfl, ?_⟩
    refine ⟨_, rfl, rfl, rfl, ?_⟩
    refine ⟨_, rfl, rfl, rfl, ?_⟩
    refine ⟨_, rfl, _, rfl, _, rfl, w_lput1 H.to__law_put ne bt gd (by omega) (by decide) ht ho _ (by omega) fun x1 S1 b1 o1 t1 => ?_⟩
    refine ⟨_, rfl, _, rfl, _, rfl, _, rfl, w_lputf H ne f 2 k x1 (ps ++ [notT]) S1 _ _ sh b1 (gd.app (.one (by decide))) (by rw [List.length_append, List.length_singleton]; omega) t1 o1 (by omega) fun x2 ts S2 pr b2 o2 t2 => ?_⟩
    exact h2 x2 _ S2 none (.neg pr) (by rw [List.append_cons]; exact b2) o2 t2
  | .bin an f g, l, k, x, ps, S, q, qx, sh, bt, gd, hl, ht, ho, hk, h => by
    obtain ⟨k, rfl⟩ : ∃ j, k = j + 1 := ⟨k - 1, by omega⟩
    have hk : (max (dep f) (dep g) + 1) + 4 ≤ k + 1 := hk
    refine Pg.spec_succ H.self rfl ?_
    refine w_pfhead (w := encB an) (r := ((rkB an : Nat) : Int)) (by cases an <;> decide) fun p hp => ?_
    refine w_pfshell H.to__law_put ne (f := .bin an f g) sh bt gd hl (tape_fresh ht hp) (out_fresh ho hp) qx (by omega) (fun K x ps S b bt gd hl ht ho h2 => ?_) h
    have hl : ps.length + (nB f + nB g + 3) ≤ 1002 := hl
    cases an with
    | true =>
      refine ⟨_, rfl, rfl, rfl, ?_⟩
      refine ⟨_, rfl, rfl, rfl, ?_⟩
      refine ⟨_, rfl, rfl, rfl, ?_⟩
      refine ⟨_, rfl, rfl, rfl, ?_⟩
      refine ⟨_, rfl, ?_⟩
      refine ⟨_, rfl, _, rfl, _, rfl, _, rfl, _, rfl, w_lputf H ne f 1 k x ps S _ _ sh.1 bt gd (by omega) ht ho (by omega) fun x1 ts S1 pr1 b1 o1 t1 => ?_⟩
      have l1 := pr_len pr1
      have l1 : ts.length ≤ nB f := l1
      have g1 := gd.app (pr_tk pr1 sh.1)
      refine ⟨_, rfl, _, rfl, _, rfl, w_lput1 H.to__law_put ne b1 g1 (by rw [List.length_append]; omega) (s := andT) (by decide) t1 o1 _ (by omega) fun x2 S2 b2 o2 t2 => ?_⟩
      refine ⟨_, rfl, _, rfl, _, rfl, _, rfl, _, rfl, w_lputf H ne g 2 k x2 (ps ++ ts ++ [andT]) S2 _ _ sh.2 b2 (g1.app (.one (by decide))) (by rw [List.length_append, List.length_append, List.length_singleton]; omega) t2 o2 (by omega) fun x3 us S3 pr3 b3 o3 t3 => ?_⟩
      exact h2 x3 _ S3 none (.bin pr1 pr3) (by rw [show ps ++ (ts ++ encB true :: us) = ps ++ ts ++ [andT] ++ us by simp [encB]]; exact b3) o3 t3
    | false =>
      refine ⟨_, rfl, rfl, rfl, ?_⟩
      refine ⟨_, rfl, rfl, rfl, ?_⟩
      refine ⟨_, rfl, rfl, rfl, ?_⟩
      refine ⟨_, rfl, rfl, rfl, ?_⟩
      refine ⟨_, rfl, ?_⟩
      refine ⟨_, rfl, _, rfl, _, rfl, _, rfl, _, rfl, w_lputf H ne f 0 k x ps S _ _ sh.1 bt gd (by omega) ht ho (by omega) fun x1 ts S1 pr1 b1 o1 t1 => ?_⟩
      have l1 := pr_len pr1
      have l1 : ts.length ≤ nB f := l1
      have g1 := gd.app (pr_tk pr1 sh.1)
      refine ⟨_, rfl, _, rfl, _, rfl, w_lput1 H.to__law_put ne b1 g1 (by rw [List.length_append]; omega) (s := orT) (by decide) t1 o1 _ (by omega) fun x2 S2 b2 o2 t2 => ?_⟩
      refine ⟨_, rfl, _, rfl, _, rfl, _, rfl, _, rfl, w_lputf H ne g 1 k x2 (ps ++ ts ++ [orT]) S2 _ _ sh.2 b2 (g1.app (.one (by decide))) (by rw [List.length_append, List.length_append, List.length_singleton]; omega) t2 o2 (by omega) fun x3 us S3 pr3 b3 o3 t3 => ?_⟩
      exact h2 x3 _ S3 none (.bin pr1 pr3) (by rw [show ps ++ (ts ++ encB false :: us) = ps ++ ts ++ [orT] ++ us by simp [encB]]; exact b3) o3 t3
  | .q w y f, l, k, x, ps, S, q, qx, sh, bt, gd, hl, ht, ho, hk, h => by
    obtain ⟨k, rfl⟩ : ∃ j, k = j + 1 := ⟨k - 1, by omega⟩
    have hk : (dep f + 1) + 4 ≤ k + 1 := hk
    refine Pg.spec_succ H.self rfl ?_
    refine w_pfhead (w := encQ w) (r := 2) (by cases w <;> decide) fun p hp => ?_
    refine w_pfshell H.to__law_put ne (f := .q w y f) sh bt gd hl (tape_fresh ht hp) (out_fresh ho hp) qx (by omega) (fun K x ps S b bt gd hl ht ho h2 => ?_) h
    have hl : ps.length + (nB f + 5) ≤ 1002 := hl
    have g2 : Gd [qwT w, y, [58]] := fun s hs => by
      simp only [List.mem_cons, List.mem_nil_iff, or_false] at hs
      rcases hs with rfl | rfl | rfl
      · exact qwT_tk w
      · exact nv_tk sh.1
      · decide
    have fin : ∀ (ρ : DL.Env), ρ = [some (.ref pt), some (.ref po), some (enc (.q w y f)), some (natD l), some (.str (encQ w)), some (natD 2), some (.bl b), none] → P.spec k 230 [.ref pt, .ref po, .lst [.str (qwT w), .str y, .str [58]]] S (fun _ S1 => wSs (P.G k qx) [DL.S.expr (.call 231 (.cons (.var 0) (.cons (.var 1) (.cons (.idx (.var 2) (.int 2)) (.cons (.int 2) .nil)))))] ρ S1 K) qx := fun ρ hρ => by
      subst hρ
      refine w_lputall (ss := [qwT w, y, [58]]) H.to__law_put_all ne bt gd g2 (by simp; omega) ht ho _ (by omega) fun x1 S1 b1 o1 t1 => ?_
      refine ⟨_, rfl, _, rfl, _, rfl, _, rfl, w_lputf H ne f 2 k x1 (ps ++ [qwT w, y, [58]]) S1 _ _ sh.2 b1 (gd.app g2) (by simp; omega) t1 o1 (by omega) fun x2 ts S2 pr b2 o2 t2 => ?_⟩
      exact h2 x2 _ S2 none (.qn pr) (by rw [show ps ++ (qwT w :: y :: [58] :: ts) = ps ++ [qwT w, y, [58]] ++ ts by simp]; exact b2) o2 t2
    have fin := fin _ rfl
    cases w
    all_goals
      refine ⟨_, rfl, rfl, rfl, ?_⟩
      refine ⟨_, rfl, rfl, rfl, ?_⟩
      refine ⟨_, rfl, rfl, rfl, ?_⟩
      refine ⟨_, rfl, rfl, rfl, ?_⟩
      refine ⟨_, rfl, ?_⟩
      refine ⟨_, rfl, _, rfl, _, rfl, rfl, rfl, ?_⟩
      refine ⟨_, rfl, _, rfl, ?_⟩
      exact fin
end
end U
set_option pp.maxSteps 300
/-! U122: the spans of tokens; what the drawn formulas are. -/
namespace U
open PySem DL
theorem ws_sh {ways : Int} {labels : List Bs} (hw : ways ≤ 2) (hl : ∀ l ∈ labels, l ∈ nlL) : ∀ (f : Fm) (X Y : List Bs), (∀ x ∈ X, x ∈ nvL) → (∀ y ∈ Y, y ∈ nvL) → WS ways labels X Y f → qN f = true → ShF f
  | .at_ a, X, Y, hX, hY, w, _ => by
    cases a with
    | inside a b => exact ⟨hY _ w.1, hY _ w.2⟩
    | inn a b => exact ⟨hX _ w.1, hY _ w.2⟩
    | tru => exact trivial
    | label l x => exact ⟨hl _ w.2, hX _ w.1⟩
    | top x => exact hX _ w
    | same x y => exact ⟨hX _ w.1, hX _ w.2⟩
    | child c x y =>
      have w : x ∈ X ∧ y ∈ X ∧ 0 ≤ c ∧ c < ways := w
      exact ⟨by omega, hX _ w.1, hX _ w.2.1⟩
    | below x y => exact ⟨hX _ w.1, hX _ w.2⟩
  | .not f, X, Y, hX, hY, w, n => ws_sh hw hl f X Y hX hY w n
  | .bin _ f g, X, Y, hX, hY, w, n => by
    have n : (qN f && qN g) = true := n
    rw [Bool.and_eq_true] at n
    exact ⟨ws_sh hw hl f X Y hX hY w.1 n.1, ws_sh hw hl g X Y hX hY w.2 n.2⟩
  | .q qw x f, X, Y, hX, hY, w, n => by
    have n : (decide (x ∈ xyzL) && qN f) = true := n
    rw [Bool.and_eq_true] at n
    have hx : x ∈ nvL := List.mem_append_left [[88], [121, 49], [117, 86, 57], [89, 50]] (of_decide_eq_true n.1)
    have c1 : ∀ Z : List Bs, (∀ z ∈ Z, z ∈ nvL) → ∀ z ∈ x :: Z, z ∈ nvL := fun Z h z hz => by
      rcases List.mem_cons.mp hz with rfl | hz
      · exact hx
      · exact h z hz
    have n2 : qN f = true := n.2
    refine ⟨hx, ?_⟩
    clear n
    cases qw with
    | some => exact ws_sh hw hl f (x :: X) Y (c1 X hX) hY w.2 n2
    | all => exact ws_sh hw hl f (x :: X) Y (c1 X hX) hY w.2 n2
    | someset => exact ws_sh hw hl f X (x :: Y) hX (c1 Y hY) w.2 n2
    | allset => exact ws_sh hw hl f X (x :: Y) hX (c1 Y hY) w.2 n2
section
variable {P : Pg} {k : Nat} {q : QD}
end
end U
/-! U125: what is printed is read, plain. -/
namespace U
open PySem DL
/-- a token's sort -/
noncomputable def srtO (s : Bs) : Srt := match s with
  | c :: r => match hdT c r with
    | some (k, _) => k
    | none => .wrong
  | [] => .wrong
/-- these tokens stand there -/
noncomputable def At (T : List Tok) (j : Nat) (ts : List Bs) : Prop := ∀ i s, ts[i]? = some s → ∃ a, T[j + i]? = some ⟨srtO s, s, a⟩
noncomputable def gN (z : Nsrt) (x : Bs) : Prop := srtO x = .name ∧ okN z x = true
noncomputable def gA : Atm → Prop
  | .inside a b => gN .set a ∧ gN .set b
  | .inn a b => gN .el a ∧ gN .set b
  | .tru => True
  | .label l x => gN .lab l ∧ gN .el x
  | .top x => gN .el x
  | .same x y => gN .el x ∧ gN .el y
  | .child w x y => (w = 0 ∨ w = 1) ∧ gN .el x ∧ gN .el y
  | .below x y => gN .el x ∧ gN .el y
noncomputable def gF : Fm → Prop
  | .at_ a => gA a
  | .not f => gF f
  | .bin _ f g => gF f ∧ gF g
  | .q w x f => (srtO x = .name ∧ setN x = isSq w) ∧ gF f
noncomputable def fxA : Atm → Fx
  | .inside a b => .two insT a b
  | .inn a b => .two innT a b
  | .tru => .tru
  | .label l x => .lab l x
  | .top x => .top x
  | .same x y => .two samT x y
  | .child w x y => .chi (decide (w = 1)) x y
  | .below x y => .two belT x y
noncomputable def fx : Fm → Fx
  | .at_ a => fxA a
  | .not f => .neg (fx f)
  | .bin an f g => .bin (encB an) (fx f) (fx g)
  | .q w x f => .qn (encQ w) x (fx f)
theorem enc_fx : ∀ f : Fm, gF f → encFx (fx f) = enc f
  | .at_ a, g => by
    cases a with
    | child w x y =>
      have g : (w = 0 ∨ w = 1) ∧ gN .el x ∧ gN .el y := g
      rcases g.1 with rfl | rfl <;> rfl
    | _ => rfl
  | .not f, g => by
    show D.tup [.str notT, encFx (fx f)] = D.tup [.str notT, enc f]
    rw [enc_fx f g]
  | .bin an f g, h => by
    show D.tup [.str (encB an), encFx (fx f), encFx (fx g)] = D.tup [.str (encB an), enc f, enc g]
    rw [enc_fx f h.1, enc_fx g h.2]
  | .q w x f, h => by
    show D.tup [.str (encQ w), .str x, encFx (fx f)] = D.tup [.str (encQ w), .str x, enc f]
    rw [enc_fx f h.2]
section
variable {T : List Tok} {j : Nat}
theorem at_cons {s : Bs} {ts : List Bs} (h : At T j (s :: ts)) : (∃ a, T[j]? = some ⟨srtO s, s, a⟩) ∧ At T (j + 1) ts := by
  refine ⟨h 0 s rfl, fun i u e => ?_⟩
  have := h (i + 1) u (by rw [List.getElem?_cons_succ]; exact e)
  rw [show j + 1 + i = j + (i + 1) by omega]
  exact this
theorem at_app {ts us : List Bs} (h : At T j (ts ++ us)) : At T j ts ∧ At T (j + ts.length) us := by
  refine ⟨fun i s e => h i s ?_, fun i s e => ?_⟩
  · obtain ⟨l, _⟩ := List.getElem?_eq_some_iff.mp e
    rw [List.getElem?_append_left l]
    exact e
  · rw [show j + ts.length + i = j + (ts.length + i) by omega]
    refine h _ s ?_
    rw [List.getElem?_append_right (by omega), show ts.length + i - ts.length = i by omega]
    exact e
theorem fix_tok {s : Bs} {a : Nat} (h : T[j]? = some ⟨srtO s, s, a⟩) (hk : srtO s = .word ∨ srtO s = .sign) : fixT T j = s := by
  unfold fixT
  rw [h]
  rcases hk with e | e <;> rw [e]
theorem rdT_tok {s : Bs} {a : Nat} (h : T[j]? = some ⟨srtO s, s, a⟩) (hk : srtO s = .word ∨ srtO s = .sign) : rdT T s j = .ok () (j + 1) := by
  unfold rdT
  rw [if_pos (fix_tok h hk)]
theorem rdN_tok {z : Nsrt} {s : Bs} {a : Nat} (h : T[j]? = some ⟨srtO s, s, a⟩) (g : gN z s) : rdN T z j = .ok s (j + 1) := by
  unfold rdN
  rw [h, g.1]
  exact if_pos g.2
theorem rdP_tok {a b : Nsrt} {x y : Bs} (h : At T j [[40], x, [44], y, [41]]) (gx : gN a x) (gy : gN b y) : rdP T a b j = .ok (x, y) (j + 5) := by
  obtain ⟨⟨a1, h1⟩, h⟩ := at_cons h
  obtain ⟨⟨a2, h2⟩, h⟩ := at_cons h
  obtain ⟨⟨a3, h3⟩, h⟩ := at_cons h
  obtain ⟨⟨a4, h4⟩, h⟩ := at_cons h
  obtain ⟨⟨a5, h5⟩, h⟩ := at_cons h
  unfold rdP
  rw [rdT_tok h1 (by decide)]
  show (rdN T a (j + 1)).bind _ = _
  rw [rdN_tok h2 gx]
  show (rdT T [44] (j + 1 + 1)).bind _ = _
  rw [rdT_tok h3 (by decide)]
  show (rdN T b (j + 1 + 1 + 1)).bind _ = _
  rw [rdN_tok h4 gy]
  show (rdT T [41] (j + 1 + 1 + 1 + 1)).bind _ = _
  rw [rdT_tok h5 (by decide)]
  rfl
theorem rdS_tok {x : Bs} (h : At T j [[40], x, [41]]) (gx : gN .el x) : rdS T j = .ok x (j + 3) := by
  obtain ⟨⟨a1, h1⟩, h⟩ := at_cons h
  obtain ⟨⟨a2, h2⟩, h⟩ := at_cons h
  obtain ⟨⟨a3, h3⟩, h⟩ := at_cons h
  unfold rdS
  rw [rdT_tok h1 (by decide)]
  show (rdN T .el (j + 1)).bind _ = _
  rw [rdN_tok h2 gx]
  show (rdT T [41] (j + 1 + 1)).bind _ = _
  rw [rdT_tok h3 (by decide)]
  rfl
theorem sim_atm {N : Nat} {a : Atm} (g : gA a) (h : At T j (atT a)) (n : Nat) : rd T N (n + 1) .sim j = .ok (fxA a) (j + (atT a).length) ∧ fixT T j ≠ notT ∧ ¬ (fixT T j = somT ∨ fixT T j = allT) := by
  cases a with
  | inside x y =>
    obtain ⟨⟨a1, h1⟩, h⟩ := at_cons h
    have hf := fix_tok h1 (by decide)
    refine ⟨?_, by rw [hf]; decide, by rw [hf]; decide⟩
    rw [rd, hf, if_neg (by decide), if_neg (by decide), if_neg (by decide), if_neg (by decide), if_neg (by decide), if_neg (by decide), if_pos rfl, rdP_tok h g.1 g.2]
    rfl
  | inn x y =>
    obtain ⟨⟨a1, h1⟩, h⟩ := at_cons h
    have hf := fix_tok h1 (by decide)
    refine ⟨?_, by rw [hf]; decide, by rw [hf]; decide⟩
    rw [rd, hf, if_neg (by decide), if_neg (by decide), if_neg (by decide), if_neg (by decide), if_neg (by decide), if_pos rfl, rdP_tok h g.1 g.2]
    rfl
  | tru =>
    obtain ⟨⟨a1, h1⟩, h⟩ := at_cons h
    have hf := fix_tok h1 (by decide)
    refine ⟨?_, by rw [hf]; decide, by rw [hf]; decide⟩
    rw [rd, hf, if_neg (by decide), if_pos rfl]
    rfl
  | label l x =>
    obtain ⟨⟨a1, h1⟩, h⟩ := at_cons h
    obtain ⟨⟨a2, h2⟩, h⟩ := at_cons h
    have hf := fix_tok h1 (by decide)
    refine ⟨?_, by rw [hf]; decide, by rw [hf]; decide⟩
    rw [rd, hf, if_neg (by decide), if_neg (by decide), if_neg (by decide), if_pos rfl, rdN_tok h2 g.1]
    show (rdS T (j + 1 + 1)).bind _ = _
    rw [rdS_tok h g.2]
    rfl
  | top x =>
    obtain ⟨⟨a1, h1⟩, h⟩ := at_cons h
    have hf := fix_tok h1 (by decide)
    refine ⟨?_, by rw [hf]; decide, by rw [hf]; decide⟩
    rw [rd, hf, if_neg (by decide), if_neg (by decide), if_pos rfl, rdS_tok h g]
    rfl
  | same x y =>
    obtain ⟨⟨a1, h1⟩, h⟩ := at_cons h
    have hf := fix_tok h1 (by decide)
    refine ⟨?_, by rw [hf]; decide, by rw [hf]; decide⟩
    rw [rd, hf, if_neg (by decide), if_neg (by decide), if_neg (by decide), if_neg (by decide), if_neg (by decide), if_neg (by decide), if_neg (by decide), if_pos (.inr rfl), rdP_tok h g.1 g.2]
    rfl
  | child w x y =>
    have g : (w = 0 ∨ w = 1) ∧ gN .el x ∧ gN .el y := g
    obtain ⟨⟨a1, h1⟩, hh⟩ := at_cons h
    obtain ⟨⟨a2, h2⟩, h3⟩ := at_cons hh
    have hf := fix_tok h1 (by decide)
    refine ⟨?_, by rw [hf]; decide, by rw [hf]; decide⟩
    rcases g.1 with rfl | rfl
    · have h2 : T[j + 1]? = some ⟨srtO [48], [48], a2⟩ := h2
      have hf2 := fix_tok h2 (by decide)
      rw [rd, hf, if_neg (by decide), if_neg (by decide), if_neg (by decide), if_neg (by decide), if_pos rfl, hf2, if_pos rfl, rdP_tok h3 g.2.1 g.2.2]
      rfl
    · have h2 : T[j + 1]? = some ⟨srtO [49], [49], a2⟩ := h2
      have hf2 := fix_tok h2 (by decide)
      rw [rd, hf, if_neg (by decide), if_neg (by decide), if_neg (by decide), if_neg (by decide), if_pos rfl, hf2, if_neg (by decide), if_pos rfl, rdP_tok h3 g.2.1 g.2.2]
      rfl
  | below x y =>
    obtain ⟨⟨a1, h1⟩, h⟩ := at_cons h
    have hf := fix_tok h1 (by decide)
    refine ⟨?_, by rw [hf]; decide, by rw [hf]; decide⟩
    rw [rd, hf, if_neg (by decide), if_neg (by decide), if_neg (by decide), if_neg (by decide), if_neg (by decide), if_neg (by decide), if_neg (by decide), if_pos (.inl rfl), rdP_tok h g.1 g.2]
    rfl
end
/-- how deep the reader goes, at most -/
noncomputable def Xf : Fm → Nat
  | .at_ _ => 2
  | .not f => Xf f + 5
  | .bin _ f g => max (Xf f) (Xf g) + 4
  | .q _ _ f => Xf f + 5
theorem xf_dep : ∀ f : Fm, Xf f + 3 ≤ 5 * dep f
  | .at_ _ => by unfold Xf dep; omega
  | .not f => by have := xf_dep f; unfold Xf dep; omega
  | .bin _ f g => by have := xf_dep f; have := xf_dep g; unfold Xf dep; omega
  | .q _ _ f => by have := xf_dep f; unfold Xf dep; omega
noncomputable def PD (T : List Tok) (N M j : Nat) (f : Fx) (L : Nat) : Prop := ∀ n, M ≤ n → rd T N n .den j = .ok f (j + L)
noncomputable def PA (T : List Tok) (N M j : Nat) (f : Fx) (L : Nat) : Prop := ∃ c, c ≤ L ∧ ∀ n, M ≤ n → ∀ m, ((rd T N n .den j).bind fun d j1 => chn (rd T N n .den) T andT (m + c) d j1) = chn (rd T N n .den) T andT m f (j + L)
noncomputable def PB (T : List Tok) (N M j : Nat) (f : Fx) (L : Nat) : Prop := fixT T (j + L) ≠ andT → ∀ n, M ≤ n → rd T N n .bot j = .ok f (j + L)
noncomputable def PO (T : List Tok) (N M j : Nat) (f : Fx) (L : Nat) : Prop := fixT T (j + L) ≠ andT → ∃ c, c ≤ L ∧ ∀ n, M ≤ n → ∀ m, ((rd T N n .bot j).bind fun d j1 => chn (rd T N n .bot) T orT (m + c) d j1) = chn (rd T N n .bot) T orT m f (j + L)
section
variable {T : List Tok} {N M j L : Nat} {f : Fx}
theorem pd_pa (h : PD T N M j f L) : PA T N M j f L := ⟨0, Nat.zero_le _, fun n hn m => by rw [h n hn]; rfl⟩
theorem pa_pb (hN : L + 1 ≤ N) (h : PA T N M j f L) : PB T N (M + 1) j f L := fun ne n hn => by
  obtain ⟨c, hc, h⟩ := h
  obtain ⟨n, rfl⟩ : ∃ m, n = m + 1 := ⟨n - 1, by omega⟩
  have e := h n (by omega) (N - c)
  rw [show N - c + c = N by omega] at e
  rw [rd, e]
  obtain ⟨m, hm⟩ : ∃ m, N - c = m + 1 := ⟨N - c - 1, by omega⟩
  rw [hm, chn, if_neg ne]
theorem pb_po (h : PB T N M j f L) : PO T N M j f L := fun ne => ⟨0, Nat.zero_le _, fun n hn m => by rw [h ne n hn]; rfl⟩
theorem po_pe (hN : L + 1 ≤ N) (h : PO T N M j f L) (ne : fixT T (j + L) ≠ andT) (ne2 : fixT T (j + L) ≠ orT) : ∀ n, M + 1 ≤ n → rd T N n .eit j = .ok f (j + L) := fun n hn => by
  obtain ⟨c, hc, h⟩ := h ne
  obtain ⟨n, rfl⟩ : ∃ m, n = m + 1 := ⟨n - 1, by omega⟩
  have e := h n (by omega) (N - c)
  rw [show N - c + c = N by omega] at e
  rw [rd, e]
  obtain ⟨m, hm⟩ : ∃ m, N - c = m + 1 := ⟨N - c - 1, by omega⟩
  rw [hm, chn, if_neg ne2]
end
structure Cl (T : List Tok) (N M j : Nat) (f : Fx) (L l : Nat) : Prop where
  d : 2 ≤ l → PD T N M j f L
  a : 1 ≤ l → PA T N M j f L
  o : PO T N (M + 1) j f L
section
variable {T : List Tok} {N M j L l : Nat} {f : Fx}
theorem Cl.of_d (hN : L + 1 ≤ N) (h : PD T N M j f L) : Cl T N M j f L l := ⟨fun _ => h, fun _ => pd_pa h, pb_po (pa_pb hN (pd_pa h))⟩
theorem Cl.of_a (hN : L + 1 ≤ N) (h : PA T N M j f L) (hl : l ≤ 1) : Cl T N M j f L l := ⟨fun _ => by omega, fun _ => h, pb_po (pa_pb hN h)⟩
theorem Cl.of_o (h : PO T N (M + 1) j f L) (hl : l = 0) : Cl T N M j f L l := ⟨fun _ => by omega, fun _ => by omega, h⟩
theorem Cl.mono {M' l' : Nat} (h : Cl T N M j f L l) (hm : M ≤ M') (hl : l' ≤ l) : Cl T N M' j f L l' :=
  ⟨fun g n hn => h.d (by omega) n (by omega), fun g => by
    obtain ⟨c, hc, h⟩ := h.a (by omega)
    exact ⟨c, hc, fun n hn => h n (by omega)⟩, fun ne => by
    obtain ⟨c, hc, h⟩ := h.o ne
    exact ⟨c, hc, fun n hn => h n (by omega)⟩⟩
end
noncomputable def oL (f : Fm) : Option Nat → Nat
  | none => rkF f
  | some l => l
noncomputable def oM (f : Fm) : Option Nat → Nat
  | none => Xf f
  | some _ => Xf f + 4
theorem q_word (w : Qw) : (if isSq w then qwT w ++ [115, 101, 116] else qwT w) = encQ w := by cases w <;> rfl
theorem qw_one (w : Qw) : (qwT w = somT ∨ qwT w = allT) ∧ qwT w ≠ notT ∧ (srtO (qwT w) = .word ∨ srtO (qwT w) = .sign) := by cases w <;> decide
theorem encB_one (an : Bool) : srtO (encB an) = .word ∨ srtO (encB an) = .sign := by cases an <;> decide
theorem par {o : Option Nat} {f : Fm} {ts : List Bs} (h : Pr o f ts) : gF f → ∀ (T : List Tok) (N j : Nat), At T j ts → ts.length + 1 ≤ N → Cl T N (oM f o) j (fx f) ts.length (oL f o) := by
  induction h with
  | @bare l f ts hl _ ih => exact fun g T N j a hN => (ih g T N j a hN).mono (Nat.le_add_right _ _) hl
  | @brk l f ts _ ih =>
    intro g T N j a hN
    obtain ⟨⟨a1, h1⟩, a⟩ := at_cons a
    obtain ⟨a, b⟩ := at_app a
    obtain ⟨⟨a2, h2⟩, _⟩ := at_cons b
    have el : ([40] :: (ts ++ [[41]]) : List Bs).length = ts.length + 2 := by simp
    rw [el] at hN ⊢
    have c := ih g T N (j + 1) a (by omega)
    have f1 := fix_tok h1 (by decide)
    have f2 := fix_tok h2 (by decide)
    have e := po_pe (by omega) c.o (by rw [f2]; decide) (by rw [f2]; decide)
    refine Cl.of_d hN fun n hn => ?_
    have hn : Xf f + 4 ≤ n := hn
    obtain ⟨n, rfl⟩ : ∃ m, n = m + 2 := ⟨n - 2, by omega⟩
    rw [rd, f1, if_neg (by decide), if_neg (by decide), rd, f1, if_pos rfl, e n (show Xf f + 1 + 1 ≤ n by omega)]
    show (rdT T [41] (j + 1 + ts.length)).bind _ = _
    rw [rdT_tok h2 (by decide)]
    show Rs.ok (fx f) (j + 1 + ts.length + 1) = _
    rw [show j + 1 + ts.length + 1 = j + (ts.length + 2) by omega]
  | @atm a =>
    intro g T N j h hN
    refine Cl.of_d hN fun n hn => ?_
    have hn : 2 ≤ n := hn
    obtain ⟨n, rfl⟩ : ∃ m, n = m + 2 := ⟨n - 2, by omega⟩
    obtain ⟨e1, e2, e3⟩ := sim_atm (N := N) g h n
    rw [rd, if_neg e2, if_neg e3, e1]
    rfl
  | @neg f ts _ ih =>
    intro g T N j a hN
    obtain ⟨⟨a1, h1⟩, a⟩ := at_cons a
    rw [List.length_cons] at hN ⊢
    have c := (ih g T N (j + 1) a (by omega)).d (Nat.le_refl 2)
    have f1 := fix_tok h1 (by decide)
    refine Cl.of_d hN fun n hn => ?_
    have hn : Xf f + 5 ≤ n := hn
    obtain ⟨n, rfl⟩ : ∃ m, n = m + 1 := ⟨n - 1, by omega⟩
    rw [rd, f1, if_pos rfl, c n (show Xf f + 4 ≤ n by omega)]
    show Rs.ok (Fx.neg (fx f)) (j + 1 + ts.length) = _
    rw [show j + 1 + ts.length = j + (ts.length + 1) by omega]
    rfl
  | @bin an f g ts us _ _ ih1 ih2 =>
    intro hg T N j a hN
    obtain ⟨aa, b⟩ := at_app a
    obtain ⟨⟨a1, h1⟩, b⟩ := at_cons b
    have el : (ts ++ encB an :: us).length = ts.length + us.length + 1 := by rw [List.length_append, List.length_cons]; omega
    rw [el] at hN ⊢
    have c1 := ih1 hg.1 T N j aa (by omega)
    have c2 := ih2 hg.2 T N (j + ts.length + 1) b (by omega)
    have f1 := fix_tok h1 (encB_one an)
    have ej : j + ts.length + 1 + us.length = j + (ts.length + us.length + 1) := by omega
    cases an with
    | true =>
      have f1 : fixT T (j + ts.length) = andT := f1
      obtain ⟨c, hc, e1⟩ := c1.a (Nat.le_refl 1)
      have e2 := c2.d (Nat.le_refl 2)
      refine Cl.of_a hN ⟨c + 1, by omega, fun n hn m => ?_⟩ (Nat.le_refl 1)
      have hn : max (Xf f) (Xf g) + 4 ≤ n := hn
      have e1 := e1 n (show Xf f + 4 ≤ n by omega) (m + 1)
      have e2 := e2 n (show Xf g + 4 ≤ n by omega)
      rw [show m + (c + 1) = m + 1 + c by omega, e1, chn, if_pos f1, e2, ← ej]
      rfl
    | false =>
      have f1 : fixT T (j + ts.length) = orT := f1
      refine Cl.of_o (fun ne => ?_) rfl
      obtain ⟨c, hc, e1⟩ := c1.o (by rw [f1]; decide)
      have e2 := pa_pb (by omega) (c2.a (Nat.le_refl 1)) (by rw [ej]; exact ne)
      refine ⟨c + 1, by omega, fun n hn m => ?_⟩
      have hn : max (Xf f) (Xf g) + 4 + 1 ≤ n := hn
      have e1 := e1 n (show Xf f + 4 + 1 ≤ n by omega) (m + 1)
      have e2 := e2 n (show Xf g + 4 + 1 ≤ n by omega)
      rw [show m + (c + 1) = m + 1 + c by omega, e1, chn, if_pos f1, e2, ← ej]
      rfl
  | @qn w x f ts _ ih =>
    intro g T N j a hN
    obtain ⟨⟨a1, h1⟩, a⟩ := at_cons a
    obtain ⟨⟨a2, h2⟩, a⟩ := at_cons a
    obtain ⟨⟨a3, h3⟩, a⟩ := at_cons a
    obtain ⟨⟨g1, g2⟩, g3⟩ := g
    have el : (qwT w :: x :: [58] :: ts).length = ts.length + 3 := rfl
    rw [el] at hN ⊢
    have c := (ih g3 T N (j + 1 + 1 + 1) a (by omega)).d (Nat.le_refl 2)
    obtain ⟨w1, w2, w3⟩ := qw_one w
    have f1 := fix_tok h1 w3
    refine Cl.of_d hN fun n hn => ?_
    have hn : Xf f + 5 ≤ n := hn
    obtain ⟨n, rfl⟩ : ∃ m, n = m + 1 := ⟨n - 1, by omega⟩
    rw [rd, f1, if_neg w2, if_pos w1, rdN_tok h2 (show gN .any x from ⟨g1, rfl⟩)]
    show (rdT T [58] (j + 1 + 1)).bind _ = _
    rw [rdT_tok h3 (by decide)]
    show (rd T N n .den (j + 1 + 1 + 1)).bind _ = _
    rw [c n (show Xf f + 4 ≤ n by omega), g2, q_word w, show j + 1 + 1 + 1 + ts.length = j + (ts.length + 3) by omega]
    rfl
/-- the whole -/
theorem rdA_pr {f : Fm} {ts : List Bs} (h : Pr (some 0) f ts) (g : gF f) {T : List Tok} (a : At T 0 ts) {N n : Nat} (hN : ts.length + 1 ≤ N) (hn : Xf f + 6 ≤ n) (ne : fixT T ts.length ≠ andT) (ne2 : fixT T ts.length ≠ orT) : rdA T N n = if T.length ≤ ts.length then .ok (fx f) ts.length else .err ts.length := by
  have c := par h g T N 0 a hN
  have e := po_pe hN c.o (by rw [Nat.zero_add]; exact ne) (by rw [Nat.zero_add]; exact ne2) n (show Xf f + 4 + 1 + 1 ≤ n by omega)
  rw [Nat.zero_add] at e
  unfold rdA
  rw [e]
  rfl
end U
/-! U126: printed texts and their tokens; what write_formula writes, plain. -/
namespace U
open PySem DL
/-! ### tokens of joined texts -/
noncomputable def Jn (x y : Bs) : Prop := ∀ l d, x.getLast? = some l → y.head? = some d → ¬ (isAl l = true ∧ isAl d = true)
theorem tw_some {p : Nat → Bool} : ∀ {r : Bs} (y : Bs), (∃ z ∈ r, p z = false) → (r ++ y).takeWhile p = r.takeWhile p
  | [], _, h => by obtain ⟨z, hz, _⟩ := h; cases hz
  | c :: r, y, h => by
    rw [List.cons_append, List.takeWhile_cons, List.takeWhile_cons]
    cases e : p c with
    | false => rfl
    | true =>
      show c :: _ = c :: _
      obtain ⟨z, hz, e2⟩ := h
      rcases List.mem_cons.mp hz with rfl | hz
      · rw [e] at e2; cases e2
      · rw [tw_some y ⟨z, hz, e2⟩]
theorem tw_all {p : Nat → Bool} {r : Bs} (h : ∀ z ∈ r, p z = true) : r.takeWhile p = r := by
  have := takeWhile_app (v := []) h (.inl rfl)
  rwa [List.append_nil] at this
theorem let_al {c : Nat} (h : c ∈ letT) : isAl c = true := by unfold isAl; rw [decide_eq_true h]; rfl
theorem hdT_app {c : Nat} {r y : Bs} (jn : Jn (c :: r) y) : hdT c (r ++ y) = hdT c r := by
  unfold hdT
  by_cases c1 : c ∈ letT
  · rw [if_pos c1, if_pos c1]
    have : (r ++ y).takeWhile isAl = r.takeWhile isAl := by
      by_cases ha : ∀ z ∈ r, isAl z = true
      · rw [tw_all ha]
        refine takeWhile_app ha ?_
        cases y with
        | nil => exact .inl rfl
        | cons d y =>
          refine .inr ⟨d, y, rfl, ?_⟩
          obtain ⟨l, hl⟩ : ∃ l, (c :: r).getLast? = some l := ⟨_, List.getLast?_eq_some_getLast (List.cons_ne_nil c r)⟩
          have hm := List.mem_of_getLast? hl
          have al : isAl l = true := by
            rcases List.mem_cons.mp hm with rfl | hm
            · exact let_al c1
            · exact ha l hm
          cases e : isAl d with
          | false => rfl
          | true => exact absurd ⟨al, e⟩ (jn l d hl rfl)
      · refine tw_some y ?_
        refine Classical.byContradiction fun n => ha fun z hz => ?_
        cases e : isAl z with
        | true => rfl
        | false => exact absurd ⟨z, hz, e⟩ n
    rw [this]
  · rw [if_neg c1, if_neg c1]
theorem tkA_app : ∀ (n a : Nat) (x y : Bs), x.length ≤ n → Jn x y → tkA a (x ++ y) = tkA a x ++ tkA (a + x.length) y
  | n, a, [], y, _, _ => rfl
  | 0, a, c :: r, y, h, _ => by rw [List.length_cons] at h; omega
  | n + 1, a, c :: r, y, h, jn => by
    rw [List.length_cons] at h
    rw [List.cons_append, tkA_cons, tkA_cons, hdT_app jn]
    cases e : hdT c r with
    | none =>
      show tkA (a + 1) (r ++ y) = tkA (a + 1) r ++ _
      have j2 : Jn r y := fun l d hl hd => jn l d (by rw [List.getLast?_cons, hl]; rfl) hd
      rw [tkA_app n (a + 1) r y (by omega) j2, List.length_cons, show a + 1 + r.length = a + (r.length + 1) by omega]
    | some kw =>
      obtain ⟨k, w⟩ := kw
      obtain ⟨l1, l2, _⟩ := hdT_len e
      show _ :: tkA (a + w.length) ((c :: (r ++ y)).drop w.length) = _ :: tkA (a + w.length) ((c :: r).drop w.length) ++ _
      have ed : (c :: (r ++ y)).drop w.length = (c :: r).drop w.length ++ y := by
        rw [← List.cons_append, List.drop_append_of_le_length (by rw [List.length_cons]; exact l2)]
      have j2 : Jn ((c :: r).drop w.length) y := fun l d hl hd => jn l d (by
        rw [List.getLast?_drop] at hl
        split at hl
        · cases hl
        · exact hl) hd
      have hl : ((c :: r).drop w.length).length = r.length + 1 - w.length := by rw [List.length_drop, List.length_cons]
      rw [ed, tkA_app n (a + w.length) _ y (by omega) j2, hl, List.length_cons, show a + w.length + (r.length + 1 - w.length) = a + (r.length + 1) by omega]
      rfl
theorem tkA_bl : ∀ (g : Bs) (a : Nat) (y : Bs), (∀ c ∈ g, c = 32 ∨ c = 10) → tkA a (g ++ y) = tkA (a + g.length) y
  | [], a, y, _ => rfl
  | c :: g, a, y, h => by
    rw [List.cons_append, tkA_cons]
    have e : hdT c (g ++ y) = none := by
      rcases h c List.mem_cons_self with rfl | rfl
      · exact hdT_none (r := []) (by decide) _
      · exact hdT_none (r := []) (by decide) _
    rw [e]
    show tkA (a + 1) (g ++ y) = _
    rw [tkA_bl g (a + 1) y fun d hd => h d (List.mem_cons_of_mem _ hd), List.length_cons, show a + 1 + g.length = a + (g.length + 1) by omega]
noncomputable def oneT (s : Bs) : Bool := match s with
  | c :: r => decide (hdT c r = some (srtO s, s))
  | [] => false
theorem tkA_one {s : Bs} (h : oneT s = true) (a : Nat) : tkA a s = [⟨srtO s, s, a⟩] := by
  cases s with
  | nil => cases h
  | cons c r =>
    rw [tkA_cons, of_decide_eq_true h]
    show _ :: tkA _ ((c :: r).drop (c :: r).length) = _
    rw [List.drop_length]
    rfl
theorem tk_one : ∀ s ∈ tkL, oneT s = true := by decide +kernel
noncomputable def tks (T : List Tok) (ts : List Bs) : Prop := T.map (fun t => (t.k, t.s)) = ts.map fun s => (srtO s, s)
theorem tks_at {T U : List Tok} {ts : List Bs} (h : tks T ts) : At (T ++ U) 0 ts := fun i s e => by
  have h2 : (T.map fun t => (t.k, t.s))[i]? = (ts.map fun s => (srtO s, s))[i]? := by rw [show T.map (fun t => (t.k, t.s)) = ts.map fun s => (srtO s, s) from h]
  rw [List.getElem?_map, List.getElem?_map, e] at h2
  cases et : T[i]? with
  | none => rw [et] at h2; cases h2
  | some t =>
    rw [et] at h2
    obtain ⟨k, u, a⟩ := t
    have h2 := Option.some.inj h2
    have h3 : k = srtO s := congrArg Prod.fst h2
    have h4 : u = s := congrArg Prod.snd h2
    subst h3; subst h4
    refine ⟨a, ?_⟩
    obtain ⟨l, _⟩ := List.getElem?_eq_some_iff.mp et
    rw [Nat.zero_add, List.getElem?_append_left l]
    exact et
theorem tks_len {T : List Tok} {ts : List Bs} (h : tks T ts) : T.length = ts.length := by
  have := congrArg List.length (show T.map (fun t => (t.k, t.s)) = ts.map fun s => (srtO s, s) from h)
  rwa [List.length_map, List.length_map] at this
theorem bt_tks {x : Bs} {ps : List Bs} (h : Bt x ps) (g : Gd ps) : tks (tok x) ps := by
  induction h with
  | nil => rfl
  | @put x gp s ps bt sn g1 g2 g3 ih =>
    have ih : (tkA 0 x).map (fun t => (t.k, t.s)) = ps.map fun s => (srtO s, s) := ih fun t ht => g t (List.mem_append_left _ ht)
    have one := tk_one s (g s (List.mem_append_right _ List.mem_cons_self))
    have jn : Jn x (gp ++ s) := fun l d hl hd => by
      cases gp with
      | nil => exact g3 rfl l d hl hd
      | cons b gp =>
        cases hd
        rcases g1 d List.mem_cons_self with rfl | rfl
        · exact fun z => absurd z.2 (by decide)
        · exact fun z => absurd z.2 (by decide)
    show (tkA 0 (x ++ (gp ++ s))).map (fun t => (t.k, t.s)) = (ps ++ [s]).map fun s => (srtO s, s)
    rw [tkA_app _ 0 x _ (Nat.le_refl _) jn, tkA_bl gp _ s g1, tkA_one one, List.map_append, List.map_append, ih]
    rfl
/-- a further token -/
theorem tok_more {x u : Bs} (h : oneT u = true) : tok (x ++ 32 :: u) = tok x ++ [⟨srtO u, u, x.length + 1⟩] := by
  show tkA 0 (x ++ ([32] ++ u)) = tkA 0 x ++ _
  have jn : Jn x ([32] ++ u) := fun l d hl hd => by
    cases hd
    exact fun z => absurd z.2 (by decide)
  rw [tkA_app _ 0 x _ (Nat.le_refl _) jn, tkA_bl [32] _ u (by decide), tkA_one h, Nat.zero_add]
  rfl
/-! ### written formulas -/
noncomputable def wtA : Atm → Bs
  | .inside a b => ((((([] ++ insT) ++ [40]) ++ a) ++ [44, 32]) ++ b) ++ [41]
  | .inn a b => ((((([] ++ innT) ++ [40]) ++ a) ++ [44, 32]) ++ b) ++ [41]
  | .tru => truT
  | .label l x => (((([] ++ (labT ++ [32])) ++ l) ++ [40]) ++ x) ++ [41]
  | .top x => (([] ++ (topT ++ [40])) ++ x) ++ [41]
  | .same x y => ((((([] ++ samT) ++ [40]) ++ x) ++ [44, 32]) ++ y) ++ [41]
  | .child w x y => (((((([] ++ (chiT ++ [32])) ++ digW w) ++ [40]) ++ x) ++ [44, 32]) ++ y) ++ [41]
  | .below x y => ((((([] ++ belT) ++ [40]) ++ x) ++ [44, 32]) ++ y) ++ [41]
noncomputable def wtx : Fm → Bs
  | .at_ a => wtA a
  | .not f => (notT ++ [32]) ++ wtx f
  | .bin an f g => ((((([40] ++ wtx f) ++ [32]) ++ encB an) ++ [32]) ++ wtx g) ++ [41]
  | .q w x f => (((qwT w ++ [32]) ++ x) ++ [58, 32]) ++ wtx f
noncomputable def wts : Fm → List Bs
  | .at_ a => atT a
  | .not f => notT :: wts f
  | .bin an f g => [40] :: ((wts f ++ encB an :: wts g) ++ [[41]])
  | .q w x f => qwT w :: x :: [58] :: wts f
theorem pr_le {o : Option Nat} {f : Fm} {ts : List Bs} (h : Pr o f ts) : ∀ l m, o = some m → l ≤ m → Pr (some l) f ts := by
  intro l m e hl
  cases h with
  | bare h1 h2 => cases e; exact .bare (by omega) h2
  | brk h2 => exact .brk h2
  | _ => cases e
theorem wts_pr : ∀ f : Fm, Pr (some 2) f (wts f)
  | .at_ a => .bare (by show 2 ≤ 3; omega) .atm
  | .not f => .bare (Nat.le_refl 2) (.neg (wts_pr f))
  | .bin an f g => .brk (.bin (pr_le (wts_pr f) _ 2 rfl (by cases an <;> decide)) (pr_le (wts_pr g) _ 2 rfl (by cases an <;> decide)))
  | .q w x f => .bare (Nat.le_refl 2) (.qn (wts_pr f))
noncomputable def lastN (x : Bs) : Prop := ∀ c, x.getLast? = some c → isAl c = false
theorem lastN_app {x s : Bs} {d : Nat} (h : s.getLast? = some d) (e : isAl d = false) : lastN (x ++ s) := fun c hc => by
  rw [List.getLast?_append, h] at hc
  cases hc
  exact e
theorem bt_cast {x x' : Bs} {ps ps' : List Bs} (h : Bt x ps) (e : x = x') (e2 : ps = ps') : Bt x' ps' := by subst e; subst e2; exact h
section
variable {x : Bs} {ps : List Bs}
theorem bt_g (h : Bt x ps) {s : Bs} (hs : s ≠ []) : Bt (x ++ ([32] ++ s)) (ps ++ [s]) := .put h hs (by decide) (by decide) fun z => by cases z
theorem bt_n (h : Bt x ps) {c : Nat} {s : Bs} (e : isAl c = false) : Bt (x ++ c :: s) (ps ++ [c :: s]) := .put (g := []) h (List.cons_ne_nil _ _) (fun _ z => by cases z) (by decide) fun _ a d _ hd z => by
  cases hd
  rw [e] at z
  cases z.2
theorem bt_l (h : Bt x ps) {s : Bs} (hs : s ≠ []) (e : lastN x) : Bt (x ++ s) (ps ++ [s]) := .put (g := []) h hs (fun _ z => by cases z) (by decide) fun _ a d ha _ z => by
  rw [e a ha] at z
  cases z.1
/-- a gap ahead of a text -/
noncomputable def gapOk (x g : Bs) : Prop := (g = [32]) ∨ (g = [] ∧ lastN x)
theorem bt_gap (h : Bt x ps) {g s : Bs} (hg : gapOk x g) (hs : s ≠ []) : Bt (x ++ (g ++ s)) (ps ++ [s]) := by
  rcases hg with rfl | ⟨rfl, e⟩
  · exact bt_g h hs
  · exact bt_l h hs e
theorem nv_ne {x : Bs} (h : x ∈ nvL) : x ≠ [] := (tk_ok x (nv_tk h)).1
theorem nl_ne {x : Bs} (h : x ∈ nlL) : x ≠ [] := (tk_ok x (nl_tk h)).1
theorem bt_two (h : Bt x ps) {g w a b : Bs} (hg : gapOk x g) (hw : w ≠ []) (ha : a ∈ nvL) (hb : b ∈ nvL) : Bt (x ++ (g ++ ((((((([] ++ w) ++ [40]) ++ a) ++ [44, 32]) ++ b) ++ [41])))) (ps ++ [w, [40], a, [44], b, [41]]) := by
  have h1 := bt_gap h hg hw
  have h2 := bt_n h1 (c := 40) (s := []) (by decide)
  have h3 := bt_l h2 (nv_ne ha) (lastN_app (d := 40) rfl (by decide))
  have h4 := bt_n h3 (c := 44) (s := []) (by decide)
  have h5 := bt_g h4 (nv_ne hb)
  have h6 := bt_n h5 (c := 41) (s := []) (by decide)
  exact bt_cast h6 (by simp) (by simp)
end
theorem qwT_ne (w : Qw) : qwT w ≠ [] := by cases w <;> decide
theorem encB_ne (w : Bool) : encB w ≠ [] := by cases w <;> decide
theorem digW_ne (w : Int) : digW w ≠ [] := by unfold digW; split <;> decide
theorem wtx_bt : ∀ (f : Fm) (x : Bs) (ps : List Bs) (g : Bs), ShF f → Bt x ps → gapOk x g → Bt (x ++ (g ++ wtx f)) (ps ++ wts f)
  | .at_ a, x, ps, g, sh, h, hg => by
    cases a with
    | inside a b => exact bt_two h hg (by decide) sh.1 sh.2
    | inn a b => exact bt_two h hg (by decide) sh.1 sh.2
    | tru => exact bt_gap h hg (by decide)
    | label l y =>
      have h1 := bt_gap h hg (s := labT) (by decide)
      have h2 := bt_g h1 (nl_ne sh.1)
      have h3 := bt_n h2 (c := 40) (s := []) (by decide)
      have h4 := bt_l h3 (nv_ne sh.2) (lastN_app (d := 40) rfl (by decide))
      have h5 := bt_n h4 (c := 41) (s := []) (by decide)
      exact bt_cast h5 (by simp [wtx, wtA]) (by simp [wts, atT])
    | top y =>
      have h1 := bt_gap h hg (s := topT) (by decide)
      have h3 := bt_n h1 (c := 40) (s := []) (by decide)
      have h4 := bt_l h3 (nv_ne sh) (lastN_app (d := 40) rfl (by decide))
      have h5 := bt_n h4 (c := 41) (s := []) (by decide)
      exact bt_cast h5 (by simp [wtx, wtA]) (by simp [wts, atT])
    | same a b => exact bt_two h hg (by decide) sh.1 sh.2
    | child w a b =>
      have h1 := bt_gap h hg (s := chiT) (by decide)
      have h2 := bt_g h1 (digW_ne w)
      have h3 := bt_n h2 (c := 40) (s := []) (by decide)
      have h4 := bt_l h3 (nv_ne sh.2.1) (lastN_app (d := 40) rfl (by decide))
      have h5 := bt_n h4 (c := 44) (s := []) (by decide)
      have h6 := bt_g h5 (nv_ne sh.2.2)
      have h7 := bt_n h6 (c := 41) (s := []) (by decide)
      exact bt_cast h7 (by simp [wtx, wtA]) (by simp [wts, atT])
    | below a b => exact bt_two h hg (by decide) sh.1 sh.2
  | .not f, x, ps, g, sh, h, hg => by
    have h1 := bt_gap h hg (s := notT) (by decide)
    have h2 := wtx_bt f _ _ [32] sh h1 (.inl rfl)
    exact bt_cast h2 (by simp [wtx]) (by simp [wts])
  | .bin an f g', x, ps, g, sh, h, hg => by
    have h1 := bt_gap h hg (s := [40]) (by decide)
    have h2 := wtx_bt f _ _ [] sh.1 h1 (.inr ⟨rfl, by rw [← List.append_assoc]; exact lastN_app (d := 40) rfl (by decide)⟩)
    have h3 := bt_g h2 (encB_ne an)
    have h4 := wtx_bt g' _ _ [32] sh.2 h3 (.inl rfl)
    have h5 := bt_n h4 (c := 41) (s := []) (by decide)
    exact bt_cast h5 (by simp [wtx]) (by simp [wts])
  | .q w y f, x, ps, g, sh, h, hg => by
    have h1 := bt_gap h hg (s := qwT w) (qwT_ne w)
    have h2 := bt_g h1 (nv_ne sh.1)
    have h3 := bt_n h2 (c := 58) (s := []) (by decide)
    have h4 := wtx_bt f _ _ [32] sh.2 h3 (.inl rfl)
    exact bt_cast h4 (by simp [wtx]) (by simp [wts])
theorem wtx_bt0 {f : Fm} (sh : ShF f) : Bt (wtx f) (wts f) := wtx_bt f [] [] [] sh .nil (.inr ⟨rfl, fun c h => by cases h⟩)
/-! ### how long -/
noncomputable def parts : Fm → Nat
  | .at_ _ => 1
  | .not f => 1 + parts f
  | .bin _ f g => 1 + parts f + parts g
  | .q _ _ f => 1 + parts f
noncomputable def letA : Atm → Nat
  | .inside a b => a.length + b.length
  | .inn a b => a.length + b.length
  | .tru => 0
  | .label l x => l.length + x.length
  | .top x => x.length
  | .same x y => x.length + y.length
  | .child _ x y => x.length + y.length
  | .below x y => x.length + y.length
noncomputable def letF : Fm → Nat
  | .at_ a => letA a
  | .not f => letF f
  | .bin _ f g => letF f + letF g
  | .q _ x f => x.length + letF f
theorem wtx_len : ∀ f : Fm, (wtx f).length ≤ 30 * parts f + letF f
  | .at_ a => by
    cases a with
    | child w x y =>
      have : (digW w).length = 1 := by unfold digW; split <;> rfl
      simp [wtx, wtA, parts, letF, letA]
      omega
    | _ => simp [wtx, wtA, parts, letF, letA] <;> omega
  | .not f => by
    have := wtx_len f
    simp [wtx, parts, letF]
    omega
  | .bin an f g => by
    have := wtx_len f
    have := wtx_len g
    have : (encB an).length ≤ 3 := by cases an <;> decide
    simp [wtx, parts, letF]
    omega
  | .q w x f => by
    have := wtx_len f
    have : (qwT w).length ≤ 4 := by cases w <;> decide
    simp [wtx, parts, letF]
    omega
end U
/-! U123: read_formula, _law_read, _law_scraps walked. -/
namespace U
open PySem DL
theorem tkA_ok : ∀ (n a : Nat) (x : Bs), x.length ≤ n → okS' x = true → (∀ t ∈ tkA a x, okS' t.s = true) ∧ (tkA a x).length ≤ x.length
  | n, a, [], _, _ => ⟨fun t h => by (rw [tkA_nil] at h; cases h), Nat.le_refl _⟩
  | 0, a, c :: r, hn, _ => by rw [List.length_cons] at hn; omega
  | n + 1, a, c :: r, hn, ho => by
    rw [List.length_cons] at hn ⊢
    rw [tkA_cons]
    have hor : okS' r = true := List.all_eq_true.mpr fun z hz => List.all_eq_true.mp ho z (List.mem_cons_of_mem _ hz)
    cases e : hdT c r with
    | none =>
      obtain ⟨h1, h2⟩ := tkA_ok n (a + 1) r (by omega) hor
      exact ⟨h1, Nat.le_succ_of_le h2⟩
    | some kw =>
      obtain ⟨k, w⟩ := kw
      obtain ⟨l1, l2, l3⟩ := hdT_len e
      have hod : okS' ((c :: r).drop w.length) = true := List.all_eq_true.mpr fun z hz => List.all_eq_true.mp ho z (List.drop_subset _ _ hz)
      obtain ⟨h1, h2⟩ := tkA_ok n (a + w.length) ((c :: r).drop w.length) (by rw [List.length_drop, List.length_cons]; omega) hod
      refine ⟨fun t ht => ?_, ?_⟩
      · rcases List.mem_cons.mp ht with rfl | ht
        · show okS' w = true
          rw [l3]
          exact List.all_eq_true.mpr fun z hz => List.all_eq_true.mp ho z (List.take_subset _ _ hz)
        · exact h1 t ht
      · rw [List.length_drop, List.length_cons] at h2
        show (_ :: _).length ≤ _
        rw [List.length_cons]
        omega
section
variable {P : Pg} {k : Nat} {q : QD}
theorem w_rinit (H : Up_Reader_init P) {p : Addr} {x : Bs} (hx : okS' x = true) (hl : x.length ≤ 1000000) {S : Sto} (hp : S p = some (.ins cRd [])) (qx : QX) (hk : 2 ≤ k)
    (h : ∀ S', RdAt (tok x) p 0 S' → SmP p S S' → q .non S') : P.spec k 217 [.ref p, .str x] S q qx := by
  obtain ⟨k, rfl⟩ : ∃ j, k = j + 1 := ⟨k - 1, by omega⟩
  refine Pg.spec_succ H.self rfl ?_
  refine ⟨_, rfl, w_tokens H.to_tokens hx hl _ (by omega) ?_⟩
  refine ⟨_, rfl, putf_ins hp (by decide) ?_⟩
  refine ⟨_, rfl, putf_ins (fs := [(fFnd, .lst ((tok x).map encT))]) (by rw [ups_same]; rfl) (show 1 < 1000 by decide) ?_⟩
  obtain ⟨o1, o2⟩ := tkA_ok x.length 0 x (Nat.le_refl _) hx
  refine h _ ⟨?_, o1, by show (tkA 0 x).length ≤ _; omega, fun t ht => (tkA_in x.length 0 x (Nat.le_refl _) t ht).2.2⟩ fun a ha => (ups_ne ha).trans (ups_ne ha)
  rw [ups_same]
  rfl
theorem w_readG (H : Up_read_formula P) {x : Bs} (hx : okS' x = true) (hl : x.length ≤ 1000000) {S : Sto} {qx : QX} {N n : Nat} (hout : rdA (tok x) N n ≠ .out) (hk : n + 12 ≤ k)
    (h : ∀ d j, rdA (tok x) N n = .ok d j → q (encFx d) S) (he : ∀ i, rdA (tok x) N n = .err i → qx 7 (natD (posT (tok x) i)) S) : P.spec k 228 [.str x] S q qx := by
  obtain ⟨k, rfl⟩ : ∃ j, k = j + 2 := ⟨k - 2, by omega⟩
  refine Pg.spec_fgt H.self rfl ?_
  refine ⟨_, rfl, fun p hp => ?_⟩
  have sub : ∀ S', SmP p (ups S p (.ins cRd [])) S' → DL.Sub S S' := fun S' sm a ob e => by
    have : a ≠ p := fun z => by rw [z, hp] at e; cases e
    rw [sm a this, ups_ne this]
    exact e
  show P.spec k 217 [.ref p, .str x] _ _ _
  refine w_rinit H.to_Reader_init hx hl ups_same _ (by omega) fun S1 r1 s1 => ⟨rfl, ?_⟩
  have hr := w_rd (T := tok x) (p := p) H.to_Reader_either N n
  unfold rdA at h he hout
  refine ⟨_, rfl, p, _, rfl, r1.ins, rfl, hr .eit 0 (k + 1) S1 _ _ r1 (Nat.zero_le _) (bind_ou hout) (by omega) (fun d j S2 e2 r2 s2 => ?_) fun i S2 e2 s2 => ⟨S, sub _ (s1.trans s2), he i (bind_er e2)⟩⟩
  have hj := (rd_ble (tok x) N n .eit 0 (Nat.zero_le _)).1 _ _ e2
  rw [bind_ok e2] at h he
  refine ⟨_, rfl, p, _, rfl, r2.ins, rfl, ?_⟩
  refine ⟨_, rfl, fld_att r2 ?_⟩
  refine ⟨_, rfl, fld_fnd r2 ?_⟩
  refine ⟨_, rfl, ?_⟩
  rw [List.length_map]
  show P.spec (k + 1) 218 [.ref p, .bl (decide _)] S2 _ _
  refine w_rneed H.to_Reader_need r2 hj (by omega) (fun c => ?_) fun c => ⟨S, sub _ (s1.trans s2), he j ?_⟩
  · have c := of_decide_eq_true c
    exact ⟨_, rfl, S, sub _ (s1.trans s2), h d j (if_pos (by omega))⟩
  · have c := of_decide_eq_false c
    exact if_neg (by omega)
end
end U
set_option pp.maxSteps 300
/-! U127: the walks of write_formula, _law_parts, _law_letters, _law_closed. -/
namespace U
open PySem DL
local macro_rules | `(tactic| and_intros) => `(tactic| repeat (first | refine ⟨_, rfl, ?_⟩ | refine ⟨rfl, ?_⟩))
section
variable {P : Pg}
/-- names closed, what the formula keeps told (made from U3's w_closed) -/
theorem w_closedR (H : Up__law_closed P) {p : Addr} {ways : Int} {labels : List Bs} (R : Fm → Prop) (X Y : List Bs) (hX : ∀ x ∈ X, (okS' x = true ∧ eN x = true) ∧ ∀ w g, R g → R (.q w x g)) (hY : ∀ x ∈ Y, (okS' x = true ∧ sN x = true) ∧ ∀ w g, R g → R (.q w x g)) {f : Fm} (rf0 : R f) (wf : WS ways labels X Y f) {k : Nat} {S : Sto} {q : QD} (qx : QX) (hk : 2 ≤ k) (ht : TapeOk p S)
    (h : ∀ g S', WS ways labels [] [] g → R g → dep g = dep f + X.length + Y.length → TapeOk p S' → Oth p S S' → q (enc g) S') : P.spec k 18 [.ref p, enc f, nms X, nms Y] S q qx := by
  obtain ⟨k, rfl⟩ : ∃ j, k = j + 1 := ⟨k - 1, by omega⟩
  refine Pg.spec_succ H.self rfl ?_
  have T := H.to__law_take
  and_intros
  refine forL_ind (e := D.str) (fun r ρ S' => TapeOk p S' ∧ Oth p S S' ∧ (∀ x ∈ r, (okS' x = true ∧ eN x = true) ∧ ∀ w g, R g → R (.q w x g)) ∧ ∃ (g : Fm) (x : Option D), ρ = [some (.ref p), some (enc g), some (nms X), some (nms Y), x] ∧ WS ways labels r Y g ∧ dep g + r.length = dep f + X.length ∧ R g) X _ _ ⟨ht, .refl, hX, f, none, rfl, wf, rfl, rf0⟩ ?_ ?_
  · rintro x r ρ S1 ⟨ht1, o1, hr, g, y, rfl, wg, dg, rg⟩ kk hh
    have ox := (hr x List.mem_cons_self).1
    have rq := (hr x List.mem_cons_self).2
    have hr' := fun z hz => hr z (List.mem_cons_of_mem _ hz)
    have dg : dep g + (r.length + 1) = dep f + X.length := dg
    and_intros
    refine w_take T (by decide) (by decide) ht1 _ (by omega) fun r1 S2 g0 g1 ht2 o2 => ?_
    have : r1 = 0 ∨ r1 = 1 := by omega
    rcases this with rfl | rfl
    · refine ⟨_, rfl, ?_⟩
      and_intros
      exact hh _ _ ⟨ht2, o1.trans o2, hr', .q .some x g, _, rfl, ⟨ox, wg⟩, by show dep g + 1 + _ = _; omega, rq _ _ rg⟩
    · refine ⟨_, rfl, ?_⟩
      and_intros
      exact hh _ _ ⟨ht2, o1.trans o2, hr', .q .all x g, _, rfl, ⟨ox, wg⟩, by show dep g + 1 + _ = _; omega, rq _ _ rg⟩
  · rintro ρ S1 ⟨ht1, o1, _, g, y, rfl, wg, dg, rg⟩
    have dg : dep g + 0 = dep f + X.length := dg
    and_intros
    refine forL_ind (e := D.str) (fun r ρ S' => TapeOk p S' ∧ Oth p S S' ∧ (∀ x ∈ r, (okS' x = true ∧ sN x = true) ∧ ∀ w g, R g → R (.q w x g)) ∧ ∃ (g : Fm) (x : Option D), ρ = [some (.ref p), some (enc g), some (nms X), some (nms Y), x] ∧ WS ways labels [] r g ∧ dep g + r.length = dep f + X.length + Y.length ∧ R g) Y _ _ ⟨ht1, o1, hY, g, _, rfl, wg, by omega, rg⟩ ?_ ?_
    · rintro x r ρ S1 ⟨ht1, o1, hr, g, y, rfl, wg, dg, rg⟩ kk hh
      have ox := (hr x List.mem_cons_self).1
      have rq := (hr x List.mem_cons_self).2
      have hr' := fun z hz => hr z (List.mem_cons_of_mem _ hz)
      have dg : dep g + (r.length + 1) = dep f + X.length + Y.length := dg
      and_intros
      refine w_take T (by decide) (by decide) ht1 _ (by omega) fun r1 S2 g0 g1 ht2 o2 => ?_
      have : r1 = 0 ∨ r1 = 1 := by omega
      rcases this with rfl | rfl
      · refine ⟨_, rfl, ?_⟩
        and_intros
        exact hh _ _ ⟨ht2, o1.trans o2, hr', .q .someset x g, _, rfl, ⟨ox, wg⟩, by show dep g + 1 + _ = _; omega, rq _ _ rg⟩
      · refine ⟨_, rfl, ?_⟩
        and_intros
        exact hh _ _ ⟨ht2, o1.trans o2, hr', .q .allset x g, _, rfl, ⟨ox, wg⟩, by show dep g + 1 + _ = _; omega, rq _ _ rg⟩
    · rintro ρ S1 ⟨ht1, o1, _, g, y, rfl, wg, dg, rg⟩
      have dg : dep g + 0 = dep f + X.length + Y.length := dg
      and_intros
      exact h g S1 wg rg (by omega) ht1 o1
theorem nv_len {x : Bs} (h : x ∈ nvL) : x.length ≤ 6 := (tk_ok x (nv_tk h)).2.1
theorem nl_len {x : Bs} (h : x ∈ nlL) : x.length ≤ 6 := (tk_ok x (nl_tk h)).2.1
theorem sz_le {n : Nat} (h : n ≤ 100000) : n ≤ SZ := Nat.le_trans h (by decide)
theorem wts_len (f : Fm) : (wts f).length ≤ nB f := by
  have := pr_len (wts_pr f)
  exact this
theorem wts_gd {f : Fm} (sh : ShF f) : Gd (wts f) := pr_tk (wts_pr f) sh
theorem wtx_short {f : Fm} (sh : ShF f) (h : nB f ≤ 1000) : (wtx f).length ≤ 8000 ∧ okS' (wtx f) = true := by
  obtain ⟨h1, h2⟩ := bt_len (wtx_bt0 sh) (wts_gd sh)
  have := wts_len f
  exact ⟨by omega, h2⟩
theorem digW_dec {w : Int} (h : w = 0 ∨ w = 1) : (w.natAbs.log2 < 1920 ∧ (decS w).length ≤ 1000) ∧ decS w = digW w := by
  rcases h with rfl | rfl <;> decide
theorem digW_len (w : Int) : (digW w).length = 1 := by unfold digW; split <;> rfl
local macro_rules | `(tactic| trivial) => `(tactic| repeat (first | refine ⟨_, rfl, ?_⟩ | refine ⟨sz_le (by simp <;> omega), ?_⟩))
set_option maxHeartbeats 1000000 in
theorem w_write (H : Up_write_formula P) : ∀ (f : Fm) (k : Nat) (S : Sto) (q : QD) (qx : QX), ShF f → nB f ≤ 1000 → dep f ≤ k → q (.str (wtx f)) S → P.spec k 236 [enc f] S q qx
  | .at_ a, k, S, q, qx, sh, hn, hk, h => by
    obtain ⟨k, rfl⟩ : ∃ j, k = j + 1 := ⟨k - 1, by have : 1 ≤ k := hk; omega⟩
    refine Pg.spec_succ H.self rfl ?_
    cases a with
    | inside a b =>
      have la := nv_len sh.1
      have lb := nv_len sh.2
      and_intros
      trivial
      exact h
    | inn a b =>
      have la := nv_len sh.1
      have lb := nv_len sh.2
      and_intros
      trivial
      exact h
    | tru =>
      and_intros
      exact h
    | label l x =>
      have la := nl_len sh.1
      have lb := nv_len sh.2
      and_intros
      trivial
      exact h
    | top x =>
      have lb : x.length ≤ 6 := nv_len sh
      and_intros
      trivial
      exact h
    | same a b =>
      have la := nv_len sh.1
      have lb := nv_len sh.2
      and_intros
      trivial
      exact h
    | below a b =>
      have la := nv_len sh.1
      have lb := nv_len sh.2
      and_intros
      trivial
      exact h
    | child w a b =>
      have sh : (w = 0 ∨ w = 1) ∧ a ∈ nvL ∧ b ∈ nvL := sh
      have la := nv_len sh.2.1
      have lb := nv_len sh.2.2
      have ld := digW_len w
      obtain ⟨d1, d2⟩ := digW_dec sh.1
      and_intros
      trivial
      refine ⟨d1, ?_⟩
      rw [d2]
      trivial
      exact h
  | .not f, k, S, q, qx, sh, hn, hk, h => by
    obtain ⟨k, rfl⟩ : ∃ j, k = j + 1 := ⟨k - 1, by have : dep f + 1 ≤ k := hk; omega⟩
    have hk : dep f + 1 ≤ k + 1 := hk
    have hn : nB f + 3 ≤ 1000 := hn
    have sh : ShF f := sh
    have l1 := (wtx_short sh (by omega)).1
    refine Pg.spec_succ H.self rfl ?_
    and_intros
    refine w_write H f k S _ _ sh (by omega) (by omega) ?_
    exact ⟨sz_le (by simp; omega), h⟩
  | .bin an f g, k, S, q, qx, sh, hn, hk, h => by
    obtain ⟨k, rfl⟩ : ∃ j, k = j + 1 := ⟨k - 1, by have : max (dep f) (dep g) + 1 ≤ k := hk; omega⟩
    have hk : max (dep f) (dep g) + 1 ≤ k + 1 := hk
    have hn : nB f + nB g + 3 ≤ 1000 := hn
    have sf : ShF f := sh.1
    have sg : ShF g := sh.2
    have l1 := (wtx_short sf (by omega)).1
    have l2 := (wtx_short sg (by omega)).1
    have l3 : (encB an).length ≤ 3 := by cases an <;> decide
    refine Pg.spec_succ H.self rfl ?_
    cases an with
    | true =>
      and_intros
      refine w_write H f k S _ _ sf (by omega) (by omega) ?_
      refine ⟨sz_le (by simp; omega), ?_⟩
      trivial
      refine w_write H g k S _ _ sg (by omega) (by omega) ?_
      trivial
      exact h
    | false =>
      and_intros
      refine w_write H f k S _ _ sf (by omega) (by omega) ?_
      refine ⟨sz_le (by simp; omega), ?_⟩
      trivial
      refine w_write H g k S _ _ sg (by omega) (by omega) ?_
      trivial
      exact h
  | .q w x f, k, S, q, qx, sh, hn, hk, h => by
    obtain ⟨k, rfl⟩ : ∃ j, k = j + 1 := ⟨k - 1, by have : dep f + 1 ≤ k := hk; omega⟩
    have hk : dep f + 1 ≤ k + 1 := hk
    have hn : nB f + 5 ≤ 1000 := hn
    have sf : ShF f := sh.2
    have l1 := (wtx_short sf (by omega)).1
    have l2 := nv_len sh.1
    refine Pg.spec_succ H.self rfl ?_
    have e4 : ∀ (s : Bs) (c : Int), (cutD s none (some c)).length ≤ s.length := fun s c => by unfold cutD; rw [List.length_take, List.length_drop]; omega
    have l3 : (encQ w).length ≤ 7 := by cases w <;> decide
    have l4 := e4 (encQ w) 4
    have l5 := e4 (encQ w) 3
    cases w with
    | _ =>
      and_intros
      trivial
      refine w_write H f k S _ _ sf (by omega) (by omega) ?_
      exact ⟨sz_le (by simp; omega), h⟩
/-! ### parts, letters -/
noncomputable def iP : Fm → Int
  | .at_ _ => 1
  | .not f => 1 + iP f
  | .bin _ f g => 1 + iP f + iP g
  | .q _ _ f => 1 + iP f
theorem iP_nat : ∀ f : Fm, iP f = ((parts f : Nat) : Int)
  | .at_ _ => rfl
  | .not f => by have := iP_nat f; unfold iP parts; omega
  | .bin _ f g => by have := iP_nat f; have := iP_nat g; unfold iP parts; omega
  | .q _ _ f => by have := iP_nat f; unfold iP parts; omega
noncomputable def iLA : Atm → Int
  | .inside a b => 0 + (a.length : Nat) + (b.length : Nat)
  | .inn a b => 0 + (a.length : Nat) + (b.length : Nat)
  | .tru => 0
  | .label l x => 0 + (l.length : Nat) + (x.length : Nat)
  | .top x => 0 + (x.length : Nat)
  | .same x y => 0 + (x.length : Nat) + (y.length : Nat)
  | .child _ x y => 0 + (x.length : Nat) + (y.length : Nat)
  | .below x y => 0 + (x.length : Nat) + (y.length : Nat)
noncomputable def iL : Fm → Int
  | .at_ a => iLA a
  | .not f => 0 + iL f
  | .bin _ f g => 0 + iL f + iL g
  | .q _ x f => 0 + (x.length : Nat) + iL f
theorem iL_nat : ∀ f : Fm, iL f = ((letF f : Nat) : Int)
  | .at_ a => by cases a <;> (simp [iL, iLA, letF, letA])
  | .not f => by have := iL_nat f; unfold iL letF; omega
  | .bin _ f g => by have := iL_nat f; have := iL_nat g; unfold iL letF; omega
  | .q _ _ f => by have := iL_nat f; unfold iL letF; omega
theorem enc_tk (f : Fm) (S : Sto) : tkD S (enc f) = some .tuple := by
  cases f with
  | at_ a => cases a <;> rfl
  | _ => rfl
set_option maxHeartbeats 1000000 in
theorem w_lparts (H : Up__law_parts P) : ∀ (f : Fm) (k : Nat) (S : Sto) (q : QD) (qx : QX), dep f ≤ k → q (.int (iP f)) S → P.spec k 237 [enc f] S q qx
  | .at_ a, k, S, q, qx, hk, h => by
    obtain ⟨k, rfl⟩ : ∃ j, k = j + 1 := ⟨k - 1, by have : 1 ≤ k := hk; omega⟩
    refine Pg.spec_succ H.self rfl ?_
    cases a <;> and_intros <;> exact h
  | .not f, k, S, q, qx, hk, h => by
    obtain ⟨k, rfl⟩ : ∃ j, k = j + 1 := ⟨k - 1, by have : dep f + 1 ≤ k := hk; omega⟩
    have hk : dep f + 1 ≤ k + 1 := hk
    refine Pg.spec_succ H.self rfl ?_
    and_intros
    refine ⟨_, enc_tk f S, ?_⟩
    and_intros
    refine w_lparts H f k S _ _ (by omega) ?_
    and_intros
    exact h
  | .bin an f g, k, S, q, qx, hk, h => by
    obtain ⟨k, rfl⟩ : ∃ j, k = j + 1 := ⟨k - 1, by have : max (dep f) (dep g) + 1 ≤ k := hk; omega⟩
    have hk : max (dep f) (dep g) + 1 ≤ k + 1 := hk
    refine Pg.spec_succ H.self rfl ?_
    and_intros
    refine ⟨_, enc_tk f S, ?_⟩
    and_intros
    refine w_lparts H f k S _ _ (by omega) ?_
    and_intros
    refine ⟨_, enc_tk g S, ?_⟩
    and_intros
    refine w_lparts H g k S _ _ (by omega) ?_
    and_intros
    exact h
  | .q w x f, k, S, q, qx, hk, h => by
    obtain ⟨k, rfl⟩ : ∃ j, k = j + 1 := ⟨k - 1, by have : dep f + 1 ≤ k := hk; omega⟩
    have hk : dep f + 1 ≤ k + 1 := hk
    refine Pg.spec_succ H.self rfl ?_
    and_intros
    refine ⟨_, enc_tk f S, ?_⟩
    and_intros
    refine w_lparts H f k S _ _ (by omega) ?_
    and_intros
    exact h
set_option maxHeartbeats 1000000 in
theorem w_lletters (H : Up__law_letters_v2 P) : ∀ (f : Fm) (k : Nat) (S : Sto) (q : QD) (qx : QX), dep f ≤ k → q (.int (iL f)) S → P.spec k 238 [enc f] S q qx
  | .at_ a, k, S, q, qx, hk, h => by
    obtain ⟨k, rfl⟩ : ∃ j, k = j + 1 := ⟨k - 1, by have : 1 ≤ k := hk; omega⟩
    refine Pg.spec_succ H.self rfl ?_
    cases a <;> and_intros <;> exact h
  | .not f, k, S, q, qx, hk, h => by
    obtain ⟨k, rfl⟩ : ∃ j, k = j + 1 := ⟨k - 1, by have : dep f + 1 ≤ k := hk; omega⟩
    have hk : dep f + 1 ≤ k + 1 := hk
    refine Pg.spec_succ H.self rfl ?_
    and_intros
    refine ⟨_, enc_tk f S, ?_⟩
    and_intros
    refine w_lletters H f k S _ _ (by omega) ?_
    and_intros
    exact h
  | .bin an f g, k, S, q, qx, hk, h => by
    obtain ⟨k, rfl⟩ : ∃ j, k = j + 1 := ⟨k - 1, by have : max (dep f) (dep g) + 1 ≤ k := hk; omega⟩
    have hk : max (dep f) (dep g) + 1 ≤ k + 1 := hk
    refine Pg.spec_succ H.self rfl ?_
    and_intros
    refine ⟨_, enc_tk f S, ?_⟩
    and_intros
    refine w_lletters H f k S _ _ (by omega) ?_
    and_intros
    refine ⟨_, enc_tk g S, ?_⟩
    and_intros
    refine w_lletters H g k S _ _ (by omega) ?_
    and_intros
    exact h
  | .q w x f, k, S, q, qx, hk, h => by
    obtain ⟨k, rfl⟩ : ∃ j, k = j + 1 := ⟨k - 1, by have : dep f + 1 ≤ k := hk; omega⟩
    have hk : dep f + 1 ≤ k + 1 := hk
    refine Pg.spec_succ H.self rfl ?_
    and_intros
    refine ⟨_, enc_tk f S, ?_⟩
    and_intros
    refine w_lletters H f k S _ _ (by omega) ?_
    and_intros
    exact h
end
end U
set_option pp.maxSteps 400
/-! K04Z: the law of k04 in plain data. -/
namespace K04
open PySem DL U
noncomputable abbrev Fin : QD := fun d _ => d = .bl true
noncomputable abbrev aBody : List DL.S := f_law.body
theorem nv_name : ∀ x ∈ nvL, srtO x = .name := by decide +kernel
theorem eN_set {x : Bs} (h : eN x = true) : setN x = false := by
  cases x with
  | nil => rfl
  | cons c r =>
    simp only [eN, Bool.and_eq_true, decide_eq_true_eq] at h
    simp only [setN, Bool.and_eq_false_iff, decide_eq_false_iff_not]
    omega
theorem sN_set {x : Bs} (h : sN x = true) : setN x = true := by
  cases x with
  | nil => cases h
  | cons c r =>
    simp only [sN, Bool.and_eq_true, decide_eq_true_eq] at h
    simp only [setN, Bool.and_eq_true, decide_eq_true_eq]
    omega
theorem g_el {x : Bs} (h : x ∈ nvL ∧ eN x = true) : gN .el x := ⟨nv_name x h.1, by show (!setN x) = true; rw [eN_set h.2]; rfl⟩
theorem g_set {x : Bs} (h : x ∈ nvL ∧ sN x = true) : gN .set x := ⟨nv_name x h.1, sN_set h.2⟩
theorem ws_g {labels : List Bs} (hl : ∀ l ∈ labels, gN .lab l) : ∀ (f : Fm) (X Y : List Bs), (∀ x ∈ X, x ∈ nvL ∧ eN x = true) → (∀ y ∈ Y, y ∈ nvL ∧ sN y = true) → WS 2 labels X Y f → ShF f → gF f
  | .at_ a, X, Y, hX, hY, w, _ => by
    cases a with
    | inside a b => exact ⟨g_set (hY _ w.1), g_set (hY _ w.2)⟩
    | inn a b => exact ⟨g_el (hX _ w.1), g_set (hY _ w.2)⟩
    | tru => exact trivial
    | label l x => exact ⟨hl _ w.2, g_el (hX _ w.1)⟩
    | top x => exact g_el (hX _ w)
    | same x y => exact ⟨g_el (hX _ w.1), g_el (hX _ w.2)⟩
    | child c x y =>
      have w : x ∈ X ∧ y ∈ X ∧ 0 ≤ c ∧ c < 2 := w
      exact ⟨by omega, g_el (hX _ w.1), g_el (hX _ w.2.1)⟩
    | below x y => exact ⟨g_el (hX _ w.1), g_el (hX _ w.2)⟩
  | .not f, X, Y, hX, hY, w, s => ws_g hl f X Y hX hY w s
  | .bin _ f g, X, Y, hX, hY, w, s => ⟨ws_g hl f X Y hX hY w.1 s.1, ws_g hl g X Y hX hY w.2 s.2⟩
  | .q qw x f, X, Y, hX, hY, w, s => by
    have hx : x ∈ nvL := s.1
    cases qw with
    | some =>
      refine ⟨⟨nv_name x hx, eN_set w.1.2⟩, ws_g hl f (x :: X) Y (fun z hz => ?_) hY w.2 s.2⟩
      rcases List.mem_cons.mp hz with rfl | hz
      · exact ⟨hx, w.1.2⟩
      · exact hX z hz
    | all =>
      refine ⟨⟨nv_name x hx, eN_set w.1.2⟩, ws_g hl f (x :: X) Y (fun z hz => ?_) hY w.2 s.2⟩
      rcases List.mem_cons.mp hz with rfl | hz
      · exact ⟨hx, w.1.2⟩
      · exact hX z hz
    | someset =>
      refine ⟨⟨nv_name x hx, sN_set w.1.2⟩, ws_g hl f X (x :: Y) hX (fun z hz => ?_) w.2 s.2⟩
      rcases List.mem_cons.mp hz with rfl | hz
      · exact ⟨hx, w.1.2⟩
      · exact hY z hz
    | allset =>
      refine ⟨⟨nv_name x hx, sN_set w.1.2⟩, ws_g hl f X (x :: Y) hX (fun z hz => ?_) w.2 s.2⟩
      rcases List.mem_cons.mp hz with rfl | hz
      · exact ⟨hx, w.1.2⟩
      · exact hY z hz
/-- what is known of the drawn formula -/
structure FOk (f : Fm) : Prop where
  sh : ShF f
  g : gF f
  ok : okF f
  nb : nB f ≤ 900
  dp : dep f ≤ 10
theorem FOk.same {f : Fm} (h : FOk f) {k : Nat} (hk : 60 ≤ k) {S : Sto} {q : QD} (qx : QX) (hq : q (.bl true) S) : P.spec k 11 [enc f, enc f] S q qx := by
  have o := okq_enc f 10 h.ok h.dp
  refine w_same up__law_same_items 10 (enc f) (enc f) k S _ _ o o (by omega) (by omega) ?_
  rw [sameD_refl 10 _ o]
  exact hq
/-- a printed text is read -/
theorem rd_text {f : Fm} (h : FOk f) {x : Bs} {ts : List Bs} (pr : Pr (some 0) f ts) (bt : Bt x ts) : rdA (tok x) (ts.length + 1) 60 = .ok (fx f) ts.length := by
  have gd : Gd ts := pr_tk pr h.sh
  have tk := bt_tks bt gd
  have tl := tks_len tk
  have a := tks_at (U := []) tk
  rw [List.append_nil] at a
  have no : fixT (tok x) ts.length = [] := by
    unfold fixT
    rw [List.getElem?_eq_none (by omega)]
  have := xf_dep f
  have := h.dp
  rw [rdA_pr pr h.g a (Nat.le_refl _) (by omega) (by rw [no]; decide) (by rw [no]; decide), if_pos (by omega)]
theorem x_short {f : Fm} (h : FOk f) {x : Bs} {ts : List Bs} (pr : Pr (some 0) f ts) (bt : Bt x ts) : x.length ≤ 8000 ∧ okS' x = true := by
  obtain ⟨b1, b2⟩ := bt_len bt (pr_tk pr h.sh)
  have l1 := pr_len pr
  have l1 : ts.length ≤ nB f := l1
  have := h.nb
  exact ⟨by omega, b2⟩
theorem w_rtext {f : Fm} (h : FOk f) {x : Bs} {ts : List Bs} (pr : Pr (some 0) f ts) (bt : Bt x ts) {k : Nat} (hk : 80 ≤ k) {S : Sto} {q : QD} {qx : QX} (hq : q (enc f) S) : P.spec k 228 [.str x] S q qx := by
  have e := rd_text h pr bt
  obtain ⟨l1, o1⟩ := x_short h pr bt
  refine w_readG (N := ts.length + 1) (n := 60) up_read_formula o1 (by omega) (by rw [e]; exact fun z => by cases z) (by omega) (fun d j e2 => ?_) fun i e2 => ?_
  · rw [e] at e2
    cases e2
    rw [enc_fx f h.g]
    exact hq
  · rw [e] at e2
    cases e2
noncomputable abbrev moL : List Bs := [[120], [41], [115, 111, 109, 101], [63], [58], [48], [116, 114, 117, 101]]
theorem mo_ok : ∀ u ∈ moL, oneT u = true ∧ okS' u = true ∧ u.length ≤ 4 ∧ u ≠ andT ∧ u ≠ orT := by decide +kernel
/-- .. and with a further token it is not -/
theorem rd_more {f : Fm} (h : FOk f) {x : Bs} {ts : List Bs} (pr : Pr (some 0) f ts) (bt : Bt x ts) {u : Bs} (hu : u ∈ moL) : rdA (tok (x ++ 32 :: u)) (ts.length + 1) 60 = .err ts.length ∧ posT (tok (x ++ 32 :: u)) ts.length = x.length + 1 := by
  obtain ⟨u1, u2, u3, u4, u5⟩ := mo_ok u hu
  have gd : Gd ts := pr_tk pr h.sh
  have tk := bt_tks bt gd
  have tl := tks_len tk
  have et : (tok (x ++ 32 :: u))[ts.length]? = some ⟨srtO u, u, x.length + 1⟩ := by
    rw [tok_more u1, List.getElem?_append_right (by omega), tl, Nat.sub_self]
    rfl
  have fu : fixT (tok (x ++ 32 :: u)) ts.length = u ∨ fixT (tok (x ++ 32 :: u)) ts.length = [] := by
    unfold fixT
    rw [et]
    cases srtO u with
    | word => exact .inl rfl
    | sign => exact .inl rfl
    | _ => exact .inr rfl
  have ll : (tok (x ++ 32 :: u)).length = ts.length + 1 := by rw [tok_more u1, List.length_append, tl]; rfl
  have a : At (tok (x ++ 32 :: u)) 0 ts := by rw [tok_more u1]; exact tks_at tk
  have := xf_dep f
  have := h.dp
  refine ⟨?_, ?_⟩
  · rw [rdA_pr pr h.g a (Nat.le_refl _) (by omega) (by rcases fu with z | z <;> rw [z] <;> first | exact u4 | decide) (by rcases fu with z | z <;> rw [z] <;> first | exact u5 | decide), if_neg (by omega)]
  · unfold posT
    rw [et]
theorem w_rmore {f : Fm} (h : FOk f) {x : Bs} {ts : List Bs} (pr : Pr (some 0) f ts) (bt : Bt x ts) {u : Bs} (hu : u ∈ moL) {k : Nat} (hk : 80 ≤ k) {S : Sto} {q : QD} {qx : QX} (hq : qx 7 (natD (x.length + 1)) S) : P.spec k 228 [.str ((x ++ [32]) ++ u)] S q qx := by
  obtain ⟨e, ep⟩ := rd_more h pr bt hu
  obtain ⟨l1, o1⟩ := x_short h pr bt
  obtain ⟨_, u2, u3, _, _⟩ := mo_ok u hu
  have ex : (x ++ [32]) ++ u = x ++ 32 :: u := by simp
  rw [ex]
  have o2 : okS' (x ++ 32 :: u) = true := okS_app o1 (okS_app (x := [32]) rfl u2)
  refine w_readG (N := ts.length + 1) (n := 60) up_read_formula o2 (by simp; omega) (by rw [e]; exact fun z => by cases z) (by omega) (fun d j e2 => ?_) fun i e2 => ?_
  · rw [e] at e2
    cases e2
  · rw [e] at e2
    cases e2
    rw [ep]
    exact hq
section
variable {s0 s1 s2 s3 s4 : Option D} {S : Sto} {x : Bs} {p po : Addr}
set_option maxHeartbeats 1000000 in
theorem rest_more (k : Nat) (hk : 150 ≤ k) {f : Fm} (h : FOk f) {ts : List Bs} (pr : Pr (some 0) f ts) (bt : Bt x ts) {u : Bs} (hu : u ∈ moL) (ho : OutAt po x S) {s5 s7 : Option D} :
    wSs (P.G k fun _ _ _ => False) (aBody.drop 11) [s0, s1, s2, s3, s4, s5, some (.ref po), s7, some (.str u), none] S (bodyK Fin) := by
  obtain ⟨l1, o1⟩ := x_short h pr bt
  obtain ⟨_, u2, u3, _, _⟩ := mo_ok u hu
  refine ⟨show 1 ≤ k by omega, ?_⟩
  refine ⟨_, rfl, idx_ref (y := .str kTxt) ho rfl rfl ⟨sz_le (by simp; omega), _, rfl, sz_le (by simp; omega), ?_⟩⟩
  refine w_rmore h pr bt hu (by omega) ?_
  refine ⟨by decide, ?_⟩
  rw [if_pos rfl]
  refine ⟨_, po, _, x, rfl, rfl, ho, rfl, ?_⟩
  show D.bl (decide (_ = _)) = D.bl true
  rw [decide_eq_true]
  show (((x.length + 1 : Nat)) : Int) = ((x.length : Nat) : Int) + 1
  omega
set_option maxHeartbeats 1000000 in
theorem rest_f (k : Nat) (hk : 150 ≤ k) (ne : p ≠ po) {f : Fm} (h : FOk f) (ht : TapeOk p S) (ho : OutAt po [] S) :
    wSs (P.G k fun _ _ _ => False) (aBody.drop 6) [s0, some (.ref p), s2, s3, s4, some (enc f), some (.ref po), none, none, none] S (bodyK Fin) := by
  have := h.nb
  have := h.dp
  refine ⟨_, rfl, _, rfl, _, rfl, ?_⟩
  refine w_lputf up__law_put_formula ne f 0 k [] [] S _ _ h.sh .nil (fun _ h => (by cases h)) (by simp; omega) ht ho (by omega) fun x ts S1 pr bt o1 t1 => ?_
  rw [List.nil_append] at bt
  refine ⟨_, rfl, idx_ref (y := .str kTxt) o1 rfl rfl ?_⟩
  refine w_rtext h pr bt (by omega) ?_
  refine ⟨_, rfl, h.same (by omega) _ ?_⟩
  refine ⟨_, rfl, ?_⟩
  refine ⟨_, rfl, ?_⟩
  have pw : Pr (some 0) f (wts f) := pr_le (wts_pr f) 0 2 rfl (by omega)
  have bw := wtx_bt0 h.sh
  have le : ¬ (30 * iP f + iL f < ((wtx f).length : Int)) := by
    have := wtx_len f
    rw [iP_nat, iL_nat]
    omega
  refine w_write up_write_formula f k S1 _ _ h.sh (by omega) (by omega) ?_
  refine ⟨_, rfl, _, rfl, _, rfl, w_lparts up__law_parts f k S1 _ _ (by omega) ?_⟩
  refine ⟨.inl ⟨by decide, by decide⟩, _, rfl, w_lletters up__law_letters_v2 f k S1 _ _ (by omega) ?_⟩
  refine if_nt (decide_eq_false le) ?_
  refine ⟨_, rfl, ?_⟩
  refine w_rtext h pw bw (by omega) ?_
  refine ⟨_, rfl, h.same (by omega) _ ?_⟩
  refine ⟨_, rfl, ?_⟩
  refine ⟨_, rfl, ?_⟩
  refine w_take up__law_take (by decide) (by decide) t1 _ (by omega) fun r S2 h0 h1 t2 oth => ?_
  have o2 : OutAt po x S2 := (oth po ne.symm).trans o1
  have c7 : r = 0 ∨ r = 1 ∨ r = 2 ∨ r = 3 ∨ r = 4 ∨ r = 5 ∨ r = 6 := by omega
  rcases c7 with rfl | rfl | rfl | rfl | rfl | rfl | rfl
  all_goals
    refine ⟨_, rfl, ?_⟩
    exact rest_more k hk h pr bt (by decide) o2
theorem lab_ok : ∀ l ∈ [[97], [98]], gN .lab l := fun l hl => by
  have : ∀ l ∈ ([[97], [98]] : List Bs), srtO l = .name ∧ okN .lab l = true := by decide
  exact this l hl
/-- behind the names -/
theorem rest_names (k : Nat) (hk : 150 ≤ k) {X Y : List Bs} (hX : ∀ x ∈ X, x ∈ [[120], [121, 49], [117, 86, 57]]) (hY : ∀ y ∈ Y, y ∈ [[88], [89, 50]]) (lX : X.length ≤ 3) (lY : Y.length ≤ 2) (ht : TapeOk p S) :
    wSs (P.G k fun _ _ _ => False) (aBody.drop 4) [s0, some (.ref p), some (.tup [.int 2, .tup [.str [97], .str [98]]]), some (nms X), some (nms Y), none, none, none, none, none] S (bodyK Fin) := by
  have kd : KindOk (.tup [.int 2, .tup [.str [97], .str [98]]]) 2 [[97], [98]] := ⟨rfl, .inr rfl, .inr (.inl rfl)⟩
  have gX : ∀ z ∈ [[120], [121, 49], [117, 86, 57]], z ∈ nvL ∧ okS' z = true ∧ eN z = true := by decide
  have gY : ∀ z ∈ [[88], [89, 50]], z ∈ nvL ∧ okS' z = true ∧ sN z = true := by decide
  refine ⟨_, rfl, _, rfl, _, rfl, _, rfl, _, rfl, ?_⟩
  refine w_matrixN up__law_matrix kd Y (fun y hy => (gY y (hY y hy)).2.1) (by omega) 4 X k 4 _ S _ _ (fun x hx => (gX x (hX x hx)).2.1) (by omega) rfl (by omega) rfl ht fun f S1 wf nf df t1 oth => ?_
  refine ⟨_, rfl, _, rfl, ?_⟩
  have sh : ShF f := ws_sh (ways := 2) (labels := [[97], [98]]) (by decide) (by decide) f X Y (fun x hx => (gX x (hX x hx)).1) (fun y hy => (gY y (hY y hy)).1) wf nf
  have nb := (nB_dep f 4 df).1
  refine w_closedR up__law_closed (fun g => ShF g ∧ nB g ≤ 500 + 5 * dep g) X Y (fun x hx => ⟨(gX x (hX x hx)).2, fun w g hg => ⟨⟨(gX x (hX x hx)).1, hg.1⟩, ?_⟩⟩) (fun y hy => ⟨(gY y (hY y hy)).2, fun w g hg => ⟨⟨(gY y (hY y hy)).1, hg.1⟩, ?_⟩⟩) ⟨sh, by omega⟩ wf _ (by omega) t1 fun g S2 wg rg dg t2 oth2 => ?_
  · have := hg.2
    show nB g + 5 ≤ 500 + 5 * (dep g + 1)
    omega
  · have := hg.2
    show nB g + 5 ≤ 500 + 5 * (dep g + 1)
    omega
  have dg10 : dep g ≤ 10 := by omega
  have hf : FOk g := ⟨rg.1, ws_g lab_ok g [] [] (fun _ h => by cases h) (fun _ h => by cases h) wg rg.1, (WS.good (by decide) wg (fun _ h => by cases h) (fun _ h => by cases h)).1, by have := rg.2; omega, dg10⟩
  refine ⟨_, rfl, rfl, by simp, fun po hpo => ?_⟩
  have ne : p ≠ po := fun e => by
    obtain ⟨_, _, _, _, _, h1, _⟩ := t2
    rw [e, hpo] at h1
    cases h1
  exact rest_f k hk ne hf (tape_fresh t2 hpo) ups_same
end
set_option maxHeartbeats 1000000 in
theorem plain_any (k : Nat) (hk : 150 ≤ k) (ns : List Int) : P.spec (k + 1) iLaw [.scr ns] (fun _ => none) Fin (fun _ _ _ => False) := by
  refine Pg.spec_succ (f := f_law) (Pg.has rfl rfl) rfl ?_
  refine ⟨_, rfl, w_tape up__law_tape ns _ (by omega) fun p S1 t1 _ _ => ?_⟩
  refine ⟨_, rfl, ?_⟩
  refine w_take up__law_take (by decide) (by decide) t1 _ (by omega) fun r S2 h0 h1 t2 oth => ?_
  have c3 : r = 0 ∨ r = 1 ∨ r = 2 := by omega
  have two : ∀ (X : List Bs), (∀ x ∈ X, x ∈ [[120], [121, 49], [117, 86, 57]]) → X.length ≤ 3 → wSs (P.G k fun _ _ _ => False) (aBody.drop 3) [some (.scr ns), some (.ref p), some (.tup [.int 2, .tup [.str [97], .str [98]]]), some (nms X), none, none, none, none, none, none] S2 (bodyK Fin) := fun X hX lX => by
    refine ⟨_, rfl, ?_⟩
    refine w_take up__law_take (by decide) (by decide) t2 _ (by omega) fun r S3 h0 h1 t3 oth => ?_
    have c3 : r = 0 ∨ r = 1 ∨ r = 2 := by omega
    rcases c3 with rfl | rfl | rfl
    · exact rest_names k hk (Y := []) hX (by decide) lX (by decide) t3
    · exact rest_names k hk (Y := [[88]]) hX (by decide) lX (by decide) t3
    · exact rest_names k hk (Y := [[88], [89, 50]]) hX (by decide) lX (by decide) t3
  rcases c3 with rfl | rfl | rfl
  · exact two [[120]] (by decide) (by decide)
  · exact two [[120], [121, 49]] (by decide) (by decide)
  · exact two [[120], [121, 49], [117, 86, 57]] (by decide) (by decide)
theorem plainLaw (ns : List Int) (_ : ns.length ≤ 63) : P.spec 200 iLaw [.scr ns] (fun _ => none) Fin (fun _ _ _ => False) := plain_any 199 (by decide) ns
end K04
open PySem PySem.W PyProof.Rows
set_option maxHeartbeats 0 in
theorem PySem.Challenge.cw_treesays_k04_formulas_are_read_as_printe_holds : PySem.Challenge.rw_treesays_k04_formulas_are_read_as_printe.Holds := by
  w_on; o_law; k_head; (case hw => w_witness2)
  k_fill
  refine DL.fin_walk (l := PySem.Challenge.rw_treesays_k04_formulas_are_read_as_printe) (P := K04.P) (fn := K04.fn) (i := K04.iLaw) (k := 200) (x := "_law_script") (by rfl) (by rfl) ⟨rfl, by decide, by decide⟩ (fun w h Y => PySem.W.kIn_of Y) (by rfl) (by rfl) (by rfl) (by decide +kernel) (by rfl) ?c (ts := []) (fun _ _ _ _ h => by cases h) ?t K04.ck K04.bd ?g (by decide +kernel) ?x ?d K04.plainLaw
  case c =>
    intro w
    show He.obsD _ _ _ = He.valD _
    kernel_rfl
  case t =>
    intro w
    show DL.tabB _ _ _ = true
    kernel_rfl
  case g =>
    intro w nm d e n1 n2
    exact DL.gl_ok (gl := K04.P.gl) (by kernel_rfl) e n1 n2
  case x =>
    intro w
    exact .inr (by kernel_rfl)
  case d =>
    intro w nm d e
    simp [K04.P] at e
